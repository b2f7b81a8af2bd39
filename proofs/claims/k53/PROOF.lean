import PyProof.Rows.All
import Wide.All
import OpenK.AllK
import Wide.FinOn
import HandS.ForMost
import HandS.Exc
import HandS.TryOnly
import HandS.ExcOwn
import HandS.WordsExc
import HandS.Deep
import HandS.Wide
import HandS.Zip
import HandS.More
import HandS.Style
import HandS.Defaults
import HandS.IsInst
import HandS.TupLe
import HandS.TupAny
import HandS.TupMul
import HandS.Conv
import KE.DataCmp
import KE.SortData
import KE.DataMinMax
import HandS.Head0
import HandS.Head1
import HandS.Head2
import HandS.HeadEnd
import HandS.HeadHook1
import HandS.HeadHook2
import KE.KStateDown
import Lean
import PySem.Challenge.RW_hullflags_k53_sentences
set_option Elab.async false
set_option linter.all false
set_option maxRecDepth 100000
set_option maxHeartbeats 0
/-! The data layer: values as trees of data, an environment of slots, what an expression answers. -/
namespace DL
open PySem PySem.Spec PyProof.Rows L2
abbrev D := PyData
/-- an answer: a value, an exception of a class of the program, or nothing known -/
inductive R (α : Type) where
  | ok (a : α)
  | exc (c : Str)
  | bad
def R.bind {α β : Type} (r : R α) (k : α → R β) : R β := match r with
  | .ok a => k a
  | .exc c => .exc c
  | .bad => .bad
instance : Monad R where
  pure := R.ok
  bind := R.bind
@[simp] theorem R.pure_eq {α : Type} (a : α) : (pure a : R α) = .ok a := rfl
@[simp] theorem R.ok_bind {α β : Type} (a : α) (k : α → R β) : (R.ok a >>= k) = k a := rfl
@[simp] theorem R.exc_bind {α β : Type} (c : Str) (k : α → R β) : ((R.exc c : R α) >>= k) = R.exc c := rfl
@[simp] theorem R.bad_bind {α β : Type} (k : α → R β) : ((R.bad : R α) >>= k) = R.bad := rfl
/-- an exception is not looked at -/
def R.calm {α : Type} : R α → R α
  | .ok a => .ok a
  | _ => .bad
/-! ### keys of dicts -/
def keyD : Key → D
  | .inl i => .int i
  | .inr x => .str x
/-- the script: a list of ints that nobody may change -/
def scr (ns : List Int) : D := .dict [(.none, .list (ns.map .int))]
/-! ### a value stands for a datum -/
mutual
inductive Rp (K : PySem.W.Frag) (H : Hp) : V → D → Prop
  | non : Rp K H .non .none
  | bl (b : Bool) : Rp K H (.bl b) (.bool b)
  | int (i : Int) : Rp K H (.int i) (.int i)
  | str (x : Str) : Rp K H (.str x) (.str x)
  | lst {a : Addr} {xs : List V} {ds : List D} : H a = some (.lst xs) → xs.length ≤ sizeLine → RpL K H xs ds → Rp K H (.ref a) (.list ds)
  | tup {a : Addr} {xs : List V} {ds : List D} : H a = some (.tup xs) → xs.length ≤ sizeLine → RpL K H xs ds → Rp K H (.ref a) (.tuple ds)
  | scr {a : Addr} {ns : List Int} : SqL K H a (ns.map V.int) → ns.length ≤ sizeLine → Rp K H (.ref a) (scr ns)
  | dic {a : Addr} {kvs : List (Key × V)} {kds : List (D × D)} : H a = some (.dK kvs) → kvs.length ≤ sizeLine → RpK K H kvs kds → Rp K H (.ref a) (.dict kds)
inductive RpL (K : PySem.W.Frag) (H : Hp) : List V → List D → Prop
  | nil : RpL K H [] []
  | cons {v : V} {vs : List V} {d : D} {ds : List D} : Rp K H v d → RpL K H vs ds → RpL K H (v :: vs) (d :: ds)
inductive RpK (K : PySem.W.Frag) (H : Hp) : List (Key × V) → List (D × D) → Prop
  | nil : RpK K H [] []
  | cons {k : Key} {v : V} {kvs : List (Key × V)} {d : D} {kds : List (D × D)} : Rp K H v d → RpK K H kvs kds → RpK K H ((k, v) :: kvs) ((keyD k, d) :: kds)
end
section
variable {K : PySem.W.Frag} {H H' : Hp}
mutual
theorem Rp.mono (e : Same H H') : ∀ {v : V} {d : D}, Rp K H v d → Rp K H' v d
  | _, _, .non => .non
  | _, _, .bl b => .bl b
  | _, _, .int i => .int i
  | _, _, .str x => .str x
  | _, _, .lst h l r => .lst (e _ _ h) l (RpL.mono e r)
  | _, _, .tup h l r => .tup (e _ _ h) l (RpL.mono e r)
  | _, _, .scr h l => .scr (Same.seq e h) l
  | _, _, .dic h l r => .dic (e _ _ h) l (RpK.mono e r)
theorem RpL.mono (e : Same H H') : ∀ {vs : List V} {ds : List D}, RpL K H vs ds → RpL K H' vs ds
  | _, _, .nil => .nil
  | _, _, .cons h r => .cons (Rp.mono e h) (RpL.mono e r)
theorem RpK.mono (e : Same H H') : ∀ {vs : List (Key × V)} {ds : List (D × D)}, RpK K H vs ds → RpK K H' vs ds
  | _, _, .nil => .nil
  | _, _, .cons h r => .cons (Rp.mono e h) (RpK.mono e r)
end
theorem RpL.length : ∀ {vs : List V} {ds : List D}, RpL K H vs ds → vs.length = ds.length
  | _, _, .nil => rfl
  | _, _, .cons _ r => by simp [RpL.length r]
theorem RpK.length : ∀ {vs : List (Key × V)} {ds : List (D × D)}, RpK K H vs ds → vs.length = ds.length
  | _, _, .nil => rfl
  | _, _, .cons _ r => by simp [RpK.length r]
theorem RpL.get : ∀ {vs : List V} {ds : List D} {i : Nat} {d : D}, RpL K H vs ds → ds[i]? = some d → ∃ v, vs[i]? = some v ∧ Rp K H v d
  | _, _, _, _, .nil, e => by simp at e
  | _, _, 0, _, .cons h _, e => by simp at e; subst e; exact ⟨_, rfl, h⟩
  | _, _, i + 1, _, .cons _ r, e => by
    obtain ⟨v, h1, h2⟩ := RpL.get (i := i) r (by simpa using e)
    exact ⟨v, by simpa using h1, h2⟩
theorem RpL.get' : ∀ {vs : List V} {ds : List D} {i : Nat} {v : V}, RpL K H vs ds → vs[i]? = some v → ∃ d, ds[i]? = some d ∧ Rp K H v d
  | _, _, _, _, .nil, e => by simp at e
  | _, _, 0, _, .cons h _, e => by simp at e; subst e; exact ⟨_, rfl, h⟩
  | _, _, i + 1, _, .cons _ r, e => by
    obtain ⟨d, h1, h2⟩ := RpL.get' (i := i) r (by simpa using e)
    exact ⟨d, by simpa using h1, h2⟩
theorem RpL.append : ∀ {vs ws : List V} {ds es : List D}, RpL K H vs ds → RpL K H ws es → RpL K H (vs ++ ws) (ds ++ es)
  | _, _, _, _, .nil, s => s
  | _, _, _, _, .cons h r, s => .cons h (RpL.append r s)
theorem RpL.drop : ∀ {vs : List V} {ds : List D} (n : Nat), RpL K H vs ds → RpL K H (vs.drop n) (ds.drop n)
  | _, _, 0, r => r
  | _, _, _ + 1, .nil => .nil
  | _, _, n + 1, .cons _ r => RpL.drop n r
theorem RpL.take : ∀ {vs : List V} {ds : List D} (n : Nat), RpL K H vs ds → RpL K H (vs.take n) (ds.take n)
  | _, _, 0, _ => .nil
  | _, _, _ + 1, .nil => .nil
  | _, _, n + 1, .cons h r => .cons h (RpL.take n r)
theorem RpL.rev : ∀ {vs : List V} {ds : List D}, RpL K H vs ds → RpL K H vs.reverse ds.reverse
  | _, _, .nil => .nil
  | _, _, .cons h r => by
    rw [List.reverse_cons, List.reverse_cons]
    exact RpL.append (RpL.rev r) (.cons h .nil)
/-! data without dicts -/
mutual
def noDict : D → Bool
  | .none => true
  | .bool _ => true
  | .int _ => true
  | .str _ => true
  | .list ds => noDictL ds
  | .tuple ds => noDictL ds
  | .dict _ => false
def noDictL : List D → Bool
  | [] => true
  | d :: ds => noDict d && noDictL ds
end
mutual
theorem Rp.dp : ∀ {v : V} {d : D}, Rp K H v d → noDict d = true → Dp K H v d
  | _, _, .non, _ => .non
  | _, _, .bl b, _ => .bl b
  | _, _, .int i, _ => .int i
  | _, _, .str x, _ => .str x
  | _, _, .lst h _ r, e => .lst (SqL.of h) (RpL.dp r e)
  | _, _, .tup h _ r, e => .tup (SqT.of h) (RpL.dp r e)
  | _, _, .scr _ _, e => by simp [DL.scr, noDict] at e
  | _, _, .dic _ _ _, e => by simp [noDict] at e
theorem RpL.dp : ∀ {vs : List V} {ds : List D}, RpL K H vs ds → noDictL ds = true → DpAll K H vs ds
  | _, _, .nil, _ => .nil
  | _, _, .cons h r, e => by
    have e' := Bool.and_eq_true_iff.mp (show (noDict _ && noDictL _) = true from e)
    exact .cons (Rp.dp h e'.1) (RpL.dp r e'.2)
end
end
/-! ### heaps that grow -/
structure Grow (Hf H Hf' H' : Hp) : Prop where
  f : Same Hf Hf'
  h : Same H H'
  new : ∀ b o, Hf' b = some o → Hf b = some o ∨ H b = none
  sub : Same Hf' H'
theorem Grow.refl {Hf H : Hp} (s : Same Hf H) : Grow Hf H Hf H := ⟨Same.refl _, Same.refl _, fun _ _ e => .inl e, s⟩
theorem Grow.trans {Hf H Hf1 H1 Hf2 H2 : Hp} (a : Grow Hf H Hf1 H1) (b : Grow Hf1 H1 Hf2 H2) : Grow Hf H Hf2 H2 :=
  ⟨a.f.trans b.f, a.h.trans b.h, fun c o e => by
    rcases b.new c o e with q | q
    · exact a.new c o q
    · exact .inr (Same.free a.h q), b.sub⟩
theorem same_upd {H : Hp} {p : Addr} {o : HO} (h : H p = none) : Same H (upd H p o) := fun b x e => by
  rw [upd_ne (ne_of_none e h)]
  exact e
/-- a new object is tracked in both -/
theorem Grow.push {Hf H : Hp} {p : Addr} {o : HO} (s : Same Hf H) (h : H p = none) : Grow Hf H (upd Hf p o) (upd H p o) := by
  have hf : Hf p = none := Same.free s h
  refine ⟨same_upd hf, same_upd h, fun b x e => ?_, fun b x e => ?_⟩
  · by_cases q : b = p
    · subst q; exact .inr h
    · rw [upd_ne q] at e; exact .inl e
  · by_cases q : b = p
    · subst q; rw [upd_same] at e ⊢; exact e
    · rw [upd_ne q] at e ⊢; exact s _ _ e
/-- a new object is tracked in the whole heap alone -/
theorem Grow.side {Hf H : Hp} {p : Addr} {o : HO} (s : Same Hf H) (h : H p = none) : Grow Hf H Hf (upd H p o) :=
  ⟨Same.refl _, same_upd h, fun _ _ e => .inl e, fun b x e => same_upd h _ _ (s _ _ e)⟩
/-! ### slots -/
inductive Slot where
  | un
  | va (d : D)
  | ow (d : D)
abbrev Env := List Slot
section
variable (K : PySem.W.Frag)
/-- a list (a dict) of one's own: it stands outside of what is kept -/
def OwnAt (Hf H : Hp) (a : Addr) : D → Prop
  | .list ds => ∃ xs, Hf a = none ∧ H a = some (.lst xs) ∧ xs.length ≤ sizeLine ∧ RpL K Hf xs ds
  | .dict kds => ∃ kvs, Hf a = none ∧ H a = some (.dK kvs) ∧ kvs.length ≤ sizeLine ∧ RpK K Hf kvs kds
  | _ => False
/-- what may be looked at -/
def Rp1 (Hf H : Hp) (v : V) (d : D) : Prop := Rp K Hf v d ∨ ∃ a, v = .ref a ∧ OwnAt K Hf H a d
def SlotR (H0 Hf H : Hp) (v : Option V) : Slot → Prop
  | .un => True
  | .va d => ∃ x, v = some x ∧ Rp K Hf x d
  | .ow d => ∃ a, v = some (.ref a) ∧ OwnAt K Hf H a d ∧ H0 a = none
structure EnvR (Hf0 H0 Hf H : Hp) (σ : L2.St) (ρ : Env) : Prop where
  grow : Grow Hf0 H0 Hf H
  len : σ.length = ρ.length
  slot : ∀ (i : Nat) (s : Slot) (v : Option V), ρ[i]? = some s → σ[i]? = some v → SlotR K H0 Hf H v s
  dis : ∀ (i j : Nat) (d e : D) (a : Addr), ρ[i]? = some (.ow d) → ρ[j]? = some (.ow e) → σ[i]? = some (some (.ref a)) → σ[j]? = some (some (.ref a)) → i = j
end
section
variable {K : PySem.W.Frag} {Hf0 H0 Hf H Hf' H' : Hp} {σ : L2.St} {ρ : Env}
theorem OwnAt.grow {a : Addr} {d : D} (g : Grow Hf H Hf' H') (h : OwnAt K Hf H a d) : OwnAt K Hf' H' a d := by
  have no : ∀ u, Hf a = none → H a = some u → Hf' a = none := fun u h1 h2 => by
    cases q : Hf' a with
    | none => rfl
    | some o =>
      rcases g.new a o q with z | z
      · rw [h1] at z; cases z
      · rw [h2] at z; cases z
  cases d with
  | list ds =>
    obtain ⟨xs, h1, h2, h3, h4⟩ := h
    exact ⟨xs, no _ h1 h2, g.h _ _ h2, h3, h4.mono g.f⟩
  | dict kds =>
    obtain ⟨xs, h1, h2, h3, h4⟩ := h
    exact ⟨xs, no _ h1 h2, g.h _ _ h2, h3, h4.mono g.f⟩
  | _ => exact h.elim
theorem Rp1.grow {v : V} {d : D} (g : Grow Hf H Hf' H') (h : Rp1 K Hf H v d) : Rp1 K Hf' H' v d := by
  rcases h with h | ⟨a, e, h⟩
  · exact .inl (h.mono g.f)
  · exact .inr ⟨a, e, h.grow g⟩
theorem OwnAt.rp {a : Addr} {d : D} (s : Same Hf H) (h : OwnAt K Hf H a d) : Rp K H (.ref a) d := by
  cases d with
  | list ds =>
    obtain ⟨xs, _, h2, h3, h4⟩ := h
    exact .lst h2 h3 (h4.mono s)
  | dict kds =>
    obtain ⟨xs, _, h2, h3, h4⟩ := h
    exact .dic h2 h3 (h4.mono s)
  | _ => exact h.elim
theorem Rp1.rp {v : V} {d : D} (s : Same Hf H) (h : Rp1 K Hf H v d) : Rp K H v d := by
  rcases h with h | ⟨a, e, h⟩
  · exact h.mono s
  · subst e; exact h.rp s
theorem EnvR.more (e : EnvR K Hf0 H0 Hf H σ ρ) (g : Grow Hf H Hf' H') : EnvR K Hf0 H0 Hf' H' σ ρ := by
  refine ⟨e.grow.trans g, e.len, fun i s v h1 h2 => ?_, e.dis⟩
  have q := e.slot i s v h1 h2
  cases s with
  | un => trivial
  | va d => obtain ⟨x, hx, r⟩ := q; exact ⟨x, hx, r.mono g.f⟩
  | ow d => obtain ⟨a, hx, r, z⟩ := q; exact ⟨a, hx, r.grow g, z⟩
end
/-! ### what is wanted behind an answer -/
structure Pm where
  K : PySem.W.Frag
  E : XK
  cl : Str → Addr
def OutG {α β : Type} (C : Pm) (Rel : Hp → Hp → β → α → Prop) (Hf H : Hp) (r : R α) (Q : β → Hp → Prop) : Prop := match r with
  | .ok a => ∀ b Hf' H', Grow Hf H Hf' H' → Rel Hf' H' b a → Q b H'
  | .exc c => ∀ Hf' H', Grow Hf H Hf' H' → C.E (.ref (C.cl c)) none H'
  | .bad => False
def tG {α β : Type} (C : Pm) (Rel : Hp → Hp → β → α → Prop) (f : Env → R α) : L2.St → Hp → (β → Hp → Prop) → Prop := fun σ H Q =>
  ∃ (Hf0 H0 Hf : Hp) (ρ : Env), EnvR C.K Hf0 H0 Hf H σ ρ ∧ OutG C Rel Hf H (f ρ) Q
abbrev RelE (C : Pm) : Hp → Hp → V → D → Prop := fun Hf _ v d => Rp C.K Hf v d
abbrev RelP (C : Pm) : Hp → Hp → V → D → Prop := fun Hf H v d => Rp1 C.K Hf H v d
abbrev RelA (C : Pm) : Hp → Hp → List V → List D → Prop := fun Hf _ vs ds => RpL C.K Hf vs ds
abbrev RelT : Hp → Hp → Bool → Bool → Prop := fun _ _ b c => b = c
abbrev tE (C : Pm) (f : Env → R D) : TE := tG C (RelE C) f
abbrev tP (C : Pm) (f : Env → R D) : TE := tG C (RelP C) f
abbrev tA (C : Pm) (f : Env → R (List D)) : TA := tG C (RelA C) f
abbrev tT (C : Pm) (f : Env → R Bool) : TT := tG C RelT f
section
variable {α β γ δ : Type} {C : Pm} {Rel1 : Hp → Hp → β → α → Prop} {Rel2 : Hp → Hp → δ → γ → Prop} {Hf H Hf' H' : Hp}
theorem OutG.more {r : R α} {Q : β → Hp → Prop} (h : OutG C Rel1 Hf H r Q) (g : Grow Hf H Hf' H') : OutG C Rel1 Hf' H' r Q := by
  cases r with
  | ok a => exact fun b Hf2 H2 g2 q => h b Hf2 H2 (g.trans g2) q
  | exc c => exact fun Hf2 H2 g2 => h Hf2 H2 (g.trans g2)
  | bad => exact h.elim
theorem OutG.bind {r : R α} {k : α → R γ} {Q1 : β → Hp → Prop} {Q : δ → Hp → Prop} (h : OutG C Rel2 Hf H (r >>= k) Q)
    (hk : ∀ a b Hf1 H1, r = .ok a → Grow Hf H Hf1 H1 → Rel1 Hf1 H1 b a → OutG C Rel2 Hf1 H1 (k a) Q → Q1 b H1) : OutG C Rel1 Hf H r Q1 := by
  cases r with
  | ok a => exact fun b Hf1 H1 g q => hk a b Hf1 H1 rfl g q (OutG.more (show OutG C Rel2 Hf H (k a) Q from h) g)
  | exc c => exact h
  | bad => exact h.elim
theorem OutG.here {a : α} {Q : β → Hp → Prop} {b : β} (h : OutG C Rel1 Hf H (.ok a) Q) (s : Same Hf H) (q : Rel1 Hf H b a) : Q b H := h b Hf H (Grow.refl s) q
end
theorem PE.imp {X : Cx} {e : Expr} {t u : TE} (h : PE X e t) (q : ∀ σ H Q, u σ H Q → t σ H Q) : PE X e u := ⟨fun pins s σ H Q I hu => h.run pins s σ H Q I (q σ H Q hu)⟩
theorem PT.imp {X : Cx} {e : Expr} {t u : TT} (h : PT X e t) (q : ∀ σ H Q, u σ H Q → t σ H Q) : PT X e u := ⟨fun pins s σ H Q I hu => h.run pins s σ H Q I (q σ H Q hu)⟩
theorem PW.imp {X : Cx} {e : Expr} {t u : TT} (h : PW X e t) (q : ∀ σ H Q, u σ H Q → t σ H Q) : PW X e u := ⟨fun wh pins s σ H Q I hu => h.run wh pins s σ H Q I (q σ H Q hu)⟩
theorem PA.imp {X : Cx} {es : List Expr} {t u : TA} (h : PA X es t) (q : ∀ σ H Q, u σ H Q → t σ H Q) : PA X es u := ⟨fun pos pins s σ H Q I hu => h.run pos pins s σ H Q I (q σ H Q hu)⟩
theorem PS.imp {X : Cx} {e : Stmt} {t u : TS} (h : PS X e t) (q : ∀ Dn σ H, u Dn σ H → t Dn σ H) : PS X e u := ⟨fun pins s σ H Q I hu => h.run pins s σ H Q I (q Q σ H hu)⟩
theorem PSs.imp {X : Cx} {e : List Stmt} {t u : TS} (h : PSs X e t) (q : ∀ Dn σ H, u Dn σ H → t Dn σ H) : PSs X e u := ⟨fun pins s σ H Q I hu => h.run pins s σ H Q I (q Q σ H hu)⟩
theorem PI.imp {X : Cx} {tg e : Expr} {t u : TI} (h : PI X tg e t) (q : ∀ σ H Q, u σ H Q → t σ H Q) : PI X tg e u := ⟨fun pins s σ H Q I hu => h.run pins s σ H Q I (q σ H Q hu)⟩
theorem PG.imp {X : Cx} {e : Expr} {t u : TG} (h : PG X e t) (q : ∀ v σ H Q, u v σ H Q → t v σ H Q) : PG X e u := ⟨fun pins s σ H v u' Q I r hu => h.run pins s σ H v u' Q I r (q v σ H Q hu)⟩
/-- nothing is asked of what is bad -/
theorem pe_bad {X : Cx} {e : Expr} {C : Pm} {Rel : Hp → Hp → V → D → Prop} : PE X e (tG C Rel fun _ => .bad) := ⟨fun _ _ _ _ _ _ ⟨_, _, _, _, _, h⟩ => h.elim⟩
theorem pt_bad {X : Cx} {e : Expr} {C : Pm} : PT X e (tT C fun _ => .bad) := ⟨fun _ _ _ _ _ _ ⟨_, _, _, _, _, h⟩ => h.elim⟩
theorem pw_bad {X : Cx} {e : Expr} {C : Pm} : PW X e (tT C fun _ => .bad) := ⟨fun _ _ _ _ _ _ _ ⟨_, _, _, _, _, h⟩ => h.elim⟩
theorem pa_bad {X : Cx} {es : List Expr} {C : Pm} {Rel : Hp → Hp → List V → List D → Prop} : PA X es (tG C Rel fun _ => .bad) := ⟨fun _ _ _ _ _ _ _ ⟨_, _, _, _, _, h⟩ => h.elim⟩
end DL
/-! Further rules over the hand layer: tuples backwards, a tuple once, a text several times, a text's signs as a list, three comparisons. -/
namespace DL
open PySem PySem.Spec PyProof.Rows L2 HT
/-- items from a place downwards -/
def downFrom {α : Type} (xs : List α) (lo : Option Int) : List α :=
  (List.range (Builtin.Slice.slicePlaces (Builtin.Slice.sliceAdjust lo none (-1) xs.length).1 (Builtin.Slice.sliceAdjust lo none (-1) xs.length).2 (-1))).filterMap fun (k : Nat) => xs[((Builtin.Slice.sliceAdjust lo none (-1) xs.length).1 + (k : Int) * (-1)).toNat]?
section
variable {prog : Program} {w : World} {A : Around} {E : Value → Shared → Prop} {s : Shared}
theorem sliceApplied_down {sl : Addr} {vl vu vs : Value} {lo hi : Option Int} {n : Nat} {Q : Int × Int × Nat → Shared → Prop} (hs : s.heap.IsSliceOf sl vl vu vs) (pl : IsPart vl lo) (pu : IsPart vu hi) (ps : IsPart vs (some (-1)))
    (h : Q ((Builtin.Slice.sliceAdjust lo hi (-1) (n : Int)).1, -1, Builtin.Slice.slicePlaces (Builtin.Slice.sliceAdjust lo hi (-1) (n : Int)).1 (Builtin.Slice.sliceAdjust lo hi (-1) (n : Int)).2 (-1)) s) : wpAny (model prog w) A (Builtin.Slice.sliceApplied (.ref sl) (pure (n : Int))) Q E s := by
  obtain ⟨os, hos, hcs, hds⟩ := id hs
  unfold Builtin.Slice.sliceApplied Builtin.Slice.sliceFields
  refine wpAny_bind (wpAny_bind (wpAny_field hos hds (x := vl) rfl (wpAny_bind (wpAny_field hos hds (x := vu) rfl (wpAny_bind (wpAny_field hos hds (x := vs) rfl (wpAny_pure ?_)))))))
  refine wpAny_bind (slicePart_ ps ?_)
  show wpAny _ _ (if ((-1 : Int) == 0) = true then _ else _) _ _ s
  rw [if_neg (by decide)]
  refine wpAny_bind (slicePart_ pl (wpAny_bind (slicePart_ pu (wpAny_bind (wpAny_pure ?_)))))
  exact wpAny_pure h
theorem getItem_tuple_down {t sl : Addr} {items : Array Value} {vl vs : Value} {lo : Option Int} {Q : Value → Shared → Prop} (ht : IsTup s.heap t items) (hs : s.heap.IsSliceOf sl vl .none vs) (pl : IsPart vl lo) (ps : IsPart vs (some (-1)))
    (h : Q (.ref s.heap.objs.size) { s with heap := s.heap.push { cls := .type "tuple", data := .seq (downFrom items.toList lo).toArray } })
    (hsz : (downFrom items.toList lo).length ≤ sizeLine) : wpAny (model prog w) A (getItem (.ref t) (.ref sl)) Q E s := by
  obtain ⟨os, hos, hcs, hds⟩ := id hs
  have hTs : s.TypeIs (.ref sl) "slice" := ⟨os, hos, hcs⟩
  have htake : sizeOk (.seq (downFrom items.toList lo).toArray) := by
    show (downFrom items.toList lo).toArray.size ≤ sizeLine
    rw [List.size_toArray]
    exact hsz
  unfold getItem
  try with_reducible refine wpAny_holding ?_
  first | refine wpAny_bind (wpAny_pure ?_) | skip
  refine wpAny_bind (wpAny_sequenceKey ht.typeIs (by decide) ?_)
  refine wpAny_bind (wpAny_callSpecial?_slot (name := Str.ofString "__getitem__") ht.typeIs PyProof.Rows.slot_tuple_getitem
    (wpAny_call_entry PyProof.Rows.slot_tuple_getitem ht.typeIs entry_tuple_getitem ?_ (args_tuple_getitem _ _)))
  show wpAny _ _ (Builtin.Tuple.tupleItemsOf (.ref t) >>= _) _ _ s
  refine wpAny_bind (tupleItemsOf_ ht ?_)
  refine wpAny_bind (wpAny_typeOf hTs ?_)
  rw [if_pos (by decide)]
  refine wpAny_bind (sliceApplied_down hs pl .none ps ?_)
  have hno : ¬ (((Builtin.Slice.sliceAdjust lo none (-1) (items.size : Int)).1 == 0 && (-1 : Int) == 1 && Builtin.Slice.slicePlaces (Builtin.Slice.sliceAdjust lo none (-1) (items.size : Int)).1 (Builtin.Slice.sliceAdjust lo none (-1) (items.size : Int)).2 (-1) == items.size) = true) := by
    have e : ((-1 : Int) == 1) = false := rfl
    rw [e, Bool.and_false, Bool.false_and]
    exact Bool.false_ne_true
  show wpAny _ _ (if ((Builtin.Slice.sliceAdjust lo none (-1) (items.size : Int)).1 == 0 && (-1 : Int) == 1 && Builtin.Slice.slicePlaces (Builtin.Slice.sliceAdjust lo none (-1) (items.size : Int)).1 (Builtin.Slice.sliceAdjust lo none (-1) (items.size : Int)).2 (-1) == items.size) = true then _ else _) _ _ s
  rw [if_neg hno]
  have ed : ((List.range (Builtin.Slice.slicePlaces (Builtin.Slice.sliceAdjust lo none (-1) (items.size : Int)).1 (Builtin.Slice.sliceAdjust lo none (-1) (items.size : Int)).2 (-1))).filterMap fun (k : Nat) => items[((Builtin.Slice.sliceAdjust lo none (-1) (items.size : Int)).1 + (k : Int) * (-1)).toNat]?).toArray = (downFrom items.toList lo).toArray := by
    unfold downFrom
    simp
  rw [ed]
  first
    | exact wpAny_bind (m := Builtin.Tuple.tupleExact _) (wpAny_newObj_type (wpAny_pure ⟨_, rfl, wpAny_pure h⟩) htake)
    | exact wpAny_bind (m := Builtin.Tuple.tupleExact _) (wpAny_newObj_type (wpAny_bind (wpAny_pure (wpAny_pure ⟨_, rfl, wpAny_pure h⟩))) htake)
    | exact wpAny_bind (wpAny_bind (m := Builtin.Tuple.tupleExact _) (wpAny_newObj_type (wpAny_pure (wpAny_pure ⟨_, rfl, wpAny_pure h⟩)) htake))
    | exact wpAny_bind (wpAny_bind (m := Builtin.Tuple.tupleExact _) (wpAny_newObj_type (wpAny_pure ⟨_, rfl, wpAny_pure h⟩) htake))
end
theorem places_le {lo : Option Int} {n : Nat} : Builtin.Slice.slicePlaces (Builtin.Slice.sliceAdjust lo none (-1) (n : Int)).1 (Builtin.Slice.sliceAdjust lo none (-1) (n : Int)).2 (-1) ≤ n := by
  unfold Builtin.Slice.slicePlaces Builtin.Slice.sliceAdjust
  simp only [show ((-1 : Int) > 0) = False from by simp, if_false, show ((-1 : Int) < 0) = True from by simp, if_true]
  have e : -(-1 : Int) = 1 := rfl
  rw [e]
  cases lo with
  | none => simp only [Int.ediv_one]; split <;> omega
  | some v =>
    simp only [Int.ediv_one]
    split <;> split <;> omega
theorem downFrom_len {α : Type} (xs : List α) (lo : Option Int) : (downFrom xs lo).length ≤ xs.length := by
  unfold downFrom
  refine Nat.le_trans (List.length_filterMap_le _ _) ?_
  rw [List.length_range]
  exact places_le
theorem Vals.down {xs : List V} {us : List Value} (r : Vals xs us) (lo : Option Int) : Vals (downFrom xs lo) (downFrom us lo) := by
  unfold downFrom
  rw [r.length]
  generalize List.range _ = ks
  induction ks with
  | nil => exact .nil
  | cons k ks ih =>
    rw [List.filterMap_cons, List.filterMap_cons]
    cases q : xs[((Builtin.Slice.sliceAdjust lo none (-1) us.length).1 + (k : Int) * (-1)).toNat]? with
    | none => rw [r.none_of q]; exact ih
    | some x =>
      obtain ⟨u, h1, h2⟩ := r.get q
      rw [h1]
      exact .cons h2 ih
section
variable {X : Cx}
def tDownT (K : PySem.W.Frag) (te : TE) (tl : TO) : TE := fun σ H Q => te σ H fun x H1 => tl σ H1 fun l H2 => ∃ a xs, x = .ref a ∧ SqT K H2 a xs ∧ ∀ p, H2 p = none → Q (.ref p) (upd H2 p (.tup (downFrom xs l)))
theorem pe_downT {e : Expr} {lo : Option Expr} {te : TE} {tl : TO} {k : Nat} {p1 p2 p3 pos : Pos} (he : PE X e te) (hl : PO X lo tl) : PE X (.Subscript e (.Slice lo none (some (.UnaryOp .USub (.Constant (.int 1) k p1) p2)) p3) pos) (tDownT X.K te tl) := by
  refine ⟨fun pins s σ H Q I h => ?_⟩
  refine Subscript_ (thn (he.run pins s σ H _ I h) fun v s1 ⟨x, H1, I1, r1, q1⟩ => ?_)
  have hst : PO X (some (.UnaryOp .USub (.Constant (.int 1) k p1) p2)) (tPart (tUn (rU fun i => .int (-i)) (tC (.int 1)))) := po_some (pe_un un_neg pe_int)
  refine wpAny_Slice (thn (hl.run pins s1 σ H1 _ I1 q1) fun vl s2 ⟨l, H2, I2, pl, a, xs, ex, hx, q⟩ => ?_)
  subst ex
  cases r1
  refine thn (po_none.run pins s2 σ H2 (fun o H3 => o = none ∧ H3 = H2) I2 ⟨rfl, rfl⟩) fun vu s3 ⟨u, H3, I3, pu, eu, e3⟩ => ?_
  subst eu e3
  refine thn (hst.run pins s3 σ H3 (fun o H4 => o = some (-1) ∧ H4 = H3) I3 ⟨1, rfl, -1, rfl, rfl, rfl⟩) fun vs s4 ⟨o, H4, I4, ps, eo, e4⟩ => ?_
  subst eo e4
  have I5 : L2.Inv X pins σ H4 { s4 with heap := s4.heap.push { cls := .type "slice", data := .fields #[vl, vu, vs] } } := I4.kept (t' := s4.toks) fun b ob q => Heap.get?_push_of_some _ q
  obtain ⟨its, r, ht, hz⟩ := I5.tuple hx
  have hlen := r.length
  cases pu
  show wpAny (model X.prog X.w) X.A (subscriptTail e (.Slice lo none (some (.UnaryOp .USub (.Constant (.int 1) k p1) p2)) p3) (.ref a) (.ref s4.heap.objs.size)) (EP X pins σ Q) X.xe { s4 with heap := s4.heap.push { cls := .type "slice", data := .fields #[vl, .none, vs] } }
  refine tail_any (ops := [.ref a, .ref s4.heap.objs.size]) ht.typeIs (PyProof.Rows.slot_tuple_getitem.lookup) ?_ (by with_unfolding_all rfl)
  have dl := downFrom_len its l
  refine getItem_tuple_down ht (Heap.IsSliceOf.new _ vl .none vs) pl ps ?_ (by simpa using (by omega : (downFrom its l).length ≤ sizeLine))
  refine ⟨.ref _, _, I5.laid (t' := s4.toks) (o := .tup (downFrom xs l)) (fun b ob q => Heap.get?_push_of_some _ q) (Nat.le_refl _) ?_, rfl, q _ (I5.hok.fresh (Nat.le_refl _))⟩
  have dx := downFrom_len xs l
  exact ⟨by omega, _, Vals.down r l, IsTup.new _ _⟩
/-! a tuple once -/
theorem tuple_mul1 (l : Addr) (items : Array Value) (n : Nat) (dd : Option Addr) (sl : Array (Option Value)) (u : Tok) :
    Meets (Builtin.«tuple.__mul__» ⟨[.ref l, .int 1 u], []⟩) (fun _ R s => s.heap.get? l = some { cls := .type "tuple", dict := dd, data := .seq items n, slots := sl } ∧ R (.ok (.ret (Value.ref l))) s) :=
  .of_wp fun prog w A R s h => by
    obtain ⟨hp, g, d, tk, os⟩ := s
    obtain ⟨hl, h⟩ := h
    have f1 := AutoSeq1.idx_int
    have c1 : (items.isEmpty || (1 : Int) == 1) = true := by simp
    wp_walk using wpAny_loadPart' hl
    exact ⟨_, rfl, h⟩
theorem op_rep1 : OpR X (binaryOp .Mult) (fun x y H Q => ∃ l xs, x = .ref l ∧ y = .int 1 ∧ SqT X.K H l xs ∧ Q (.ref l) H) := by
  intro pins s σ H x y v u Q I rx ry h
  obtain ⟨l, xs, rfl, rfl, hT, q⟩ := h
  cases rx
  obtain ⟨t, rfl⟩ := ry
  obtain ⟨its, r, ⟨⟨cls, dd, data, sl⟩, ho, hc, n, hd⟩, hs⟩ := I.tuple hT
  simp only at hc hd
  subst hc hd
  exact wpAny_binaryOp_repeat_ref (T := "tuple") (U := "int") (by decide) ⟨_, ho, rfl⟩ (fun s' => typeIs_int s' 1 t) noFill_tuple_mul F.fills_int_mul F.slot_int_rmul repeat_tuple F.slot_int_index.lookup
    (call_meets F.slot_int_rmul (typeIs_int s 1 t) F.entry_int_rmul (F.args_int_rmul_2 _ _) (int_rmul_tuple 1 t l its.toArray n dd sl)
      ⟨ho, rfl, ⟨_, ho, rfl⟩, call_meets F.slot_tuple_mul ⟨_, ho, rfl⟩ F.entry_tuple_mul (F.args_tuple_mul_2 _ _) (tuple_mul1 l its.toArray n dd sl t) ⟨ho, .ref l, H, I, rfl, q⟩⟩)
/-! a text several times -/
theorem op_repS : OpR X (binaryOp .Mult) (fun x y H Q => ∃ z k, x = .str z ∧ y = .int k ∧ 2 ≤ k ∧ k ≤ 1000 ∧ z.length ≤ 1000 ∧ z.length ≠ 0 ∧ Q (.str ⟨(List.replicate k.toNat z.cps).foldl (· ++ ·) #[]⟩) H) := by
  intro pins s σ H x y v u Q I rx ry h
  obtain ⟨z, k, rfl, rfl, h1, h2, h3, h4, q⟩ := h
  obtain ⟨t, rfl⟩ := rx
  obtain ⟨t', rfl⟩ := ry
  have e1 : ¬ k < 1 := by omega
  have e2 : (k == 1 || z.length == 0) = false := by
    rw [show (k == 1) = false from beq_eq_false_iff_ne.mpr (by omega), show (z.length == 0) = false from beq_eq_false_iff_ne.mpr h4]
    rfl
  refine PySem.P.mul_str (by rw [decide_eq_false (by omega), decide_eq_false (by omega)]; rfl) (fun _ _ => ?_) (fun _ _ => ?_) ?_
  · have a1 : (1000 : Int) ≤ (2 ^ 63 - 1) / k := by
      rw [Int.le_ediv_iff_mul_le (by omega)]
      omega
    omega
  · unfold Builtin.Str.tooLong
    refine decide_eq_false ?_
    have a1 : z.length * k.toNat ≤ 1000 * 1000 := Nat.mul_le_mul h3 (by omega)
    rw [sizeLine_eq]
    omega
  · rw [if_neg e1, e2]
    refine ⟨?_, .str _, H, I.tok _, ⟨_, rfl⟩, q⟩
    show ((List.replicate k.toNat z.cps).foldl (· ++ ·) #[]).size ≤ sizeLine
    have f0 : ∀ (m : Nat) (acc : Array Nat), ((List.replicate m z.cps).foldl (· ++ ·) acc).size = acc.size + m * z.cps.size := fun m => by
      induction m with
      | zero => intro acc; simp
      | succ m ih => intro acc; rw [List.replicate_succ, List.foldl_cons, ih, Array.size_append, Nat.succ_mul]; omega
    rw [f0]
    have a1 : k.toNat * z.cps.size ≤ 1000 * 1000 := Nat.mul_le_mul (by omega) h3
    rw [sizeLine_eq]
    simp
    omega
/-! list(text) -/
theorem valsSigns : ∀ (cs : List Nat) (vs : List Value), (cs.map fun c => V.str ⟨#[c]⟩).length = vs.length → (∀ (j : Nat) (v : Value), vs[j]? = some v → ∃ c u, cs[j]? = some c ∧ v = Value.str ⟨#[c]⟩ u) → Vals (cs.map fun c => V.str ⟨#[c]⟩) vs
  | [], [], _, _ => .nil
  | [], _ :: _, hl, _ => by simp at hl
  | _ :: _, [], hl, _ => by simp at hl
  | c :: cs, v :: vs, hl, hg => by
    obtain ⟨c', u, h1, h2⟩ := hg 0 v rfl
    simp at h1
    subst h1
    exact .cons ⟨u, h2⟩ (valsSigns cs vs (by simpa using hl) fun j v hv => by simpa using hg (j + 1) v (by simpa using hv))
theorem call_listS (hc : X.calm = true) : CallR X (.type "list") (fun xs H Q => ∃ z : Str, xs = [.str z] ∧ z.length ≤ sizeLine ∧ ∀ p, H p = none → Q (.ref p) (upd H p (.lst (z.cps.toList.map fun c => V.str ⟨#[c]⟩)))) := by
  intro pins s σ H xs us Q I r h
  obtain ⟨z, rfl, hz, q⟩ := h
  cases r with
  | cons r1 r2 =>
    cases r2
    obtain ⟨t, rfl⟩ := r1
    refine call_list_str (I.ok.hd hc) z t (hn := hz) fun h' tk acc' c' hk hS' hacc => ?_
    have np : H s.heap.objs.size = none := I.hok.fresh (Nat.le_refl _)
    have rv : Vals (z.cps.toList.map fun c => V.str ⟨#[c]⟩) acc'.toList := by
      have hl : (z.cps.toList.map fun c => V.str ⟨#[c]⟩).length = acc'.toList.length := by simp [hacc.1]
      have hg : ∀ (j : Nat) (v : Value), acc'.toList[j]? = some v → ∃ c u, z.cps.toList[j]? = some c ∧ v = Value.str ⟨#[c]⟩ u := fun j v hv => by
        obtain ⟨c, u, h1, h2⟩ := hacc.2 j v (by simpa using hv)
        exact ⟨c, u, by simpa using h1, h2⟩
      exact valsSigns _ _ hl hg
    have hlen : (z.cps.toList.map fun c => V.str ⟨#[c]⟩).length ≤ sizeLine := by rw [List.length_map, Array.length_toList]; exact hz
    exact ⟨.ref _, _, I.laid (t' := tk) (o := .lst (z.cps.toList.map fun c => V.str ⟨#[c]⟩)) hk (Nat.le_refl _) ⟨hlen, acc'.toList, c', rv, by simpa using hS'⟩, rfl, q _ np⟩
/-! a < b < c < d, as a value -/
variable {a b c d : Expr} {ta tb tc td : TE} {pos : Pos}
def tChain3 (r r' r2 : R2) (ta tb tc td : TE) : TE := fun σ H Q => ta σ H fun x H1 => tb σ H1 fun y H2 => r x y H2 fun z H3 => ∃ k, z = .bl k ∧
  (if k = true then tc σ H3 fun w' H4 => r' y w' H4 fun z2 H5 => ∃ k2, z2 = .bl k2 ∧ (if k2 = true then td σ H5 fun u' H6 => r2 w' u' H6 Q else Q (.bl false) H5) else Q (.bl false) H3)
theorem pe_chain3 {op op' op2 : CmpOp} {r r' r2 : R2} (ho : OpR X (compareOp op) r) (ho' : OpR X (compareOp op') r') (ho2 : OpR X (compareOp op2) r2) (ha : PE X a ta) (hb : PE X b tb) (hc : PE X c tc) (hd : PE X d td)
    (hm : lastMarks [op, op', op2] [b, c, d] = false) : PE X (.Compare a [op, op', op2] [b, c, d] pos) (tChain3 r r' r2 ta tb tc td) := by
  refine ⟨fun pins s σ H Q I h => ?_⟩
  refine Compare_chain (thn (ha.run pins s σ H _ I h) fun v s1 ⟨x, H1, I1, r1, q1⟩ => chain_link (thn (hb.run pins s1 σ H1 _ I1 q1) fun u s2 ⟨y, H2, I2, r2', q2⟩ =>
    thn (ho pins s2 σ H2 x y v u _ I2 r1 r2' q2) fun d s3 ⟨z, H3, I3, r3, k, e, q3⟩ => ?_)) hm
  subst e
  cases r3
  refine wpAny_truthy_bool ?_
  cases k with
  | false => exact ite_ff ⟨.bl false, H3, I3, rfl, q3⟩
  | true =>
    refine ite_tt (chain_link (thn (hc.run pins s3 σ H3 _ I3 q3) fun w' s4 ⟨z', H4, I4, r4, q4⟩ => thn (ho' pins s4 σ H4 y z' u w' _ I4 r2' r4 q4) fun d s5 ⟨z2, H5, I5, r5, k2, e2, q5⟩ => ?_))
    subst e2
    cases r5
    refine wpAny_truthy_bool ?_
    cases k2 with
    | false => exact ite_ff ⟨.bl false, H5, I5, rfl, q5⟩
    | true => exact ite_tt (chain_last (thn (hd.run pins s5 σ H5 _ I5 q5) fun w2 s6 ⟨z3, H6, I6, r6, q6⟩ => ho2 pins s6 σ H6 z' z3 w' w2 Q I6 r4 r6 q6))
end
end DL
/-! The data layer: operators. -/
namespace DL
open PySem PySem.Spec PyProof.Rows L2
/-! ### a plain answer -/
theorem OutG.val {C : Pm} {Hf H : Hp} {d : D} {v : V} {Q : VK} (h : OutG C (RelE C) Hf H (.ok d) Q) (s : Same Hf H) (r : Rp C.K Hf v d) : Q v H := h v Hf H (Grow.refl s) r
theorem OutG.made {C : Pm} {Hf H : Hp} {d : D} {Q : VK} {p : Addr} {o : HO} (h : OutG C (RelE C) Hf H (.ok d) Q) (s : Same Hf H) (np : H p = none) (r : Rp C.K (upd Hf p o) (.ref p) d) : Q (.ref p) (upd H p o) := h _ _ _ (Grow.push s np) r
theorem Rp.newL {K : PySem.W.Frag} {Hf : Hp} {p : Addr} {xs : List V} {ds : List D} (np : Hf p = none) (z : xs.length ≤ sizeLine) (r : RpL K Hf xs ds) : Rp K (upd Hf p (.lst xs)) (.ref p) (.list ds) := .lst upd_same z (r.mono (same_upd np))
theorem Rp.newT {K : PySem.W.Frag} {Hf : Hp} {p : Addr} {xs : List V} {ds : List D} (np : Hf p = none) (z : xs.length ≤ sizeLine) (r : RpL K Hf xs ds) : Rp K (upd Hf p (.tup xs)) (.ref p) (.tuple ds) := .tup upd_same z (r.mono (same_upd np))
/-! ### what a looked-at value is -/
section
variable {K : PySem.W.Frag} {Hf H : Hp} {v : V}
theorem Rp1.none_ (h : Rp1 K Hf H v .none) : v = .non := by
  rcases h with h | ⟨a, e, h⟩
  · cases h; rfl
  · exact h.elim
theorem Rp1.bool_ {b : Bool} (h : Rp1 K Hf H v (.bool b)) : v = .bl b := by
  rcases h with h | ⟨a, e, h⟩
  · cases h; rfl
  · exact h.elim
theorem Rp1.int_ {i : Int} (h : Rp1 K Hf H v (.int i)) : v = .int i := by
  rcases h with h | ⟨a, e, h⟩
  · cases h; rfl
  · exact h.elim
theorem Rp1.str_ {x : Str} (h : Rp1 K Hf H v (.str x)) : v = .str x := by
  rcases h with h | ⟨a, e, h⟩
  · cases h; rfl
  · exact h.elim
theorem Rp1.list_ {ds : List D} (s : Same Hf H) (h : Rp1 K Hf H v (.list ds)) : ∃ a xs, v = .ref a ∧ H a = some (.lst xs) ∧ xs.length ≤ sizeLine ∧ RpL K Hf xs ds := by
  rcases h with h | ⟨a, e, h⟩
  · cases h with
    | lst h1 h2 h3 => exact ⟨_, _, rfl, s _ _ h1, h2, h3⟩
  · obtain ⟨xs, h1, h2, h3, h4⟩ := h
    exact ⟨a, xs, e, h2, h3, h4⟩
theorem Rp1.tuple_ {ds : List D} (s : Same Hf H) (h : Rp1 K Hf H v (.tuple ds)) : ∃ a xs, v = .ref a ∧ Hf a = some (.tup xs) ∧ H a = some (.tup xs) ∧ xs.length ≤ sizeLine ∧ RpL K Hf xs ds := by
  rcases h with h | ⟨a, e, h⟩
  · cases h with
    | tup h1 h2 h3 => exact ⟨_, _, rfl, h1, s _ _ h1, h2, h3⟩
  · exact h.elim
theorem RpK.noScr {kvs : List (Key × V)} {d : D} {r : List (D × D)} (h : RpK K H kvs ((.none, d) :: r)) : False := by
  generalize e : ((PyData.none, d) :: r : List (D × D)) = l at h
  cases h with
  | nil => cases e
  | @cons k v kvs d' kds h1 h2 =>
    injection e with e1 _
    cases k with
    | inl i => cases e1
    | inr x => cases e1
theorem ints_inj : ∀ {ns ms : List Int}, ns.map PyData.int = ms.map PyData.int → ns = ms
  | [], [], _ => rfl
  | [], _ :: _, h => by cases h
  | _ :: _, [], h => by cases h
  | a :: as, b :: bs, h => by
    simp only [List.map_cons, List.cons.injEq, PyData.int.injEq] at h
    rw [h.1, ints_inj h.2]
theorem Rp1.scr_ {ds : List D} (s : Same Hf H) (h : Rp1 K Hf H v (.dict [(.none, .list ds)])) : ∃ (a : Addr) (ns : List Int), v = .ref a ∧ ds = ns.map PyData.int ∧ SqL K H a (ns.map V.int) ∧ ns.length ≤ sizeLine := by
  rcases h with h | ⟨a, e, h⟩
  · generalize e : PyData.dict [(.none, .list ds)] = d at h
    cases h with
    | @scr a ns h1 h2 =>
      unfold scr at e
      injection e with e
      injection e with e _
      have e2 := (Prod.mk.inj e).2
      injection e2 with e2
      exact ⟨_, _, rfl, e2, Same.seq s h1, h2⟩
    | dic h1 h2 h3 =>
      injection e with e
      subst e
      exact h3.noScr.elim
    | _ => cases e
  · obtain ⟨kvs, _, _, _, h4⟩ := h
    exact h4.noScr.elim
theorem RpL.ints : ∀ {xs : List V} {ns : List Int}, RpL K H xs (ns.map PyData.int) → xs = ns.map V.int
  | _, [], .nil => rfl
  | _, n :: ns, .cons h r => by
    cases h
    rw [RpL.ints r]
    rfl
theorem RpL.bools : ∀ {xs : List V} {bs : List Bool}, RpL K H xs (bs.map PyData.bool) → xs = bs.map V.bl
  | _, [], .nil => rfl
  | _, n :: ns, .cons h r => by
    cases h
    rw [RpL.bools r]
    rfl
theorem rpL_ints : ∀ (ns : List Int), RpL K H (ns.map V.int) (ns.map PyData.int)
  | [] => .nil
  | n :: ns => .cons (.int n) (rpL_ints ns)
theorem dpL_ints : ∀ (ns : List Int), DpAll K H (ns.map V.int) (ns.map PyData.int)
  | [] => .nil
  | n :: ns => .cons (.int n) (dpL_ints ns)
end
mutual
theorem noDict_of : ∀ {d : D}, d.canLay0 = true → noDict d = true
  | .none, _ => rfl
  | .bool _, _ => rfl
  | .int _, _ => rfl
  | .str _, _ => rfl
  | .list ds, h => noDictL_of (show PyData.canLayAll0 ds = true by simpa [PyData.canLay0] using h)
  | .tuple ds, h => noDictL_of (show PyData.canLayAll0 ds = true by simpa [PyData.canLay0] using h)
  | .dict _, h => by simp [PyData.canLay0] at h
theorem noDictL_of : ∀ {ds : List D}, PyData.canLayAll0 ds = true → noDictL ds = true
  | [], _ => rfl
  | d :: ds, h => by
    simp only [PyData.canLayAll0, Bool.and_eq_true] at h
    simp only [noDictL, Bool.and_eq_true]
    exact ⟨noDict_of h.1, noDictL_of h.2⟩
end
theorem Rp1.dp {K : PySem.W.Frag} {Hf H : Hp} {v : V} {d : D} (s : Same Hf H) (h : Rp1 K Hf H v d) (e : SeqAt.shaped d = true) : Dp K H v d := (h.rp s).dp (noDict_of (SeqAt.canLay_of_shaped e))
/-! ### two-place operations -/
def rD2 (C : Pm) (F : D → D → R D) : R2 := fun x y H Q => ∃ (Hf : Hp) (dx dy : D), Same Hf H ∧ Rp1 C.K Hf H x dx ∧ Rp1 C.K Hf H y dy ∧ OutG C (RelE C) Hf H (F dx dy) Q
section
variable {X : Cx} {C : Pm} {a b : Expr} {pos : Pos} {fa fb : Env → R D}
theorem e_bin {op : Operator} {F : D → D → R D} (ho : OpR X (binaryOp op) (rD2 C F)) (ha : PE X a (tP C fa)) (hb : PE X b (tP C fb)) :
    PE X (.BinOp a op b pos) (tE C fun ρ => fa ρ >>= fun x => fb ρ >>= fun y => F x y) :=
  PE.imp (pe_op ho ha hb) fun σ H Q ⟨Hf0, H0, Hf, ρ, env, h⟩ => ⟨Hf0, H0, Hf, ρ, env, h.bind fun dx vx Hf1 H1 _ g1 r1 h1 =>
    ⟨Hf0, H0, Hf1, ρ, env.more g1, h1.bind fun dy vy Hf2 H2 _ g2 r2 h2 => ⟨Hf2, dx, dy, g2.sub, r1.grow g2, r2, h2⟩⟩⟩
theorem e_cmp {op : CmpOp} {F : D → D → R D} (ho : OpR X (compareOp op) (rD2 C F)) (ha : PE X a (tP C fa)) (hb : PE X b (tP C fb)) (hm : behindInMarks op b = false) :
    PE X (.Compare a [op] [b] pos) (tE C fun ρ => fa ρ >>= fun x => fb ρ >>= fun y => F x y) :=
  PE.imp (pe_cmpR ho ha hb hm) fun σ H Q ⟨Hf0, H0, Hf, ρ, env, h⟩ => ⟨Hf0, H0, Hf, ρ, env, h.bind fun dx vx Hf1 H1 _ g1 r1 h1 =>
    ⟨Hf0, H0, Hf1, ρ, env.more g1, h1.bind fun dy vy Hf2 H2 _ g2 r2 h2 => ⟨Hf2, dx, dy, g2.sub, r1.grow g2, r2, h2⟩⟩⟩
end
/-! ### + - * // % ** -/
def smallI (i : Int) : Bool := decide (-(2 ^ 64) < i) && decide (i < 2 ^ 64)
def dBin (op : Operator) (x y : D) : R D := match op, x, y with
  | .Add, .int i, .int j => .ok (.int (i + j))
  | .Sub, .int i, .int j => .ok (.int (i - j))
  | .Mult, .int i, .int j => if smallI i || smallI j then .ok (.int (i * j)) else .bad
  | .FloorDiv, .int i, .int j => if decide (0 < j) && decide (j.natAbs.log2 < 9000) then .ok (.int (i / j)) else .bad
  | .Mod, .int i, .int j => if 0 < j then .ok (.int (i % j)) else .bad
  | .Pow, .int i, .int j => if decide (0 ≤ j) && decide (j ≤ 1000000) && decide (i.natAbs < 2 ^ 64) then .ok (.int (i ^ j.toNat)) else .bad
  | .Add, .str i, .str j => if i.length + j.length ≤ sizeLine then .ok (.str (i ++ j)) else .bad
  | .Add, .list i, .list j => if i.length + j.length ≤ sizeLine then .ok (.list (i ++ j)) else .bad
  | .Add, .tuple i, .tuple j => if i.length + j.length ≤ sizeLine then .ok (.tuple (i ++ j)) else .bad
  | .Mult, .list i, .int k => if decide (0 ≤ k) && decide (k ≤ 1000) && decide (i.length ≤ 1000) then .ok (.list (List.replicate k.toNat i).flatten) else .bad
  | .Mult, .str z, .int k => if decide (2 ≤ k) && decide (k ≤ 1000) && decide (z.length ≤ 1000) && decide (z.length ≠ 0) then .ok (.str ⟨(List.replicate k.toNat z.cps).foldl (· ++ ·) #[]⟩) else .bad
  | .Mult, .tuple i, .int 1 => .ok (.tuple i)
  | .Mult, .tuple i, .int k => if decide (2 ≤ k) && decide (k ≤ 1000) && decide (i.length ≤ 1000) && !i.isEmpty then .ok (.tuple (List.replicate k.toNat i).flatten) else .bad
  | _, _, _ => .bad
theorem RpL.rep {K : PySem.W.Frag} {H : Hp} {xs : List V} {ds : List D} (r : RpL K H xs ds) : ∀ n, RpL K H (List.replicate n xs).flatten (List.replicate n ds).flatten
  | 0 => .nil
  | n + 1 => by
    simp only [List.replicate_succ, List.flatten_cons]
    exact r.append (RpL.rep r n)
theorem len_rep {α : Type} (xs : List α) : ∀ n, (List.replicate n xs).flatten.length = n * xs.length
  | 0 => by simp
  | n + 1 => by simp [List.replicate_succ, len_rep xs n, Nat.succ_mul, Nat.add_comm]
section
variable {X : Cx} {C : Pm}
theorem op_bin (hK : C.K = X.K) (op : Operator) : OpR X (binaryOp op) (rD2 C (dBin op)) := by
  intro pins s σ H x y v u Q I rx ry ⟨Hf, dx, dy, sf, hx, hy, h⟩
  unfold dBin at h
  split at h
  · obtain rfl := hx.int_; obtain rfl := hy.int_
    exact op_add pins s σ H _ _ v u Q I rx ry ⟨_, _, rfl, rfl, h.val sf (.int _)⟩
  · obtain rfl := hx.int_; obtain rfl := hy.int_
    exact op_sub pins s σ H _ _ v u Q I rx ry ⟨_, _, rfl, rfl, h.val sf (.int _)⟩
  · rename_i i j
    split at h
    · rename_i hc
      obtain rfl := hx.int_; obtain rfl := hy.int_
      refine op_mul pins s σ H _ _ v u Q I rx ry ⟨_, _, rfl, rfl, ?_, h.val sf (.int _)⟩
      simp only [smallI, Bool.or_eq_true, Bool.and_eq_true, decide_eq_true_eq] at hc
      exact hc
    · exact h.elim
  · split at h
    · rename_i hc
      obtain rfl := hx.int_; obtain rfl := hy.int_
      simp only [Bool.and_eq_true, decide_eq_true_eq] at hc
      exact op_fdivW pins s σ H _ _ v u Q I rx ry ⟨_, _, rfl, rfl, hc, h.val sf (.int _)⟩
    · exact h.elim
  · split at h
    · rename_i hc
      obtain rfl := hx.int_; obtain rfl := hy.int_
      exact op_mod pins s σ H _ _ v u Q I rx ry ⟨_, _, rfl, rfl, hc, h.val sf (.int _)⟩
    · exact h.elim
  · split at h
    · rename_i hc
      obtain rfl := hx.int_; obtain rfl := hy.int_
      simp only [Bool.and_eq_true, decide_eq_true_eq] at hc
      exact op_pow pins s σ H _ _ v u Q I rx ry ⟨_, _, rfl, rfl, ⟨hc.1.1, hc.1.2, hc.2⟩, h.val sf (.int _)⟩
    · exact h.elim
  · split at h
    · rename_i hc
      obtain rfl := hx.str_; obtain rfl := hy.str_
      exact op_add_str pins s σ H _ _ v u Q I rx ry ⟨_, _, rfl, rfl, hc, h.val sf (.str _)⟩
    · exact h.elim
  · split at h
    · rename_i hc
      obtain ⟨a, xs, rfl, ha, za, ra⟩ := hx.list_ sf
      obtain ⟨b, ys, rfl, hb, zb, rb⟩ := hy.list_ sf
      have hl : xs.length + ys.length ≤ sizeLine := by rw [ra.length, rb.length]; exact hc
      refine op_cat pins s σ H _ _ v u Q I rx ry ⟨a, b, xs, ys, rfl, rfl, ha, hb, hl, fun p np => ?_⟩
      exact h.made sf np (.newL (Same.free sf np) (by rw [List.length_append]; exact hl) (ra.append rb))
    · exact h.elim
  · split at h
    · rename_i hc
      obtain ⟨a, xs, rfl, fa, ha, za, ra⟩ := hx.tuple_ sf
      obtain ⟨b, ys, rfl, fb, hb, zb, rb⟩ := hy.tuple_ sf
      have hl : xs.length + ys.length ≤ sizeLine := by rw [ra.length, rb.length]; exact hc
      refine op_catA pins s σ H _ _ v u Q I rx ry ⟨a, b, xs, ys, rfl, rfl, SqT.of ha, SqT.of hb, hl, fun e => ?_, fun _ e => ?_, fun _ _ p np => ?_⟩
      · subst e
        cases ra
        exact h.val sf (.tup fb zb rb)
      · subst e
        cases rb
        refine h.val sf ?_
        rw [List.append_nil]
        exact .tup fa za ra
      · exact h.made sf np (.newT (Same.free sf np) (by rw [List.length_append]; exact hl) (ra.append rb))
    · exact h.elim
  · rename_i i k
    split at h
    · rename_i hc
      simp only [Bool.and_eq_true, decide_eq_true_eq] at hc
      obtain ⟨⟨k0, k1⟩, k2⟩ := hc
      obtain ⟨a, xs, rfl, ha, za, ra⟩ := hx.list_ sf
      obtain rfl := hy.int_
      have e := ra.length
      have hl : k.toNat * xs.length ≤ sizeLine := by
        rw [sizeLine_eq]
        have a1 : k.toNat * xs.length ≤ 1000 * 1000 := Nat.mul_le_mul (by omega) (by omega)
        omega
      refine op_rep pins s σ H _ _ v u Q I rx ry ⟨a, k, xs, rfl, rfl, ha, by omega, by omega, by rw [Nat.mul_comm]; exact hl, fun p np => ?_⟩
      exact h.made sf np (.newL (Same.free sf np) (by rw [len_rep]; exact hl) (ra.rep _))
    · exact h.elim
  · split at h
    · rename_i hc
      simp only [Bool.and_eq_true, decide_eq_true_eq] at hc
      obtain ⟨⟨⟨k0, k1⟩, k2⟩, k3⟩ := hc
      obtain rfl := hx.str_; obtain rfl := hy.int_
      exact op_repS pins s σ H _ _ v u Q I rx ry ⟨_, _, rfl, rfl, k0, k1, k2, k3, h.val sf (.str _)⟩
    · exact h.elim
  · obtain ⟨a, xs, rfl, fa, ha, za, ra⟩ := hx.tuple_ sf
    obtain rfl := hy.int_
    exact op_rep1 pins s σ H _ _ v u Q I rx ry ⟨a, xs, rfl, rfl, SqT.of ha, h.val sf (.tup fa za ra)⟩
  · rename_i i k hk1
    split at h
    · rename_i hc
      simp only [Bool.and_eq_true, decide_eq_true_eq, Bool.not_eq_true', List.isEmpty_eq_false_iff] at hc
      obtain ⟨⟨⟨k0, k1⟩, k2⟩, k3⟩ := hc
      obtain ⟨a, xs, rfl, fa, ha, za, ra⟩ := hx.tuple_ sf
      obtain rfl := hy.int_
      have e := ra.length
      have hl : k.toNat * xs.length ≤ sizeLine := by
        rw [sizeLine_eq]
        have a1 : k.toNat * xs.length ≤ 1000 * 1000 := Nat.mul_le_mul (by omega) (by omega)
        omega
      have hne : xs ≠ [] := fun z => k3 (by
        rw [z] at e
        exact List.eq_nil_of_length_eq_zero e.symm)
      refine op_repT pins s σ H _ _ v u Q I rx ry ⟨a, k, xs, rfl, rfl, SqT.of ha, hne, k0, k1, by omega, fun p np => ?_⟩
      exact h.made sf np (.newT (Same.free sf np) (by rw [len_rep]; exact hl) (ra.rep _))
    · exact h.elim
  · exact h.elim
end
/-! ### comparisons -/
def isScr : D → Option (List D)
  | .dict [(.none, .list ds)] => some ds
  | _ => none
def dEq (x y : D) : R Bool := match x, y with
  | .dict [(.none, .list ds)], .list [] => .ok ds.isEmpty
  | x, y => if SeqAt.shaped x && SeqAt.shaped y then .ok (PyData.eqv x y) else .bad
def dLt (x y : D) : R Bool := match x, y with
  | .int i, .int j => .ok (decide (i < j))
  | .str i, .str j => .ok (decide (i.cps.toList < j.cps.toList))
  | .none, _ => .bad
  | x, y => if SeqAt.shaped x && SeqAt.shaped y && PySem.W.alike x y then .ok (PySem.W.dataLt x y) else .bad
def dIn (x y : D) : R Bool := match x, y with
  | .str ⟨⟨[c]⟩⟩, .str z => .ok (decide (c ∈ z.cps.toList))
  | x, .list ds => if SeqAt.shaped x && SeqAt.shaped (.list ds) then .ok (ds.any fun z => PyData.eqv z x) else .bad
  | x, .tuple ds => if SeqAt.shaped x && SeqAt.shaped (.tuple ds) then .ok (ds.any fun z => PyData.eqv z x) else .bad
  | _, _ => .bad
def isNon : D → Bool
  | .none => true
  | _ => false
def dIs (x y : D) : R Bool := match x, y with
  | x, .none => .ok (isNon x)
  | .bool a, .bool b => .ok (decide (a = b))
  | _, _ => .bad
def dCmp (op : CmpOp) (x y : D) : R Bool := match op with
  | .Eq => dEq x y
  | .NotEq => dEq x y >>= fun b => .ok (!b)
  | .Lt => dLt x y
  | .LtE => (match x, y with | .int i, .int j => .ok (decide (i ≤ j)) | _, _ => .bad)
  | .Gt => (match x, y with | .int i, .int j => .ok (decide (j < i)) | _, _ => .bad)
  | .GtE => (match x, y with | .int i, .int j => .ok (decide (j ≤ i)) | _, _ => .bad)
  | .In => dIn x y
  | .NotIn => dIn x y >>= fun b => .ok (!b)
  | .Is => dIs x y
  | .IsNot => dIs x y >>= fun b => .ok (!b)
def asBool (r : R Bool) : R D := r >>= fun b => .ok (.bool b)
section
variable {X : Cx} {C : Pm}
theorem val_bl {Hf H : Hp} {b : Bool} {Q : VK} (h : OutG C (RelE C) Hf H (.ok (.bool b)) Q) (s : Same Hf H) : Q (.bl b) H := h.val s (.bl b)
theorem shaped2 {x y : D} (h : (SeqAt.shaped x && SeqAt.shaped y) = true) : SeqAt.shaped x = true ∧ SeqAt.shaped y = true := Bool.and_eq_true_iff.mp h
theorem lay_ints : ∀ ns : List Int, PyData.canLayAll0 (ns.map PyData.int) = true
  | [] => rfl
  | n :: ns => by simp only [List.map_cons, PyData.canLayAll0, PyData.canLay0, lay_ints ns]; rfl
theorem shaped_ints (ns : List Int) : SeqAt.shaped (.list (ns.map PyData.int)) = true := by
  have z : PyData.depthAll (ns.map PyData.int) = 0 := PySem.W.depth_ints ns
  simp only [SeqAt.shaped, PyData.canLay0, lay_ints ns, PyData.depth, z]
  decide
theorem eq_any (hK : C.K = X.K) (hu : X.A.units + 65 < cLine) : OpR X (compareOp .Eq) (rD2 C fun x y => asBool (dEq x y)) := by
  intro pins s σ H x y v u Q I rx ry ⟨Hf, dx, dy, sf, hx, hy, h⟩
  unfold dEq at h
  dsimp only at h
  split at h
  · rename_i ds
    obtain ⟨a, ns, rfl, rfl, hs, hl⟩ := hx.scr_ sf
    obtain ⟨b, ys, rfl, hb, zb, rb⟩ := hy.list_ sf
    have sh := shaped_ints ns
    cases rb
    have hK' : SqL X.K H a (ns.map V.int) := by rw [← hK]; exact hs
    refine op_eqD (by omega) pins s σ H _ _ v u Q I rx ry ⟨_, .list [], .lst hK' (dpL_ints ns), .lst (SqL.of hb) .nil, sh, by decide, ?_⟩
    have e : PyData.eqv (.list (ns.map PyData.int)) (.list []) = (ns.map PyData.int).isEmpty := by cases ns <;> simp [PyData.eqv, PyData.eqvAll]
    rw [e]
    exact val_bl h sf
  · split at h
    · rename_i hc
      obtain ⟨c1, c2⟩ := shaped2 hc
      refine op_eqD (by omega) pins s σ H _ _ v u Q I rx ry ⟨dx, dy, ?_, ?_, c1, c2, val_bl h sf⟩
      · rw [← hK]; exact hx.dp sf c1
      · rw [← hK]; exact hy.dp sf c2
    · exact h.elim
theorem ne_any (hK : C.K = X.K) (hu : X.A.units + 65 < cLine) : OpR X (compareOp .NotEq) (rD2 C fun x y => asBool (dEq x y >>= fun b => .ok (!b))) := by
  intro pins s σ H x y v u Q I rx ry ⟨Hf, dx, dy, sf, hx, hy, h⟩
  unfold dEq at h
  dsimp only at h
  split at h
  · rename_i ds
    obtain ⟨a, ns, rfl, rfl, hs, hl⟩ := hx.scr_ sf
    obtain ⟨b, ys, rfl, hb, zb, rb⟩ := hy.list_ sf
    have sh := shaped_ints ns
    cases rb
    have hK' : SqL X.K H a (ns.map V.int) := by rw [← hK]; exact hs
    refine op_neD (by omega) pins s σ H _ _ v u Q I rx ry ⟨_, .list [], .lst hK' (dpL_ints ns), .lst (SqL.of hb) .nil, sh, by decide, ?_⟩
    have e : PyData.eqv (.list (ns.map PyData.int)) (.list []) = (ns.map PyData.int).isEmpty := by cases ns <;> simp [PyData.eqv, PyData.eqvAll]
    rw [e]
    exact val_bl h sf
  · split at h
    · rename_i hc
      obtain ⟨c1, c2⟩ := shaped2 hc
      refine op_neD (by omega) pins s σ H _ _ v u Q I rx ry ⟨dx, dy, ?_, ?_, c1, c2, val_bl h sf⟩
      · rw [← hK]; exact hx.dp sf c1
      · rw [← hK]; exact hy.dp sf c2
    · exact h.elim
theorem lt_any (hK : C.K = X.K) (hu : X.A.units + 65 < cLine) : OpR X (compareOp .Lt) (rD2 C fun x y => asBool (dLt x y)) := by
  intro pins s σ H x y v u Q I rx ry ⟨Hf, dx, dy, sf, hx, hy, h⟩
  unfold dLt at h
  dsimp only at h
  split at h
  · obtain rfl := hx.int_; obtain rfl := hy.int_
    exact op_lt pins s σ H _ _ v u Q I rx ry ⟨_, _, rfl, rfl, val_bl h sf⟩
  · obtain rfl := hx.str_; obtain rfl := hy.str_
    exact op_lt_str pins s σ H _ _ v u Q I rx ry ⟨_, _, rfl, rfl, val_bl h sf⟩
  · exact h.elim
  · rename_i hi hs hn
    split at h
    · rename_i hc
      simp only [Bool.and_eq_true] at hc
      obtain ⟨⟨c1, c2⟩, c3⟩ := hc
      obtain ⟨as, r1⟩ := Dp.reads I dx x v (by rw [← hK]; exact hx.dp sf c1) rx
      obtain ⟨bs, r2⟩ := Dp.reads I dy y u (by rw [← hK]; exact hy.dp sf c2) ry
      refine PySem.W.lt_data r1 r2 c3 (fun z => by subst z; simp_all) ?_ ⟨.bl _, H, I, rfl, val_bl h sf⟩
      have := SeqAt.room_of_shaped (A := X.A) (da := dx) (db := dy) c1 (by omega)
      exact this
    · exact h.elim
theorem in_tupD (hu : X.A.units + 65 < cLine) : OpR X (compareOp .In) (fun x y H Q => ∃ d ds, Dp X.K H x d ∧ Dp X.K H y (.tuple ds) ∧ SeqAt.shaped d = true ∧ SeqAt.shaped (.tuple ds) = true ∧ Q (.bl (ds.any fun z => PyData.eqv z d)) H) := by
  intro pins s σ H x y v u Q I rx ry h
  obtain ⟨d, ds, hd, he, sd, se, q⟩ := h
  obtain ⟨as, r1⟩ := Dp.reads I d x v hd rx
  obtain ⟨bs, r2⟩ := Dp.reads I (.tuple ds) y u he ry
  exact SeqAt.in_tuple_reads r2 r1 (SeqAt.canLay_of_shaped se) (SeqAt.canLay_of_shaped sd) (room_in_shaped sd hu) ⟨.bl _, H, I, rfl, q⟩
theorem notIn_tupD (hu : X.A.units + 65 < cLine) : OpR X (compareOp .NotIn) (fun x y H Q => ∃ d ds, Dp X.K H x d ∧ Dp X.K H y (.tuple ds) ∧ SeqAt.shaped d = true ∧ SeqAt.shaped (.tuple ds) = true ∧ Q (.bl (!ds.any fun z => PyData.eqv z d)) H) := by
  intro pins s σ H x y v u Q I rx ry h
  obtain ⟨d, ds, hd, he, sd, se, q⟩ := h
  obtain ⟨as, r1⟩ := Dp.reads I d x v hd rx
  obtain ⟨bs, r2⟩ := Dp.reads I (.tuple ds) y u he ry
  exact SeqAt.notIn_tuple_reads r2 r1 (SeqAt.canLay_of_shaped se) (SeqAt.canLay_of_shaped sd) (room_in_shaped sd hu) ⟨.bl _, H, I, rfl, q⟩
theorem in_any (hK : C.K = X.K) (hu : X.A.units + 65 < cLine) : OpR X (compareOp .In) (rD2 C fun x y => asBool (dIn x y)) := by
  intro pins s σ H x y v u Q I rx ry ⟨Hf, dx, dy, sf, hx, hy, h⟩
  unfold dIn at h
  dsimp only at h
  split at h
  · obtain rfl := hx.str_; obtain rfl := hy.str_
    exact op_in_sign pins s σ H _ _ v u Q I rx ry ⟨_, _, rfl, rfl, val_bl h sf⟩
  · split at h
    · rename_i hc
      obtain ⟨c1, c2⟩ := shaped2 hc
      refine op_inD hu pins s σ H _ _ v u Q I rx ry ⟨_, _, ?_, ?_, c1, c2, val_bl h sf⟩
      · rw [← hK]; exact hx.dp sf c1
      · rw [← hK]; exact hy.dp sf c2
    · exact h.elim
  · split at h
    · rename_i hc
      obtain ⟨c1, c2⟩ := shaped2 hc
      refine in_tupD hu pins s σ H _ _ v u Q I rx ry ⟨_, _, ?_, ?_, c1, c2, val_bl h sf⟩
      · rw [← hK]; exact hx.dp sf c1
      · rw [← hK]; exact hy.dp sf c2
    · exact h.elim
  · exact h.elim
theorem notIn_any (hK : C.K = X.K) (hu : X.A.units + 65 < cLine) : OpR X (compareOp .NotIn) (rD2 C fun x y => asBool (dIn x y >>= fun b => .ok (!b))) := by
  intro pins s σ H x y v u Q I rx ry ⟨Hf, dx, dy, sf, hx, hy, h⟩
  unfold dIn at h
  dsimp only at h
  split at h
  · obtain rfl := hx.str_; obtain rfl := hy.str_
    exact op_notIn_sign pins s σ H _ _ v u Q I rx ry ⟨_, _, rfl, rfl, val_bl h sf⟩
  · split at h
    · rename_i hc
      obtain ⟨c1, c2⟩ := shaped2 hc
      refine op_notInD hu pins s σ H _ _ v u Q I rx ry ⟨_, _, ?_, ?_, c1, c2, val_bl h sf⟩
      · rw [← hK]; exact hx.dp sf c1
      · rw [← hK]; exact hy.dp sf c2
    · exact h.elim
  · split at h
    · rename_i hc
      obtain ⟨c1, c2⟩ := shaped2 hc
      refine notIn_tupD hu pins s σ H _ _ v u Q I rx ry ⟨_, _, ?_, ?_, c1, c2, val_bl h sf⟩
      · rw [← hK]; exact hx.dp sf c1
      · rw [← hK]; exact hy.dp sf c2
    · exact h.elim
  · exact h.elim
theorem Rp1.isNone {K : PySem.W.Frag} {Hf H : Hp} {v : V} {d : D} (h : Rp1 K Hf H v d) : decide (v = .non) = isNon d := by
  rcases h with h | ⟨a, e, h⟩
  · cases h <;> rfl
  · subst e
    cases d <;> first | rfl | exact h.elim
theorem is_any : OpR X (compareOp .Is) (rD2 C fun x y => asBool (dIs x y)) := by
  intro pins s σ H x y v u Q I rx ry ⟨Hf, dx, dy, sf, hx, hy, h⟩
  unfold dIs at h
  dsimp only at h
  split at h
  · obtain rfl := hy.none_
    refine op_isN pins s σ H _ _ v u Q I rx ry ⟨rfl, ?_⟩
    rw [hx.isNone]
    exact val_bl h sf
  · obtain rfl := hx.bool_; obtain rfl := hy.bool_
    exact op_isBl pins s σ H _ _ v u Q I rx ry ⟨_, _, rfl, rfl, val_bl h sf⟩
  · exact h.elim
theorem isNot_any : OpR X (compareOp .IsNot) (rD2 C fun x y => asBool (dIs x y >>= fun b => .ok (!b))) := by
  intro pins s σ H x y v u Q I rx ry ⟨Hf, dx, dy, sf, hx, hy, h⟩
  unfold dIs at h
  dsimp only at h
  split at h
  · obtain rfl := hy.none_
    refine op_notN pins s σ H _ _ v u Q I rx ry ⟨rfl, ?_⟩
    rw [hx.isNone]
    exact val_bl h sf
  · obtain rfl := hx.bool_; obtain rfl := hy.bool_
    exact op_notBl pins s σ H _ _ v u Q I rx ry ⟨_, _, rfl, rfl, val_bl h sf⟩
  · exact h.elim
theorem op_cmp (hK : C.K = X.K) (hu : X.A.units + 65 < cLine) (op : CmpOp) : OpR X (compareOp op) (rD2 C fun x y => asBool (dCmp op x y)) := by
  cases op with
  | Eq => exact eq_any hK hu
  | NotEq => exact ne_any hK hu
  | Lt => exact lt_any hK hu
  | LtE =>
    intro pins s σ H x y v u Q I rx ry ⟨Hf, dx, dy, sf, hx, hy, h⟩
    unfold dCmp at h
    dsimp only at h
    split at h
    · obtain rfl := hx.int_; obtain rfl := hy.int_
      exact op_le pins s σ H _ _ v u Q I rx ry ⟨_, _, rfl, rfl, val_bl h sf⟩
    · exact h.elim
  | Gt =>
    intro pins s σ H x y v u Q I rx ry ⟨Hf, dx, dy, sf, hx, hy, h⟩
    unfold dCmp at h
    dsimp only at h
    split at h
    · obtain rfl := hx.int_; obtain rfl := hy.int_
      exact op_gt pins s σ H _ _ v u Q I rx ry ⟨_, _, rfl, rfl, val_bl h sf⟩
    · exact h.elim
  | GtE =>
    intro pins s σ H x y v u Q I rx ry ⟨Hf, dx, dy, sf, hx, hy, h⟩
    unfold dCmp at h
    dsimp only at h
    split at h
    · obtain rfl := hx.int_; obtain rfl := hy.int_
      exact op_ge pins s σ H _ _ v u Q I rx ry ⟨_, _, rfl, rfl, val_bl h sf⟩
    · exact h.elim
  | In => exact in_any hK hu
  | NotIn => exact notIn_any hK hu
  | Is => exact is_any
  | IsNot => exact isNot_any
end
end DL
/-! The data layer: names, constants, and, or, not, displays, subscripts. -/
namespace DL
open PySem PySem.Spec PyProof.Rows L2
/-! ### names and constants -/
def rdE (i : Nat) (ρ : Env) : R D := match ρ[i]? with
  | some (.va d) => .ok d
  | _ => .bad
def rdP (i : Nat) (ρ : Env) : R D := match ρ[i]? with
  | some (.va d) => .ok d
  | some (.ow d) => .ok d
  | _ => .bad
theorem slot_there {K : PySem.W.Frag} {Hf0 H0 Hf H : Hp} {σ : L2.St} {ρ : Env} {i : Nat} {s : Slot} (e : EnvR K Hf0 H0 Hf H σ ρ) (h : ρ[i]? = some s) : ∃ v, σ[i]? = some v ∧ SlotR K H0 Hf H v s := by
  have hi : i < ρ.length := (List.getElem?_eq_some_iff.mp h).1
  have hs : i < σ.length := by rw [e.len]; exact hi
  exact ⟨σ[i], List.getElem?_eq_getElem hs, e.slot i s _ h (List.getElem?_eq_getElem hs)⟩
section
variable {X : Cx} {C : Pm} {pos : Pos}
theorem PE.peek {e : Expr} {f : Env → R D} (h : PE X e (tE C f)) : PE X e (tP C f) := PE.imp h fun σ H Q ⟨Hf0, H0, Hf, ρ, env, q⟩ => ⟨Hf0, H0, Hf, ρ, env, by
  cases e1 : f ρ with
  | ok d => rw [e1] at q; exact fun v Hf' H' g r => q v Hf' H' g (.inl r)
  | exc c => rw [e1] at q; exact q
  | bad => rw [e1] at q; exact q.elim⟩
theorem e_varE {i : Nat} {x : Str} (hN : X.N[i]? = some x) (hv : Vis X.env.scope x) (hd : (x == ("__debug__" : Str)) = false) (hcd : (x == ("__classdict__" : Str)) = false) : PE X (.Name x pos) (tE C (rdE i)) :=
  PE.imp (pe_var hN hv hd hcd) fun σ H Q ⟨Hf0, H0, Hf, ρ, env, h⟩ => by
    unfold rdE at h
    split at h
    · rename_i d e1
      obtain ⟨v, h1, x, h2, r⟩ := slot_there env e1
      subst h2
      exact ⟨x, h1, h.val env.grow.sub r⟩
    · exact h.elim
theorem e_varP {i : Nat} {x : Str} (hN : X.N[i]? = some x) (hv : Vis X.env.scope x) (hd : (x == ("__debug__" : Str)) = false) (hcd : (x == ("__classdict__" : Str)) = false) : PE X (.Name x pos) (tP C (rdP i)) :=
  PE.imp (pe_var hN hv hd hcd) fun σ H Q ⟨Hf0, H0, Hf, ρ, env, h⟩ => by
    unfold rdP at h
    split at h
    · rename_i d e1
      obtain ⟨v, h1, x, h2, r⟩ := slot_there env e1
      subst h2
      exact ⟨x, h1, h x Hf H (Grow.refl env.grow.sub) (.inl r)⟩
    · rename_i d e1
      obtain ⟨v, h1, a, h2, r, _⟩ := slot_there env e1
      subst h2
      exact ⟨_, h1, h _ Hf H (Grow.refl env.grow.sub) (.inr ⟨a, rfl, r⟩)⟩
    · exact h.elim
def conD : Const → Option D
  | .none => some .none
  | .bool b => some (.bool b)
  | .int i => some (.int i)
  | .str x => some (.str x)
  | _ => none
theorem e_con {c : Const} {k : Nat} {d : D} (h : conD c = some d) : PE X (.Constant c k pos) (tE C fun _ => .ok d) := by
  cases c <;> simp only [conD, Option.some.injEq, reduceCtorEq] at h
  · subst h; exact PE.imp pe_non fun σ H Q ⟨Hf0, H0, Hf, ρ, env, h⟩ => h.val env.grow.sub .non
  · subst h; exact PE.imp pe_bl fun σ H Q ⟨Hf0, H0, Hf, ρ, env, h⟩ => h.val env.grow.sub (.bl _)
  · subst h; exact PE.imp pe_int fun σ H Q ⟨Hf0, H0, Hf, ρ, env, h⟩ => h.val env.grow.sub (.int _)
  · subst h; exact PE.imp pe_str fun σ H Q ⟨Hf0, H0, Hf, ρ, env, h⟩ => h.val env.grow.sub (.str _)
/-- a constant of the module -/
def FlatV (v : V) (d : D) : Prop := ∀ (K : PySem.W.Frag) (H : Hp), Rp K H v d
theorem e_glob {x : Str} {v : V} {u : Value} {d : D} (hg : Gl X x) (hm : X.mg x = some u) (r : RelV v u) (hv : FlatV v d) (hd : (x == ("__debug__" : Str)) = false) : PE X (.Name x pos) (tE C fun _ => .ok d) :=
  PE.imp (pe_glob hg hm r hd) fun σ H Q ⟨Hf0, H0, Hf, ρ, env, h⟩ => h.val env.grow.sub (hv _ _)
/-! ### not, -x -/
def dNot : D → R D
  | .bool b => .ok (.bool (!b))
  | _ => .bad
def dNeg : D → R D
  | .int i => .ok (.int (-i))
  | _ => .bad
variable {a b : Expr} {fa fb fc : Env → R D}
theorem e_not (ha : PE X a (tP C fa)) : PE X (.UnaryOp .Not a pos) (tE C fun ρ => fa ρ >>= dNot) :=
  PE.imp (pe_not ha) fun σ H Q ⟨Hf0, H0, Hf, ρ, env, h⟩ => ⟨Hf0, H0, Hf, ρ, env, h.bind fun dx vx Hf1 H1 _ g1 r1 h1 => by
    unfold dNot at h1
    split at h1
    · obtain rfl := r1.bool_
      exact ⟨_, rfl, val_bl h1 g1.sub⟩
    · exact h1.elim⟩
theorem e_neg (ha : PE X a (tP C fa)) : PE X (.UnaryOp .USub a pos) (tE C fun ρ => fa ρ >>= dNeg) :=
  PE.imp (pe_un un_neg ha) fun σ H Q ⟨Hf0, H0, Hf, ρ, env, h⟩ => ⟨Hf0, H0, Hf, ρ, env, h.bind fun dx vx Hf1 H1 _ g1 r1 h1 => by
    unfold dNeg at h1
    split at h1
    · obtain rfl := r1.int_
      exact ⟨_, rfl, h1.val g1.sub (.int _)⟩
    · exact h1.elim⟩
/-! ### and, or as values -/
def fAnd (fa fb : Env → R D) : Env → R D := fun ρ => fa ρ >>= fun x => match x with
  | .bool true => fb ρ
  | .bool false => .ok (.bool false)
  | _ => .bad
def fOr (fa fb : Env → R D) : Env → R D := fun ρ => fa ρ >>= fun x => match x with
  | .bool false => fb ρ
  | .bool true => .ok (.bool true)
  | _ => .bad
variable {rest : List Expr}
theorem e_and (ha : PE X a (tP C fa)) (hb : PE X (.BoolOp .And (b :: rest) pos) (tE C fb)) : PE X (.BoolOp .And (a :: b :: rest) pos) (tE C (fAnd fa fb)) :=
  PE.imp (pe_and ha hb) fun σ H Q ⟨Hf0, H0, Hf, ρ, env, h⟩ => ⟨Hf0, H0, Hf, ρ, env, OutG.bind (show OutG C (RelE C) Hf H (fAnd fa fb ρ) Q from h) fun dx vx Hf1 H1 _ g1 r1 h1 => by
    split at h1
    · obtain rfl := r1.bool_
      exact ⟨true, rfl, iteT ⟨Hf0, H0, Hf1, ρ, env.more g1, h1⟩⟩
    · obtain rfl := r1.bool_
      exact ⟨false, rfl, iteF (val_bl h1 g1.sub)⟩
    · exact h1.elim⟩
theorem e_or (ha : PE X a (tP C fa)) (hb : PE X (.BoolOp .Or (b :: rest) pos) (tE C fb)) : PE X (.BoolOp .Or (a :: b :: rest) pos) (tE C (fOr fa fb)) :=
  PE.imp (pe_or ha hb) fun σ H Q ⟨Hf0, H0, Hf, ρ, env, h⟩ => ⟨Hf0, H0, Hf, ρ, env, OutG.bind (show OutG C (RelE C) Hf H (fOr fa fb ρ) Q from h) fun dx vx Hf1 H1 _ g1 r1 h1 => by
    split at h1
    · obtain rfl := r1.bool_
      exact ⟨false, rfl, iteF ⟨Hf0, H0, Hf1, ρ, env.more g1, h1⟩⟩
    · obtain rfl := r1.bool_
      exact ⟨true, rfl, iteT (val_bl h1 g1.sub)⟩
    · exact h1.elim⟩
/-! ### tests -/
def dTru : D → R Bool
  | .bool b => .ok b
  | _ => .bad
def tstAnd (ta tb : Env → R Bool) : Env → R Bool := fun ρ => ta ρ >>= fun x => if x then tb ρ else .ok false
def tstOr (ta tb : Env → R Bool) : Env → R Bool := fun ρ => ta ρ >>= fun x => if x then .ok true else tb ρ
def tstNot (ta : Env → R Bool) : Env → R Bool := fun ρ => ta ρ >>= fun x => .ok (!x)
variable {ta tb : Env → R Bool}
theorem OutG.tru {Hf H : Hp} {b : Bool} {Q : Bool → Hp → Prop} (h : OutG C RelT Hf H (.ok b) Q) (s : Same Hf H) : Q b H := h b Hf H (Grow.refl s) rfl
theorem t_val {e : Expr} (h : PE X e (tP C fa)) (he : ∀ whole, isTrue e X.env whole = (do let v ← whole; standAt e.pos; holding [v] (truthy v))) : PT X e (tT C fun ρ => fa ρ >>= dTru) :=
  PT.imp (pt_val h he) fun σ H Q ⟨Hf0, H0, Hf, ρ, env, h⟩ => ⟨Hf0, H0, Hf, ρ, env, h.bind fun dx vx Hf1 H1 _ g1 r1 h1 => by
    unfold dTru at h1
    split at h1
    · obtain rfl := r1.bool_
      exact ⟨_, rfl, h1.tru g1.sub⟩
    · exact h1.elim⟩
theorem w_and1 (ha : PT X a (tT C ta)) : PW X (.BoolOp .And [a] pos) (tT C ta) := pw_and1 ha
theorem w_or1 (ha : PT X a (tT C ta)) : PW X (.BoolOp .Or [a] pos) (tT C ta) := pw_or1 ha
theorem w_and (ha : PT X a (tT C ta)) (hb : PW X (.BoolOp .And (b :: rest) pos) (tT C tb)) : PW X (.BoolOp .And (a :: b :: rest) pos) (tT C (tstAnd ta tb)) :=
  PW.imp (pw_and ha hb) fun σ H Q ⟨Hf0, H0, Hf, ρ, env, h⟩ => ⟨Hf0, H0, Hf, ρ, env, OutG.bind (show OutG C RelT Hf H (tstAnd ta tb ρ) Q from h) fun x vx Hf1 H1 _ g1 r1 h1 => by
    subst r1
    cases vx with
    | true => exact iteT ⟨Hf0, H0, Hf1, ρ, env.more g1, h1⟩
    | false => exact iteF (OutG.tru (show OutG C RelT Hf1 H1 (.ok false) Q from h1) g1.sub)⟩
theorem w_or (ha : PT X a (tT C ta)) (hb : PW X (.BoolOp .Or (b :: rest) pos) (tT C tb)) : PW X (.BoolOp .Or (a :: b :: rest) pos) (tT C (tstOr ta tb)) :=
  PW.imp (pw_or ha hb) fun σ H Q ⟨Hf0, H0, Hf, ρ, env, h⟩ => ⟨Hf0, H0, Hf, ρ, env, OutG.bind (show OutG C RelT Hf H (tstOr ta tb ρ) Q from h) fun x vx Hf1 H1 _ g1 r1 h1 => by
    subst r1
    cases vx with
    | true => exact iteT (OutG.tru (show OutG C RelT Hf1 H1 (.ok true) Q from h1) g1.sub)
    | false => exact iteF ⟨Hf0, H0, Hf1, ρ, env.more g1, h1⟩⟩
theorem t_not (ha : PT X a (tT C ta)) : PT X (.UnaryOp .Not a pos) (tT C (tstNot ta)) :=
  PT.imp (pt_not ha) fun σ H Q ⟨Hf0, H0, Hf, ρ, env, h⟩ => ⟨Hf0, H0, Hf, ρ, env, OutG.bind (show OutG C RelT Hf H (tstNot ta ρ) Q from h) fun x vx Hf1 H1 _ g1 r1 h1 => by
    subst r1
    exact OutG.tru (show OutG C RelT Hf1 H1 (.ok (!vx)) Q from h1) g1.sub⟩
theorem asBool_out {Hf H : Hp} {r : R Bool} {Q : Bool → Hp → Prop} (h : OutG C RelT Hf H r Q) : OutG C (RelE C) Hf H (asBool r) (fun x H' => ∃ k, x = .bl k ∧ Q k H') := by
  cases r with
  | ok b =>
    intro v Hf3 H3 g3 r3
    cases r3
    exact ⟨b, rfl, h b Hf3 H3 g3 rfl⟩
  | exc c => exact h
  | bad => exact h.elim
theorem out_asBool {Hf H : Hp} {r : R Bool} {Q : VK} (h : OutG C (RelE C) Hf H (asBool r) Q) : OutG C RelT Hf H r (fun k H' => Q (.bl k) H') := by
  cases r with
  | ok b =>
    intro k Hf3 H3 g3 r3
    subst r3
    exact h _ Hf3 H3 g3 (.bl k)
  | exc c => exact h
  | bad => exact h.elim
theorem bool_out {Hf H : Hp} {r : R Bool} {Q : VK} (h : OutG C RelT Hf H r (fun k H' => Q (.bl k) H')) : OutG C (RelE C) Hf H (asBool r) Q := by
  cases r with
  | ok b =>
    intro v Hf3 H3 g3 r3
    cases r3
    exact h b Hf3 H3 g3 rfl
  | exc c => exact h
  | bad => exact h.elim
theorem t_cmp {op : CmpOp} {F : D → D → R Bool} (ho : OpR X (compareOp op) (rD2 C fun x y => asBool (F x y))) (ha : PE X a (tP C fa)) (hb : PE X b (tP C fb)) (hm : behindInMarks op b = false) :
    PT X (.Compare a [op] [b] pos) (tT C fun ρ => fa ρ >>= fun x => fb ρ >>= fun y => F x y) :=
  PT.imp (pt_cmpR ho ha hb hm) fun σ H Q ⟨Hf0, H0, Hf, ρ, env, h⟩ => ⟨Hf0, H0, Hf, ρ, env, h.bind fun dx vx Hf1 H1 _ g1 r1 h1 =>
    ⟨Hf0, H0, Hf1, ρ, env.more g1, h1.bind fun dy vy Hf2 H2 _ g2 r2 h2 => ⟨Hf2, dx, dy, g2.sub, r1.grow g2, r2, asBool_out h2⟩⟩⟩
/-! ### a < b < c -/
def fChain (F G : D → D → R Bool) (fa fb fc : Env → R D) : Env → R Bool := fun ρ => fa ρ >>= fun x => fb ρ >>= fun y => F x y >>= fun k => if k then fc ρ >>= fun z => G y z else .ok false
variable {c : Expr} {op op' : CmpOp} {F G : D → D → R Bool}
theorem chain_in (ho : OpR X (compareOp op) (rD2 C fun x y => asBool (F x y))) (ho' : OpR X (compareOp op') (rD2 C fun x y => asBool (G x y))) {σ : L2.St} {H : Hp} {Q : VK}
    (h : tE C (fun ρ => asBool (fChain F G fa fb fc ρ)) σ H Q) : tChain (rD2 C fun x y => asBool (F x y)) (rD2 C fun x y => asBool (G x y)) (tP C fa) (tP C fb) (tP C fc) σ H Q := by
  obtain ⟨Hf0, H0, Hf, ρ, env, h⟩ := h
  have h := out_asBool h
  refine ⟨Hf0, H0, Hf, ρ, env, OutG.bind (show OutG C RelT Hf H (fChain F G fa fb fc ρ) _ from h) fun dx vx Hf1 H1 _ g1 r1 h1 => ⟨Hf0, H0, Hf1, ρ, env.more g1, h1.bind fun dy vy Hf2 H2 _ g2 r2 h2 => ⟨Hf2, dx, dy, g2.sub, r1.grow g2, r2, ?_⟩⟩⟩
  refine asBool_out (Q := fun k H' => if k = true then _ else _) (OutG.bind (Rel1 := RelT) h2 fun k k' Hf3 H3 _ g3 r3 h3 => ?_)
  subst r3
  cases k' with
  | true =>
    refine iteT ⟨Hf0, H0, Hf3, ρ, ((env.more g1).more g2).more g3, OutG.bind (k := fun z => G dy z) (show OutG C RelT Hf3 H3 (fc ρ >>= fun z => G dy z) _ from h3) fun dz vz Hf4 H4 _ g4 r4 h4 => ⟨Hf4, dy, dz, g4.sub, (r2.grow g3).grow g4, r4, bool_out h4⟩⟩
  | false => exact iteF (OutG.tru (show OutG C RelT Hf3 H3 (.ok false) _ from h3) g3.sub)
theorem e_chain (ho : OpR X (compareOp op) (rD2 C fun x y => asBool (F x y))) (ho' : OpR X (compareOp op') (rD2 C fun x y => asBool (G x y))) (ha : PE X a (tP C fa)) (hb : PE X b (tP C fb)) (hc : PE X c (tP C fc)) (hm : lastMarks [op, op'] [b, c] = false) :
    PE X (.Compare a [op, op'] [b, c] pos) (tE C fun ρ => asBool (fChain F G fa fb fc ρ)) := PE.imp (pe_chain ho ho' ha hb hc hm) fun σ H Q h => chain_in ho ho' h
theorem t_chain (ho : OpR X (compareOp op) (rD2 C fun x y => asBool (F x y))) (ho' : OpR X (compareOp op') (rD2 C fun x y => asBool (G x y))) (ha : PE X a (tP C fa)) (hb : PE X b (tP C fb)) (hc : PE X c (tP C fc)) (hm : lastMarks [op, op'] [b, c] = false) :
    PT X (.Compare a [op, op'] [b, c] pos) (tT C (fChain F G fa fb fc)) := PT.imp (pt_chain ho ho' ha hb hc hm) fun σ H Q ⟨Hf0, H0, Hf, ρ, env, h⟩ => chain_in ho ho' ⟨Hf0, H0, Hf, ρ, env, asBool_out h⟩
/-! a < b < c < d -/
def fChain3 (F G G2 : D → D → R Bool) (fa fb fc fd : Env → R D) : Env → R Bool := fun ρ => fa ρ >>= fun x => fb ρ >>= fun y => F x y >>= fun k => if k then fc ρ >>= fun z => G y z >>= fun k2 => if k2 then fd ρ >>= fun u => G2 z u else .ok false else .ok false
variable {d : Expr} {op2 : CmpOp} {G2 : D → D → R Bool} {fd : Env → R D}
theorem e_chain3 (ho : OpR X (compareOp op) (rD2 C fun x y => asBool (F x y))) (ho' : OpR X (compareOp op') (rD2 C fun x y => asBool (G x y))) (ho2 : OpR X (compareOp op2) (rD2 C fun x y => asBool (G2 x y))) (ha : PE X a (tP C fa)) (hb : PE X b (tP C fb)) (hc : PE X c (tP C fc)) (hd : PE X d (tP C fd))
    (hm : lastMarks [op, op', op2] [b, c, d] = false) : PE X (.Compare a [op, op', op2] [b, c, d] pos) (tE C fun ρ => asBool (fChain3 F G G2 fa fb fc fd ρ)) := by
  refine PE.imp (pe_chain3 ho ho' ho2 ha hb hc hd hm) fun σ H Q h => ?_
  obtain ⟨Hf0, H0, Hf, ρ, env, h⟩ := h
  have h := out_asBool h
  refine ⟨Hf0, H0, Hf, ρ, env, OutG.bind (show OutG C RelT Hf H (fChain3 F G G2 fa fb fc fd ρ) _ from h) fun dx vx Hf1 H1 _ g1 r1 h1 => ⟨Hf0, H0, Hf1, ρ, env.more g1, h1.bind fun dy vy Hf2 H2 _ g2 r2 h2 => ⟨Hf2, dx, dy, g2.sub, r1.grow g2, r2, ?_⟩⟩⟩
  refine asBool_out (Q := fun k H' => if k = true then _ else _) (OutG.bind (Rel1 := RelT) h2 fun k k' Hf3 H3 _ g3 r3 h3 => ?_)
  subst r3
  have e3 := ((env.more g1).more g2).more g3
  cases k' with
  | false => exact iteF (OutG.tru (show OutG C RelT Hf3 H3 (.ok false) _ from h3) g3.sub)
  | true =>
    refine iteT ⟨Hf0, H0, Hf3, ρ, e3, OutG.bind (k := fun z => G dy z >>= fun k2 => if k2 then fd ρ >>= fun u => G2 z u else .ok false) (show OutG C RelT Hf3 H3 (fc ρ >>= fun z => G dy z >>= fun k2 => if k2 then fd ρ >>= fun u => G2 z u else .ok false) _ from h3) fun dz vz Hf4 H4 _ g4 r4 h4 => ⟨Hf4, dy, dz, g4.sub, (r2.grow g3).grow g4, r4, ?_⟩⟩
    refine asBool_out (Q := fun k H' => if k = true then _ else _) (OutG.bind (Rel1 := RelT) h4 fun k k' Hf5 H5 _ g5 r5 h5 => ?_)
    subst r5
    cases k' with
    | false => exact iteF (OutG.tru (show OutG C RelT Hf5 H5 (.ok false) _ from h5) g5.sub)
    | true =>
      exact iteT ⟨Hf0, H0, Hf5, ρ, (e3.more g4).more g5, OutG.bind (k := fun u => G2 dz u) (show OutG C RelT Hf5 H5 (fd ρ >>= fun u => G2 dz u) _ from h5) fun du vu Hf6 H6 _ g6 r6 h6 => ⟨Hf6, dz, du, g6.sub, (r4.grow g5).grow g6, r6, bool_out h6⟩⟩
/-! ### a if t else b -/
def fIf (t : Env → R Bool) (fa fb : Env → R D) : Env → R D := fun ρ => t ρ >>= fun k => if k then fa ρ else fb ρ
theorem e_if (hc : PT X c (tT C ta)) (ha : PE X a (tE C fa)) (hb : PE X b (tE C fb)) : PE X (.IfExp c a b pos) (tE C (fIf ta fa fb)) :=
  PE.imp (pe_ifExp hc ha hb) fun σ H Q ⟨Hf0, H0, Hf, ρ, env, h⟩ => ⟨Hf0, H0, Hf, ρ, env, OutG.bind (show OutG C (RelE C) Hf H (fIf ta fa fb ρ) Q from h) fun x vx Hf1 H1 _ g1 r1 h1 => by
    subst r1
    cases vx with
    | true => exact iteT ⟨Hf0, H0, Hf1, ρ, env.more g1, h1⟩
    | false => exact iteF ⟨Hf0, H0, Hf1, ρ, env.more g1, h1⟩⟩
/-! ### argument lists -/
inductive Rp1L (K : PySem.W.Frag) (Hf H : Hp) : List V → List D → Prop
  | nil : Rp1L K Hf H [] []
  | cons {v : V} {vs : List V} {d : D} {ds : List D} : Rp1 K Hf H v d → Rp1L K Hf H vs ds → Rp1L K Hf H (v :: vs) (d :: ds)
abbrev RelPA (C : Pm) : Hp → Hp → List V → List D → Prop := fun Hf H vs ds => Rp1L C.K Hf H vs ds
abbrev tPA (C : Pm) (f : Env → R (List D)) : TA := tG C (RelPA C) f
def fCons (fa : Env → R D) (fr : Env → R (List D)) : Env → R (List D) := fun ρ => fa ρ >>= fun x => fr ρ >>= fun xs => .ok (x :: xs)
def isStar : Expr → Bool
  | .Starred .. => true
  | _ => false
theorem star_cons {e : Expr} {es : List Expr} {env : PySem.Env} (h : isStar e = false) : starEach (e :: es) env = (false, eval e env) :: starEach es env := by
  cases e <;> first | rfl | simp [isStar] at h
variable {e : Expr} {es : List Expr} {fr : Env → R (List D)}
theorem a_nil : PA X [] (tA C fun _ => .ok []) := PA.imp pa_nil fun σ H Q ⟨Hf0, H0, Hf, ρ, env, h⟩ => h _ Hf H (Grow.refl env.grow.sub) .nil
theorem a_nilP : PA X [] (tPA C fun _ => .ok []) := PA.imp pa_nil fun σ H Q ⟨Hf0, H0, Hf, ρ, env, h⟩ => h _ Hf H (Grow.refl env.grow.sub) .nil
theorem a_cons (hs : isStar e = false) (ha : PE X e (tE C fa)) (hr : PA X es (tA C fr)) : PA X (e :: es) (tA C (fCons fa fr)) :=
  PA.imp (pa_cons ha hr (star_cons hs)) fun σ H Q ⟨Hf0, H0, Hf, ρ, env, h⟩ => ⟨Hf0, H0, Hf, ρ, env, OutG.bind (show OutG C (RelA C) Hf H (fCons fa fr ρ) Q from h) fun dx vx Hf1 H1 _ g1 r1 h1 =>
    ⟨Hf0, H0, Hf1, ρ, env.more g1, h1.bind fun ds vs Hf2 H2 _ g2 r2 h2 => h2 _ Hf2 H2 (Grow.refl g2.sub) (.cons (r1.mono g2.f) r2)⟩⟩
theorem a_consP (hs : isStar e = false) (ha : PE X e (tP C fa)) (hr : PA X es (tPA C fr)) : PA X (e :: es) (tPA C (fCons fa fr)) :=
  PA.imp (pa_cons ha hr (star_cons hs)) fun σ H Q ⟨Hf0, H0, Hf, ρ, env, h⟩ => ⟨Hf0, H0, Hf, ρ, env, OutG.bind (show OutG C (RelPA C) Hf H (fCons fa fr ρ) Q from h) fun dx vx Hf1 H1 _ g1 r1 h1 =>
    ⟨Hf0, H0, Hf1, ρ, env.more g1, h1.bind fun ds vs Hf2 H2 _ g2 r2 h2 => h2 _ Hf2 H2 (Grow.refl g2.sub) (.cons (r1.grow g2) r2)⟩⟩
/-! ### displays; a fresh object of one's own -/
abbrev RelF (C : Pm) (Hp0 : Hp) : Hp → Hp → V → D → Prop := fun Hf H v d => ∃ a, v = .ref a ∧ Hp0 a = none ∧ OwnAt C.K Hf H a d
def tF (C : Pm) (f : Env → R D) : TE := fun σ H Q => ∃ (Hf0 H0 Hf : Hp) (ρ : Env), EnvR C.K Hf0 H0 Hf H σ ρ ∧ OutG C (RelF C H) Hf H (f ρ) Q
/-- it is given away -/
theorem OwnAt.give {K : PySem.W.Frag} {Hf H Hf' H' : Hp} {a : Addr} {d : D} (g : Grow Hf H Hf' H') (na : H a = none) (h : OwnAt K Hf' H' a d) : ∃ Hf2, Grow Hf H Hf2 H' ∧ Rp K Hf2 (.ref a) d := by
  have mk : ∀ o, Hf' a = none → H' a = some o → Grow Hf H (upd Hf' a o) H' := fun o h1 h2 => by
    refine ⟨g.f.trans (same_upd h1), g.h, fun b x e => ?_, fun b x e => ?_⟩
    · by_cases q : b = a
      · subst q; exact .inr na
      · rw [upd_ne q] at e; exact g.new b x e
    · by_cases q : b = a
      · subst q; rw [upd_same] at e; cases e; exact h2
      · rw [upd_ne q] at e; exact g.sub b x e
  cases d with
  | list ds =>
    obtain ⟨xs, h1, h2, h3, h4⟩ := h
    exact ⟨_, mk _ h1 h2, .newL h1 h3 h4⟩
  | dict kds =>
    obtain ⟨xs, h1, h2, h3, h4⟩ := h
    exact ⟨_, mk _ h1 h2, .dic upd_same h3 (h4.mono (same_upd h1))⟩
  | _ => exact h.elim
theorem e_fresh {f : Env → R D} (h : PE X e (tF C f)) : PE X e (tE C f) := PE.imp h fun σ H Q ⟨Hf0, H0, Hf, ρ, env, h⟩ => ⟨Hf0, H0, Hf, ρ, env, by
  cases e1 : f ρ with
  | ok d =>
    rw [e1] at h
    rintro v Hf' H' g ⟨a, rfl, na, o⟩
    obtain ⟨Hf2, g2, r⟩ := o.give g na
    exact h _ Hf2 H' g2 r
  | exc c => rw [e1] at h; exact h
  | bad => rw [e1] at h; exact h.elim⟩
def okLen (ds : List D) (f : List D → D) : R D := if ds.length ≤ 1000 then .ok (f ds) else .bad
theorem le_line {n : Nat} (h : n ≤ 1000) : n ≤ sizeLine := by rw [sizeLine_eq]; omega
theorem e_tup {k : Nat} (h : PA X es (tA C fr)) : PE X (.Tuple es k pos) (tE C fun ρ => fr ρ >>= fun ds => okLen ds .tuple) :=
  PE.imp (pe_tup h) fun σ H Q ⟨Hf0, H0, Hf, ρ, env, h⟩ => ⟨Hf0, H0, Hf, ρ, env, h.bind fun ds vs Hf1 H1 _ g1 r1 h1 => by
    unfold okLen at h1
    split at h1
    · rename_i hl
      have e := r1.length
      exact ⟨le_line (by omega), fun p np => h1.made g1.sub np (.newT (Same.free g1.sub np) (le_line (by omega)) r1)⟩
    · exact h1.elim⟩
theorem f_lst (h : PA X es (tA C fr)) : PE X (.List es pos) (tF C fun ρ => fr ρ >>= fun ds => okLen ds .list) :=
  PE.imp (pe_lst h) fun σ H Q ⟨Hf0, H0, Hf, ρ, env, h⟩ => ⟨Hf0, H0, Hf, ρ, env, h.bind fun ds vs Hf1 H1 _ g1 r1 h1 => by
    unfold okLen at h1
    split at h1
    · rename_i hl
      have e := r1.length
      refine ⟨le_line (by omega), fun p np => h1 _ Hf1 _ (Grow.side g1.sub np) ⟨p, rfl, Same.free g1.h np, ?_⟩⟩
      exact ⟨vs, Same.free g1.sub np, upd_same, le_line (by omega), r1⟩
    · exact h1.elim⟩
end
end DL
/-! The data layer: subscripts, slices, calls. -/
namespace DL
open PySem PySem.Spec PyProof.Rows L2
/-! ### subscripts -/
theorem RpL.atI {K : PySem.W.Frag} {H : Hp} {xs : List V} {ds : List D} {i : Int} {d : D} (r : RpL K H xs ds) (h : L2.atI ds i = some d) : ∃ v, L2.atI xs i = some v ∧ Rp K H v d := by
  unfold L2.atI at h ⊢
  rw [r.length]
  cases e : ixN ds.length i with
  | none => rw [e] at h; cases h
  | some j =>
    rw [e] at h
    exact r.get h
def dIx (x y : D) : R D := match x, y with
  | .list ds, .int i => (match L2.atI ds i with | some d => .ok d | none => .bad)
  | .tuple ds, .int i => (match L2.atI ds i with | some d => .ok d | none => .bad)
  | .str z, .int i => if z.length ≤ sizeLine then (match L2.atI z.cps.toList i with | some c => .ok (.str ⟨#[c]⟩) | none => .bad) else .bad
  | .dict [(.none, .list ds)], .int i => (match L2.atI ds i with | some d => .ok d | none => .bad)
  | _, _ => .bad
theorem plainIx_of : ∀ {b : Expr}, (match b with | .Slice .. => false | _ => true) = true → PlainIx b := by
  intro b h o i
  cases b <;> first | rfl | simp at h
section
variable {X : Cx} {C : Pm} {pos p : Pos} {a b e : Expr} {es : List Expr} {fa fb : Env → R D} {fr : Env → R (List D)}
theorem ix_any (hK : C.K = X.K) : IxR X (rD2 C dIx) := by
  intro value slice pins s σ H x y v u Q I rx ry ⟨Hf, dx, dy, sf, hx, hy, h⟩ hs
  unfold dIx at h
  split at h
  · obtain ⟨a, xs, rfl, ha, za, ra⟩ := hx.list_ sf
    obtain rfl := hy.int_
    split at h
    · rename_i d e1
      obtain ⟨w, h1, h2⟩ := ra.atI e1
      exact ix_list value slice pins s σ H _ _ v u Q I rx ry ⟨a, xs, _, w, rfl, rfl, SqL.of ha, h1, h.val sf h2⟩ hs
    · exact h.elim
  · obtain ⟨a, xs, rfl, fa, ha, za, ra⟩ := hx.tuple_ sf
    obtain rfl := hy.int_
    split at h
    · rename_i d e1
      obtain ⟨w, h1, h2⟩ := ra.atI e1
      exact ix_tup value slice pins s σ H _ _ v u Q I rx ry ⟨a, xs, _, w, rfl, rfl, SqT.of ha, h1, h.val sf h2⟩ hs
    · exact h.elim
  · split at h
    · rename_i hz
      obtain rfl := hx.str_
      obtain rfl := hy.int_
      split at h
      · rename_i c e1
        exact ix_str value slice pins s σ H _ _ v u Q I rx ry ⟨_, _, c, rfl, rfl, hz, e1, h.val sf (.str _)⟩ hs
      · exact h.elim
    · exact h.elim
  · obtain ⟨a, ns, rfl, rfl, hq, hl⟩ := hx.scr_ sf
    obtain rfl := hy.int_
    split at h
    · rename_i d e1
      obtain ⟨w, h1, h2⟩ := (rpL_ints (K := C.K) (H := Hf) ns).atI e1
      exact ix_list value slice pins s σ H _ _ v u Q I rx ry ⟨a, _, _, w, rfl, rfl, by rw [← hK]; exact hq, h1, h.val sf h2⟩ hs
    · exact h.elim
  · exact h.elim
theorem e_ix (hK : C.K = X.K) (ha : PE X a (tP C fa)) (hb : PE X b (tP C fb)) (hs : PlainIx b) : PE X (.Subscript a b pos) (tE C fun ρ => fa ρ >>= fun x => fb ρ >>= fun y => dIx x y) :=
  PE.imp (pe_ix (ix_any hK) ha hb hs) fun σ H Q ⟨Hf0, H0, Hf, ρ, env, h⟩ => ⟨Hf0, H0, Hf, ρ, env, h.bind fun dx vx Hf1 H1 _ g1 r1 h1 =>
    ⟨Hf0, H0, Hf1, ρ, env.more g1, h1.bind fun dy vy Hf2 H2 _ g2 r2 h2 => ⟨Hf2, dx, dy, g2.sub, r1.grow g2, r2, h2⟩⟩⟩
/-! ### slices -/
def cutD {α : Type} (xs : List α) (lo hi : Option Int) : List α := (xs.drop (HT.sIx xs.length 0 lo)).take (HT.sIx xs.length xs.length hi - HT.sIx xs.length 0 lo)
theorem RpL.cut {K : PySem.W.Frag} {H : Hp} {xs : List V} {ds : List D} {lo hi : Option Int} (r : RpL K H xs ds) : RpL K H (cutV xs lo hi) (cutD ds lo hi) := by
  unfold cutV cutD
  rw [r.length]
  exact (r.drop _).take _
def dSl (x : D) (lo hi : Option Int) : R D := match x with
  | .list ds => .ok (.list (cutD ds lo hi))
  | .tuple ds => .ok (.tuple (cutD ds lo hi))
  | .str z => if z.length ≤ sizeLine then .ok (.str (cutS z lo hi)) else .bad
  | _ => .bad
def dPart : D → R (Option Int)
  | .int i => .ok (some i)
  | _ => .bad
abbrev RelO : Hp → Hp → Option Int → Option Int → Prop := fun _ _ a b => a = b
abbrev tO (C : Pm) (f : Env → R (Option Int)) : TO := tG C RelO f
theorem PO.imp {o : Option Expr} {t u : TO} (h : PO X o t) (q : ∀ σ H Q, u σ H Q → t σ H Q) : PO X o u := ⟨fun pins s σ H Q I hu => h.run pins s σ H Q I (q σ H Q hu)⟩
theorem o_none : PO X none (tO C fun _ => .ok none) := PO.imp po_none fun σ H Q ⟨Hf0, H0, Hf, ρ, env, h⟩ => h none Hf H (Grow.refl env.grow.sub) rfl
theorem o_some (ha : PE X a (tP C fa)) : PO X (some a) (tO C fun ρ => fa ρ >>= dPart) := PO.imp (po_some ha) fun σ H Q ⟨Hf0, H0, Hf, ρ, env, h⟩ => ⟨Hf0, H0, Hf, ρ, env, h.bind fun dx vx Hf1 H1 _ g1 r1 h1 => by
  unfold dPart at h1
  split at h1
  · obtain rfl := r1.int_
    exact ⟨_, rfl, h1 _ Hf1 H1 (Grow.refl g1.sub) rfl⟩
  · exact h1.elim⟩
theorem cutV_whole {xs : List V} {lo hi : Option Int} (h : HT.sIx xs.length 0 lo = 0 ∧ HT.sIx xs.length xs.length hi = xs.length) : cutV xs lo hi = xs := by
  unfold cutV
  rw [h.1, h.2]
  simp
theorem sl_any (hK : C.K = X.K) : SlR X (fun x lo hi H Q => ∃ (Hf : Hp) (d : D), Same Hf H ∧ Rp1 C.K Hf H x d ∧ OutG C (RelE C) Hf H (dSl d lo hi) Q) := by
  intro pins s σ H x v vl vu lo hi sl Q I rx hs pl pu ⟨Hf, d, sf, hx, h⟩
  unfold dSl at h
  split at h
  · obtain ⟨a, xs, rfl, ha, za, ra⟩ := hx.list_ sf
    refine sl_list pins s σ H _ v vl vu lo hi sl Q I rx hs pl pu ⟨a, xs, rfl, SqL.of ha, fun p np => ?_⟩
    exact h.made sf np (.newL (Same.free sf np) (Nat.le_trans (cutV_length xs lo hi) za) ra.cut)
  · obtain ⟨a, xs, rfl, fa, ha, za, ra⟩ := hx.tuple_ sf
    refine sl_tupA pins s σ H _ v vl vu lo hi sl Q I rx hs pl pu ⟨a, xs, rfl, SqT.of ha, fun w => ?_, fun _ p np => ?_⟩
    · refine h.val sf (.tup fa za ?_)
      have := ra.cut (lo := lo) (hi := hi)
      rw [cutV_whole w] at this
      exact this
    · exact h.made sf np (.newT (Same.free sf np) (Nat.le_trans (cutV_length xs lo hi) za) ra.cut)
  · split at h
    · rename_i hz
      obtain rfl := hx.str_
      exact sl_str pins s σ H _ v vl vu lo hi sl Q I rx hs pl pu ⟨_, rfl, hz, h.val sf (.str _)⟩
    · exact h.elim
  · exact h.elim
theorem e_sl {lo hi : Option Expr} {fl fh : Env → R (Option Int)} {p2 : Pos} (hK : C.K = X.K) (ha : PE X a (tP C fa)) (hl : PO X lo (tO C fl)) (hh : PO X hi (tO C fh)) :
    PE X (.Subscript a (.Slice lo hi none p2) pos) (tE C fun ρ => fa ρ >>= fun x => fl ρ >>= fun l => fh ρ >>= fun u => dSl x l u) :=
  PE.imp (pe_slice (sl_any hK) ha hl hh) fun σ H Q ⟨Hf0, H0, Hf, ρ, env, h⟩ => ⟨Hf0, H0, Hf, ρ, env, h.bind fun dx vx Hf1 H1 _ g1 r1 h1 =>
    ⟨Hf0, H0, Hf1, ρ, env.more g1, h1.bind fun l vl Hf2 H2 _ g2 r2 h2 => ⟨Hf0, H0, Hf2, ρ, (env.more g1).more g2, h2.bind fun u vu Hf3 H3 _ g3 r3 h3 => by
      subst r2 r3
      exact ⟨Hf3, dx, g3.sub, (r1.grow g2).grow g3, h3⟩⟩⟩⟩
/-- xs[::-1] of a list, t[a::-1] of a tuple -/
theorem RpL.down {K : PySem.W.Frag} {H : Hp} {xs : List V} {ds : List D} {lo : Option Int} (r : RpL K H xs ds) : RpL K H (downFrom xs lo) (downFrom ds lo) := by
  unfold downFrom
  rw [r.length]
  generalize List.range _ = ks
  induction ks with
  | nil => exact .nil
  | cons k ks ih =>
    rw [List.filterMap_cons, List.filterMap_cons]
    cases q : ds[((Builtin.Slice.sliceAdjust lo none (-1) ds.length).1 + (k : Int) * (-1)).toNat]? with
    | none =>
      have q2 : xs[((Builtin.Slice.sliceAdjust lo none (-1) ds.length).1 + (k : Int) * (-1)).toNat]? = none := by
        rw [List.getElem?_eq_none_iff] at q ⊢
        rw [r.length]
        exact q
      rw [q2]; exact ih
    | some x =>
      obtain ⟨u, h1, h2⟩ := r.get q
      rw [h1]
      exact .cons h2 ih
def dRev (x : D) (lo : Option Int) : R D := match x, lo with
  | .list ds, none => .ok (.list ds.reverse)
  | .tuple ds, lo => .ok (.tuple (downFrom ds lo))
  | _, _ => .bad
theorem PE.or {t u : TE} (h : PE X e t) (h' : PE X e u) : PE X e (fun σ H Q => t σ H Q ∨ u σ H Q) := ⟨fun pins s σ H R I hw => hw.elim (h.run pins s σ H R I) (h'.run pins s σ H R I)⟩
theorem down_in {lo : Option Expr} {fl : Env → R (Option Int)} (hK : C.K = X.K) {σ : L2.St} {H : Hp} {Q : VK} {Hf0 H0 Hf : Hp} {ρ : Env} (env : EnvR C.K Hf0 H0 Hf H σ ρ) {ds : List D} (e1 : fa ρ = .ok (.tuple ds)) (h : OutG C (RelE C) Hf H (fa ρ >>= fun x => fl ρ >>= fun l => dRev x l) Q) :
    tDownT X.K (tP C fa) (tO C fl) σ H Q :=
  ⟨Hf0, H0, Hf, ρ, env, h.bind fun dx vx Hf1 H1 ex g1 r1 h1 => ⟨Hf0, H0, Hf1, ρ, env.more g1, h1.bind fun l vl Hf2 H2 _ g2 r2 h2 => by
    subst r2
    rw [e1] at ex
    cases ex
    obtain ⟨a, xs, rfl, fa, ha, za, ra⟩ := (r1.grow g2).tuple_ g2.sub
    have dl := downFrom_len xs vl
    refine ⟨a, xs, rfl, SqT.of ha, fun p np => ?_⟩
    cases vl with
    | none => exact OutG.made (show OutG C (RelE C) Hf2 H2 (.ok (.tuple (downFrom ds none))) Q from h2) g2.sub np (.newT (Same.free g2.sub np) (by omega) ra.down)
    | some z => exact OutG.made (show OutG C (RelE C) Hf2 H2 (.ok (.tuple (downFrom ds (some z)))) Q from h2) g2.sub np (.newT (Same.free g2.sub np) (by omega) ra.down)⟩⟩
theorem e_rev0 {k : Nat} {p1 p2 p3 : Pos} (hK : C.K = X.K) (ha : PE X a (tP C fa)) : PE X (.Subscript a (.Slice none none (some (.UnaryOp .USub (.Constant (.int 1) k p1) p2)) p3) pos) (tE C fun ρ => fa ρ >>= fun x => (R.ok none : R (Option Int)) >>= fun l => dRev x l) := by
  refine PE.imp (PE.or (pe_revL ha) (pe_downT ha (o_none (C := C)))) fun σ H Q ⟨Hf0, H0, Hf, ρ, env, h⟩ => ?_
  have h : OutG C (RelE C) Hf H (fa ρ >>= fun x => (R.ok none : R (Option Int)) >>= fun l => dRev x l) Q := h
  cases e1 : fa ρ with
  | bad => rw [e1] at h; exact h.elim
  | exc c => rw [e1] at h; exact .inl ⟨Hf0, H0, Hf, ρ, env, by rw [e1]; exact h⟩
  | ok d =>
    cases d with
    | tuple ds => exact .inr (down_in (lo := none) (fl := fun _ => .ok none) hK env e1 h)
    | list ds =>
      refine .inl ⟨Hf0, H0, Hf, ρ, env, h.bind fun dx vx Hf1 H1 ex g1 r1 h1 => ?_⟩
      rw [e1] at ex
      cases ex
      obtain ⟨a, xs, rfl, ha, za, ra⟩ := r1.list_ g1.sub
      exact ⟨a, xs, rfl, SqL.of ha, fun p np => OutG.made (show OutG C (RelE C) Hf1 H1 (.ok (.list ds.reverse)) Q from h1) g1.sub np (.newL (Same.free g1.sub np) (by rw [List.length_reverse]; exact za) ra.rev)⟩
    | _ => rw [e1] at h; exact h.elim
theorem e_rev1 {lo : Expr} {fl : Env → R (Option Int)} {k : Nat} {p1 p2 p3 : Pos} (hK : C.K = X.K) (ha : PE X a (tP C fa)) (hl : PO X (some lo) (tO C fl)) :
    PE X (.Subscript a (.Slice (some lo) none (some (.UnaryOp .USub (.Constant (.int 1) k p1) p2)) p3) pos) (tE C fun ρ => fa ρ >>= fun x => match x with | .tuple _ => fl ρ >>= fun l => dRev x l | _ => .bad) := by
  refine PE.imp (pe_downT ha hl) fun σ H Q ⟨Hf0, H0, Hf, ρ, env, h⟩ => ?_
  have h : OutG C (RelE C) Hf H (fa ρ >>= fun x => match x with | .tuple _ => fl ρ >>= fun l => dRev x l | _ => .bad) Q := h
  cases e1 : fa ρ with
  | bad => rw [e1] at h; exact h.elim
  | exc c => rw [e1] at h; exact ⟨Hf0, H0, Hf, ρ, env, by rw [e1]; exact h⟩
  | ok d =>
    cases d with
    | tuple ds => exact down_in (lo := some lo) hK env e1 (by rw [e1] at h ⊢; exact h)
    | _ => rw [e1] at h; exact h.elim
/-! ### calls of built-ins -/
def rDN (C : Pm) (F : List D → R D) : List V → Hp → VK → Prop := fun vs H Q => ∃ (Hf : Hp) (ds : List D), Same Hf H ∧ Rp1L C.K Hf H vs ds ∧ OutG C (RelE C) Hf H (F ds) Q
def rDNF (C : Pm) (F : List D → R D) : List V → Hp → VK → Prop := fun vs H Q => ∃ (Hf : Hp) (ds : List D), Same Hf H ∧ Rp1L C.K Hf H vs ds ∧ OutG C (RelF C H) Hf H (F ds) Q
theorem noStar_any {es : List Expr} {env : PySem.Env} {pos : Pos} (h : es.all (fun e => !isStar e) = true) : (backTo pos (starEach es env)).any (·.1) = false := by
  induction es with
  | nil => rfl
  | cons e es ih =>
    simp only [List.all_cons, Bool.and_eq_true, Bool.not_eq_true'] at h
    rw [star_cons h.1]
    have e1 := ih h.2
    show ((false, _) :: backTo pos (starEach es env)).any (·.1) = false
    rw [List.any_cons, e1]
    rfl
variable {x : Str} {id T : String} {F : List D → R D}
theorem e_callB (hc : CallR X (.builtin id) (rDN C F)) (hg : Gl X x) (hm : X.mg x = none) (hv : bootBuiltins x = some (.builtin id)) (ha : PA X (e :: es) (tPA C fr)) (hs : (e :: es).all (fun e => !isStar e) = true) (hn : x ≠ "__name__") (hdb : (x == ("__debug__" : Str)) = false) :
    PE X (.Call (.Name x p) (e :: es) [] pos) (tE C fun ρ => fr ρ >>= F) := by
  have hs' := hs
  simp only [List.all_cons, Bool.and_eq_true, Bool.not_eq_true'] at hs'
  exact PE.imp (pe_callB hc hg hm hv ha hn hdb (star_cons hs'.1) (noStar_any (by simpa using hs'.2))) fun σ H Q ⟨Hf0, H0, Hf, ρ, env, h⟩ => ⟨Hf0, H0, Hf, ρ, env, h.bind fun ds vs Hf1 H1 _ g1 r1 h1 => ⟨Hf1, ds, g1.sub, r1, h1⟩⟩
theorem e_callTy (hc : CallR X (.type T) (rDN C F)) (hg : Gl X x) (hm : X.mg x = none) (hv : bootBuiltins x = some (.type T)) (ha : PA X (e :: es) (tPA C fr)) (hs : (e :: es).all (fun e => !isStar e) = true) (hn : x ≠ "__name__") (hdb : (x == ("__debug__" : Str)) = false) :
    PE X (.Call (.Name x p) (e :: es) [] pos) (tE C fun ρ => fr ρ >>= F) := by
  have hs' := hs
  simp only [List.all_cons, Bool.and_eq_true, Bool.not_eq_true'] at hs'
  exact PE.imp (pe_callTy hc hg hm hv ha hn hdb (star_cons hs'.1) (noStar_any (by simpa using hs'.2))) fun σ H Q ⟨Hf0, H0, Hf, ρ, env, h⟩ => ⟨Hf0, H0, Hf, ρ, env, h.bind fun ds vs Hf1 H1 _ g1 r1 h1 => ⟨Hf1, ds, g1.sub, r1, h1⟩⟩
theorem relF_of {Hf H Hf1 H1 : Hp} {d : D} {Q : VK} {r : R D} (g : Grow Hf H Hf1 H1) (h : OutG C (RelF C H) Hf1 H1 r Q) : OutG C (RelF C H1) Hf1 H1 r Q := by
  cases r with
  | ok d =>
    rintro v Hf2 H2 g2 ⟨a, e1, na, o⟩
    exact h v Hf2 H2 g2 ⟨a, e1, Same.free g.h na, o⟩
  | exc c => exact h
  | bad => exact h.elim
theorem f_callB (hc : CallR X (.builtin id) (rDNF C F)) (hg : Gl X x) (hm : X.mg x = none) (hv : bootBuiltins x = some (.builtin id)) (ha : PA X (e :: es) (tPA C fr)) (hs : (e :: es).all (fun e => !isStar e) = true) (hn : x ≠ "__name__") (hdb : (x == ("__debug__" : Str)) = false) :
    PE X (.Call (.Name x p) (e :: es) [] pos) (tF C fun ρ => fr ρ >>= F) := by
  have hs' := hs
  simp only [List.all_cons, Bool.and_eq_true, Bool.not_eq_true'] at hs'
  exact PE.imp (pe_callB hc hg hm hv ha hn hdb (star_cons hs'.1) (noStar_any (by simpa using hs'.2))) fun σ H Q ⟨Hf0, H0, Hf, ρ, env, h⟩ => ⟨Hf0, H0, Hf, ρ, env, h.bind fun ds vs Hf1 H1 _ g1 r1 h1 => ⟨Hf1, ds, g1.sub, r1, relF_of (d := .none) g1 h1⟩⟩
theorem f_callTy (hc : CallR X (.type T) (rDNF C F)) (hg : Gl X x) (hm : X.mg x = none) (hv : bootBuiltins x = some (.type T)) (ha : PA X (e :: es) (tPA C fr)) (hs : (e :: es).all (fun e => !isStar e) = true) (hn : x ≠ "__name__") (hdb : (x == ("__debug__" : Str)) = false) :
    PE X (.Call (.Name x p) (e :: es) [] pos) (tF C fun ρ => fr ρ >>= F) := by
  have hs' := hs
  simp only [List.all_cons, Bool.and_eq_true, Bool.not_eq_true'] at hs'
  exact PE.imp (pe_callTy hc hg hm hv ha hn hdb (star_cons hs'.1) (noStar_any (by simpa using hs'.2))) fun σ H Q ⟨Hf0, H0, Hf, ρ, env, h⟩ => ⟨Hf0, H0, Hf, ρ, env, h.bind fun ds vs Hf1 H1 _ g1 r1 h1 => ⟨Hf1, ds, g1.sub, r1, relF_of (d := .none) g1 h1⟩⟩
theorem Rp1L.one {K : PySem.W.Frag} {Hf H : Hp} {vs : List V} {d : D} (h : Rp1L K Hf H vs [d]) : ∃ v, vs = [v] ∧ Rp1 K Hf H v d := by
  cases h with
  | cons h r => cases r; exact ⟨_, rfl, h⟩
theorem Rp1L.two {K : PySem.W.Frag} {Hf H : Hp} {vs : List V} {d e : D} (h : Rp1L K Hf H vs [d, e]) : ∃ v w, vs = [v, w] ∧ Rp1 K Hf H v d ∧ Rp1 K Hf H w e := by
  cases h with
  | cons h r =>
    cases r with
    | cons h2 r => cases r; exact ⟨_, _, rfl, h, h2⟩
def dLen : List D → R D
  | [.list ds] => .ok (.int ds.length)
  | [.tuple ds] => .ok (.int ds.length)
  | [.str z] => if z.length ≤ sizeLine then .ok (.int z.length) else .bad
  | [.dict [(.none, .list ds)]] => .ok (.int ds.length)
  | _ => .bad
theorem c_len (hK : C.K = X.K) : CallR X (.builtin "len") (rDN C dLen) := by
  intro pins s σ H xs us Q I r ⟨Hf, ds, sf, hx, h⟩
  unfold dLen at h
  split at h
  · obtain ⟨v, rfl, hv⟩ := hx.one
    obtain ⟨a, xs, rfl, ha, za, ra⟩ := hv.list_ sf
    refine call_len pins s σ H _ us Q I r ⟨_, xs.length, rfl, .inl ⟨xs, SqL.of ha, rfl⟩, ?_⟩
    rw [ra.length]
    exact h.val sf (.int _)
  · obtain ⟨v, rfl, hv⟩ := hx.one
    obtain ⟨a, xs, rfl, fa, ha, za, ra⟩ := hv.tuple_ sf
    refine call_len pins s σ H _ us Q I r ⟨_, xs.length, rfl, .inr ⟨xs, SqT.of ha, rfl⟩, ?_⟩
    rw [ra.length]
    exact h.val sf (.int _)
  · split at h
    · rename_i hz
      obtain ⟨v, rfl, hv⟩ := hx.one
      obtain rfl := hv.str_
      exact call_len pins s σ H _ us Q I r ⟨_, _, rfl, ⟨hz, rfl⟩, h.val sf (.int _)⟩
    · exact h.elim
  · obtain ⟨v, rfl, hv⟩ := hx.one
    obtain ⟨a, ns, rfl, rfl, hq, hl⟩ := hv.scr_ sf
    refine call_len pins s σ H _ us Q I r ⟨_, (ns.map V.int).length, rfl, .inl ⟨_, by rw [← hK]; exact hq, rfl⟩, ?_⟩
    rw [List.length_map]
    rw [List.length_map] at h
    exact h.val sf (.int _)
  · exact h.elim
def bools : List D → Option (List Bool)
  | [] => some []
  | .bool b :: ds => (bools ds).map (b :: ·)
  | _ :: _ => none
theorem bools_eq : ∀ {ds : List D} {bs : List Bool}, bools ds = some bs → ds = bs.map PyData.bool
  | [], bs, h => by
    unfold bools at h
    cases h
    rfl
  | d :: ds, bs, h => by
    unfold bools at h
    split at h
    · rename_i e; cases e
    · rename_i b ds' e
      cases e
      cases e2 : bools ds with
      | none => rw [e2] at h; cases h
      | some cs =>
        rw [e2] at h
        cases h
        rw [List.map_cons, ← bools_eq e2]
    · cases h
def dAll : List D → R D
  | [.list ds] => (match bools ds with | some bs => .ok (.bool (bs.all fun b => b)) | none => .bad)
  | _ => .bad
def dAny : List D → R D
  | [.list ds] => (match bools ds with | some bs => .ok (.bool (bs.any fun b => b)) | none => .bad)
  | _ => .bad
theorem c_all (hc : X.calm = true) : CallR X (.builtin "all") (rDN C dAll) := by
  intro pins s σ H xs us Q I r ⟨Hf, ds, sf, hx, h⟩
  unfold dAll at h
  split at h
  · split at h
    · rename_i bs e
      obtain ⟨v, rfl, hv⟩ := hx.one
      obtain ⟨a, xs, rfl, ha, za, ra⟩ := hv.list_ sf
      rw [bools_eq e] at ra
      have e2 := ra.bools
      subst e2
      exact cr_all hc pins s σ H _ us Q I r ⟨a, bs, rfl, SqL.of ha, val_bl h sf⟩
    · exact h.elim
  · exact h.elim
theorem c_any (hc : X.calm = true) : CallR X (.builtin "any") (rDN C dAny) := by
  intro pins s σ H xs us Q I r ⟨Hf, ds, sf, hx, h⟩
  unfold dAny at h
  split at h
  · split at h
    · rename_i bs e
      obtain ⟨v, rfl, hv⟩ := hx.one
      obtain ⟨a, xs, rfl, ha, za, ra⟩ := hv.list_ sf
      rw [bools_eq e] at ra
      have e2 := ra.bools
      subst e2
      exact cr_any hc pins s σ H _ us Q I r ⟨a, bs, rfl, SqL.of ha, val_bl h sf⟩
    · exact h.elim
  · exact h.elim
def dAbs : List D → R D
  | [.int i] => .ok (.int (if i < 0 then -i else i))
  | _ => .bad
theorem c_abs : CallR X (.builtin "abs") (rDN C dAbs) := by
  intro pins s σ H xs us Q I r ⟨Hf, ds, sf, hx, h⟩
  unfold dAbs at h
  split at h
  · obtain ⟨v, rfl, hv⟩ := hx.one
    obtain rfl := hv.int_
    exact call_abs pins s σ H _ us Q I r ⟨_, rfl, h.val sf (.int _)⟩
  · exact h.elim
end
/-! ### max, min, sorted over data -/
def alikeAllB (ds : List D) : Bool := (ds.all fun d => ds.all fun e => PySem.W.alike d e) && ds.all fun d => !isNon d
def ordOk (ds : List D) : Bool := alikeAllB ds && PyData.canLayAll0 ds && decide (PyData.depthAll ds ≤ 60)
theorem alikeAllB_of {ds : List D} (h : alikeAllB ds = true) : PySem.W.AlikeAll ds := by
  simp only [alikeAllB, Bool.and_eq_true, List.all_eq_true, Bool.not_eq_true'] at h
  exact ⟨fun x hx y hy => h.1 x hx y hy, fun x hx e => by
    have := h.2 x hx
    rw [e] at this
    cases this⟩
def dMax : List D → R D
  | [.int i, .int j] => .ok (.int (if j > i then j else i))
  | [.list (d :: ds)] => if ordOk (d :: ds) then .ok (PySem.W.maxD d ds) else .bad
  | [.tuple (d :: ds)] => if ordOk (d :: ds) then .ok (PySem.W.maxD d ds) else .bad
  | _ => .bad
def dMin : List D → R D
  | [.int i, .int j] => .ok (.int (if j < i then j else i))
  | [.list (d :: ds)] => if ordOk (d :: ds) then .ok (PySem.W.minD d ds) else .bad
  | [.tuple (d :: ds)] => if ordOk (d :: ds) then .ok (PySem.W.minD d ds) else .bad
  | _ => .bad
theorem minD_mem (x : D) : ∀ xs : List D, PySem.W.minD x xs ∈ x :: xs := by
  intro xs
  unfold PySem.W.minD
  induction xs generalizing x with
  | nil => simp
  | cons y ys ih =>
    simp only [List.foldl_cons]
    by_cases q : PySem.W.dataLt y x = true
    · rw [if_pos q]; exact List.mem_cons_of_mem _ (ih y)
    · rw [if_neg q]
      rcases List.mem_cons.mp (ih x) with z | z
      · rw [z]; exact List.mem_cons_self
      · exact List.mem_cons_of_mem _ (List.mem_cons_of_mem _ z)
theorem maxD_mem (x : D) : ∀ xs : List D, PySem.W.maxD x xs ∈ x :: xs := by
  intro xs
  unfold PySem.W.maxD
  induction xs generalizing x with
  | nil => simp
  | cons y ys ih =>
    simp only [List.foldl_cons]
    by_cases q : PySem.W.dataLt x y = true
    · rw [if_pos q]; exact List.mem_cons_of_mem _ (ih y)
    · rw [if_neg q]
      rcases List.mem_cons.mp (ih x) with z | z
      · rw [z]; exact List.mem_cons_self
      · exact List.mem_cons_of_mem _ (List.mem_cons_of_mem _ z)
theorem canLay_mem : ∀ {ds : List D} {d : D}, PyData.canLayAll0 ds = true → d ∈ ds → d.canLay0 = true
  | _ :: _, _, h, .head _ => by
    simp only [PyData.canLayAll0, Bool.and_eq_true] at h
    exact h.1
  | _ :: _, _, h, .tail _ m => by
    simp only [PyData.canLayAll0, Bool.and_eq_true] at h
    exact canLay_mem h.2 m
theorem reads_at {h : Heap} : ∀ {vs : List Value} {ds : List D} {as : List Addr} {i : Nat} {v : Value} {d : D}, ReadsAll h vs ds as → vs[i]? = some v → ds[i]? = some d → ∃ cs, Reads h v d cs
  | _, _, _, _, _, _, .nil, hi, _ => by simp at hi
  | _, _, _, 0, _, _, .cons q _, hi, h1 => by
    simp at hi h1
    subst hi h1
    exact ⟨_, q⟩
  | _, _, _, i + 1, _, _, .cons _ r, hi, h1 => reads_at (i := i) r (by simpa using hi) (by simpa using h1)
/-- the value that reads so stands for it -/
theorem rp_of_reads {X : Cx} {pins : List (Addr × Obj)} {σ : L2.St} {H Hf : Hp} {s : Shared} {xs : List V} {its : List Value} {ds : List D} {d : D} {i : Nat} {v : Value} {h' : Heap} {as bs : List Addr} (r : RpL X.K Hf xs ds) (rv : Vals xs its)
    (hr : ReadsAll s.heap its ds as) (hi : its[i]? = some v) (hd : Reads h' v d bs) (hk : ∀ b o, s.heap.get? b = some o → h'.get? b = some o) (hc : PyData.canLayAll0 ds = true) (hm : d ∈ ds) : ∃ x, RelV x v ∧ Rp X.K Hf x d := by
  have e1 := SeqAt.readsAll_map ds its as hc hr
  have hl : i < its.length := (List.getElem?_eq_some_iff.mp hi).1
  have hl2 : i < xs.length := by rw [rv.length]; exact hl
  obtain ⟨dd, h1, h2⟩ := r.get' (List.getElem?_eq_getElem hl2)
  obtain ⟨u, h3, h4⟩ := rv.get (List.getElem?_eq_getElem hl2)
  rw [hi] at h3
  cases h3
  refine ⟨_, h4, ?_⟩
  obtain ⟨cs, r3⟩ := reads_at hr hi h1
  have e3 : dd = d := by
    have hdd : dd.canLay0 = true := canLay_mem hc (List.mem_of_getElem? h1)
    have r4 : Reads h' v dd cs := PyProof.Rows.Reads.keeps hk r3
    rw [← SeqAt.readOf_eq hdd r4, SeqAt.readOf_eq (canLay_mem hc hm) hd]
  rw [← e3]
  exact h2
section
variable {X : Cx} {C : Pm}
theorem ordOk_of {ds : List D} (h : ordOk ds = true) : PySem.W.AlikeAll ds ∧ PyData.canLayAll0 ds = true ∧ PyData.depthAll ds ≤ 60 := by
  simp only [ordOk, Bool.and_eq_true, decide_eq_true_eq] at h
  exact ⟨alikeAllB_of h.1.1, h.1.2, h.2⟩
theorem c_max (hK : C.K = X.K) (hc : X.calm = true) (hu : X.A.units + 65 < cLine) : CallR X (.builtin "max") (rDN C dMax) := by
  intro pins s σ H xs us Q I r ⟨Hf, ds, sf, hx, h⟩
  unfold dMax at h
  split at h
  · obtain ⟨v, w, rfl, hv, hw⟩ := hx.two
    obtain rfl := hv.int_; obtain rfl := hw.int_
    exact call_max2 hc pins s σ H _ us Q I r ⟨_, _, rfl, h.val sf (.int _)⟩
  · rename_i d ds
    split at h
    · rename_i ho
      obtain ⟨o1, o2, o3⟩ := ordOk_of ho
      obtain ⟨v, rfl, hv⟩ := hx.one
      obtain ⟨a, xs, rfl, ha, za, ra⟩ := hv.list_ sf
      rw [Vals.ref1 r]
      obtain ⟨its, rv, hl, _⟩ := I.list (SqL.of ha)
      obtain ⟨as, hr⟩ := Dp.readsAll I (d :: ds) xs its (by rw [← hK]; exact (ra.mono sf).dp (noDictL_of o2)) rv
      refine PySem.W.max_list_data (I.ok.hd hc) hl.isList (by simpa using hr) o1 (by omega) fun i v h' tk bs hi rd hk => ?_
      obtain ⟨y, r1, r2⟩ := rp_of_reads (X := X) (pins := pins) (σ := σ) (H := H) (s := s) (by rw [← hK]; exact ra) rv hr (by simpa using hi) rd hk o2 (maxD_mem d ds)
      exact ⟨y, H, I.kept (t' := tk) hk, r1, h.val sf (by rw [hK]; exact r2)⟩
    · exact h.elim
  · rename_i d ds
    split at h
    · rename_i ho
      obtain ⟨o1, o2, o3⟩ := ordOk_of ho
      obtain ⟨v, rfl, hv⟩ := hx.one
      obtain ⟨a, xs, rfl, fa, ha, za, ra⟩ := hv.tuple_ sf
      rw [Vals.ref1 r]
      obtain ⟨its, rv, hl, _⟩ := I.tuple (SqT.of ha)
      obtain ⟨as, hr⟩ := Dp.readsAll I (d :: ds) xs its (by rw [← hK]; exact (ra.mono sf).dp (noDictL_of o2)) rv
      refine PySem.W.max_tuple_data (I.ok.hd hc) (show s.heap.IsTuple a its.toArray from hl) (by simpa using hr) o1 (by omega) fun i v h' tk bs hi rd hk => ?_
      obtain ⟨y, r1, r2⟩ := rp_of_reads (X := X) (pins := pins) (σ := σ) (H := H) (s := s) (by rw [← hK]; exact ra) rv hr (by simpa using hi) rd hk o2 (maxD_mem d ds)
      exact ⟨y, H, I.kept (t' := tk) hk, r1, h.val sf (by rw [hK]; exact r2)⟩
    · exact h.elim
  · exact h.elim
theorem c_min (hK : C.K = X.K) (hc : X.calm = true) (hu : X.A.units + 65 < cLine) : CallR X (.builtin "min") (rDN C dMin) := by
  intro pins s σ H xs us Q I r ⟨Hf, ds, sf, hx, h⟩
  unfold dMin at h
  split at h
  · obtain ⟨v, w, rfl, hv, hw⟩ := hx.two
    obtain rfl := hv.int_; obtain rfl := hw.int_
    exact call_min2 hc pins s σ H _ us Q I r ⟨_, _, rfl, h.val sf (.int _)⟩
  · rename_i d ds
    split at h
    · rename_i ho
      obtain ⟨o1, o2, o3⟩ := ordOk_of ho
      obtain ⟨v, rfl, hv⟩ := hx.one
      obtain ⟨a, xs, rfl, ha, za, ra⟩ := hv.list_ sf
      rw [Vals.ref1 r]
      obtain ⟨its, rv, hl, _⟩ := I.list (SqL.of ha)
      obtain ⟨as, hr⟩ := Dp.readsAll I (d :: ds) xs its (by rw [← hK]; exact (ra.mono sf).dp (noDictL_of o2)) rv
      refine PySem.W.min_list_data (I.ok.hd hc) hl.isList (by simpa using hr) o1 (by omega) fun i v h' tk bs hi rd hk => ?_
      obtain ⟨y, r1, r2⟩ := rp_of_reads (X := X) (pins := pins) (σ := σ) (H := H) (s := s) (by rw [← hK]; exact ra) rv hr (by simpa using hi) rd hk o2 (minD_mem d ds)
      exact ⟨y, H, I.kept (t' := tk) hk, r1, h.val sf (by rw [hK]; exact r2)⟩
    · exact h.elim
  · rename_i d ds
    split at h
    · rename_i ho
      obtain ⟨o1, o2, o3⟩ := ordOk_of ho
      obtain ⟨v, rfl, hv⟩ := hx.one
      obtain ⟨a, xs, rfl, fa, ha, za, ra⟩ := hv.tuple_ sf
      rw [Vals.ref1 r]
      obtain ⟨its, rv, hl, _⟩ := I.tuple (SqT.of ha)
      obtain ⟨as, hr⟩ := Dp.readsAll I (d :: ds) xs its (by rw [← hK]; exact (ra.mono sf).dp (noDictL_of o2)) rv
      refine PySem.W.min_tuple_data (I.ok.hd hc) (show s.heap.IsTuple a its.toArray from hl) (by simpa using hr) o1 (by omega) fun i v h' tk bs hi rd hk => ?_
      obtain ⟨y, r1, r2⟩ := rp_of_reads (X := X) (pins := pins) (σ := σ) (H := H) (s := s) (by rw [← hK]; exact ra) rv hr (by simpa using hi) rd hk o2 (minD_mem d ds)
      exact ⟨y, H, I.kept (t' := tk) hk, r1, h.val sf (by rw [hK]; exact r2)⟩
    · exact h.elim
  · exact h.elim
/-! tuple(x), list(x) -/
def dTuple : List D → R D
  | [.list ds] => .ok (.tuple ds)
  | [.tuple ds] => .ok (.tuple ds)
  | _ => .bad
theorem c_tuple (hK : C.K = X.K) : CallR X (.type "tuple") (rDN C dTuple) := by
  intro pins s σ H xs us Q I r ⟨Hf, ds, sf, hx, h⟩
  unfold dTuple at h
  split at h
  · obtain ⟨v, rfl, hv⟩ := hx.one
    obtain ⟨a, xs, rfl, ha, za, ra⟩ := hv.list_ sf
    exact call_tuple_of pins s σ H _ us Q I r ⟨a, xs, rfl, .inl ⟨SqL.of ha, fun p np => h.made sf np (.newT (Same.free sf np) za ra)⟩⟩
  · obtain ⟨v, rfl, hv⟩ := hx.one
    obtain ⟨a, xs, rfl, fa, ha, za, ra⟩ := hv.tuple_ sf
    exact call_tuple_of pins s σ H _ us Q I r ⟨a, xs, rfl, .inr ⟨SqT.of ha, h.val sf (.tup fa za ra)⟩⟩
  · exact h.elim
def dList : List D → R D
  | [.list ds] => .ok (.list ds)
  | [.tuple ds] => .ok (.list ds)
  | [.str z] => if z.length ≤ sizeLine then .ok (.list (z.cps.toList.map fun c => .str ⟨#[c]⟩)) else .bad
  | _ => .bad
theorem rpL_signs {K : PySem.W.Frag} {H : Hp} : ∀ cs : List Nat, RpL K H (cs.map fun c => V.str ⟨#[c]⟩) (cs.map fun c => PyData.str ⟨#[c]⟩)
  | [] => .nil
  | c :: cs => .cons (.str _) (rpL_signs cs)
theorem ownL {Hf H : Hp} {p : Addr} {xs : List V} {ds : List D} {K : PySem.W.Frag} (sf : Same Hf H) (np : H p = none) (z : xs.length ≤ sizeLine) (r : RpL K Hf xs ds) : OwnAt K Hf (upd H p (.lst xs)) p (.list ds) := ⟨xs, Same.free sf np, upd_same, z, r⟩
theorem c_list (hK : C.K = X.K) (hc : X.calm = true) : CallR X (.type "list") (rDNF C dList) := by
  intro pins s σ H xs us Q I r ⟨Hf, ds, sf, hx, h⟩
  unfold dList at h
  split at h
  · obtain ⟨v, rfl, hv⟩ := hx.one
    obtain ⟨a, xs, rfl, ha, za, ra⟩ := hv.list_ sf
    exact call_list_of pins s σ H _ us Q I r ⟨a, xs, rfl, .inl (SqL.of ha), fun p np => h _ Hf _ (Grow.side sf np) ⟨p, rfl, np, ownL sf np za ra⟩⟩
  · obtain ⟨v, rfl, hv⟩ := hx.one
    obtain ⟨a, xs, rfl, fa, ha, za, ra⟩ := hv.tuple_ sf
    exact call_list_of pins s σ H _ us Q I r ⟨a, xs, rfl, .inr (SqT.of ha), fun p np => h _ Hf _ (Grow.side sf np) ⟨p, rfl, np, ownL sf np za ra⟩⟩
  · split at h
    · rename_i hz
      obtain ⟨v, rfl, hv⟩ := hx.one
      obtain rfl := hv.str_
      exact call_listS hc pins s σ H _ us Q I r ⟨_, rfl, hz, fun p np => h _ Hf _ (Grow.side sf np) ⟨p, rfl, np, ownL sf np (by rw [List.length_map, Array.length_toList]; exact hz) (rpL_signs _)⟩⟩
    · exact h.elim
  · exact h.elim
/-! sorted(xs) of a list -/
def sortOk (ds : List D) : Bool := ordOk ds && ((ds.all fun d => match d with | .tuple (_ :: _) => true | _ => false) || ds.all fun d => match d with | .none => false | .tuple _ => false | _ => true)
def sortD (ds : List D) : List D := ds.mergeSort fun a b => !PySem.W.dataLt b a
def dSorted : List D → R D
  | [.list ds] => if sortOk ds then .ok (.list (sortD ds)) else .bad
  | _ => .bad
theorem sortable_of {ds : List D} (h : ((ds.all fun d => match d with | .tuple (_ :: _) => true | _ => false) || ds.all fun d => match d with | .none => false | .tuple _ => false | _ => true) = true) : PySem.W.Sortable ds := by
  simp only [Bool.or_eq_true, List.all_eq_true] at h
  rcases h with h | h
  · refine .inl fun d hd => ?_
    have := h d hd
    split at this
    · exact ⟨_, _, rfl⟩
    · cases this
  · refine .inr fun d hd => ?_
    have := h d hd
    constructor
    · rintro rfl; cases this
    · rintro xs rfl; cases this
theorem each_of {K : PySem.W.Frag} {Hf : Hp} : ∀ {xs : List V} {its : List Value} {ds : List D}, RpL K Hf xs ds → Vals xs its → PySem.W.EachIs (fun v d => ∃ x, RelV x v ∧ Rp K Hf x d) its ds
  | _, _, _, .nil, .nil => .nil
  | _, _, _, .cons h r, .cons q t => .cons ⟨_, q, h⟩ (each_of r t)
theorem each_back {K : PySem.W.Frag} {Hf : Hp} : ∀ {its : List Value} {ds : List D}, PySem.W.EachIs (fun v d => ∃ x, RelV x v ∧ Rp K Hf x d) its ds → ∃ xs, Vals xs its ∧ RpL K Hf xs ds
  | _, _, .nil => ⟨[], .nil, .nil⟩
  | _, _, .cons ⟨x, h1, h2⟩ r => by
    obtain ⟨xs, h3, h4⟩ := each_back r
    exact ⟨x :: xs, .cons h1 h3, .cons h2 h4⟩
theorem depth_mem : ∀ {ds : List D} {d : D}, d ∈ ds → d.depth ≤ PyData.depthAll ds
  | _ :: _, _, .head _ => by simp only [PyData.depthAll]; omega
  | _ :: _, _, .tail _ m => by have := depth_mem m; simp only [PyData.depthAll]; omega
theorem c_sorted (hK : C.K = X.K) (hu : X.A.units + 65 < cLine) : CallR X (.builtin "sorted") (rDNF C dSorted) := by
  intro pins s σ H xs us Q I r ⟨Hf, ds, sf, hx, h⟩
  unfold dSorted at h
  split at h
  · rename_i ds
    split at h
    · rename_i ho
      simp only [sortOk, Bool.and_eq_true] at ho
      obtain ⟨o1, o2, o3⟩ := ordOk_of ho.1
      obtain ⟨v, rfl, hv⟩ := hx.one
      obtain ⟨a, xs, rfl, ha, za, ra⟩ := hv.list_ sf
      rw [Vals.ref1 r]
      obtain ⟨its, rv, hl, _⟩ := I.list (SqL.of ha)
      obtain ⟨as, hr⟩ := Dp.readsAll I ds xs its (by rw [← hK]; exact (ra.mono sf).dp (noDictL_of o2)) rv
      have er : PySem.W.EachIs (fun v d => ∃ as, Reads s.heap v (id d) as) its ds := PySem.W.readsAll_each id (by simpa using hr)
      have hlen := ra.length
      refine PySem.W.sorted_data (vs := its) (bs := ds) (enc := id) hl.isList (each_of ra rv) er (by rw [List.map_id]; exact fun d hd e he => o1.1 d hd e he) (by simpa using sortable_of ho.2) (by omega) (fun b hb => by
        have := depth_mem hb
        show X.A.units + 2 + (id b).depth < cLine
        simp only [id]
        omega) fun out h1 h2 => ?_
      obtain ⟨ys, rv2, ry⟩ := each_back h2
      obtain ⟨ep, he'⟩ := PyProof.Rows.sortedAll_at s.heap its out.toArray
      have hl2 : ys.length ≤ sizeLine := by rw [rv2.length, h1]; omega
      have np : H (s.heap.objs.size + 1) = none := I.hok.fresh (Nat.le_succ _)
      refine ⟨.ref _, upd H (s.heap.objs.size + 1) (.lst ys), I.laid (t' := s.toks) (fun _ _ => PyProof.Rows.sortedAll_old) (Nat.le_succ _) ⟨hl2, out, ep, rv2, by simpa using he'⟩, rfl, ?_⟩
      exact h _ Hf _ (Grow.side sf np) ⟨_, rfl, np, ownL sf np hl2 ry⟩
    · exact h.elim
  · exact h.elim
end
end DL
/-! The data layer: isinstance, calls of defs, what is walked, targets, comprehensions. -/
namespace DL
open PySem PySem.Spec PyProof.Rows L2
/-! ### isinstance -/
def tyName : D → String
  | .none => "NoneType"
  | .bool _ => "bool"
  | .int _ => "int"
  | .str _ => "str"
  | .list _ => "list"
  | .tuple _ => "tuple"
  | .dict _ => "dict"
def isiTys : List String := ["int", "bool", "str", "tuple", "list", "dict"]
def isiB (t : String) : D → Bool
  | .none => false
  | .bool _ => t == "bool" || t == "int"
  | .int _ => t == "int"
  | .str _ => t == "str"
  | .list _ => t == "list"
  | .tuple _ => t == "tuple"
  | .dict _ => t == "dict"
theorem kitB_all : ∀ a ∈ ["NoneType", "bool", "int", "str", "list", "tuple", "dict"], ∀ t ∈ isiTys, kitB a t = some (t == a || (a == "bool" && t == "int")) := by decide +kernel
theorem isi_tbl (d : D) : ∀ t ∈ isiTys, kitB (tyName d) t = some (isiB t d) := by
  intro t ht
  have h := kitB_all (tyName d) (by cases d <;> simp [tyName]) t ht
  rw [h]
  have : ∀ t ∈ isiTys, (t == "NoneType") = false := by decide
  have h2 := this t ht
  cases d <;> simp_all [tyName, isiB]
theorem tyX_of {K : PySem.W.Frag} {Hf H : Hp} {v : V} {d : D} (s : Same Hf H) (h : Rp1 K Hf H v d) (hs : isScr d = none) : TyX K H v (.type (tyName d)) := by
  have h := h.rp s
  cases h with
  | non => exact .base .non
  | bl b => exact .base (.bl b)
  | int i => exact .base (.int i)
  | str x => exact .base (.str x)
  | lst h1 _ _ => exact .base (.lst h1)
  | tup h1 _ _ => exact .base (.tup h1)
  | dic h1 _ _ => exact .base (.dK h1)
  | scr _ _ => simp [scr, isScr] at hs
def dIsi (t : String) (d : D) : R D := match isScr d with
  | some _ => .bad
  | none => .ok (.bool (isiB t d))
section
variable {X : Cx} {C : Pm} {pos p p2 : Pos} {a e : Expr} {es : List Expr} {fa : Env → R D} {fr : Env → R (List D)}
theorem e_isi (hK : C.K = X.K) {t : String} (ht : t ∈ isiTys) (hg : Gl X "isinstance") (hm : X.mg "isinstance" = none) (hgt : Gl X (Str.ofString t)) (hmt : X.mg (Str.ofString t) = none) (hv : bootBuiltins (Str.ofString t) = some (.type t))
    (hn : (Str.ofString t) ≠ "__name__") (hdb : ((Str.ofString t) == ("__debug__" : Str)) = false) (ha : PE X a (tP C fa)) (hs : isStar a = false) :
    PE X (.Call (.Name "isinstance" p) [a, .Name (Str.ofString t) p2] [] pos) (tE C fun ρ => fa ρ >>= dIsi t) := by
  have h1 : PA X [a, .Name (Str.ofString t) p2] (tCons (tP C fa) (tCons (tC (.ty t)) tNil)) := pa_cons ha (pa_cons (pe_bltn (v := .ty t) hgt hmt hv rfl hn hdb) pa_nil) (star_cons hs)
  refine PE.imp (pe_callB call_isi hg hm (by decide +kernel) h1 (by decide) (by decide) (star_cons hs) (noStar_any (by rfl))) fun σ H Q ⟨Hf0, H0, Hf, ρ, env, h⟩ => ⟨Hf0, H0, Hf, ρ, env, h.bind fun dx vx Hf1 H1 _ g1 r1 h1 => ?_⟩
  unfold dIsi at h1
  split at h1
  · exact h1.elim
  · rename_i hn
    exact ⟨vx, .ty t, .type (tyName dx), .type t, isiB t dx, rfl, .ty t, by rw [← hK]; exact tyX_of g1.sub r1 hn, kit_ty (isi_tbl dx t ht), val_bl h1 g1.sub⟩
/-! ### a def's promise; its call -/
def spD (K : PySem.W.Frag) (cl : Str → Addr) (n : Nat) (F : List D → R D) : Sp := fun vs H Q E => ∃ (Hf : Hp) (ds : List D), Same Hf H ∧ RpL K Hf vs ds ∧ ds.length = n ∧ OutG ⟨K, E, cl⟩ (RelE ⟨K, E, cl⟩) Hf H (F ds) Q
def ari (n : Nat) (F : List D → R D) (ds : List D) : R D := if ds.length = n then F ds else .bad
theorem e_call {k n : Nat} {f : Addr} {fd : FuncData} {ps : List Str} {x : Str} {F : List D → R D} (hK : C.K = X.K) (FO : FnOk X.prog X.w X.K X.mg X.base (L2.CX X.prog X.w) k f fd ps (spD X.K C.cl n F)) (hr : Room k X.A) (hg : Gl X x) (hm : X.mg x = some (.ref f))
    (hk : PySem.W.keepIn X.K (.ref f) = true) (hb : Binds X.K fd ps []) (tk : Takes X fun cls d _ H => C.E cls d H) (ha : PA X (e :: es) (tA C fr)) (hs : (e :: es).all (fun e => !isStar e) = true) (hdb : (x == ("__debug__" : Str)) = false) :
    PE X (.Call (.Name x p) (e :: es) [] pos) (tE C fun ρ => fr ρ >>= ari n F) := by
  have hs' := hs
  simp only [List.all_cons, Bool.and_eq_true, Bool.not_eq_true'] at hs'
  refine PE.imp (pe_call FO hr hg hm hk hb .nil (passes_call tk fun _ _ _ _ h => h) ha hdb (star_cons hs'.1) (noStar_any (by simpa using hs'.2))) fun σ H Q ⟨Hf0, H0, Hf, ρ, env, h⟩ => ⟨Hf0, H0, Hf, ρ, env, h.bind fun ds vs Hf1 H1 _ g1 r1 h1 => ?_⟩
  unfold ari at h1
  split at h1
  · rename_i hl
    obtain ⟨CK, CE, Ccl⟩ := C
    cases hK
    rw [List.append_nil]
    exact ⟨Hf1, ds, g1.sub, r1, hl, h1⟩
  · exact h1.elim
/-! ### what is walked -/
structure WalkD (K : PySem.W.Frag) (Hf : Hp) (J : It) (ds : List D) : Prop where
  len : ds.length ≤ sizeLine
  goes : ∀ (i : Nat) (H : Hp), i < ds.length → Same Hf H → J.go i H
  stops : ∀ H, Same Hf H → J.stop ds.length H
  yields : ∀ (i : Nat) (Hg H H2 : Hp) (x : V) (d : D), ds[i]? = some d → Same Hf Hg → Same Hg H → J.yld i H x H2 → ∃ Hg2, Grow Hg H Hg2 H2 ∧ Rp K Hg2 x d
abbrev RelI (C : Pm) : Hp → Hp → It → List D → Prop := fun Hf _ J ds => WalkD C.K Hf J ds
abbrev tI (C : Pm) (f : Env → R (List D)) : TI := tG C (RelI C) f
variable {K : PySem.W.Frag} {Hf : Hp}
theorem walkL {a : Addr} {xs : List V} {ds : List D} (h : Hf a = some (.lst xs)) (z : xs.length ≤ sizeLine) (r : RpL K Hf xs ds) : WalkD K Hf (Itl K a) ds := by
  have hl := r.length
  refine ⟨by omega, fun i H hi s => ⟨xs, xs[i], SqL.of (s _ _ h), by simp [show i < xs.length by omega]⟩, fun H s => ⟨xs, SqL.of (s _ _ h), by omega⟩, fun i Hg H H2 x d hd s1 s2 y => ?_⟩
  obtain ⟨e, q⟩ := y
  subst e
  obtain ⟨v, h1, h2⟩ := r.get hd
  have e2 := q xs (SqL.of (s2 _ _ (s1 _ _ h)))
  rw [h1] at e2
  cases e2
  exact ⟨Hg, Grow.refl s2, h2.mono s1⟩
theorem walkT {a : Addr} {xs : List V} {ds : List D} (h : Hf a = some (.tup xs)) (z : xs.length ≤ sizeLine) (r : RpL K Hf xs ds) : WalkD K Hf (Itt K a) ds := by
  have hl := r.length
  refine ⟨by omega, fun i H hi s => ⟨xs, xs[i], SqT.of (s _ _ h), by simp [show i < xs.length by omega]⟩, fun H s => ⟨xs, SqT.of (s _ _ h), by omega⟩, fun i Hg H H2 x d hd s1 s2 y => ?_⟩
  obtain ⟨e, q⟩ := y
  subst e
  obtain ⟨v, h1, h2⟩ := r.get hd
  have e2 := q xs (SqT.of (s2 _ _ (s1 _ _ h)))
  rw [h1] at e2
  cases e2
  exact ⟨Hg, Grow.refl s2, h2.mono s1⟩
def signs (z : Str) : List D := z.cps.toList.map fun c => .str ⟨#[c]⟩
theorem walkS {z : Str} (hz : z.length ≤ sizeLine) : WalkD K Hf (Its z) (signs z) := by
  have hl : (signs z).length = z.cps.size := by simp [signs]
  refine ⟨by rw [hl]; exact hz, fun i H hi s => (by rw [hl] at hi; exact hi), fun H s => (by show z.cps.size ≤ _; rw [hl]; exact Nat.le_refl _), fun i Hg H H2 x d hd s1 s2 y => ?_⟩
  obtain ⟨e, c, h1, h2⟩ := y
  subst e h2
  refine ⟨Hg, Grow.refl s2, ?_⟩
  have e2 : (signs z)[i]? = some (.str ⟨#[c]⟩) := by simp [signs, h1]
  rw [hd] at e2
  cases e2
  exact .str _
def rngD (lo : Int) (n : Nat) : List D := (List.range n).map fun (i : Nat) => .int (lo + i)
theorem walkR {lo : Int} {n : Nat} (hn : n ≤ sizeLine) : WalkD K Hf (Itr lo n) (rngD lo n) := by
  have hl : (rngD lo n).length = n := by simp [rngD]
  refine ⟨by rw [hl]; exact hn, fun i H hi s => (by rw [hl] at hi; exact hi), fun H s => (by show n ≤ _; rw [hl]; exact Nat.le_refl _), fun i Hg H H2 x d hd s1 s2 y => ?_⟩
  obtain ⟨e, h2⟩ := y
  subst e h2
  refine ⟨Hg, Grow.refl s2, ?_⟩
  have hi : i < n := by rw [← hl]; exact (List.getElem?_eq_some_iff.mp hd).1
  have e2 : (rngD lo n)[i]? = some (.int (lo + (i : Nat))) := by simp [rngD, hi]
  rw [hd] at e2
  cases e2
  exact .int _
def pairs (xs ys : List D) : List D := (xs.zip ys).map fun p => .tuple [p.1, p.2]
theorem pairRp {Hg H H2 : Hp} {T : Addr} {x y : V} {d e : D} (s2 : Same Hg H) (nT : H T = none) (hx : Rp K Hg x d) (hy : Rp K Hg y e) : ∃ Hg2, Grow Hg H Hg2 (upd H T (.tup [x, y])) ∧ Rp K Hg2 (.ref T) (.tuple [d, e]) :=
  ⟨upd Hg T (.tup [x, y]), Grow.push s2 nT, .newT (Same.free s2 nT) (by show 2 ≤ sizeLine; decide) (.cons hx (.cons hy .nil))⟩
theorem pairs_get {xs ys : List D} {i : Nat} {d : D} (h : (pairs xs ys)[i]? = some d) : ∃ a b, xs[i]? = some a ∧ ys[i]? = some b ∧ d = .tuple [a, b] := by
  unfold pairs at h
  rw [List.getElem?_map] at h
  cases e : (xs.zip ys)[i]? with
  | none => rw [e] at h; cases h
  | some p =>
    rw [e] at h
    cases h
    obtain ⟨h1, h2⟩ := List.getElem?_zip_eq_some.mp e
    exact ⟨p.1, p.2, h1, h2, rfl⟩
theorem walkZL {a b : Addr} {xs ys : List V} {ds es : List D} (ha : Hf a = some (.lst xs)) (hb : Hf b = some (.lst ys)) (za : xs.length ≤ sizeLine) (ra : RpL K Hf xs ds) (rb : RpL K Hf ys es) : WalkD K Hf (Itz K a b) (pairs ds es) := by
  have e1 := ra.length
  have e2 := rb.length
  have hl : (pairs ds es).length = min ds.length es.length := by simp [pairs]
  refine ⟨by omega, fun i H hi s => ?_, fun H s => ⟨xs, ys, SqL.of (s _ _ ha), SqL.of (s _ _ hb), by omega⟩, fun i Hg H H2 x d hd s1 s2 y => ?_⟩
  · exact ⟨xs, ys, xs[i]'(by omega), ys[i]'(by omega), SqL.of (s _ _ ha), SqL.of (s _ _ hb), by simp, by simp⟩
  · obtain ⟨T, x1, y1, rfl, nT, rfl, q1, q2⟩ := y
    obtain ⟨d1, d2, h1, h2, rfl⟩ := pairs_get hd
    obtain ⟨v1, g1, r1⟩ := ra.get h1
    obtain ⟨v2, g2, r2⟩ := rb.get h2
    have f1 := q1 xs (SqL.of (s2 _ _ (s1 _ _ ha)))
    have f2 := q2 ys (SqL.of (s2 _ _ (s1 _ _ hb)))
    rw [g1] at f1
    rw [g2] at f2
    cases f1
    cases f2
    exact pairRp (H2 := H) s2 nT (r1.mono s1) (r2.mono s1)
theorem walkZT {a b : Addr} {xs ys : List V} {ds es : List D} (ha : Hf a = some (.tup xs)) (hb : Hf b = some (.tup ys)) (za : xs.length ≤ sizeLine) (ra : RpL K Hf xs ds) (rb : RpL K Hf ys es) : WalkD K Hf (RZ.ItzT K a b) (pairs ds es) := by
  have e1 := ra.length
  have e2 := rb.length
  have hl : (pairs ds es).length = min ds.length es.length := by simp [pairs]
  refine ⟨by omega, fun i H hi s => ?_, fun H s => ⟨xs, ys, SqT.of (s _ _ ha), SqT.of (s _ _ hb), by omega⟩, fun i Hg H H2 x d hd s1 s2 y => ?_⟩
  · exact ⟨xs, ys, xs[i]'(by omega), ys[i]'(by omega), SqT.of (s _ _ ha), SqT.of (s _ _ hb), by simp, by simp⟩
  · obtain ⟨T, x1, y1, rfl, nT, rfl, q1, q2⟩ := y
    obtain ⟨d1, d2, h1, h2, rfl⟩ := pairs_get hd
    obtain ⟨v1, g1, r1⟩ := ra.get h1
    obtain ⟨v2, g2, r2⟩ := rb.get h2
    have f1 := q1 xs (SqT.of (s2 _ _ (s1 _ _ ha)))
    have f2 := q2 ys (SqT.of (s2 _ _ (s1 _ _ hb)))
    rw [g1] at f1
    rw [g2] at f2
    cases f1
    cases f2
    exact pairRp (H2 := H) s2 nT (r1.mono s1) (r2.mono s1)
theorem walkE {a : Addr} {xs : List V} {ds : List D} (ha : Hf a = some (.lst xs)) (za : xs.length ≤ sizeLine) (ra : RpL K Hf xs ds) : WalkD K Hf (Ite K a) (pairs (rngD 0 ds.length) ds) := by
  have e1 := ra.length
  have hl : (pairs (rngD 0 ds.length) ds).length = ds.length := by simp [pairs, rngD]
  refine ⟨by omega, fun i H hi s => ?_, fun H s => ⟨xs, SqL.of (s _ _ ha), by omega⟩, fun i Hg H H2 x d hd s1 s2 y => ?_⟩
  · exact ⟨xs, xs[i]'(by omega), SqL.of (s _ _ ha), by simp⟩
  · obtain ⟨T, x1, rfl, nT, rfl, q1⟩ := y
    obtain ⟨d1, d2, h1, h2, rfl⟩ := pairs_get hd
    obtain ⟨v2, g2, r2⟩ := ra.get h2
    have f2 := q1 xs (SqL.of (s2 _ _ (s1 _ _ ha)))
    rw [g2] at f2
    cases f2
    have hi : i < ds.length := (List.getElem?_eq_some_iff.mp h2).1
    have e3 : (rngD 0 ds.length)[i]? = some (.int (i : Nat)) := by simp [rngD, hi]
    rw [h1] at e3
    cases e3
    exact pairRp (H2 := H) s2 nT (.int _) (r2.mono s1)
def dItems : D → R (List D)
  | .list ds => .ok ds
  | .tuple ds => .ok ds
  | .str z => if z.length ≤ sizeLine then .ok (signs z) else .bad
  | _ => .bad
variable {tg : Expr}
theorem PI.or {t u : TI} (h : PI X tg e t) (h' : PI X tg e u) : PI X tg e (fun σ H R => t σ H R ∨ u σ H R) := ⟨fun pins s σ H R I hw => hw.elim (h.run pins s σ H R I) (h'.run pins s σ H R I)⟩
theorem i_any (hK : C.K = X.K) (ha : PE X a (tE C fa)) : PI X tg a (tI C fun ρ => fa ρ >>= dItems) := by
  refine PI.imp (PI.or (pi_list ha) (PI.or (pi_tup ha) (pi_str ha))) fun σ H Rr ⟨Hf0, H0, Hf, ρ, env, h⟩ => ?_
  have h : OutG C (RelI C) Hf H (fa ρ >>= dItems) Rr := h
  cases e1 : fa ρ with
  | bad => rw [e1] at h; exact h.elim
  | exc c => rw [e1] at h; exact .inl ⟨Hf0, H0, Hf, ρ, env, by rw [e1]; exact h⟩
  | ok d =>
    rw [e1] at h
    cases d with
    | list ds =>
      refine .inl ⟨Hf0, H0, Hf, ρ, env, ?_⟩
      rw [e1]
      intro v Hf1 H1 g r
      cases r with
      | lst h1 h2 h3 => exact ⟨_, rfl, ⟨_, SqL.of (g.sub _ _ h1)⟩, by rw [← hK]; exact h _ Hf1 H1 g (walkL h1 h2 h3)⟩
    | tuple ds =>
      refine .inr (.inl ⟨Hf0, H0, Hf, ρ, env, ?_⟩)
      rw [e1]
      intro v Hf1 H1 g r
      cases r with
      | tup h1 h2 h3 => exact ⟨_, rfl, ⟨_, SqT.of (g.sub _ _ h1)⟩, by rw [← hK]; exact h _ Hf1 H1 g (walkT h1 h2 h3)⟩
    | str z =>
      refine .inr (.inr ⟨Hf0, H0, Hf, ρ, env, ?_⟩)
      rw [e1]
      intro v Hf1 H1 g r
      cases r
      by_cases hz : z.length ≤ sizeLine
      · have h' : OutG C (RelI C) Hf H (R.ok (signs z)) Rr := by
          have e2 : (R.ok (PyData.str z) >>= dItems : DL.R (List D)) = .ok (signs z) := by show dItems (.str z) = _; simp [dItems, hz]
          rw [← e2]; exact h
        exact ⟨z, rfl, h' _ Hf1 H1 g (walkS hz)⟩
      · have e2 : (R.ok (PyData.str z) >>= dItems : DL.R (List D)) = .bad := by show dItems (.str z) = _; simp [dItems, hz]
        exact (show OutG C (RelI C) Hf H R.bad Rr by rw [← e2]; exact h).elim
    | _ => exact h.elim
def dRng1 : List D → R (List D)
  | [.int j] => if j ≤ 1000000 && decide (-1000000 ≤ j) then .ok (rngD 0 j.toNat) else .bad
  | _ => .bad
def dRng2 : List D → R (List D)
  | [.int i, .int j] => if decide (j ≤ 1000000) && decide (-1000000 ≤ j) && decide (i ≤ 1000000) && decide (-1000000 ≤ i) then .ok (rngD i (j - i).toNat) else .bad
  | _ => .bad
variable {b : Expr}
theorem i_rng1 (hg : Gl X "range") (hm : X.mg "range" = none) (ha : PA X [a] (tPA C fr)) (hs : isStar a = false) : PI X tg (.Call (.Name "range" p) [a] [] pos) (tI C fun ρ => fr ρ >>= dRng1) :=
  PI.imp (pi_range1 hg hm ha (by rw [star_cons hs]; rfl)) fun σ H Rr ⟨Hf0, H0, Hf, ρ, env, h⟩ => ⟨Hf0, H0, Hf, ρ, env, h.bind fun ds vs Hf1 H1 _ g1 r1 h1 => by
    unfold dRng1 at h1
    split at h1
    · split at h1
      · rename_i hj
        simp only [Bool.and_eq_true, decide_eq_true_eq] at hj
        obtain ⟨v, rfl, hv⟩ := r1.one
        obtain rfl := hv.int_
        exact ⟨_, rfl, by omega, by omega, h1 _ Hf1 H1 (Grow.refl g1.sub) (walkR (by rw [sizeLine_eq]; omega))⟩
      · exact h1.elim
    · exact h1.elim⟩
theorem i_rng2 (hg : Gl X "range") (hm : X.mg "range" = none) (ha : PA X [a, b] (tPA C fr)) (hs : isStar a = false) (hs2 : isStar b = false) : PI X tg (.Call (.Name "range" p) [a, b] [] pos) (tI C fun ρ => fr ρ >>= dRng2) :=
  PI.imp (pi_range2 hg hm ha (by rw [star_cons hs, star_cons hs2]; rfl) (by rw [star_cons hs2]; rfl)) fun σ H Rr ⟨Hf0, H0, Hf, ρ, env, h⟩ => ⟨Hf0, H0, Hf, ρ, env, h.bind fun ds vs Hf1 H1 _ g1 r1 h1 => by
    unfold dRng2 at h1
    split at h1
    · split at h1
      · rename_i hj
        simp only [Bool.and_eq_true, decide_eq_true_eq] at hj
        obtain ⟨v, w, rfl, hv, hw⟩ := r1.two
        obtain rfl := hv.int_
        obtain rfl := hw.int_
        exact ⟨_, _, rfl, ⟨by omega, by omega, by omega, by omega⟩, h1 _ Hf1 H1 (Grow.refl g1.sub) (walkR (by rw [sizeLine_eq]; omega))⟩
      · exact h1.elim
    · exact h1.elim⟩
theorem RpL.two {K : PySem.W.Frag} {H : Hp} {vs : List V} {d e : D} (h : RpL K H vs [d, e]) : ∃ v w, vs = [v, w] ∧ Rp K H v d ∧ Rp K H w e := by
  cases h with
  | cons h r =>
    cases r with
    | cons h2 r => cases r; exact ⟨_, _, rfl, h, h2⟩
theorem RpL.one {K : PySem.W.Frag} {H : Hp} {vs : List V} {d : D} (h : RpL K H vs [d]) : ∃ v, vs = [v] ∧ Rp K H v d := by
  cases h with
  | cons h r => cases r; exact ⟨_, rfl, h⟩
def dZip : List D → R (List D)
  | [.list xs, .list ys] => .ok (pairs xs ys)
  | [.tuple xs, .tuple ys] => .ok (pairs xs ys)
  | _ => .bad
theorem i_zip {elts : List Expr} {kk : Nat} {tpos : Pos} (hK : C.K = X.K) (hg : Gl X "zip") (hm : X.mg "zip" = none) (ha : PA X [a, b] (tA C fr)) (hs : isStar a = false) (hs2 : isStar b = false) : PI X (.Tuple elts kk tpos) (.Call (.Name "zip" p) [a, b] [] pos) (tI C fun ρ => fr ρ >>= dZip) :=
  PI.imp (RZ.pi_zipA hg hm ha (star_cons hs) (noStar_any (by simp [hs2]))) fun σ H Rr ⟨Hf0, H0, Hf, ρ, env, h⟩ => ⟨Hf0, H0, Hf, ρ, env, h.bind fun ds vs Hf1 H1 _ g1 r1 h1 => by
    unfold dZip at h1
    split at h1
    · obtain ⟨v, w, rfl, hv, hw⟩ := r1.two
      cases hv with
      | lst a1 a2 a3 =>
        cases hw with
        | lst b1 b2 b3 => exact ⟨_, _, _, _, rfl, .inl ⟨SqL.of (g1.sub _ _ a1), SqL.of (g1.sub _ _ b1), by rw [← hK]; exact h1 _ Hf1 H1 (Grow.refl g1.sub) (walkZL a1 b1 a2 a3 b3)⟩⟩
    · obtain ⟨v, w, rfl, hv, hw⟩ := r1.two
      cases hv with
      | tup a1 a2 a3 =>
        cases hw with
        | tup b1 b2 b3 => exact ⟨_, _, _, _, rfl, .inr ⟨SqT.of (g1.sub _ _ a1), SqT.of (g1.sub _ _ b1), by rw [← hK]; exact h1 _ Hf1 H1 (Grow.refl g1.sub) (walkZT a1 b1 a2 a3 b3)⟩⟩
    · exact h1.elim⟩
def dEnum : List D → R (List D)
  | [.list xs] => .ok (pairs (rngD 0 xs.length) xs)
  | _ => .bad
theorem i_enum {elts : List Expr} {kk : Nat} {tpos : Pos} (hK : C.K = X.K) (hg : Gl X "enumerate") (hm : X.mg "enumerate" = none) (ha : PA X [a] (tA C fr)) (hs : isStar a = false) : PI X (.Tuple elts kk tpos) (.Call (.Name "enumerate" p) [a] [] pos) (tI C fun ρ => fr ρ >>= dEnum) :=
  PI.imp (pi_enum hg hm ha (by rw [star_cons hs]; rfl)) fun σ H Rr ⟨Hf0, H0, Hf, ρ, env, h⟩ => ⟨Hf0, H0, Hf, ρ, env, h.bind fun ds vs Hf1 H1 _ g1 r1 h1 => by
    unfold dEnum at h1
    split at h1
    · obtain ⟨v, rfl, hv⟩ := r1.one
      cases hv with
      | lst a1 a2 a3 => exact ⟨_, _, rfl, SqL.of (g1.sub _ _ a1), by rw [← hK]; exact h1 _ Hf1 H1 (Grow.refl g1.sub) (walkE a1 a2 a3)⟩
    · exact h1.elim⟩
end
end DL
/-! The data layer: targets, comprehensions. -/
namespace DL
open PySem PySem.Spec PyProof.Rows L2
/-! ### slots stored -/
theorem EnvR.put {K : PySem.W.Frag} {Hf0 H0 Hf H : Hp} {σ : L2.St} {ρ : Env} {i : Nat} {v : V} {d : D} (e : EnvR K Hf0 H0 Hf H σ ρ) (r : Rp K Hf v d) : EnvR K Hf0 H0 Hf H (σ.set i (some v)) (ρ.set i (.va d)) := by
  refine ⟨e.grow, by rw [List.length_set, List.length_set]; exact e.len, fun j s w h1 h2 => ?_, fun j k d1 d2 a h1 h2 h3 h4 => ?_⟩
  · by_cases q : i = j
    · subst q
      have l1 : i < ρ.length := by simpa using (List.getElem?_eq_some_iff.mp h1).1
      have l2 : i < σ.length := by simpa using (List.getElem?_eq_some_iff.mp h2).1
      rw [List.getElem?_set_self l1] at h1
      rw [List.getElem?_set_self l2] at h2
      cases h1
      cases h2
      exact ⟨v, rfl, r⟩
    · rw [List.getElem?_set_ne q] at h1 h2
      exact e.slot j s w h1 h2
  · have nj : i ≠ j := fun q => by
      subst q
      have l1 : i < ρ.length := by simpa using (List.getElem?_eq_some_iff.mp h1).1
      rw [List.getElem?_set_self l1] at h1
      cases h1
    have nk : i ≠ k := fun q => by
      subst q
      have l1 : i < ρ.length := by simpa using (List.getElem?_eq_some_iff.mp h2).1
      rw [List.getElem?_set_self l1] at h2
      cases h2
    rw [List.getElem?_set_ne nj] at h1 h3
    rw [List.getElem?_set_ne nk] at h2 h4
    exact e.dis j k d1 d2 a h1 h2 h3 h4
/-- an own object stored -/
theorem EnvR.putOwn {K : PySem.W.Frag} {Hf0 H0 Hf H : Hp} {σ : L2.St} {ρ : Env} {i : Nat} {a : Addr} {d : D} (e : EnvR K Hf0 H0 Hf H σ ρ) (o : OwnAt K Hf H a d) (n0 : H0 a = none)
    (nw : ∀ (j : Nat) (e : D), ρ[j]? = some (.ow e) → σ[j]? ≠ some (some (.ref a))) : EnvR K Hf0 H0 Hf H (σ.set i (some (.ref a))) (ρ.set i (.ow d)) := by
  refine ⟨e.grow, by rw [List.length_set, List.length_set]; exact e.len, fun j s w h1 h2 => ?_, fun j k d1 d2 b h1 h2 h3 h4 => ?_⟩
  · by_cases q : i = j
    · subst q
      have l1 : i < ρ.length := by simpa using (List.getElem?_eq_some_iff.mp h1).1
      have l2 : i < σ.length := by simpa using (List.getElem?_eq_some_iff.mp h2).1
      rw [List.getElem?_set_self l1] at h1
      rw [List.getElem?_set_self l2] at h2
      cases h1
      cases h2
      exact ⟨a, rfl, o, n0⟩
    · rw [List.getElem?_set_ne q] at h1 h2
      exact e.slot j s w h1 h2
  · by_cases qj : i = j
    · by_cases qk : i = k
      · omega
      · exfalso
        subst qj
        rw [List.getElem?_set_ne qk] at h2 h4
        have l2 : i < σ.length := by simpa using (List.getElem?_eq_some_iff.mp h3).1
        rw [List.getElem?_set_self l2] at h3
        cases h3
        exact nw k d2 h2 h4
    · by_cases qk : i = k
      · exfalso
        subst qk
        rw [List.getElem?_set_ne qj] at h1 h3
        have l2 : i < σ.length := by simpa using (List.getElem?_eq_some_iff.mp h4).1
        rw [List.getElem?_set_self l2] at h4
        cases h4
        exact nw j d1 h1 h3
      · rw [List.getElem?_set_ne qj] at h1 h3
        rw [List.getElem?_set_ne qk] at h2 h4
        exact e.dis j k d1 d2 b h1 h2 h3 h4
/-- an own object is nobody else's, if it is new -/
theorem EnvR.notOwn {K : PySem.W.Frag} {Hf0 H0 Hf H : Hp} {σ : L2.St} {ρ : Env} {a : Addr} (e : EnvR K Hf0 H0 Hf H σ ρ) (na : H a = none) : ∀ (j : Nat) (d : D), ρ[j]? = some (.ow d) → σ[j]? ≠ some (some (.ref a)) := by
  intro j d h1 h2
  obtain ⟨b, h3, h4, _⟩ := e.slot j _ _ h1 h2
  cases h3
  cases d with
  | list ds => obtain ⟨xs, _, q, _⟩ := h4; rw [na] at q; cases q
  | dict ds => obtain ⟨xs, _, q, _⟩ := h4; rw [na] at q; cases q
  | _ => exact h4.elim
theorem EnvR.un {K : PySem.W.Frag} {Hf0 H0 Hf H : Hp} {σ : L2.St} {ρ : Env} {i : Nat} {v : Option V} (e : EnvR K Hf0 H0 Hf H σ ρ) : EnvR K Hf0 H0 Hf H (σ.set i v) (ρ.set i .un) := by
  refine ⟨e.grow, by rw [List.length_set, List.length_set]; exact e.len, fun j s w h1 h2 => ?_, fun j k d1 d2 b h1 h2 h3 h4 => ?_⟩
  · by_cases q : i = j
    · subst q
      have l1 : i < ρ.length := by simpa using (List.getElem?_eq_some_iff.mp h1).1
      rw [List.getElem?_set_self l1] at h1
      cases h1
      trivial
    · rw [List.getElem?_set_ne q] at h1 h2
      exact e.slot j s w h1 h2
  · have nj : i ≠ j := fun q => by
      subst q
      have l1 : i < ρ.length := by simpa using (List.getElem?_eq_some_iff.mp h1).1
      rw [List.getElem?_set_self l1] at h1
      cases h1
    have nk : i ≠ k := fun q => by
      subst q
      have l1 : i < ρ.length := by simpa using (List.getElem?_eq_some_iff.mp h2).1
      rw [List.getElem?_set_self l1] at h2
      cases h2
    rw [List.getElem?_set_ne nj] at h1 h3
    rw [List.getElem?_set_ne nk] at h2 h4
    exact e.dis j k d1 d2 b h1 h2 h3 h4
def wipeR (ρ : Env) : List Nat → Env
  | [] => ρ
  | v :: vs => (wipeR ρ vs).set v .un
theorem EnvR.wipe {K : PySem.W.Frag} {Hf0 H0 Hf H : Hp} {σ : L2.St} {ρ : Env} (e : EnvR K Hf0 H0 Hf H σ ρ) : ∀ vs, EnvR K Hf0 H0 Hf H (L2.wipe σ vs) (wipeR ρ vs)
  | [] => e
  | v :: vs => (EnvR.wipe e vs).un
theorem wipe_get (σ : L2.St) (j : Nat) : ∀ vs, (L2.wipe σ vs)[j]? = if j ∈ vs then (σ[j]?).map (fun _ => none) else σ[j]?
  | [] => by simp [L2.wipe]
  | v :: vs => by
    unfold L2.wipe
    by_cases q : v = j
    · subst q
      rw [List.getElem?_set]
      simp only [if_pos rfl, L2.wipe_length, List.mem_cons_self, if_true]
      by_cases hl : v < σ.length
      · simp [hl, List.getElem?_eq_getElem hl]
      · simp [hl, List.getElem?_eq_none (by omega : σ.length ≤ v)]
    · rw [List.getElem?_set_ne q, wipe_get σ j vs]
      have : (j ∈ v :: vs) ↔ j ∈ vs := by simp [show j ≠ v from fun e => q e.symm]
      simp [this]
theorem wipe_set {σ : L2.St} {i : Nat} {x : Option V} {vs : List Nat} (h : i ∈ vs) : L2.wipe (σ.set i x) vs = L2.wipe σ vs := by
  refine List.ext_getElem? fun j => ?_
  rw [wipe_get, wipe_get]
  by_cases q : i = j
  · subst q
    rw [if_pos h, if_pos h, List.getElem?_set]
    by_cases hl : i < σ.length
    · simp [hl, List.getElem?_eq_getElem hl]
    · simp [hl, List.getElem?_eq_none (by omega : σ.length ≤ i)]
  · rw [List.getElem?_set_ne q]
/-! ### targets -/
inductive Tg where
  | one (i : Nat)
  | many (is : List Nat)
def Tg.ixs : Tg → List Nat
  | .one i => [i]
  | .many is => is
def setMany : List Nat → List D → Env → Env
  | i :: is, d :: ds, ρ => setMany is ds (ρ.set i (.va d))
  | _, _, ρ => ρ
def fTg : Tg → D → Env → R Env
  | .one i, d, ρ => .ok (ρ.set i (.va d))
  | .many is, .tuple ds, ρ => if ds.length = is.length then .ok (setMany is ds ρ) else .bad
  | .many is, .list ds, ρ => if ds.length = is.length then .ok (setMany is ds ρ) else .bad
  | .many _, _, _ => .bad
def tGt (C : Pm) (t : Tg) : TG := fun v σ H Q => ∃ (Hf0 H0 Hf : Hp) (ρ : Env) (d : D), EnvR C.K Hf0 H0 Hf H σ ρ ∧ Rp C.K Hf v d ∧ ∃ ρ', fTg t d ρ = .ok ρ' ∧
  ∀ σ', EnvR C.K Hf0 H0 Hf H σ' ρ' → (∀ vs, (∀ i ∈ t.ixs, i ∈ vs) → L2.wipe σ' vs = L2.wipe σ vs) → Q σ' H
def tGts (C : Pm) (is : List Nat) : TGs := fun xs σ H Q => ∃ (Hf0 H0 Hf : Hp) (ρ : Env) (ds : List D), EnvR C.K Hf0 H0 Hf H σ ρ ∧ RpL C.K Hf xs ds ∧ ds.length = is.length ∧
  ∀ σ', EnvR C.K Hf0 H0 Hf H σ' (setMany is ds ρ) → (∀ vs, (∀ i ∈ is, i ∈ vs) → L2.wipe σ' vs = L2.wipe σ vs) → Q σ' H
/-- a name that may be stored -/
def StoreOk (X : Cx) (i : Nat) (x : Str) : Prop := X.N[i]? = some x ∧ Loc X.env.scope x ∧ (X.fn x = true ∨ X.env.scope.names.lookup x = some .local)
theorem PGs.imp {X : Cx} {es : List Expr} {t u : TGs} (h : PGs X es t) (q : ∀ v σ H Q, u v σ H Q → t v σ H Q) : PGs X es u := ⟨fun pins s σ H v u' Q I r hu => h.run pins s σ H v u' Q I r (q v σ H Q hu)⟩
section
variable {X : Cx} {C : Pm} {pos : Pos}
theorem g_one {i : Nat} {x : Str} (hN : X.N.Nodup) (h : StoreOk X i x) : PG X (.Name x pos) (tGt C (.one i)) :=
  PG.imp (pg_name hN h.1 h.2.1 h.2.2) fun v σ H Q ⟨Hf0, H0, Hf, ρ, d, env, r, ρ', e, q⟩ => by
    cases e
    exact q _ (env.put r) fun vs hv => wipe_set (hv i (by simp [Tg.ixs]))
theorem assignEach_name {x : Str} {es : List Expr} {env : PySem.Env} : (assignEach (.Name x pos :: es) env).map (·.2) = assign (.Name x pos) env :: (assignEach es env).map (·.2) := rfl
theorem g_nil : PGs X [] (tGts C []) := PGs.imp pgs_nil fun v σ H Q ⟨Hf0, H0, Hf, ρ, ds, env, r, hl, q⟩ => by
  cases ds with
  | nil =>
    cases r
    exact ⟨rfl, q σ env fun _ _ => rfl⟩
  | cons _ _ => cases hl
theorem g_cons {i : Nat} {x : Str} {es : List Expr} {is : List Nat} (hN : X.N.Nodup) (h : StoreOk X i x) (hr : PGs X es (tGts C is)) : PGs X (.Name x pos :: es) (tGts C (i :: is)) :=
  PGs.imp (pgs_cons (pg_name hN h.1 h.2.1 h.2.2) hr assignEach_name) fun v σ H Q ⟨Hf0, H0, Hf, ρ, ds, env, r, hl, q⟩ => by
    cases ds with
    | nil => cases hl
    | cons d ds =>
      cases r with
      | cons r1 r2 =>
        refine ⟨_, _, rfl, Hf0, H0, Hf, ρ.set i (.va d), ds, env.put r1, r2, by simpa using hl, fun σ' e' w' => q σ' e' fun vs hv => ?_⟩
        rw [w' vs fun j hj => hv j (List.mem_cons_of_mem _ hj)]
        exact wipe_set (hv i List.mem_cons_self)
/-- names and their places -/
inductive Nms (X : Cx) : List Expr → List Nat → Prop
  | nil : Nms X [] []
  | cons {i : Nat} {x : Str} {pos : Pos} {es : List Expr} {is : List Nat} : StoreOk X i x → Nms X es is → Nms X (.Name x pos :: es) (i :: is)
theorem g_all {es : List Expr} {is : List Nat} (hN : X.N.Nodup) (h : Nms X es is) : PGs X es (tGts C is) := by
  induction h with
  | nil => exact g_nil
  | cons h _ ih => exact g_cons hN h ih
theorem nms_len {es : List Expr} {is : List Nat} (h : Nms X es is) (env : PySem.Env) : (assignEach es env).length = is.length := by
  induction h with
  | nil => rfl
  | cons h _ ih =>
    show (assignEach _ env).length + 1 = _
    rw [ih]
    rfl
theorem nms_star {es : List Expr} {is : List Nat} (h : Nms X es is) (env : PySem.Env) : (assignEach es env).findIdx? (·.1) = none := by
  induction h with
  | nil => rfl
  | @cons i x pos es is h _ ih =>
    have e : assignEach (.Name x pos :: es) env = (false, assign (.Name x pos) env) :: assignEach es env := rfl
    rw [e, List.findIdx?_cons]
    simp [ih]
theorem PG.or {e : Expr} {t u : TG} (h : PG X e t) (h' : PG X e u) : PG X e (fun v σ H Q => t v σ H Q ∨ u v σ H Q) := ⟨fun pins s σ H v u' Q I r hw => hw.elim (h.run pins s σ H v u' Q I r) (h'.run pins s σ H v u' Q I r)⟩
theorem g_many {es : List Expr} {is : List Nat} {k : Nat} (hK : C.K = X.K) (hc : X.calm = true) (hN : X.N.Nodup) (h : Nms X es is) : PG X (.Tuple es k pos) (tGt C (.many is)) :=
  PG.imp (PG.or (pg_tup (n := is.length) hc (g_all (C := C) hN h) (nms_len h _) (nms_star h _)) (pg_lst (n := is.length) hc (g_all (C := C) hN h) (nms_len h _) (nms_star h _))) fun v σ H Q ⟨Hf0, H0, Hf, ρ, d, env, r, ρ', e, q⟩ => by
    unfold fTg at e
    split at e
    · rename_i e1; cases e1
    · rename_i e1
      cases e1
      split at e
      · rename_i hl
        cases e
        cases r with
        | tup h1 h2 h3 => exact .inl ⟨_, _, rfl, SqT.of (env.grow.sub _ _ h1), h3.length.trans hl, Hf0, H0, Hf, _, _, env, h3, hl, q⟩
      · cases e
    · rename_i e1
      cases e1
      split at e
      · rename_i hl
        cases e
        cases r with
        | lst h1 h2 h3 => exact .inr ⟨_, _, rfl, SqL.of (env.grow.sub _ _ h1), h3.length.trans hl, Hf0, H0, Hf, _, _, env, h3, hl, q⟩
      · cases e
    · cases e
end
/-! ### comprehensions -/
def lcLoop (tg : Tg) (ft : Env → R Bool) (fe : Env → R D) (ρ : Env) : List D → R (List D)
  | [] => .ok []
  | d :: ds => fTg tg d ρ >>= fun ρ1 => ft ρ1 >>= fun b => if b then fe ρ1 >>= fun y => lcLoop tg ft fe ρ ds >>= fun ys => .ok (y :: ys) else lcLoop tg ft fe ρ ds
def fLc (fi : Env → R (List D)) (tg : Tg) (ft : Env → R Bool) (fe : Env → R D) (own : List Nat) : Env → R D := fun ρ => fi ρ >>= fun ds => (lcLoop tg ft fe (wipeR ρ own) ds).calm >>= fun ys => .ok (.list ys)
abbrev Pm.calm (C : Pm) : Pm := ⟨C.K, E0, C.cl⟩
theorem bind_ok {α β : Type} {r : R α} {k : α → R β} {b : β} (h : (r >>= k) = .ok b) : ∃ a, r = .ok a ∧ k a = .ok b := by
  cases r with
  | ok a => exact ⟨a, rfl, h⟩
  | exc c => cases h
  | bad => cases h
section
variable {X : Cx} {C : Pm}
theorem lc_data {fi : Env → R (List D)} {tg : Tg} {ft : Env → R Bool} {fe : Env → R D} {own : List Nat} (hown : ∀ i ∈ tg.ixs, i ∈ own) {σ : L2.St} {H : Hp} {Q : VK} (h : tF C (fLc fi tg ft fe own) σ H Q) :
    tLc (tI C fi) (tGt C.calm tg) (tT C.calm ft) (tE C.calm fe) own σ H Q := by
  obtain ⟨Hf0, H0, Hf, ρ, env, h⟩ := h
  refine ⟨Hf0, H0, Hf, ρ, env, OutG.bind (show OutG C (RelF C H) Hf H (fLc fi tg ft fe own ρ) Q from h) fun ds J Hf1 H1 _ g1 w h1 => fun Da nD => ?_⟩
  cases e1 : lcLoop tg ft fe (wipeR ρ own) ds with
  | exc c => rw [e1] at h1; exact h1.elim
  | bad => rw [e1] at h1; exact h1.elim
  | ok tot =>
    rw [e1] at h1
    have h1 : OutG C (RelF C H) Hf1 H1 (.ok (.list tot)) Q := h1
    have ew : EnvR C.K Hf0 H0 Hf1 H1 (L2.wipe σ own) (wipeR ρ own) := (env.more g1).wipe own
    have nD0 : H Da = none := Same.free g1.h nD
    have nDf : Hf1 Da = none := Same.free g1.sub nD
    refine ⟨fun i m H2 => m = ds.length - i ∧ i ≤ ds.length ∧ ∃ (Hf2 : Hp) (acc : List V) (accD ys : List D), Grow Hf1 H1 Hf2 H2 ∧ Hf2 Da = none ∧ H2 Da = some (.lst acc) ∧ acc.length ≤ i ∧ RpL C.K Hf2 acc accD ∧ lcLoop tg ft fe (wipeR ρ own) (ds.drop i) = .ok ys ∧ accD ++ ys = tot,
      ⟨ds.length, by simp, Nat.zero_le _, Hf1, [], [], tot, Grow.side g1.sub nD, nDf, upd_same, Nat.le_refl _, .nil, e1, rfl⟩, ?_⟩
    rintro i m H2 ⟨rfl, hi, Hf2, acc, accD, ys, g2, n2, hD, hl, ra, el, et⟩
    have s12 : Same Hf1 H2 := g2.f.trans g2.sub
    by_cases hlt : i < ds.length
    · refine .inr ⟨w.goes i H2 hlt s12, fun H3 => (ds.length - (i + 1) = ds.length - (i + 1)) ∧ i + 1 ≤ ds.length ∧ ∃ (Hf3 : Hp) (acc : List V) (accD ys : List D), Grow Hf1 H1 Hf3 H3 ∧ Hf3 Da = none ∧ H3 Da = some (.lst acc) ∧ acc.length ≤ i + 1 ∧ RpL C.K Hf3 acc accD ∧ lcLoop tg ft fe (wipeR ρ own) (ds.drop (i + 1)) = .ok ys ∧ accD ++ ys = tot,
        fun H3 p => ⟨ds.length - (i + 1), by omega, p⟩, fun x H3 y => ?_⟩
      have hd : ds[i]? = some ds[i] := List.getElem?_eq_getElem hlt
      obtain ⟨Hg, g3, rx⟩ := w.yields i Hf2 H2 H3 x ds[i] hd g2.f g2.sub y
      rw [List.drop_eq_getElem_cons hlt] at el
      unfold lcLoop at el
      obtain ⟨ρ1, b1, el⟩ := bind_ok el
      obtain ⟨b, b2, el⟩ := bind_ok el
      have e3 : EnvR C.K Hf0 H0 Hg H3 (L2.wipe σ own) (wipeR ρ own) := ew.more (g2.trans g3)
      refine ⟨Hf0, H0, Hg, wipeR ρ own, ds[i], e3, rx, ρ1, b1, fun σ2 e4 hw => ⟨?_, Hf0, H0, Hg, ρ1, e4, ?_⟩⟩
      · have z := hw own hown
        rw [z]
        refine List.ext_getElem? fun j => ?_
        rw [wipe_get, wipe_get]
        split
        · cases σ[j]? <;> rfl
        · rfl
      rw [b2]
      intro b' Hf4 H4 g4 eb
      subst eb
      cases b' with
      | true =>
        refine iteT ⟨Hf0, H0, Hf4, ρ1, e4.more g4, ?_⟩
        have el : (fe ρ1 >>= fun y => lcLoop tg ft fe (wipeR ρ own) (ds.drop (i + 1)) >>= fun ys => .ok (y :: ys)) = .ok ys := el
        obtain ⟨yd, b3, el⟩ := bind_ok el
        obtain ⟨zs, b4, el⟩ := bind_ok el
        rw [b3]
        intro yv Hf5 H5 g5 ry
        have gg : Grow Hf2 H2 Hf5 H5 := (g3.trans g4).trans g5
        have n5 : Hf5 Da = none := by
          cases q : Hf5 Da with
          | none => rfl
          | some o =>
            rcases gg.new Da o q with z | z
            · rw [n2] at z; cases z
            · rw [hD] at z; cases z
        have hD5 : H5 Da = some (.lst acc) := gg.h _ _ hD
        refine ⟨acc, hD5, by have := w.len; omega, rfl, hlt, Hf5, acc ++ [yv], accD ++ [yd], zs, ?_, n5, upd_same, by rw [List.length_append]; simp; omega, (ra.mono gg.f).append (.cons ry .nil), b4, ?_⟩
        · have gt := g2.trans gg
          refine ⟨gt.f, fun b o e => ?_, gt.new, fun b o e => ?_⟩
          · rw [upd_ne (ne_of_none e nD)]; exact gt.h _ _ e
          · have : b ≠ Da := fun z => by rw [z, n5] at e; cases e
            rw [upd_ne this]; exact gt.sub _ _ e
        · cases el
          rw [List.append_assoc]
          exact et
      | false =>
        have gg : Grow Hf2 H2 Hf4 H4 := g3.trans g4
        have n4 : Hf4 Da = none := by
          cases q : Hf4 Da with
          | none => rfl
          | some o =>
            rcases gg.new Da o q with z | z
            · rw [n2] at z; cases z
            · rw [hD] at z; cases z
        exact iteF ⟨rfl, hlt, Hf4, acc, accD, ys, g2.trans gg, n4, gg.h _ _ hD, by omega, ra.mono gg.f, el, et⟩
    · have ei : i = ds.length := by omega
      subst ei
      rw [List.drop_length] at el
      cases el
      rw [List.append_nil] at et
      subst et
      exact .inl ⟨w.stops H2 s12, h1 _ Hf2 H2 g2 ⟨Da, rfl, nD0, acc, n2, hD, Nat.le_trans hl w.len, ra⟩⟩
end
end DL
/-! The data layer: statements. -/
namespace DL
open PySem PySem.Spec PyProof.Rows L2
inductive Out where
  | nx (ρ : Env)
  | rt (d : D)
  | bk (ρ : Env)
  | ct (ρ : Env)
def SOut (C : Pm) (Hf0 H0 Hf : Hp) (Dn : Ends) : R Out → Prop
  | .ok (.nx ρ') => ∀ Hf' H' σ', Same Hf Hf' → EnvR C.K Hf0 H0 Hf' H' σ' ρ' → Dn.nx σ' H'
  | .ok (.bk ρ') => ∀ Hf' H' σ', Same Hf Hf' → EnvR C.K Hf0 H0 Hf' H' σ' ρ' → Dn.bk σ' H'
  | .ok (.ct ρ') => ∀ Hf' H' σ', Same Hf Hf' → EnvR C.K Hf0 H0 Hf' H' σ' ρ' → Dn.ct σ' H'
  | .ok (.rt d) => ∀ v Hf' H', Grow Hf0 H0 Hf' H' → Rp C.K Hf' v d → Dn.rt v H'
  | .exc c => ∀ Hf' H', Grow Hf0 H0 Hf' H' → C.E (.ref (C.cl c)) none H'
  | .bad => False
def tS (C : Pm) (F : Env → R Out) : TS := fun Dn σ H => ∃ (Hf0 H0 Hf : Hp) (ρ : Env), EnvR C.K Hf0 H0 Hf H σ ρ ∧ SOut C Hf0 H0 Hf Dn (F ρ)
theorem SOut.mono {C : Pm} {Hf0 H0 Hf Hf1 : Hp} {Dn : Ends} {r : R Out} (h : SOut C Hf0 H0 Hf Dn r) (s : Same Hf Hf1) : SOut C Hf0 H0 Hf1 Dn r := by
  cases r with
  | ok o =>
    cases o with
    | nx ρ => exact fun Hf' H' σ' q e => h Hf' H' σ' (s.trans q) e
    | bk ρ => exact fun Hf' H' σ' q e => h Hf' H' σ' (s.trans q) e
    | ct ρ => exact fun Hf' H' σ' q e => h Hf' H' σ' (s.trans q) e
    | rt d => exact h
  | exc c => exact h
  | bad => exact h
theorem ps_bad {X : Cx} {st : Stmt} {C : Pm} : PS X st (tS C fun _ => .bad) := ⟨fun _ _ _ _ _ _ ⟨_, _, _, _, _, h⟩ => h.elim⟩
theorem pss_bad {X : Cx} {st : List Stmt} {C : Pm} : PSs X st (tS C fun _ => .bad) := ⟨fun _ _ _ _ _ _ ⟨_, _, _, _, _, h⟩ => h.elim⟩
/-- an expression's exception is the statement's -/
theorem SOut.bind {α β : Type} {C : Pm} {Rel : Hp → Hp → β → α → Prop} {Hf0 H0 Hf H : Hp} {σ : L2.St} {ρ : Env} {Dn : Ends} {r : R α} {k : α → R Out} {Q : β → Hp → Prop} (env : EnvR C.K Hf0 H0 Hf H σ ρ) (h : SOut C Hf0 H0 Hf Dn (r >>= k))
    (hk : ∀ a b Hf1 H1, r = .ok a → Grow Hf H Hf1 H1 → Rel Hf1 H1 b a → SOut C Hf0 H0 Hf1 Dn (k a) → Q b H1) : OutG C Rel Hf H r Q := by
  cases r with
  | ok a => exact fun b Hf1 H1 g q => hk a b Hf1 H1 rfl g q (SOut.mono (show SOut C Hf0 H0 Hf Dn (k a) from h) g.f)
  | exc c => exact fun Hf1 H1 g => h Hf1 H1 (env.grow.trans g)
  | bad => exact h.elim
/-! ### giving own objects away -/
def relR1 (i : Nat) (ρ : Env) : Env := match ρ[i]? with
  | some (.ow d) => ρ.set i (.va d)
  | _ => ρ
def relR : List Nat → Env → Env
  | [], ρ => ρ
  | i :: is, ρ => relR is (relR1 i ρ)
theorem EnvR.rel1 {K : PySem.W.Frag} {Hf0 H0 Hf H : Hp} {σ : L2.St} {ρ : Env} (i : Nat) (e : EnvR K Hf0 H0 Hf H σ ρ) : ∃ Hf', Same Hf Hf' ∧ EnvR K Hf0 H0 Hf' H σ (relR1 i ρ) := by
  unfold relR1
  split
  · rename_i d hd
    obtain ⟨v, hv, a, h2, o, n0⟩ := slot_there e hd
    subst h2
    have mk : ∀ u, Hf a = none → H a = some u → Rp K (upd Hf a u) (.ref a) d → ∃ Hf', Same Hf Hf' ∧ EnvR K Hf0 H0 Hf' H σ (ρ.set i (.va d)) := fun u nf ha rp => by
      have sm : Same Hf (upd Hf a u) := same_upd nf
      have gw : Grow Hf0 H0 (upd Hf a u) H := ⟨e.grow.f.trans sm, e.grow.h, fun b x q => by
        by_cases z : b = a
        · subst z; exact .inr n0
        · rw [upd_ne z] at q; exact e.grow.new b x q, fun b x q => by
        by_cases z : b = a
        · subst z; rw [upd_same] at q; cases q; exact ha
        · rw [upd_ne z] at q; exact e.grow.sub b x q⟩
      refine ⟨_, sm, gw, by rw [List.length_set]; exact e.len, fun j s w h1 h2 => ?_, fun j k d1 d2 b h1 h2 h3 h4 => ?_⟩
      · by_cases q : i = j
        · subst q
          have l1 : i < ρ.length := by simpa using (List.getElem?_eq_some_iff.mp h1).1
          rw [List.getElem?_set_self l1] at h1
          cases h1
          rw [hv] at h2
          cases h2
          exact ⟨_, rfl, rp⟩
        · rw [List.getElem?_set_ne q] at h1
          have z := e.slot j s w h1 h2
          cases s with
          | un => trivial
          | va d' => obtain ⟨x, q1, q2⟩ := z; exact ⟨x, q1, q2.mono sm⟩
          | ow d' =>
            obtain ⟨b, q1, q2, q3⟩ := z
            subst q1
            have nb : b ≠ a := fun z => by subst z; exact q (e.dis i j d d' b hd h1 hv h2)
            refine ⟨b, rfl, ?_, q3⟩
            cases d' with
            | list ds => obtain ⟨xs, p1, p2, p3, p4⟩ := q2; exact ⟨xs, by rw [upd_ne nb]; exact p1, p2, p3, p4.mono sm⟩
            | dict ds => obtain ⟨xs, p1, p2, p3, p4⟩ := q2; exact ⟨xs, by rw [upd_ne nb]; exact p1, p2, p3, p4.mono sm⟩
            | _ => exact q2.elim
      · have nj : i ≠ j := fun q => by
          subst q
          have l1 : i < ρ.length := by simpa using (List.getElem?_eq_some_iff.mp h1).1
          rw [List.getElem?_set_self l1] at h1
          cases h1
        have nk : i ≠ k := fun q => by
          subst q
          have l1 : i < ρ.length := by simpa using (List.getElem?_eq_some_iff.mp h2).1
          rw [List.getElem?_set_self l1] at h2
          cases h2
        rw [List.getElem?_set_ne nj] at h1
        rw [List.getElem?_set_ne nk] at h2
        exact e.dis j k d1 d2 b h1 h2 h3 h4
    cases d with
    | list ds =>
      obtain ⟨xs, p1, p2, p3, p4⟩ := o
      exact mk _ p1 p2 (.newL p1 p3 p4)
    | dict ds =>
      obtain ⟨xs, p1, p2, p3, p4⟩ := o
      exact mk _ p1 p2 (.dic upd_same p3 (p4.mono (same_upd p1)))
    | _ => exact o.elim
  · exact ⟨Hf, Same.refl _, e⟩
theorem EnvR.rel {K : PySem.W.Frag} {Hf0 H0 H : Hp} {σ : L2.St} : ∀ (is : List Nat) {Hf : Hp} {ρ : Env}, EnvR K Hf0 H0 Hf H σ ρ → ∃ Hf', Same Hf Hf' ∧ EnvR K Hf0 H0 Hf' H σ (relR is ρ)
  | [], Hf, ρ, e => ⟨Hf, Same.refl _, e⟩
  | i :: is, Hf, ρ, e => by
    obtain ⟨H1, s1, e1⟩ := e.rel1 i
    obtain ⟨H2, s2, e2⟩ := EnvR.rel is e1
    exact ⟨H2, s1.trans s2, e2⟩
section
variable {X : Cx} {C : Pm} {pos : Pos} {st : Stmt} {sts : List Stmt} {F G : Env → R Out} {e : Expr} {fe : Env → R D}
theorem s_rel (is : List Nat) (h : PS X st (tS C F)) : PS X st (tS C fun ρ => F (relR is ρ)) := PS.imp h fun Dn σ H ⟨Hf0, H0, Hf, ρ, env, q⟩ => by
  obtain ⟨Hf', s1, e1⟩ := env.rel is
  exact ⟨Hf0, H0, Hf', relR is ρ, e1, q.mono s1⟩
/-! ### blocks -/
def fSeq (F G : Env → R Out) : Env → R Out := fun ρ => F ρ >>= fun o => match o with
  | .nx ρ' => G ρ'
  | o => .ok o
theorem s_nil : PSs X [] (tS C fun ρ => .ok (.nx ρ)) := PSs.imp pss_nil fun Dn σ H ⟨Hf0, H0, Hf, ρ, env, h⟩ => h Hf H σ (Same.refl _) env
theorem s_cons (h1 : PS X st (tS C F)) (h2 : PSs X sts (tS C G)) : PSs X (st :: sts) (tS C (fSeq F G)) := PSs.imp (pss_cons h1 h2) fun Dn σ H ⟨Hf0, H0, Hf, ρ, env, h⟩ => ⟨Hf0, H0, Hf, ρ, env, by
  have h : SOut C Hf0 H0 Hf Dn (F ρ >>= fun o => match o with | .nx ρ' => G ρ' | o => .ok o) := h
  cases e1 : F ρ with
  | bad => rw [e1] at h; exact h.elim
  | exc c => rw [e1] at h; exact h
  | ok o =>
    rw [e1] at h
    cases o with
    | nx ρ' => exact fun Hf' H' σ' s1 env' => ⟨Hf0, H0, Hf', ρ', env', SOut.mono (show SOut C Hf0 H0 Hf Dn (G ρ') from h) s1⟩
    | rt d => exact h
    | bk ρ' => exact h
    | ct ρ' => exact h⟩
theorem s_pass : PS X (.Pass pos) (tS C fun ρ => .ok (.nx ρ)) := PS.imp ps_pass fun Dn σ H ⟨Hf0, H0, Hf, ρ, env, h⟩ => h Hf H σ (Same.refl _) env
theorem s_break : PS X (.Break pos) (tS C fun ρ => .ok (.bk ρ)) := PS.imp ps_break fun Dn σ H ⟨Hf0, H0, Hf, ρ, env, h⟩ => h Hf H σ (Same.refl _) env
theorem s_continue : PS X (.Continue pos) (tS C fun ρ => .ok (.ct ρ)) := PS.imp ps_continue fun Dn σ H ⟨Hf0, H0, Hf, ρ, env, h⟩ => h Hf H σ (Same.refl _) env
def isComp : Expr → Bool
  | .ListComp .. => true
  | .SetComp .. => true
  | .DictComp .. => true
  | _ => false
theorem sw_false {t : Option Expr} {l : Nat} {env : PySem.Env} (h : isComp e = false) : swapsWith e t l env = pure false := by
  cases e <;> first | rfl | simp [isComp] at h
theorem s_expr (he : PE X e (tE C fe)) (hs : isComp e = false) : PS X (.Expr e pos) (tS C fun ρ => fe ρ >>= fun _ => .ok (.nx ρ)) := PS.imp (ps_expr he (sw_false hs)) fun Dn σ H ⟨Hf0, H0, Hf, ρ, env, h⟩ => ⟨Hf0, H0, Hf, ρ, env,
  SOut.bind env h fun d v Hf1 H1 _ g r h1 => h1 Hf1 H1 σ (Same.refl _) (env.more g)⟩
theorem s_ret (he : PE X e (tE C fe)) : PS X (.Return (some e) pos) (tS C fun ρ => fe ρ >>= fun d => .ok (.rt d)) := PS.imp (ps_ret he) fun Dn σ H ⟨Hf0, H0, Hf, ρ, env, h⟩ => ⟨Hf0, H0, Hf, ρ, env,
  SOut.bind env h fun d v Hf1 H1 _ g r h1 => h1 v Hf1 H1 (env.grow.trans g) r⟩
theorem s_retN : PS X (.Return none pos) (tS C fun _ => .ok (.rt .none)) := PS.imp ps_retN fun Dn σ H ⟨Hf0, H0, Hf, ρ, env, h⟩ => h _ Hf H env.grow .non
def fIfS (t : Env → R Bool) (F G : Env → R Out) : Env → R Out := fun ρ => t ρ >>= fun b => if b then F ρ else G ρ
theorem s_if {c : Expr} {a b : List Stmt} {t : Env → R Bool} (hc : PT X c (tT C t)) (ha : PSs X a (tS C F)) (hb : PSs X b (tS C G)) : PS X (.If c a b pos) (tS C (fIfS t F G)) := PS.imp (ps_if hc ha hb) fun Dn σ H ⟨Hf0, H0, Hf, ρ, env, h⟩ => ⟨Hf0, H0, Hf, ρ, env,
  SOut.bind env (show SOut C Hf0 H0 Hf Dn (fIfS t F G ρ) from h) fun b b' Hf1 H1 _ g r h1 => by
    subst r
    cases b' with
    | true => exact iteT ⟨Hf0, H0, Hf1, ρ, env.more g, h1⟩
    | false => exact iteF ⟨Hf0, H0, Hf1, ρ, env.more g, h1⟩⟩
/-! ### x = e -/
theorem s_set {i : Nat} {x : Str} {pos' : Pos} (hN : X.N.Nodup) (hi : StoreOk X i x) (he : PE X e (tE C fe)) (hs : isComp e = false) : PS X (.Assign [.Name x pos'] e pos) (tS C fun ρ => fe ρ >>= fun d => .ok (.nx (ρ.set i (.va d)))) :=
  PS.imp (ps_set hN hi.1 hi.2.1 he (sw_false hs) hi.2.2) fun Dn σ H ⟨Hf0, H0, Hf, ρ, env, h⟩ => ⟨Hf0, H0, Hf, ρ, env, SOut.bind env h fun d v Hf1 H1 _ g r h1 => h1 Hf1 H1 _ (Same.refl _) ((env.more g).put r)⟩
theorem setF_in {i : Nat} {te : TE} {Dn : Ends} {σ : L2.St} {H : Hp} (ht : ∀ Q, tF C fe σ H Q → te σ H Q) (h : tS C (fun ρ => fe ρ >>= fun d => .ok (.nx (ρ.set i (.ow d)))) Dn σ H) : tAsg te (gName i) Dn σ H := by
  obtain ⟨Hf0, H0, Hf, ρ, env, h⟩ := h
  refine ht _ ⟨Hf0, H0, Hf, ρ, env, SOut.bind env h fun d v Hf1 H1 _ g r h1 => ?_⟩
  obtain ⟨a, rfl, na, o⟩ := r
  exact h1 Hf1 H1 _ (Same.refl _) ((env.more g).putOwn o (Same.free env.grow.h na) (env.notOwn na))
theorem s_setF {i : Nat} {x : Str} {pos' : Pos} (hN : X.N.Nodup) (hi : StoreOk X i x) (he : PE X e (tF C fe)) (hs : isComp e = false) : PS X (.Assign [.Name x pos'] e pos) (tS C fun ρ => fe ρ >>= fun d => .ok (.nx (ρ.set i (.ow d)))) :=
  PS.imp (ps_set hN hi.1 hi.2.1 he (sw_false hs) hi.2.2) fun Dn σ H h => setF_in (fun _ q => q) h
/-! ### target = value -/
def fSetT (tg : Tg) (fe : Env → R D) : Env → R Out := fun ρ => fe ρ >>= fun d => fTg tg d ρ >>= fun ρ' => .ok (.nx ρ')
theorem s_setT {tg : Expr} {t : Tg} (he : PE X e (tE C fe)) (hg : PG X tg (tGt C t)) (hs : swapsWithSole [tg] e pos.line X.env = pure false) (hw : swappedStores [tg] e X.env = pure none) (h1 : (assignEach [tg] X.env).map (·.2) = [assign tg X.env]) :
    PS X (.Assign [tg] e pos) (tS C (fSetT t fe)) :=
  PS.imp (ps_asg he hg hs hw h1) fun Dn σ H ⟨Hf0, H0, Hf, ρ, env, h⟩ => ⟨Hf0, H0, Hf, ρ, env, SOut.bind env (show SOut C Hf0 H0 Hf Dn (fSetT t fe ρ) from h) fun d v Hf1 H1 _ g r h1 => by
    cases e1 : fTg t d ρ with
    | bad => rw [e1] at h1; exact h1.elim
    | exc c =>
      exfalso
      unfold fTg at e1
      split at e1
      · cases e1
      · split at e1 <;> cases e1
      · split at e1 <;> cases e1
      · cases e1
    | ok ρ' =>
      rw [e1] at h1
      exact ⟨Hf0, H0, Hf1, ρ, d, env.more g, r, ρ', e1, fun σ' e' _ => h1 Hf1 H1 σ' (Same.refl _) e'⟩⟩
/-! ### for, while -/
def forLoop (tg : Tg) (fb : Env → R Out) : List D → Env → R Out
  | [], ρ => .ok (.nx ρ)
  | d :: ds, ρ => fTg tg d ρ >>= fun ρ1 => fb ρ1 >>= fun o => match o with
    | .nx ρ' => forLoop tg fb ds ρ'
    | .ct ρ' => forLoop tg fb ds ρ'
    | .bk ρ' => .ok (.nx ρ')
    | .rt v => .ok (.rt v)
def fFor (fi : Env → R (List D)) (tg : Tg) (fb : Env → R Out) : Env → R Out := fun ρ => fi ρ >>= fun ds => forLoop tg fb ds ρ
theorem s_for {tgE iter : Expr} {t : Tg} {fi : Env → R (List D)} {body : List Stmt} (hp : PassesOwn (model X.prog X.w) X.A X.env X.xe) (hc : X.calm = true) (hi : PI X tgE iter (tI C fi)) (hg : PG X tgE (tGt C t)) (hb : PSs X body (tS C F))
    (hs : ∀ x, foldedSetIterable iter X.env x = pure x) : PS X (.For tgE iter body [] pos) (tS C (fFor fi t F)) :=
  PS.imp (ps_for hp hc hi hg hb hs) fun Dn σ H ⟨Hf0, H0, Hf, ρ, env, h⟩ => ⟨Hf0, H0, Hf, ρ, env, SOut.bind env (show SOut C Hf0 H0 Hf Dn (fFor fi t F ρ) from h) fun ds J Hf1 H1 _ g1 w h1 => by
    refine ⟨fun i m σ2 H2 => m = ds.length - i ∧ i ≤ ds.length ∧ ∃ (Hf2 : Hp) (ρ2 : Env), Same Hf1 Hf2 ∧ EnvR C.K Hf0 H0 Hf2 H2 σ2 ρ2 ∧ SOut C Hf0 H0 Hf2 Dn (forLoop t F (ds.drop i) ρ2), ⟨ds.length, by simp, Nat.zero_le _, Hf1, ρ, Same.refl _, env.more g1, h1⟩, ?_⟩
    rintro i m σ2 H2 ⟨rfl, hi, Hf2, ρ2, s2, e2, h2⟩
    by_cases hlt : i < ds.length
    · refine .inr ⟨w.goes i H2 hlt (s2.trans e2.grow.sub), fun σ3 H3 => i + 1 ≤ ds.length ∧ ∃ (Hf3 : Hp) (ρ3 : Env), Same Hf1 Hf3 ∧ EnvR C.K Hf0 H0 Hf3 H3 σ3 ρ3 ∧ SOut C Hf0 H0 Hf3 Dn (forLoop t F (ds.drop (i + 1)) ρ3), fun σ3 H3 p => ⟨ds.length - (i + 1), by omega, rfl, p⟩, fun x H3 y => ?_⟩
      obtain ⟨Hg, g3, rx⟩ := w.yields i Hf2 H2 H3 x ds[i] (List.getElem?_eq_getElem hlt) s2 e2.grow.sub y
      rw [List.drop_eq_getElem_cons hlt] at h2
      unfold forLoop at h2
      cases e1 : fTg t ds[i] ρ2 with
      | bad => rw [e1] at h2; exact h2.elim
      | exc c =>
        exfalso
        unfold fTg at e1
        split at e1
        · cases e1
        · split at e1 <;> cases e1
        · split at e1 <;> cases e1
        · cases e1
      | ok ρ1 =>
        rw [e1] at h2
        have h2 : SOut C Hf0 H0 Hf2 Dn (F ρ1 >>= fun o => match o with | .nx ρ' => forLoop t F (ds.drop (i + 1)) ρ' | .ct ρ' => forLoop t F (ds.drop (i + 1)) ρ' | .bk ρ' => .ok (.nx ρ') | .rt v => .ok (.rt v)) := h2
        refine ⟨Hf0, H0, Hg, ρ2, ds[i], e2.more g3, rx, ρ1, e1, fun σ3 e3 _ => ⟨Hf0, H0, Hg, ρ1, e3, ?_⟩⟩
        have sg : Same Hf1 Hg := s2.trans g3.f
        cases eo : F ρ1 with
        | bad => rw [eo] at h2; exact h2.elim
        | exc c => rw [eo] at h2; exact h2
        | ok o =>
          rw [eo] at h2
          cases o with
          | nx ρ' => exact fun Hf' H' σ' s' e' => ⟨hlt, Hf', ρ', sg.trans s', e', SOut.mono (show SOut C Hf0 H0 Hf2 Dn (forLoop t F (ds.drop (i + 1)) ρ') from h2) (g3.f.trans s')⟩
          | ct ρ' => exact fun Hf' H' σ' s' e' => ⟨hlt, Hf', ρ', sg.trans s', e', SOut.mono (show SOut C Hf0 H0 Hf2 Dn (forLoop t F (ds.drop (i + 1)) ρ') from h2) (g3.f.trans s')⟩
          | bk ρ' => exact fun Hf' H' σ' s' e' => h2 Hf' H' σ' (g3.f.trans s') e'
          | rt v => exact h2
    · have ei : i = ds.length := by omega
      subst ei
      rw [List.drop_length] at h2
      exact .inl ⟨w.stops H2 (s2.trans e2.grow.sub), h2 Hf2 H2 σ2 (Same.refl _) e2⟩⟩
def whLoop (ft : Env → R Bool) (fb : Env → R Out) : Nat → Env → R Out
  | 0, _ => .bad
  | n + 1, ρ => ft ρ >>= fun b => if b then fb ρ >>= fun o => match o with
      | .nx ρ' => whLoop ft fb n ρ'
      | .ct ρ' => whLoop ft fb n ρ'
      | .bk ρ' => .ok (.nx ρ')
      | .rt v => .ok (.rt v)
    else .ok (.nx ρ)
theorem s_while {c : Expr} {t : Env → R Bool} {body : List Stmt} (n : Nat) (hp : PassesOwn (model X.prog X.w) X.A X.env X.xe) (hc : PT X c (tT C t)) (hb : PSs X body (tS C F)) : PS X (.While c body [] pos) (tS C (whLoop t F n)) :=
  PS.imp (ps_while hp hc hb) fun Dn σ H ⟨Hf0, H0, Hf, ρ, env, h⟩ => by
    refine ⟨fun m σ2 H2 => ∃ (Hf2 : Hp) (ρ2 : Env), EnvR C.K Hf0 H0 Hf2 H2 σ2 ρ2 ∧ SOut C Hf0 H0 Hf2 Dn (whLoop t F m ρ2), ⟨n, Hf, ρ, env, h⟩, ?_⟩
    rintro m σ2 H2 ⟨Hf2, ρ2, e2, h2⟩
    cases m with
    | zero => exact h2.elim
    | succ m =>
      unfold whLoop at h2
      refine ⟨Hf0, H0, Hf2, ρ2, e2, SOut.bind e2 h2 fun b b' Hf3 H3 _ g3 r3 h3 => ?_⟩
      subst r3
      cases b' with
      | false => exact iteF (h3 Hf3 H3 σ2 (Same.refl _) (e2.more g3))
      | true =>
        have h3 : SOut C Hf0 H0 Hf3 Dn (F ρ2 >>= fun o => match o with | .nx ρ' => whLoop t F m ρ' | .ct ρ' => whLoop t F m ρ' | .bk ρ' => .ok (.nx ρ') | .rt v => .ok (.rt v)) := h3
        refine iteT ⟨fun σ4 H4 => ∃ (Hf4 : Hp) (ρ4 : Env), EnvR C.K Hf0 H0 Hf4 H4 σ4 ρ4 ∧ SOut C Hf0 H0 Hf4 Dn (whLoop t F m ρ4), fun σ4 H4 p => ⟨m, by omega, p⟩, Hf0, H0, Hf3, ρ2, e2.more g3, ?_⟩
        cases eo : F ρ2 with
        | bad => rw [eo] at h3; exact h3.elim
        | exc c => rw [eo] at h3; exact h3
        | ok o =>
          rw [eo] at h3
          cases o with
          | nx ρ' => exact fun Hf' H' σ' s' e' => ⟨Hf', ρ', e', SOut.mono (show SOut C Hf0 H0 Hf3 Dn (whLoop t F m ρ') from h3) s'⟩
          | ct ρ' => exact fun Hf' H' σ' s' e' => ⟨Hf', ρ', e', SOut.mono (show SOut C Hf0 H0 Hf3 Dn (whLoop t F m ρ') from h3) s'⟩
          | bk ρ' => exact fun Hf' H' σ' s' e' => h3 Hf' H' σ' s' e'
          | rt v => exact h3
end
end DL
/-! The data layer: methods of own lists, several targets, raise, a list comprehension's list. -/
namespace DL
open PySem PySem.Spec PyProof.Rows L2
/-! ### an own object changed -/
theorem EnvR.turn {K : PySem.W.Frag} {Hf0 H0 Hf H : Hp} {σ : L2.St} {ρ : Env} {i : Nat} {d d' : D} {a : Addr} {o : HO} (e : EnvR K Hf0 H0 Hf H σ ρ) (hi : ρ[i]? = some (.ow d)) (ha : σ[i]? = some (some (.ref a))) (n0 : H0 a = none) (nf : Hf a = none)
    (ow : OwnAt K Hf (upd H a o) a d') : EnvR K Hf0 H0 Hf (upd H a o) σ (ρ.set i (.ow d')) := by
  refine ⟨⟨e.grow.f, fun b x q => ?_, e.grow.new, fun b x q => ?_⟩, by rw [List.length_set]; exact e.len, fun j s w h1 h2 => ?_, fun j k d1 d2 b h1 h2 h3 h4 => ?_⟩
  · rw [upd_ne (ne_of_none q n0)]; exact e.grow.h _ _ q
  · have : b ≠ a := fun z => by rw [z, nf] at q; cases q
    rw [upd_ne this]; exact e.grow.sub _ _ q
  · by_cases q : i = j
    · subst q
      have l1 : i < ρ.length := by simpa using (List.getElem?_eq_some_iff.mp h1).1
      rw [List.getElem?_set_self l1] at h1
      cases h1
      rw [ha] at h2
      cases h2
      exact ⟨a, rfl, ow, n0⟩
    · rw [List.getElem?_set_ne q] at h1
      have z := e.slot j s w h1 h2
      cases s with
      | un => trivial
      | va d' => exact z
      | ow d2 =>
        obtain ⟨b, q1, q2, q3⟩ := z
        subst q1
        have nb : b ≠ a := fun z => by subst z; exact q (e.dis i j d d2 b hi h1 ha h2)
        refine ⟨b, rfl, ?_, q3⟩
        cases d2 with
        | list ds => obtain ⟨xs, p1, p2, p3, p4⟩ := q2; exact ⟨xs, p1, by rw [upd_ne nb]; exact p2, p3, p4⟩
        | dict ds => obtain ⟨xs, p1, p2, p3, p4⟩ := q2; exact ⟨xs, p1, by rw [upd_ne nb]; exact p2, p3, p4⟩
        | _ => exact q2.elim
  · have keep : ∀ (j : Nat) (d1 : D), (ρ.set i (DL.Slot.ow d'))[j]? = some (DL.Slot.ow d1) → ∃ d3 : D, ρ[j]? = some (DL.Slot.ow d3) := fun j d1 h => by
      by_cases q : i = j
      · subst q; exact ⟨d, hi⟩
      · rw [List.getElem?_set_ne q] at h; exact ⟨d1, h⟩
    obtain ⟨d3, q1⟩ := keep j d1 h1
    obtain ⟨d4, q2⟩ := keep k d2 h2
    exact e.dis j k d3 d4 b q1 q2 h3 h4
section
variable {X : Cx} {C : Pm} {pos p1 apos cpos : Pos} {e : Expr} {fe : Env → R D} {i : Nat} {x : Str}
theorem few_one (hs : isStar e = false) : ((backTo cpos (starEach [e] X.env)).all (fun x => !x.1) && (backToKw cpos (keywordEach [] X.env)).all (fun x => x.1.isSome)
      && decide (([e] : List Expr).length + ([] : List Keyword).length + (if ([] : List Keyword).isEmpty then 0 else 1) < 30)) = true := by
  rw [star_cons hs]
  rfl
/-- x.append(e) -/
def fApp (i : Nat) (fe : Env → R D) : Env → R Out := fun ρ => match ρ[i]? with
  | some (.ow (.list ds)) => fe ρ >>= fun d => if ds.length < 1000000 then .ok (.nx (ρ.set i (.ow (.list (ds ++ [d]))))) else .bad
  | _ => .bad
theorem s_app (hN : X.N[i]? = some x) (hv : Vis X.env.scope x) (hd : (x == ("__debug__" : Str)) = false) (hcd : (x == ("__classdict__" : Str)) = false) (he : PE X e (tE C fe)) (hs : isStar e = false) (hl : (apos.endLine == cpos.line) = true) :
    PS X (.Expr (.Call (.Attribute (.Name x p1) "append" apos) [e] [] cpos) pos) (tS C (fApp i fe)) := by
  have hp : PE X (.Call (.Attribute (.Name x p1) "append" apos) [e] [] cpos) (tBM X.K "list" rAppend (tVar i) (tCons (tE C fe) tNil)) :=
    pe_bm PySem.F.plainAttrs_list PySem.F.slot_list_append PySem.F.type_list_append mt_append (pe_var hN hv hd hcd) (pa_cons he pa_nil (star_cons hs)) rfl (few_one hs) hl (star_cons hs) rfl
  refine PS.imp (ps_expr hp rfl) fun Dn σ H ⟨Hf0, H0, Hf, ρ, env, h⟩ => ?_
  unfold fApp at h
  split at h
  · rename_i ds hi
    obtain ⟨v, hσ, a, h2, ⟨xs, p1, p2, p3, p4⟩, n0⟩ := slot_there env hi
    subst h2
    refine ⟨.ref a, hσ, .inl ⟨rfl, xs, SqL.of p2⟩, Hf0, H0, Hf, ρ, env, SOut.bind env h fun d y Hf1 H1 _ g r h1 => ?_⟩
    split at h1
    · rename_i hlen
      have e1 := env.more g
      obtain ⟨v', hσ', a', h2', ⟨ys, q1, q2, q3, q4⟩, _⟩ := slot_there e1 hi
      rw [hσ] at hσ'
      cases hσ'
      cases h2'
      have q5 : H1 a = some (.lst xs) := g.h _ _ p2
      rw [q5] at q2
      cases q2
      have hl2 := q4.length
      refine ⟨a, xs, y, rfl, rfl, q5, by rw [sizeLine_eq]; omega, h1 Hf1 _ σ (Same.refl _) (e1.turn hi hσ n0 q1 ⟨_, q1, upd_same, ?_, q4.append (.cons r .nil)⟩)⟩
      rw [List.length_append, sizeLine_eq]
      simp
      omega
    · exact h1.elim
  · exact h.elim
/-- x.extend(e) -/
def fExt (i : Nat) (fe : Env → R D) : Env → R Out := fun ρ => match ρ[i]? with
  | some (.ow (.list ds)) => fe ρ >>= fun d => match d with
    | .list es => if ds.length + es.length < 1000000 then .ok (.nx (ρ.set i (.ow (.list (ds ++ es))))) else .bad
    | _ => .bad
  | _ => .bad
theorem s_ext (hN : X.N[i]? = some x) (hv : Vis X.env.scope x) (hd : (x == ("__debug__" : Str)) = false) (hcd : (x == ("__classdict__" : Str)) = false) (he : PE X e (tE C fe)) (hs : isStar e = false) (hl : (apos.endLine == cpos.line) = true) :
    PS X (.Expr (.Call (.Attribute (.Name x p1) "extend" apos) [e] [] cpos) pos) (tS C (fExt i fe)) := by
  have hp : PE X (.Call (.Attribute (.Name x p1) "extend" apos) [e] [] cpos) (tBM X.K "list" rExtend (tVar i) (tCons (tE C fe) tNil)) :=
    pe_bm PySem.F.plainAttrs_list PySem.F.slot_list_extend PySem.F.type_list_extend mt_extend (pe_var hN hv hd hcd) (pa_cons he pa_nil (star_cons hs)) rfl (few_one hs) hl (star_cons hs) rfl
  refine PS.imp (ps_expr hp rfl) fun Dn σ H ⟨Hf0, H0, Hf, ρ, env, h⟩ => ?_
  unfold fExt at h
  split at h
  · rename_i ds hi
    obtain ⟨v, hσ, a, h2, ⟨xs, p1, p2, p3, p4⟩, n0⟩ := slot_there env hi
    subst h2
    refine ⟨.ref a, hσ, .inl ⟨rfl, xs, SqL.of p2⟩, Hf0, H0, Hf, ρ, env, SOut.bind env h fun d y Hf1 H1 _ g r h1 => ?_⟩
    split at h1
    · split at h1
      · rename_i es hlen
        cases r with
        | @lst b zs _ b1 b2 b3 =>
          have e1 := env.more g
          obtain ⟨v', hσ', a', h2', ⟨ys, q1, q2, q3, q4⟩, _⟩ := slot_there e1 hi
          rw [hσ] at hσ'
          cases hσ'
          cases h2'
          have q5 : H1 a = some (.lst xs) := g.h _ _ p2
          rw [q5] at q2
          cases q2
          have hl2 := q4.length
          have hl3 := b3.length
          refine ⟨a, b, xs, zs, rfl, rfl, q5, g.sub _ _ b1, by rw [sizeLine_eq]; omega, h1 Hf1 _ σ (Same.refl _) (e1.turn hi hσ n0 q1 ⟨_, q1, upd_same, ?_, q4.append b3⟩)⟩
          rw [List.length_append, sizeLine_eq]
          omega
      · exact h1.elim
    · exact h1.elim
  · exact h.elim
/-! ### raise X("..") -/
structure ExcOk (X : Cx) (cl : Str → Addr) (x : Str) : Prop where
  q : PySem.W.excIn X.K (cl x) [.type "ValueError", .type "Exception", .type "BaseException", .type "object"] "ValueError.__new__" = true
  g : X.mg x = some (.ref (cl x))
  k : PySem.W.keepIn X.K (.ref (cl x)) = true
  r : Raises X (.ref (cl x))
theorem s_raise {m : Str} {j : Nat} {p p2 : Pos} (hc : X.calm = true) (tk : Takes X fun cls d _ H => C.E cls d H) (ok : ExcOk X C.cl x) (hg : Gl X x) (hdb : (x == ("__debug__" : Str)) = false) :
    PS X (.Raise (some (.Call (.Name x p) [.Constant (.str m) j p2] [] cpos)) none pos) (tS C fun _ => .exc x) :=
  PS.imp (ps_raise hc tk (pmk_own PySem.F.excBase_ValueError ok.q ok.g ok.k ok.r hg hdb)) fun Dn σ H ⟨Hf0, H0, Hf, ρ, env, h⟩ => h Hf H env.grow
/-! ### several fresh and other values -/
def owns : List Bool → List V → List Addr
  | true :: fl, .ref a :: vs => a :: owns fl vs
  | true :: fl, _ :: vs => owns fl vs
  | false :: fl, _ :: vs => owns fl vs
  | _, _ => []
inductive Mix (K : PySem.W.Frag) (Hp0 Hf H : Hp) : List Bool → List V → List D → Prop
  | nil : Mix K Hp0 Hf H [] [] []
  | va {v : V} {d : D} {fl : List Bool} {vs : List V} {ds : List D} : Rp K Hf v d → Mix K Hp0 Hf H fl vs ds → Mix K Hp0 Hf H (false :: fl) (v :: vs) (d :: ds)
  | ow {a : Addr} {d : D} {fl : List Bool} {vs : List V} {ds : List D} : Hp0 a = none → OwnAt K Hf H a d → a ∉ owns fl vs → Mix K Hp0 Hf H fl vs ds → Mix K Hp0 Hf H (true :: fl) (.ref a :: vs) (d :: ds)
theorem Mix.free {K : PySem.W.Frag} {Hp0 Hf H : Hp} {fl : List Bool} {vs : List V} {ds : List D} (m : Mix K Hp0 Hf H fl vs ds) : ∀ b ∈ owns fl vs, Hp0 b = none := by
  induction m with
  | nil => intro b hb; simp [owns] at hb
  | va _ _ ih => intro b hb; simp only [owns] at hb; exact ih b hb
  | ow h _ _ _ ih =>
    intro b hb
    simp only [owns, List.mem_cons] at hb
    rcases hb with z | z
    · subst z; exact h
    · exact ih b z
theorem Mix.back {K : PySem.W.Frag} {Hp0 Hp1 Hf H : Hp} {fl : List Bool} {vs : List V} {ds : List D} (s : Same Hp0 Hp1) (m : Mix K Hp1 Hf H fl vs ds) : Mix K Hp0 Hf H fl vs ds := by
  induction m with
  | nil => exact .nil
  | va h _ ih => exact .va h ih
  | ow h o n _ ih => exact .ow (Same.free s h) o n ih
theorem Mix.grow {K : PySem.W.Frag} {Hp0 Hf H Hf' H' : Hp} {fl : List Bool} {vs : List V} {ds : List D} (g : Grow Hf H Hf' H') (m : Mix K Hp0 Hf H fl vs ds) : Mix K Hp0 Hf' H' fl vs ds := by
  induction m with
  | nil => exact .nil
  | va h _ ih => exact .va (h.mono g.f) ih
  | ow h o n _ ih => exact .ow h (o.grow g) n ih
theorem Mix.len {K : PySem.W.Frag} {Hp0 Hf H : Hp} {fl : List Bool} {vs : List V} {ds : List D} (m : Mix K Hp0 Hf H fl vs ds) : vs.length = fl.length ∧ ds.length = fl.length := by
  induction m with
  | nil => exact ⟨rfl, rfl⟩
  | va _ _ ih => exact ⟨by simp [ih.1], by simp [ih.2]⟩
  | ow _ _ _ _ ih => exact ⟨by simp [ih.1], by simp [ih.2]⟩
abbrev RelM (C : Pm) (fl : List Bool) (Hp0 : Hp) : Hp → Hp → List V → List D → Prop := fun Hf H vs ds => Mix C.K Hp0 Hf H fl vs ds
def tM (C : Pm) (fl : List Bool) (f : Env → R (List D)) : TA := fun σ H Q => ∃ (Hf0 H0 Hf : Hp) (ρ : Env), EnvR C.K Hf0 H0 Hf H σ ρ ∧ OutG C (RelM C fl H) Hf H (f ρ) Q
variable {es : List Expr} {fl : List Bool} {fr : Env → R (List D)}
theorem m_nil : PA X [] (tM C [] fun _ => .ok []) := PA.imp pa_nil fun σ H Q ⟨Hf0, H0, Hf, ρ, env, h⟩ => h _ Hf H (Grow.refl env.grow.sub) .nil
theorem OwnAt.there {K : PySem.W.Frag} {Hf H : Hp} {a : Addr} {d : D} (h : OwnAt K Hf H a d) : ∃ u, H a = some u := by
  cases d with
  | list ds => obtain ⟨xs, _, q, _⟩ := h; exact ⟨_, q⟩
  | dict ds => obtain ⟨xs, _, q, _⟩ := h; exact ⟨_, q⟩
  | _ => exact h.elim
theorem m_va (hs : isStar e = false) (ha : PE X e (tE C fe)) (hr : PA X es (tM C fl fr)) : PA X (e :: es) (tM C (false :: fl) (fCons fe fr)) :=
  PA.imp (pa_cons ha hr (star_cons hs)) fun σ H Q ⟨Hf0, H0, Hf, ρ, env, h⟩ => ⟨Hf0, H0, Hf, ρ, env, OutG.bind (show OutG C (RelM C (false :: fl) H) Hf H (fCons fe fr ρ) Q from h) fun dx vx Hf1 H1 _ g1 r1 h1 =>
    ⟨Hf0, H0, Hf1, ρ, env.more g1, h1.bind fun ds vs Hf2 H2 _ g2 r2 h2 => h2 _ Hf2 H2 (Grow.refl g2.sub) (.va (r1.mono g2.f) (r2.back g1.h))⟩⟩
theorem m_ow (hs : isStar e = false) (ha : PE X e (tF C fe)) (hr : PA X es (tM C fl fr)) : PA X (e :: es) (tM C (true :: fl) (fCons fe fr)) :=
  PA.imp (pa_cons ha hr (star_cons hs)) fun σ H Q ⟨Hf0, H0, Hf, ρ, env, h⟩ => ⟨Hf0, H0, Hf, ρ, env, OutG.bind (show OutG C (RelM C (true :: fl) H) Hf H (fCons fe fr ρ) Q from h) fun dx vx Hf1 H1 _ g1 r1 h1 =>
    ⟨Hf0, H0, Hf1, ρ, env.more g1, h1.bind fun ds vs Hf2 H2 _ g2 r2 h2 => by
      obtain ⟨a, rfl, na, o⟩ := r1
      obtain ⟨u, hu⟩ := o.there
      refine h2 _ Hf2 H2 (Grow.refl g2.sub) (.ow na (o.grow g2) (fun z => ?_) (r2.back g1.h))
      have := r2.free a z
      rw [hu] at this
      cases this⟩⟩
def setV : List Nat → List V → L2.St → L2.St
  | i :: is, v :: vs, σ => setV is vs (σ.set i (some v))
  | _, _, σ => σ
def setFl : List Bool → List Nat → List D → Env → Env
  | true :: fl, i :: is, d :: ds, ρ => setFl fl is ds (ρ.set i (.ow d))
  | false :: fl, i :: is, d :: ds, ρ => setFl fl is ds (ρ.set i (.va d))
  | _, _, _, ρ => ρ
theorem EnvR.putMix {K : PySem.W.Frag} {Hf0 H0 Hf H Hp0 : Hp} (s0 : Same H0 Hp0) : ∀ {fl : List Bool} {vs : List V} {ds : List D}, Mix K Hp0 Hf H fl vs ds → ∀ {is : List Nat} {σ : L2.St} {ρ : Env}, EnvR K Hf0 H0 Hf H σ ρ →
    (∀ (j : Nat) (d : D) (a : Addr), ρ[j]? = some (DL.Slot.ow d) → σ[j]? = some (some (.ref a)) → a ∉ owns fl vs) → is.length = fl.length → EnvR K Hf0 H0 Hf H (setV is vs σ) (setFl fl is ds ρ)
  | _, _, _, .nil, [], σ, ρ, e, _, _ => e
  | _, _, _, .nil, _ :: _, _, _, _, _, hl => by simp at hl
  | _, _, _, .va _ _, [], _, _, _, _, hl => by simp at hl
  | _, _, _, .ow _ _ _ _, [], _, _, _, _, hl => by simp at hl
  | _, _, _, .va (v := v) (d := d) h m, i :: is, σ, ρ, e, hp, hl => by
    unfold setV setFl
    refine EnvR.putMix s0 m (e.put h) (fun j d1 a h1 h2 => ?_) (by simpa using hl)
    by_cases q : i = j
    · subst q
      have l1 : i < ρ.length := by simpa using (List.getElem?_eq_some_iff.mp h1).1
      rw [List.getElem?_set_self l1] at h1
      cases h1
    · rw [List.getElem?_set_ne q] at h1 h2
      have := hp j d1 a h1 h2
      simpa [owns] using this
  | _, _, _, .ow (a := b) (d := d) h o n m, i :: is, σ, ρ, e, hp, hl => by
    unfold setV setFl
    refine EnvR.putMix s0 m (e.putOwn o (Same.free s0 h) fun j d1 h1 h2 => ?_) (fun j d1 a h1 h2 => ?_) (by simpa using hl)
    · have := hp j d1 b h1 h2
      simp [owns] at this
    · by_cases q : i = j
      · subst q
        have l2 : i < σ.length := by simpa using (List.getElem?_eq_some_iff.mp h2).1
        rw [List.getElem?_set_self l2] at h2
        cases h2
        exact n
      · rw [List.getElem?_set_ne q] at h1 h2
        have := hp j d1 a h1 h2
        simp only [owns, List.mem_cons, not_or] at this
        exact this.2
def fPar (fl : List Bool) (is : List Nat) (fr : Env → R (List D)) : Env → R Out := fun ρ => fr ρ >>= fun ds => .ok (.nx (setFl fl is ds ρ))
theorem par_in {is : List Nat} (hl : is.length = fl.length) {Dn : Ends} {σ : L2.St} {H : Hp} {Q : List V → Hp → Prop} (h : tS C (fPar fl is fr) Dn σ H) (hq : ∀ vs H1, vs.length = is.length → (∀ H2, Same H1 H2 → Dn.nx (setV is vs σ) H2) → Q vs H1) : tM C fl fr σ H Q := by
  obtain ⟨Hf0, H0, Hf, ρ, env, h⟩ := h
  refine ⟨Hf0, H0, Hf, ρ, env, SOut.bind env (show SOut C Hf0 H0 Hf Dn (fPar fl is fr ρ) from h) fun ds vs Hf1 H1 _ g m h1 => hq vs H1 (by rw [m.len.1, hl]) fun H2 s2 => ?_⟩
  have g2 : Grow Hf1 H1 Hf1 H2 := ⟨Same.refl _, s2, fun _ _ q => .inl q, g.sub.trans s2⟩
  refine h1 Hf1 H2 _ (Same.refl _) (EnvR.putMix (Hp0 := H) env.grow.h (m.grow g2) ((env.more g).more g2) (fun j d a q1 q2 q3 => ?_) hl)
  have z := m.free a q3
  exact env.notOwn z j d q1 q2
def gNames (is : List Nat) : TGs := fun vs σ H Q => vs.length = is.length ∧ Q (setV is vs σ) H
theorem g_names {ts : List Expr} {is : List Nat} (hN : X.N.Nodup) (h : Nms X ts is) : PGs X ts (gNames is) := by
  induction h with
  | nil =>
    refine PGs.imp pgs_nil fun v σ H Q ⟨h1, h2⟩ => ?_
    have e : v = [] := List.eq_nil_of_length_eq_zero h1
    subst e
    exact ⟨rfl, h2⟩
  | cons h _ ih =>
    refine PGs.imp (pgs_cons (pg_name hN h.1 h.2.1 h.2.2) ih assignEach_name) fun v σ H Q ⟨h1, h2⟩ => ?_
    cases v with
    | nil => cases h1
    | cons v vs => exact ⟨v, vs, rfl, by simpa using h1, h2⟩
theorem len_sz {X : Cx} {vs : List V} {is : List Nat} (h : vs.length = is.length) (hs : is.length ≤ 1000) : vs.length ≤ sizeLine := le_line (by omega)
theorem s_parN {ts : List Expr} {is : List Nat} {k k2 : Nat} {pt pt2 : Pos} (hc : X.calm = true) (hN : X.N.Nodup) (hn : Nms X ts is) (hl : is.length = fl.length) (hsz : is.length ≤ 1000) (ha : PA X es (tM C fl fr))
    (hw : swappedStores [.Tuple ts k pt] (.Tuple es k2 pt2) X.env = pure none) : PS X (.Assign [.Tuple ts k pt] (.Tuple es k2 pt2) pos) (tS C (fPar fl is fr)) :=
  PS.imp (ps_asg (pe_tup ha) (pg_tup (n := is.length) hc (g_names hN hn) (nms_len hn _) (nms_star hn _)) rfl hw rfl) fun Dn σ H h => par_in hl h fun vs H1 e q =>
    ⟨len_sz (X := X) e hsz, fun p np => ⟨p, vs, rfl, SqT.of upd_same, e, e, q _ (same_upd np)⟩⟩
theorem s_par2 {i j : Nat} {x y : Str} {a b : Expr} {px py pt pt2 : Pos} {kt k2 : Nat} (hc : X.calm = true) (hN : X.N.Nodup) (hi : X.N[i]? = some x) (hj : X.N[j]? = some y) (hij : i ≠ j)
    (hx : X.env.scope.names.lookup x = some .local) (hy : X.env.scope.names.lookup y = some .local) (hl : fl.length = 2) (ha : PA X [a, b] (tM C fl fr))
    (hw : swappedStores [.Tuple [.Name x px, .Name y py] kt pt] (.Tuple [a, b] k2 pt2) X.env = pure (some [x, y])) :
    PS X (.Assign [.Tuple [.Name x px, .Name y py] kt pt] (.Tuple [a, b] k2 pt2) pos) (tS C (fPar fl [i, j] fr)) :=
  PS.imp (ps_par hc hN hi hj hij hx hy ha hw rfl) fun Dn σ H h => par_in (is := [i, j]) (by rw [hl]; rfl) h fun vs H1 e q => by
    match vs, e with
    | [v, w], _ => exact ⟨v, w, rfl, q _ (Same.refl _)⟩
theorem s_par3 {i j l : Nat} {x y z : Str} {a b c : Expr} {px py pz pt pt2 : Pos} {kt k2 : Nat} (hc : X.calm = true) (hN : X.N.Nodup) (hi : X.N[i]? = some x) (hj : X.N[j]? = some y) (hk : X.N[l]? = some z) (hij : i ≠ j) (hil : i ≠ l) (hjl : j ≠ l)
    (hx : X.env.scope.names.lookup x = some .local) (hy : X.env.scope.names.lookup y = some .local) (hz : X.env.scope.names.lookup z = some .local) (hl : fl.length = 3) (ha : PA X [a, b, c] (tM C fl fr))
    (hw : swappedStores [.Tuple [.Name x px, .Name y py, .Name z pz] kt pt] (.Tuple [a, b, c] k2 pt2) X.env = pure (some [x, y, z])) :
    PS X (.Assign [.Tuple [.Name x px, .Name y py, .Name z pz] kt pt] (.Tuple [a, b, c] k2 pt2) pos) (tS C (fPar fl [i, j, l] fr)) :=
  PS.imp (ps_par3 hc hN hi hj hk hij hil hjl hx hy hz ha hw rfl) fun Dn σ H h => par_in (is := [i, j, l]) (by rw [hl]; rfl) h fun vs H1 e q => by
    match vs, e with
    | [u, v, w], _ => exact ⟨u, v, w, rfl, q _ (Same.refl _)⟩
/-! which stores are swapped -/
def swNames (sc : Scope) (ts : List Expr) : List Str := ts.filterMap fun
  | .Name id pos => if sc.names.lookup id == some .local && pos.line == (ts.head?.map (·.pos.line)).getD 0 then some id else none
  | _ => none
def swap? (sc : Scope) (ts vs : List Expr) : Option (Option (List Str)) :=
  if (!(ts.length == 2 || ts.length == 3) || vs.length != ts.length) = true then some none
  else if (vs.any fun | .Starred .. => true | _ => false) = true then some none
  else if ((swNames sc ts).length != ts.length || (swNames sc ts).eraseDups.length != (swNames sc ts).length) = true then some none
  else if vs.all (foldedForSure 8) = true then some none
  else if vs.all (constantsAlone 8) = true then none
  else some (some (swNames sc ts))
theorem swap_ok {ts vs : List Expr} {k k2 : Nat} {pt pt2 : Pos} {env : PySem.Env} {o : Option (List Str)} (hk : env.scope.kind = .function) (h : swap? env.scope ts vs = some o) : swappedStores [.Tuple ts k pt] (.Tuple vs k2 pt2) env = pure o := by
  have hb : env.blockKind = .function := by unfold PySem.Env.blockKind; rw [hk]; rfl
  unfold swap? at h
  unfold swappedStores
  simp only [hb]
  split at h
  · rename_i c
    cases h
    have c2 : (!(ts.length == 2 || ts.length == 3) || vs.length != ts.length || ScopeKind.function != ScopeKind.function) = true := by rw [c]; rfl
    rw [if_pos c2]
  · rename_i c
    have c2 : ¬ (!(ts.length == 2 || ts.length == 3) || vs.length != ts.length || ScopeKind.function != ScopeKind.function) = true := by
      have z : (ScopeKind.function != ScopeKind.function) = false := rfl
      rw [z, Bool.or_false]
      exact c
    rw [if_neg c2]
    split at h
    · rename_i c
      cases h
      exact if_pos c
    · rename_i c
      split at h
      · rename_i c1
        cases h
        exact (if_neg c).trans (if_pos c1)
      · rename_i c1
        split at h
        · rename_i c3
          cases h
          exact (if_neg c).trans ((if_neg c1).trans (if_pos c3))
        · rename_i c3
          split at h
          · cases h
          · rename_i c4
            cases h
            exact (if_neg c).trans ((if_neg c1).trans ((if_neg c3).trans (if_neg c4)))
end
end DL
/-! The data layer: the evaluator of expressions, and that it is right. -/
namespace DL
open PySem PySem.Spec PyProof.Rows L2
structure Tbl where
  fn : Str → Option (Nat × (List D → R D))
  con : Str → Option D
  exc : Str → Bool
/-- where one stands: the scope, the names that may be stored -/
structure Sc where
  sc : Scope
  wr : List Str
def nIx (N : List Str) (x : Str) : Option Nat := N.findIdx? (· == x)
def okN (x : Str) : Bool := !(x == ("__debug__" : Str)) && !(x == ("__classdict__" : Str)) && !(x == ("__name__" : Str))
def isVis (sc : Scope) (x : Str) : Bool := match sc.names.lookup x with
  | some .local => true
  | some .cell => true
  | some .free => true
  | _ => false
def isLoc (sc : Scope) (x : Str) : Bool := match sc.names.lookup x with
  | some .local => true
  | some .cell => true
  | _ => false
def isGl (sc : Scope) (x : Str) : Bool := match sc.names.lookup x with
  | some .globalImplicit => true
  | _ => false
def relab (sc scope : Scope) : Scope := { scope with names := scope.names.map fun (n, k) => if (k == .free && sc.kind == .function && sc.names.lookup n == some .cell) then (n, .cell) else (n, k) }
def ownOf (N : List Str) (scope : Scope) : List (Str × Nat) := scope.names.filterMap fun y => match y.2 with
  | .local => (nIx N y.1).map fun i => (y.1, i)
  | .cell => (nIx N y.1).map fun i => (y.1, i)
  | _ => none
structure Ev where
  E : Sc → Expr → Env → R D
  P : Sc → Expr → Env → R D
  F : Sc → Expr → Option (Env → R D)
  B : Sc → Expr → Env → R Bool
  I : Sc → Expr → Expr → Env → R (List D)
def Ev.none : Ev := ⟨fun _ _ _ => .bad, fun _ _ _ => .bad, fun _ _ => Option.none, fun _ _ _ => .bad, fun _ _ _ _ => .bad⟩
def bad1 {α : Type} : Env → R α := fun _ => .bad
def argsE (v : Ev) (s : Sc) : List Expr → Env → R (List D)
  | [] => fun _ => .ok []
  | e :: es => if isStar e then bad1 else fCons (v.E s e) (argsE v s es)
def argsP (v : Ev) (s : Sc) : List Expr → Env → R (List D)
  | [] => fun _ => .ok []
  | e :: es => if isStar e then bad1 else fCons (v.P s e) (argsP v s es)
def andL (v : Ev) (s : Sc) : List Expr → Env → R D
  | [] => bad1
  | [a] => v.E s a
  | a :: b :: r => fAnd (v.P s a) (andL v s (b :: r))
def orL (v : Ev) (s : Sc) : List Expr → Env → R D
  | [] => bad1
  | [a] => v.E s a
  | a :: b :: r => fOr (v.P s a) (orL v s (b :: r))
def andT (v : Ev) (s : Sc) : List Expr → Env → R Bool
  | [] => bad1
  | [a] => v.B s a
  | a :: b :: r => tstAnd (v.B s a) (andT v s (b :: r))
def orT (v : Ev) (s : Sc) : List Expr → Env → R Bool
  | [] => bad1
  | [a] => v.B s a
  | a :: b :: r => tstOr (v.B s a) (orT v s (b :: r))
def partE (v : Ev) (s : Sc) : Option Expr → Env → R (Option Int)
  | none => fun _ => .ok none
  | some e => fun ρ => v.P s e ρ >>= dPart
section
variable (T : Tbl) (N : List Str)
/-- a name's place, if it may be stored -/
def stIx (s : Sc) (x : Str) : Option Nat := if isLoc s.sc x && s.wr.contains x then nIx N x else none
def nmsIx (s : Sc) : List Expr → Option (List Nat)
  | [] => some []
  | .Name x _ :: es => (stIx N s x).bind fun i => (nmsIx s es).map (i :: ·)
  | _ :: _ => none
def tgOf (s : Sc) : Expr → Option Tg
  | .Name x _ => (stIx N s x).map .one
  | .Tuple es _ _ => (nmsIx N s es).map .many
  | _ => none
def ifsT (v : Ev) (s : Sc) : List Expr → Option (Env → R Bool)
  | [] => some fun _ => .ok true
  | [c] => some (v.B s c)
  | _ => none
def isSetE : Expr → Bool
  | .Set .. => true
  | _ => false
def glF (s : Sc) (f : Str) : Bool := isGl s.sc f && okN f && (T.fn f).isNone
def stepF (v : Ev) (s : Sc) : Expr → Option (Env → R D)
  | .List es _ => some fun ρ => argsE v s es ρ >>= fun ds => okLen ds .list
  | .ListComp elt [⟨tg, iter, ifs, asy⟩] scope _ =>
    if decide (asy = 0) && blkC N s.sc scope (ownOf N scope) && !isSetE iter then
      (tgOf N ⟨relab s.sc scope, (ownOf N scope).map (·.1)⟩ tg).bind fun t => (ifsT v ⟨relab s.sc scope, (ownOf N scope).map (·.1)⟩ ifs).bind fun ft =>
        if t.ixs.all (fun i => ((ownOf N scope).map (·.2)).contains i) then
          some (fLc (v.I s tg iter) t ft (v.E ⟨relab s.sc scope, (ownOf N scope).map (·.1)⟩ elt) ((ownOf N scope).map (·.2)))
        else none
    else none
  | .Call (.Name f _) [a] [] _ =>
    if glF T s f && f == ("list" : Str) && !isStar a then some fun ρ => argsP v s [a] ρ >>= dList
    else if glF T s f && f == ("sorted" : Str) && !isStar a then some fun ρ => argsP v s [a] ρ >>= dSorted
    else none
  | _ => none
def blt (f : Str) : Option (List D → R D) :=
  if f == ("len" : Str) then some dLen else if f == ("all" : Str) then some dAll else if f == ("any" : Str) then some dAny else if f == ("abs" : Str) then some dAbs
  else if f == ("max" : Str) then some dMax else if f == ("min" : Str) then some dMin else if f == ("tuple" : Str) then some dTuple else none
def isiOf (t : Str) : Option String := isiTys.find? fun n => t == Str.ofString n
def stepE0 (v : Ev) (s : Sc) : Expr → Env → R D
  | .Name x _ => if isVis s.sc x && okN x then (match nIx N x with | some i => rdE i | none => bad1) else if isGl s.sc x && okN x then (match T.con x with | some d => fun _ => .ok d | none => bad1) else bad1
  | .Constant c _ _ => (match conD c with | some d => fun _ => .ok d | none => bad1)
  | .BinOp a op b _ => fun ρ => v.P s a ρ >>= fun x => v.P s b ρ >>= fun y => dBin op x y
  | .UnaryOp .Not a _ => fun ρ => v.P s a ρ >>= dNot
  | .UnaryOp .USub a _ => fun ρ => v.P s a ρ >>= dNeg
  | .BoolOp .And es _ => andL v s es
  | .BoolOp .Or es _ => orL v s es
  | .Compare a [op] [b] _ => if behindInMarks op b then bad1 else fun ρ => v.P s a ρ >>= fun x => v.P s b ρ >>= fun y => asBool (dCmp op x y)
  | .Compare a [op, op'] [b, c] _ => if lastMarks [op, op'] [b, c] then bad1 else fun ρ => asBool (fChain (dCmp op) (dCmp op') (v.P s a) (v.P s b) (v.P s c) ρ)
  | .Compare a [op, op', op2] [b, c, d] _ => if lastMarks [op, op', op2] [b, c, d] then bad1 else fun ρ => asBool (fChain3 (dCmp op) (dCmp op') (dCmp op2) (v.P s a) (v.P s b) (v.P s c) (v.P s d) ρ)
  | .IfExp c a b _ => fIf (v.B s c) (v.E s a) (v.E s b)
  | .Tuple es _ _ => fun ρ => argsE v s es ρ >>= fun ds => okLen ds .tuple
  | .Subscript a (.Slice lo hi none _) _ => fun ρ => v.P s a ρ >>= fun x => partE v s lo ρ >>= fun l => partE v s hi ρ >>= fun u => dSl x l u
  | .Subscript a (.Slice none none (some (.UnaryOp .USub (.Constant (.int 1) _ _) _)) _) _ => fun ρ => v.P s a ρ >>= fun x => (R.ok none : R (Option Int)) >>= fun l => dRev x l
  | .Subscript a (.Slice (some lo) none (some (.UnaryOp .USub (.Constant (.int 1) _ _) _)) _) _ => fun ρ => v.P s a ρ >>= fun x => match x with | .tuple _ => partE v s (some lo) ρ >>= fun l => dRev x l | _ => .bad
  | .Subscript _ (.Slice ..) _ => bad1
  | .Subscript a b _ => fun ρ => v.P s a ρ >>= fun x => v.P s b ρ >>= fun y => dIx x y
  | .Call (.Name f _) (e :: es) [] _ =>
    if isGl s.sc f && okN f then
      match T.fn f with
      | some (n, F) => if (e :: es).all (fun e => !isStar e) then fun ρ => argsE v s (e :: es) ρ >>= ari n F else bad1
      | none =>
        if f == ("isinstance" : Str) then
          match es with
          | [.Name t _] => (match isiOf t with
            | some tn => if isGl s.sc t && (T.fn t).isNone && !isStar e then fun ρ => v.P s e ρ >>= dIsi tn else bad1
            | none => bad1)
          | _ => bad1
        else match blt f with
          | some F => if (e :: es).all (fun e => !isStar e) then fun ρ => argsP v s (e :: es) ρ >>= F else bad1
          | none => bad1
    else bad1
  | _ => bad1
def stepE (v : Ev) (s : Sc) (e : Expr) : Env → R D := match stepF T N v s e with
  | some f => f
  | none => stepE0 T N v s e
def stepP (v : Ev) (s : Sc) (e : Expr) : Env → R D := match e with
  | .Name x _ => if isVis s.sc x && okN x then (match nIx N x with | some i => rdP i | none => bad1) else stepE T N v s e
  | e => stepE T N v s e
def stepB (v : Ev) (s : Sc) : Expr → Env → R Bool
  | .UnaryOp .Not a _ => tstNot (v.B s a)
  | .BoolOp .And es _ => andT v s es
  | .BoolOp .Or es _ => orT v s es
  | .Compare a [op] [b] _ => if behindInMarks op b then bad1 else fun ρ => v.P s a ρ >>= fun x => v.P s b ρ >>= fun y => dCmp op x y
  | .Compare a [op, op'] [b, c] _ => if lastMarks [op, op'] [b, c] then bad1 else fChain (dCmp op) (dCmp op') (v.P s a) (v.P s b) (v.P s c)
  | .Name x p => fun ρ => v.P s (.Name x p) ρ >>= dTru
  | .Call f es ks p => fun ρ => v.P s (.Call f es ks p) ρ >>= dTru
  | .Constant c k p => fun ρ => v.P s (.Constant c k p) ρ >>= dTru
  | .Subscript a b p => fun ρ => v.P s (.Subscript a b p) ρ >>= dTru
  | _ => bad1
def stepI (v : Ev) (s : Sc) (tg : Expr) : Expr → Env → R (List D)
  | .Call (.Name f p) [a] [] q =>
    if glF T s f && f == ("range" : Str) && !isStar a then fun ρ => argsP v s [a] ρ >>= dRng1
    else if glF T s f && f == ("enumerate" : Str) && !isStar a then (match tg with
      | .Tuple .. => fun ρ => argsE v s [a] ρ >>= dEnum
      | _ => bad1)
    else fun ρ => v.E s (.Call (.Name f p) [a] [] q) ρ >>= dItems
  | .Call (.Name f p) [a, b] [] q =>
    if glF T s f && f == ("range" : Str) && !isStar a && !isStar b then fun ρ => argsP v s [a, b] ρ >>= dRng2
    else if glF T s f && f == ("zip" : Str) && !isStar a && !isStar b then (match tg with
      | .Tuple .. => fun ρ => argsE v s [a, b] ρ >>= dZip
      | _ => bad1)
    else fun ρ => v.E s (.Call (.Name f p) [a, b] [] q) ρ >>= dItems
  | e => fun ρ => v.E s e ρ >>= dItems
def step (v : Ev) : Ev := ⟨stepE T N v, stepP T N v, stepF T N v, stepB v, stepI T v⟩
def ev : Nat → Ev
  | 0 => Ev.none
  | n + 1 => step T N (ev n)
end
/-! ### what the evaluator leans on -/
def blts : List Str := ["isinstance", "int", "bool", "str", "tuple", "list", "dict", "len", "all", "any", "abs", "max", "min", "sorted", "range", "zip", "enumerate", "set", "sum"]
structure CxOk (T : Tbl) (N : List Str) (X : Cx) (C : Pm) (s : Sc) : Prop where
  eK : C.K = X.K
  calm : X.calm = true
  eN : X.N = N
  nd : N.Nodup
  sc : X.env.scope = s.sc
  kind : s.sc.kind = .function
  wr : ∀ x ∈ s.wr, X.fn x = true ∨ s.sc.names.lookup x = some .local
  units : X.A.units + 65 < cLine
  tk : Takes X fun cls d _ H => C.E cls d H
  fn : ∀ (x : Str) (n : Nat) (F : List D → R D), T.fn x = some (n, F) → ∃ (k : Nat) (f : Addr) (fd : FuncData) (ps : List Str), FnOk X.prog X.w X.K X.mg X.base (L2.CX X.prog X.w) k f fd ps (spD X.K C.cl n F) ∧ Room k X.A ∧ X.mg x = some (.ref f) ∧ PySem.W.keepIn X.K (.ref f) = true ∧ Binds X.K fd ps []
  con : ∀ (x : Str) (d : D), T.con x = some d → ∃ (v : V) (u : Value), X.mg x = some u ∧ RelV v u ∧ FlatV v d
  free : ∀ x ∈ blts, T.fn x = none → X.mg x = none
  exc : ∀ x, T.exc x = true → ExcOk X C.cl x
section
variable {T : Tbl} {N : List Str} {X : Cx} {C : Pm} {s : Sc}
theorem nIx_ok {x : Str} {i : Nat} (h : nIx N x = some i) : N[i]? = some x := by
  unfold nIx at h
  rw [List.findIdx?_eq_some_iff_getElem] at h
  obtain ⟨h1, h2, _⟩ := h
  rw [List.getElem?_eq_getElem h1]
  exact congrArg some (by simpa using h2)
theorem okN_of {x : Str} (h : okN x = true) : (x == ("__debug__" : Str)) = false ∧ (x == ("__classdict__" : Str)) = false ∧ x ≠ "__name__" := by
  simp only [okN, Bool.and_eq_true, Bool.not_eq_true'] at h
  exact ⟨h.1.1, h.1.2, fun e => by rw [e] at h; simp at h⟩
theorem CxOk.vis (o : CxOk T N X C s) {x : Str} (h : isVis s.sc x = true) : Vis X.env.scope x := by
  rw [o.sc]
  unfold isVis at h
  unfold Vis
  split at h
  · rename_i e; exact .inl e
  · rename_i e; exact .inr (.inl e)
  · rename_i e; exact .inr (.inr e)
  · cases h
theorem CxOk.gl (o : CxOk T N X C s) {x : Str} (h : isGl s.sc x = true) : Gl X x := by
  show X.env.scope.names.lookup x = _
  rw [o.sc]
  unfold isGl at h
  split at h
  · rename_i e; exact e
  · cases h
theorem CxOk.st (o : CxOk T N X C s) {x : Str} {i : Nat} (h : stIx N s x = some i) : StoreOk X i x := by
  unfold stIx at h
  split at h
  · rename_i c
    simp only [Bool.and_eq_true] at c
    refine ⟨by rw [o.eN]; exact nIx_ok h, ?_, ?_⟩
    · have c1 := c.1
      rw [o.sc]
      unfold isLoc at c1
      split at c1
      · rename_i e; exact .inl e
      · rename_i e; exact .inr e
      · cases c1
    · rw [o.sc]
      exact o.wr x (by simpa using c.2)
  · cases h
theorem CxOk.nms (o : CxOk T N X C s) : ∀ {es : List Expr} {is : List Nat}, nmsIx N s es = some is → Nms X es is
  | [], is, h => by
    unfold nmsIx at h
    cases h
    exact .nil
  | e :: es, is, h => by
    unfold nmsIx at h
    split at h
    · rename_i e1; cases e1
    · rename_i x p es' e1
      cases e1
      cases q : stIx N s x with
      | none => rw [q] at h; cases h
      | some i =>
        rw [q] at h
        cases q2 : nmsIx N s es with
        | none => rw [q2] at h; cases h
        | some js =>
          rw [q2] at h
          cases h
          exact .cons (o.st q) (CxOk.nms o q2)
    · cases h
theorem CxOk.ndX (o : CxOk T N X C s) : X.N.Nodup := by rw [o.eN]; exact o.nd
theorem CxOk.tg (o : CxOk T N X C s) {e : Expr} {t : Tg} (h : tgOf N s e = some t) : PG X e (tGt C t) := by
  unfold tgOf at h
  split at h
  · rename_i x p
    cases q : stIx N s x with
    | none => rw [q] at h; cases h
    | some i =>
      rw [q] at h
      cases h
      exact g_one o.ndX (o.st q)
  · rename_i es k p
    cases q : nmsIx N s es with
    | none => rw [q] at h; cases h
    | some is =>
      rw [q] at h
      cases h
      exact g_many o.eK o.calm o.ndX (o.nms q)
  · cases h
theorem relab_eq {scope : Scope} {env : PySem.Env} : relabel scope env = relab env.scope scope := rfl
theorem lookup_mem {names : List (Str × NameKind)} {x : Str} {k : NameKind} (h : (x, k) ∈ names) (u : ∀ y ∈ names, names.lookup y.1 = some y.2) : names.lookup x = some k := u (x, k) h
/-- a comprehension's block -/
theorem CxOk.blk (o : CxOk T N X C s) {scope : Scope} {h0 : Shared} {H : Hp} {Ca : Addr} {cl : List (Str × Addr)} {fp : List Addr} (ok : BlkOk N s.sc scope (ownOf N scope)) :
    CxOk T N (X.blk h0 H scope (compEnvC scope cl Ca X.env) fp) C.calm ⟨relab s.sc scope, (ownOf N scope).map (·.1)⟩ where
  eK := o.eK
  calm := o.calm
  eN := o.eN
  nd := o.nd
  sc := by show relabel scope X.env = _; rw [relab_eq, o.sc]
  kind := ok.kind
  wr := fun x hx => by
    obtain ⟨⟨y, i⟩, hy, rfl⟩ := List.mem_map.mp hx
    unfold ownOf at hy
    obtain ⟨⟨z, k⟩, hz, e⟩ := List.mem_filterMap.mp hy
    have lk := ok.uniq (z, k) hz
    cases k with
    | «local» =>
      cases q : nIx N z with
      | none => simp [q] at e
      | some j =>
        simp [q] at e
        obtain ⟨rfl, rfl⟩ := e
        right
        show (relab s.sc scope).names.lookup z = _
        exact lookup_relabel_local (env := { X.env with scope := s.sc }) lk
    | cell =>
      cases q : nIx N z with
      | none => simp [q] at e
      | some j =>
        simp [q] at e
        obtain ⟨rfl, rfl⟩ := e
        left
        show (scope.names.lookup z == some .cell) = true
        rw [lk]
        rfl
    | _ => simp at e
  units := o.units
  tk := takes0
  fn := o.fn
  con := o.con
  free := o.free
  exc := fun x hx => ⟨(o.exc x hx).q, (o.exc x hx).g, (o.exc x hx).k, (o.exc x hx).r⟩
/-! ### the evaluator is right -/
structure Snd (T : Tbl) (N : List Str) (v : Ev) : Prop where
  E : ∀ {X : Cx} {C : Pm} {s : Sc}, CxOk T N X C s → ∀ e, PE X e (tE C (v.E s e))
  P : ∀ {X : Cx} {C : Pm} {s : Sc}, CxOk T N X C s → ∀ e, PE X e (tP C (v.P s e))
  F : ∀ {X : Cx} {C : Pm} {s : Sc}, CxOk T N X C s → ∀ e f, isComp e = false → v.F s e = some f → PE X e (tF C f)
  B : ∀ {X : Cx} {C : Pm} {s : Sc}, CxOk T N X C s → ∀ e, PT X e (tT C (v.B s e))
  I : ∀ {X : Cx} {C : Pm} {s : Sc}, CxOk T N X C s → ∀ tg e, PI X tg e (tI C (v.I s tg e))
end
end DL
/-! The data layer: the evaluator of expressions is right. -/
namespace DL
open PySem PySem.Spec PyProof.Rows L2
section
variable {T : Tbl} {N : List Str} {X : Cx} {C : Pm} {s : Sc} {v : Ev}
theorem snd_argsE (h : Snd T N v) (o : CxOk T N X C s) : ∀ es, PA X es (tA C (argsE v s es))
  | [] => a_nil
  | e :: es => by
    unfold argsE
    split
    · exact pa_bad
    · rename_i c
      exact a_cons (by simpa using c) (h.E o e) (snd_argsE h o es)
theorem snd_argsP (h : Snd T N v) (o : CxOk T N X C s) : ∀ es, PA X es (tPA C (argsP v s es))
  | [] => a_nilP
  | e :: es => by
    unfold argsP
    split
    · exact pa_bad
    · rename_i c
      exact a_consP (by simpa using c) (h.P o e) (snd_argsP h o es)
theorem snd_andL (h : Snd T N v) (o : CxOk T N X C s) {pos : Pos} : ∀ es, PE X (.BoolOp .And es pos) (tE C (andL v s es))
  | [] => pe_bad
  | [a] => pe_one (h.E o a)
  | a :: b :: r => e_and (h.P o a) (snd_andL h o (b :: r))
theorem snd_orL (h : Snd T N v) (o : CxOk T N X C s) {pos : Pos} : ∀ es, PE X (.BoolOp .Or es pos) (tE C (orL v s es))
  | [] => pe_bad
  | [a] => pe_one (h.E o a)
  | a :: b :: r => e_or (h.P o a) (snd_orL h o (b :: r))
theorem snd_andT (h : Snd T N v) (o : CxOk T N X C s) {pos : Pos} : ∀ es, PW X (.BoolOp .And es pos) (tT C (andT v s es))
  | [] => pw_bad
  | [a] => w_and1 (h.B o a)
  | a :: b :: r => w_and (h.B o a) (snd_andT h o (b :: r))
theorem snd_orT (h : Snd T N v) (o : CxOk T N X C s) {pos : Pos} : ∀ es, PW X (.BoolOp .Or es pos) (tT C (orT v s es))
  | [] => pw_bad
  | [a] => w_or1 (h.B o a)
  | a :: b :: r => w_or (h.B o a) (snd_orT h o (b :: r))
theorem snd_part (h : Snd T N v) (o : CxOk T N X C s) : ∀ e, PO X e (tO C (partE v s e))
  | none => o_none
  | some e => o_some (h.P o e)
theorem snd_ifs (h : Snd T N v) (o : CxOk T N X C s) {es : List Expr} {f : Env → R Bool} (hf : ifsT v s es = some f) : PTs X es (tT C f) := by
  unfold ifsT at hf
  split at hf
  · cases hf
    exact ⟨fun pins s σ H Q I ⟨Hf0, H0, Hf, ρ, env, q⟩ => pts_nil.run pins s σ H Q I (q true Hf H (Grow.refl env.grow.sub) rfl)⟩
  · cases hf
    exact pts_one (h.B o _)
  · cases hf
theorem glF_of (o : CxOk T N X C s) {f : Str} (h : glF T s f = true) (hb : f ∈ blts) : Gl X f ∧ X.mg f = none ∧ f ≠ "__name__" ∧ (f == ("__debug__" : Str)) = false := by
  simp only [glF, Bool.and_eq_true] at h
  obtain ⟨h1, h2, h3⟩ := okN_of h.1.2
  refine ⟨o.gl h.1.1, o.free f hb (by simpa using h.2), h3, h1⟩
theorem list_ok : bootBuiltins "list" = some (.type "list") := by decide +kernel
theorem sorted_ok : bootBuiltins "sorted" = some (.builtin "sorted") := by decide +kernel
theorem fold_set {e : Expr} {env : PySem.Env} (h : isSetE e = false) (x : Value) : foldedSetIterable e env x = pure x := by
  cases e <;> first | rfl | simp [isSetE] at h
/-- a comprehension: what its reading asks -/
theorem snd_lc (h : Snd T N v) (o : CxOk T N X C s) {elt tg iter : Expr} {ifs : List Expr} {asy : Int} {scope : Scope} {pos : Pos} {f : Env → R D} (hf : stepF T N v s (.ListComp elt [⟨tg, iter, ifs, asy⟩] scope pos) = some f) :
    asy = 0 ∧ isSetE iter = false ∧ BlkOk N s.sc scope (ownOf N scope) ∧ ∃ (t : Tg) (ft : Env → R Bool), tgOf N ⟨relab s.sc scope, (ownOf N scope).map (·.1)⟩ tg = some t ∧ ifsT v ⟨relab s.sc scope, (ownOf N scope).map (·.1)⟩ ifs = some ft ∧ (∀ i ∈ t.ixs, i ∈ (ownOf N scope).map (·.2)) ∧
      f = fLc (v.I s tg iter) t ft (v.E ⟨relab s.sc scope, (ownOf N scope).map (·.1)⟩ elt) ((ownOf N scope).map (·.2)) := by
  unfold stepF at hf
  simp only at hf
  split at hf
  · rename_i c
    simp only [Bool.and_eq_true, decide_eq_true_eq, Bool.not_eq_true'] at c
    obtain ⟨⟨c1, c2⟩, c3⟩ := c
    cases q : tgOf N ⟨relab s.sc scope, (ownOf N scope).map (·.1)⟩ tg with
    | none => rw [q] at hf; cases hf
    | some t =>
      rw [q] at hf
      cases q2 : ifsT v ⟨relab s.sc scope, (ownOf N scope).map (·.1)⟩ ifs with
      | none => rw [q2] at hf; cases hf
      | some ft =>
        rw [q2] at hf
        simp only [Option.bind_some] at hf
        split at hf
        · rename_i c4
          cases hf
          refine ⟨c1, c3, blkOk_by c2, t, ft, rfl, rfl, fun i hi => ?_, rfl⟩
          have := List.all_eq_true.mp c4 i hi
          simpa using this
        · cases hf
  · cases hf
theorem snd_F (h : Snd T N v) (o : CxOk T N X C s) (e : Expr) (f : Env → R D) (hf : stepF T N v s e = some f) : PE X e (tF C f) := by
  unfold stepF at hf
  split at hf
  · cases hf
    exact f_lst (snd_argsE h o _)
  · rename_i elt tg iter ifs asy scope pos
    obtain ⟨rfl, hset, ok, t, ft, h1, h2, h3, rfl⟩ := snd_lc (pos := pos) h o (by unfold stepF; exact hf)
    have ok' : BlkOk X.N X.env.scope scope (ownOf N scope) := by rw [o.eN, o.sc]; exact ok
    refine PE.imp (pe_lc (own := ownOf N scope) (g := tGt C.calm t) (tt := tT C.calm ft) (te := tE C.calm (v.E ⟨relab s.sc scope, (ownOf N scope).map (·.1)⟩ elt)) o.calm o.ndX (h.I o tg iter) ok' (fun _ _ _ _ _ => (o.blk ok).tg h1) (fun _ _ _ _ _ => snd_ifs h (o.blk ok) h2) (fun _ _ _ _ _ => h.E (o.blk ok) elt) (fold_set hset)) fun σ H Q q => lc_data h3 q
  · split at hf
    · rename_i c
      simp only [Bool.and_eq_true, Bool.not_eq_true'] at c
      obtain ⟨⟨c1, c2⟩, c3⟩ := c
      cases hf
      have e1 := eq_of_beq c2
      subst e1
      obtain ⟨g1, g2, g3, g4⟩ := glF_of o c1 (by decide)
      exact f_callTy (c_list o.eK o.calm) g1 g2 list_ok (snd_argsP h o _) (by simp [c3]) g3 g4
    · split at hf
      · rename_i c
        simp only [Bool.and_eq_true, Bool.not_eq_true'] at c
        obtain ⟨⟨c1, c2⟩, c3⟩ := c
        cases hf
        have e1 := eq_of_beq c2
        subst e1
        obtain ⟨g1, g2, g3, g4⟩ := glF_of o c1 (by decide)
        exact f_callB (c_sorted o.eK o.units) g1 g2 sorted_ok (snd_argsP h o _) (by simp [c3]) g3 g4
      · cases hf
  · cases hf
theorem blt_cases {f : Str} {F : List D → R D} (h : blt f = some F) : (f = "len" ∧ F = dLen) ∨ (f = "all" ∧ F = dAll) ∨ (f = "any" ∧ F = dAny) ∨ (f = "abs" ∧ F = dAbs) ∨ (f = "max" ∧ F = dMax) ∨ (f = "min" ∧ F = dMin) ∨ (f = "tuple" ∧ F = dTuple) := by
  unfold blt at h
  repeat (split at h; · rename_i c; cases h; have e := eq_of_beq c; simp [e])
  cases h
theorem isiOf_ok {t : Str} {n : String} (h : isiOf t = some n) : n ∈ isiTys ∧ t = Str.ofString n := by
  unfold isiOf at h
  exact ⟨List.mem_of_find?_eq_some h, by simpa using List.find?_some h⟩
theorem isi_boot : ∀ n ∈ isiTys, bootBuiltins (Str.ofString n) = some (.type n) ∧ Str.ofString n ∈ blts ∧ (Str.ofString n == ("__debug__" : Str)) = false ∧ Str.ofString n ≠ "__name__" := by decide +kernel
theorem snd_E0 (h : Snd T N v) (o : CxOk T N X C s) (e : Expr) : PE X e (tE C (stepE0 T N v s e)) := by
  unfold stepE0
  split
  · rename_i x pos
    split
    · rename_i c
      simp only [Bool.and_eq_true] at c
      split
      · rename_i i hi
        obtain ⟨h1, h2, _⟩ := okN_of c.2
        exact e_varE (by rw [o.eN]; exact nIx_ok hi) (o.vis c.1) h1 h2
      · exact pe_bad
    · split
      · rename_i c
        simp only [Bool.and_eq_true] at c
        split
        · rename_i d hd
          obtain ⟨w, u, h1, h2, h3⟩ := o.con x d hd
          exact e_glob (o.gl c.1) h1 h2 h3 (okN_of c.2).1
        · exact pe_bad
      · exact pe_bad
  · split
    · rename_i d hd
      exact e_con hd
    · exact pe_bad
  · exact e_bin (op_bin o.eK _) (h.P o _) (h.P o _)
  · exact e_not (h.P o _)
  · exact e_neg (h.P o _)
  · exact snd_andL h o _
  · exact snd_orL h o _
  · split
    · exact pe_bad
    · rename_i c
      exact e_cmp (F := fun x y => asBool (dCmp _ x y)) (op_cmp o.eK o.units _) (h.P o _) (h.P o _) (by simpa using c)
  · split
    · exact pe_bad
    · rename_i c
      exact e_chain (op_cmp o.eK o.units _) (op_cmp o.eK o.units _) (h.P o _) (h.P o _) (h.P o _) (by simpa using c)
  · split
    · exact pe_bad
    · rename_i c
      exact e_chain3 (op_cmp o.eK o.units _) (op_cmp o.eK o.units _) (op_cmp o.eK o.units _) (h.P o _) (h.P o _) (h.P o _) (h.P o _) (by simpa using c)
  · exact e_if (h.B o _) (h.E o _) (h.E o _)
  · exact e_tup (snd_argsE h o _)
  · exact e_sl o.eK (h.P o _) (snd_part h o _) (snd_part h o _)
  · exact e_rev0 o.eK (h.P o _)
  · exact e_rev1 o.eK (h.P o _) (snd_part h o _)
  · exact pe_bad
  · rename_i a b pos n1 n2 n3 n4
    refine e_ix o.eK (h.P o _) (h.P o _) (plainIx_of ?_)
    cases b <;> first | rfl | exact (n4 _ _ _ _ rfl).elim
  · rename_i f p e es pos
    split
    · rename_i c
      simp only [Bool.and_eq_true] at c
      obtain ⟨k1, k2, k3⟩ := okN_of c.2
      split
      · rename_i n F hF
        split
        · rename_i c2
          obtain ⟨k, fa, fd, ps, q1, q2, q3, q4, q5⟩ := o.fn f n F hF
          exact e_call o.eK q1 q2 (o.gl c.1) q3 q4 q5 o.tk (snd_argsE h o _) c2 k1
        · exact pe_bad
      · rename_i hF
        split
        · rename_i c2
          have e1 := eq_of_beq c2
          subst e1
          split
          · rename_i t p2
            split
            · rename_i tn ht
              split
              · rename_i c3
                simp only [Bool.and_eq_true, Bool.not_eq_true'] at c3
                obtain ⟨⟨c4, c5⟩, c6⟩ := c3
                obtain ⟨m1, rfl⟩ := isiOf_ok ht
                obtain ⟨b1, b2, b3, b4⟩ := isi_boot tn m1
                exact e_isi o.eK m1 (o.gl c.1) (o.free _ (by decide) hF) (o.gl c4) (o.free _ b2 (by simpa using c5)) b1 b4 b3 (h.P o _) c6
              · exact pe_bad
            · exact pe_bad
          · exact pe_bad
        · split
          · rename_i F hb
            split
            · rename_i c2
              rcases blt_cases hb with ⟨rfl, rfl⟩ | ⟨rfl, rfl⟩ | ⟨rfl, rfl⟩ | ⟨rfl, rfl⟩ | ⟨rfl, rfl⟩ | ⟨rfl, rfl⟩ | ⟨rfl, rfl⟩
              · exact e_callB (c_len o.eK) (o.gl c.1) (o.free _ (by decide) hF) (by decide +kernel) (snd_argsP h o _) c2 k3 k1
              · exact e_callB (c_all o.calm) (o.gl c.1) (o.free _ (by decide) hF) (by decide +kernel) (snd_argsP h o _) c2 k3 k1
              · exact e_callB (c_any o.calm) (o.gl c.1) (o.free _ (by decide) hF) (by decide +kernel) (snd_argsP h o _) c2 k3 k1
              · exact e_callB c_abs (o.gl c.1) (o.free _ (by decide) hF) (by decide +kernel) (snd_argsP h o _) c2 k3 k1
              · exact e_callB (c_max o.eK o.calm o.units) (o.gl c.1) (o.free _ (by decide) hF) (by decide +kernel) (snd_argsP h o _) c2 k3 k1
              · exact e_callB (c_min o.eK o.calm o.units) (o.gl c.1) (o.free _ (by decide) hF) (by decide +kernel) (snd_argsP h o _) c2 k3 k1
              · exact e_callTy (c_tuple o.eK) (o.gl c.1) (o.free _ (by decide) hF) (by decide +kernel) (snd_argsP h o _) c2 k3 k1
            · exact pe_bad
          · exact pe_bad
    · exact pe_bad
  · exact pe_bad
theorem snd_E (h : Snd T N v) (o : CxOk T N X C s) (e : Expr) : PE X e (tE C (stepE T N v s e)) := by
  unfold stepE
  split
  · rename_i f hf
    exact e_fresh (snd_F h o e f hf)
  · exact snd_E0 h o e
theorem snd_P (h : Snd T N v) (o : CxOk T N X C s) (e : Expr) : PE X e (tP C (stepP T N v s e)) := by
  unfold stepP
  split
  · split
    · rename_i c
      simp only [Bool.and_eq_true] at c
      split
      · rename_i i hi
        obtain ⟨h1, h2, _⟩ := okN_of c.2
        exact e_varP (by rw [o.eN]; exact nIx_ok hi) (o.vis c.1) h1 h2
      · exact pe_bad
    · exact PE.peek (snd_E h o _)
  · exact PE.peek (snd_E h o _)
theorem snd_B (h : Snd T N v) (o : CxOk T N X C s) (e : Expr) : PT X e (tT C (stepB v s e)) := by
  unfold stepB
  split
  · exact t_not (h.B o _)
  · exact (snd_andT h o _).pt
  · exact (snd_orT h o _).pt
  · split
    · exact pt_bad
    · rename_i c
      exact t_cmp (op_cmp o.eK o.units _) (h.P o _) (h.P o _) (by simpa using c)
  · split
    · exact pt_bad
    · rename_i c
      exact t_chain (op_cmp o.eK o.units _) (op_cmp o.eK o.units _) (h.P o _) (h.P o _) (h.P o _) (by simpa using c)
  · exact t_val (h.P o _) fun _ => rfl
  · exact t_val (h.P o _) fun _ => rfl
  · exact t_val (h.P o _) fun _ => rfl
  · exact t_val (h.P o _) fun _ => rfl
  · exact pt_bad
theorem pi_bad {tg e : Expr} : PI X tg e (tI C bad1) := ⟨fun _ _ _ _ _ _ ⟨_, _, _, _, _, h⟩ => h.elim⟩
theorem snd_I (h : Snd T N v) (o : CxOk T N X C s) (tg e : Expr) : PI X tg e (tI C (stepI T v s tg e)) := by
  unfold stepI
  split
  · split
    · rename_i c
      simp only [Bool.and_eq_true, Bool.not_eq_true'] at c
      obtain ⟨⟨c1, c2⟩, c3⟩ := c
      have e1 := eq_of_beq c2
      subst e1
      obtain ⟨g1, g2, g3, g4⟩ := glF_of o c1 (by decide)
      exact i_rng1 g1 g2 (snd_argsP h o _) c3
    · split
      · rename_i c
        simp only [Bool.and_eq_true, Bool.not_eq_true'] at c
        obtain ⟨⟨c1, c2⟩, c3⟩ := c
        have e1 := eq_of_beq c2
        subst e1
        obtain ⟨g1, g2, g3, g4⟩ := glF_of o c1 (by decide)
        split
        · exact i_enum o.eK g1 g2 (snd_argsE h o _) c3
        · exact pi_bad
      · exact i_any o.eK (h.E o _)
  · split
    · rename_i c
      simp only [Bool.and_eq_true, Bool.not_eq_true'] at c
      obtain ⟨⟨⟨c1, c2⟩, c3⟩, c4⟩ := c
      have e1 := eq_of_beq c2
      subst e1
      obtain ⟨g1, g2, g3, g4⟩ := glF_of o c1 (by decide)
      exact i_rng2 g1 g2 (snd_argsP h o _) c3 c4
    · split
      · rename_i c
        simp only [Bool.and_eq_true, Bool.not_eq_true'] at c
        obtain ⟨⟨⟨c1, c2⟩, c3⟩, c4⟩ := c
        have e1 := eq_of_beq c2
        subst e1
        obtain ⟨g1, g2, g3, g4⟩ := glF_of o c1 (by decide)
        split
        · exact i_zip o.eK g1 g2 (snd_argsE h o _) c3 c4
        · exact pi_bad
      · exact i_any o.eK (h.E o _)
  · exact i_any o.eK (h.E o _)
end
theorem snd_step {T : Tbl} {N : List Str} {v : Ev} (h : Snd T N v) : Snd T N (step T N v) where
  E := fun o e => snd_E h o e
  P := fun o e => snd_P h o e
  F := fun o e f _ hf => snd_F h o e f hf
  B := fun o e => snd_B h o e
  I := fun o tg e => snd_I h o tg e
theorem snd_ev (T : Tbl) (N : List Str) : ∀ n, Snd T N (ev T N n)
  | 0 => ⟨fun _ _ => pe_bad, fun _ _ => pe_bad, fun _ _ _ _ h => (nomatch h), fun _ _ => pt_bad, fun _ _ _ => pi_bad⟩
  | n + 1 => snd_step (snd_ev T N n)
end DL
/-! The data layer: the evaluator of statements and of defs, and that it is right. -/
namespace DL
open PySem PySem.Spec PyProof.Rows L2
/-! ### names in keeping places -/
def peekF : List Str := ["isinstance", "len", "all", "any", "abs", "max", "min", "tuple", "list", "sorted", "range"]
structure Kn where
  E : Expr → List Str
  P : Expr → List Str
def knP (k : Kn) : Expr → List Str
  | .BinOp a _ b _ => k.P a ++ k.P b
  | .UnaryOp _ a _ => k.P a
  | .BoolOp _ es _ => es.flatMap k.E
  | .Compare a _ bs _ => k.P a ++ bs.flatMap k.P
  | .IfExp c a b _ => k.P c ++ (k.E a ++ k.E b)
  | .Tuple es _ _ => es.flatMap k.E
  | .List es _ => es.flatMap k.E
  | .Subscript a b _ => k.P a ++ k.P b
  | .Slice a b c _ => (a.elim [] k.P) ++ ((b.elim [] k.P) ++ (c.elim [] k.P))
  | .Call (.Name f _) es _ _ => if peekF.contains f then es.flatMap k.P else es.flatMap k.E
  | .Call (.Attribute o _ _) es _ _ => k.P o ++ es.flatMap k.E
  | .ListComp elt gs _ _ => k.E elt ++ gs.flatMap fun g => k.E g.iter ++ g.ifs.flatMap k.P
  | _ => []
def kn : Nat → Kn
  | 0 => ⟨fun _ => [], fun _ => []⟩
  | n + 1 => ⟨fun e => match e with | .Name x _ => [x] | e => knP (kn n) e, fun e => match e with | .Name _ _ => [] | e => knP (kn n) e⟩
section
variable (T : Tbl) (N : List Str) (wh : Nat)
def rsOf (xs : List Str) : List Nat := xs.filterMap (nIx N)
def blkS (f : Stmt → Env → R Out) : List Stmt → Env → R Out
  | [] => fun ρ => .ok (.nx ρ)
  | st :: sts => fSeq (f st) (blkS f sts)
/-- is the comprehension stored within its frame -/
def swB (sc : Scope) (y : Str) (py pos : Pos) (scope : Scope) : Bool := sc.names.lookup y == some .local && py.line == pos.line && !(scope.names.any fun (n, k) => n == y && (k == .local || k == .cell))
def relS (is : List Nat) (F : Env → R Out) : Env → R Out := fun ρ => F (relR is ρ)
def flsOf (v : Ev) (s : Sc) (es : List Expr) : List Bool := es.map fun e => (v.F s e).isSome
def argsM (v : Ev) (s : Sc) : List Expr → Env → R (List D)
  | [] => fun _ => .ok []
  | e :: es => if isStar e then bad1 else (match v.F s e with
    | some f => fCons f (argsM v s es)
    | none => fCons (v.E s e) (argsM v s es))
def isTupE : Expr → Bool
  | .Tuple .. => true
  | _ => false
def stepS (v : Ev) (s : Sc) (f : Stmt → Env → R Out) : Stmt → Env → R Out
  | .Pass _ => fun ρ => .ok (.nx ρ)
  | .Break _ => fun ρ => .ok (.bk ρ)
  | .Continue _ => fun ρ => .ok (.ct ρ)
  | .Return none _ => fun _ => .ok (.rt .none)
  | .Return (some e) _ => relS (rsOf N ((kn 40).E e)) fun ρ => v.E s e ρ >>= fun d => .ok (.rt d)
  | .If c a b _ => relS (rsOf N ((kn 40).P c)) (fIfS (v.B s c) (blkS f a) (blkS f b))
  | .Expr (.Call (.Attribute (.Name x _) m ap) [e] [] cp) _ =>
    if isVis s.sc x && okN x && (ap.endLine == cp.line) && !isStar e then
      match nIx N x with
      | some i => if m == ("append" : Str) then relS (rsOf N ((kn 40).E e)) (fApp i (v.E s e)) else if m == ("extend" : Str) then relS (rsOf N ((kn 40).E e)) (fExt i (v.E s e)) else bad1
      | none => bad1
    else bad1
  | .Expr e _ => if isComp e then bad1 else relS (rsOf N ((kn 40).E e)) fun ρ => v.E s e ρ >>= fun _ => .ok (.nx ρ)
  | .Assign [.Name x py] e _ => (match stIx N s x with
    | some i => (match v.F s e with
      | some g => (match e with
        | .ListComp _ [⟨_, _, _, _⟩] _ _ => relS (rsOf N ((kn 40).P e)) fun ρ => g ρ >>= fun d => .ok (.nx (ρ.set i (.ow d)))
        | e => if isComp e then bad1 else relS (rsOf N ((kn 40).P e)) fun ρ => g ρ >>= fun d => .ok (.nx (ρ.set i (.ow d))))
      | none => if isComp e then bad1 else relS (rsOf N ((kn 40).E e)) fun ρ => v.E s e ρ >>= fun d => .ok (.nx (ρ.set i (.va d))))
    | none => bad1)
  | .Assign [.Tuple ts k pt] (.Tuple es k2 pt2) _ => (match nmsIx N s ts with
    | some is => if decide (is.length = es.length) && decide (is.length ≤ 1000) then (match swap? s.sc ts es with
      | some none => relS (rsOf N ((kn 40).P (.Tuple es k2 pt2))) (fPar (flsOf v s es) is (argsM v s es))
      | some (some _) => (match ts, es, is with
        | [.Name x _, .Name y _], [a, b], [i, j] => if decide (i ≠ j) && (swNames s.sc ts == [x, y]) && (s.sc.names.lookup x == some .local) && (s.sc.names.lookup y == some .local) then
            relS (rsOf N ((kn 40).P (.Tuple es k2 pt2))) (fPar (flsOf v s [a, b]) [i, j] (argsM v s [a, b])) else bad1
        | [.Name x _, .Name y _, .Name z _], [a, b, c], [i, j, l] => if decide (i ≠ j) && decide (i ≠ l) && decide (j ≠ l) && (swNames s.sc ts == [x, y, z]) && (s.sc.names.lookup x == some .local) && (s.sc.names.lookup y == some .local) && (s.sc.names.lookup z == some .local) then
            relS (rsOf N ((kn 40).P (.Tuple es k2 pt2))) (fPar (flsOf v s [a, b, c]) [i, j, l] (argsM v s [a, b, c])) else bad1
        | _, _, _ => bad1)
      | none => bad1) else bad1
    | none => bad1)
  | .Assign [.Tuple ts k pt] e _ => if isTupE e then bad1 else (match nmsIx N s ts with
    | some is => relS (rsOf N ((kn 40).E e)) (fSetT (.many is) (v.E s e))
    | none => bad1)
  | .For tg iter body [] _ => (match tgOf N s tg with
    | some t => if isSetE iter then bad1 else relS (rsOf N ((kn 40).E iter)) (fFor (v.I s tg iter) t (blkS f body))
    | none => bad1)
  | .While c body [] _ => relS (rsOf N ((kn 40).P c)) (whLoop (v.B s c) (blkS f body) wh)
  | .Raise (some (.Call (.Name x _) [.Constant (.str _) _ _] [] _)) none _ => if isGl s.sc x && okN x && T.exc x then fun _ => .exc x else bad1
  | _ => bad1
def evS (v : Ev) (s : Sc) : Nat → Stmt → Env → R Out
  | 0 => fun _ => bad1
  | n + 1 => stepS T N wh v s (evS v s n)
/-- a def's body, run -/
def runD (n : Nat) (sc : Scope) (body : List Stmt) (ds : List D) : R D :=
  blkS (evS T N wh (ev T N n) ⟨sc, N⟩ n) body (ds.map Slot.va ++ List.replicate (N.length - ds.length) .un) >>= fun o => match o with
    | .rt d => .ok d
    | .nx _ => .ok .none
    | _ => .bad
end
section
variable {T : Tbl} {N : List Str} {wh : Nat} {X : Cx} {C : Pm} {s : Sc} {v : Ev} {f : Stmt → Env → R Out}
theorem snd_blk (hf : ∀ st, PS X st (tS C (f st))) : ∀ sts, PSs X sts (tS C (blkS f sts))
  | [] => s_nil
  | st :: sts => s_cons (hf st) (snd_blk hf sts)
theorem sw_eq {elt : Expr} {gs : List Comprehension} {scope : Scope} {pos py : Pos} {y : Str} {l : Nat} {env : PySem.Env} (hk : env.scope.kind = .function) : swapsWith (.ListComp elt gs scope pos) (some (.Name y py)) l env = pure (swB env.scope y py pos scope) := by
  have hb : env.blockKind = .function := by unfold PySem.Env.blockKind; rw [hk]; rfl
  unfold swapsWith swB
  simp only [hb, Expr.pos]
  rfl
theorem snd_argsM (h : Snd T N v) (hF : ∀ e f, v.F s e = some f → PE X e (tF C f)) (o : CxOk T N X C s) : ∀ es, PA X es (tM C (flsOf v s es) (argsM v s es))
  | [] => m_nil
  | e :: es => by
    unfold argsM
    split
    · exact ⟨fun _ _ _ _ _ _ _ ⟨_, _, _, _, _, h⟩ => h.elim⟩
    · rename_i c
      have ih := snd_argsM h hF o es
      split
      · rename_i g hg
        have e1 : flsOf v s (e :: es) = true :: flsOf v s es := by simp [flsOf, hg]
        rw [e1]
        exact m_ow (by simpa using c) (hF e g hg) ih
      · rename_i hg
        have e1 : flsOf v s (e :: es) = false :: flsOf v s es := by simp [flsOf, hg]
        rw [e1]
        exact m_va (by simpa using c) (h.E o e) ih
theorem swS_none {ts : List Expr} {k : Nat} {pt : Pos} {e : Expr} {env : PySem.Env} (h : isTupE e = false) : swappedStores [.Tuple ts k pt] e env = pure none := by
  cases e <;> first | rfl | simp [isTupE] at h
theorem swT_false {ts : List Expr} {k l : Nat} {pt : Pos} {e : Expr} {env : PySem.Env} : swapsWithSole [.Tuple ts k pt] e l env = pure false := by
  cases e <;> rfl
theorem ps_bad1 {st : Stmt} : PS X st (tS C bad1) := ps_bad
theorem snd_stepS {n : Nat} (hv : v = step T N (ev T N n)) (o : CxOk T N X C s) (own : PassesOwn (model X.prog X.w) X.A X.env X.xe) (hf : ∀ st, PS X st (tS C (f st))) (st : Stmt) : PS X st (tS C (stepS T N wh v s f st)) := by
  have h0 : Snd T N (ev T N n) := snd_ev T N n
  have h : Snd T N v := by rw [hv]; exact snd_step h0
  have hF : ∀ e g, v.F s e = some g → PE X e (tF C g) := fun e g hg => by rw [hv] at hg; exact snd_F h0 o e g hg
  unfold stepS
  split
  · exact s_pass
  · exact s_break
  · exact s_continue
  · exact s_retN
  · exact s_rel _ (s_ret (h.E o _))
  · exact s_rel _ (s_if (h.B o _) (snd_blk hf _) (snd_blk hf _))
  · split
    · rename_i c
      simp only [Bool.and_eq_true, Bool.not_eq_true'] at c
      obtain ⟨⟨⟨c1, c2⟩, c3⟩, c4⟩ := c
      obtain ⟨k1, k2, k3⟩ := okN_of c2
      split
      · rename_i i hi
        split
        · rename_i c5
          have e1 := eq_of_beq c5
          subst e1
          exact s_rel _ (s_app (by rw [o.eN]; exact nIx_ok hi) (o.vis c1) k1 k2 (h.E o _) c4 c3)
        · split
          · rename_i c5
            have e1 := eq_of_beq c5
            subst e1
            exact s_rel _ (s_ext (by rw [o.eN]; exact nIx_ok hi) (o.vis c1) k1 k2 (h.E o _) c4 c3)
          · exact ps_bad1
      · exact ps_bad1
    · exact ps_bad1
  · split
    · exact ps_bad1
    · rename_i c
      exact s_rel _ (s_expr (h.E o _) (by simpa using c))
  · rename_i x py e0 spos
    split
    · rename_i i hi
      split
      · rename_i g hg
        split
        · rename_i elt tg iter ifs asy scope pos
          have hg' := hg
          rw [hv] at hg'
          obtain ⟨rfl, hset, ok, t, ft, h1, h2, h3, rfl⟩ := snd_lc (pos := pos) h0 o hg'
          have ok' : BlkOk X.N X.env.scope scope (ownOf N scope) := by rw [o.eN, o.sc]; exact ok
          have hk : X.env.scope.kind = .function := by rw [o.sc]; exact o.kind
          have so := o.st hi
          refine s_rel (F := fun ρ => fLc ((ev T N n).I s tg iter) t ft ((ev T N n).E ⟨relab s.sc scope, (ownOf N scope).map (·.1)⟩ elt) ((ownOf N scope).map (·.2)) ρ >>= fun d => .ok (.nx (ρ.set i (.ow d)))) _ ?_
          cases hw : swB X.env.scope x py pos scope with
          | true =>
            have hw' := hw
            simp only [swB, Bool.and_eq_true] at hw'
            exact PS.imp (ps_setLc (own := ownOf N scope) (g := tGt C.calm t) (tt := tT C.calm ft) (te := tE C.calm ((ev T N n).E ⟨relab s.sc scope, (ownOf N scope).map (·.1)⟩ elt)) o.calm o.ndX so.1 (eq_of_beq hw'.1.1) (by rw [sw_eq hk, hw]) (h0.I o tg iter) ok'
              (fun _ _ _ _ _ => (o.blk ok).tg h1) (fun _ _ _ _ _ => snd_ifs h0 (o.blk ok) h2) (fun _ _ _ _ _ => h0.E (o.blk ok) elt) (fold_set hset)) fun Dn σ H q => setF_in (fun Q q => lc_data h3 q) q
          | false =>
            exact PS.imp (ps_set o.ndX so.1 so.2.1 (hF _ _ hg) (by rw [sw_eq hk, hw]) so.2.2) fun Dn σ H q => setF_in (fun Q q => q) q
        · split
          · exact ps_bad1
          · rename_i c
            exact s_rel _ (s_setF o.ndX (o.st hi) (hF _ _ hg) (by simpa using c))
      · split
        · exact ps_bad1
        · rename_i c
          exact s_rel _ (s_set o.ndX (o.st hi) (h.E o _) (by simpa using c))
    · exact ps_bad1
  · rename_i ts k pt es k2 pt2 pos
    split
    · rename_i is his
      split
      · rename_i c
        simp only [Bool.and_eq_true, decide_eq_true_eq] at c
        have fl : is.length = (flsOf v s es).length := by simp [flsOf, c.1]
        have hk : X.env.scope.kind = .function := by rw [o.sc]; exact o.kind
        split
        · rename_i hs
          exact s_rel _ (s_parN o.calm o.ndX (o.nms his) fl c.2 (snd_argsM h hF o es) (swap_ok hk (by rw [o.sc]; exact hs)))
        · rename_i ns hs
          have hns : ns = swNames s.sc ts := by
            unfold swap? at hs
            repeat (split at hs; · cases hs)
            exact (Option.some.inj (Option.some.inj hs)).symm
          split
          · rename_i x px y py a b i j
            split
            · rename_i c2
              simp only [Bool.and_eq_true, decide_eq_true_eq] at c2
              obtain ⟨⟨⟨d1, d2⟩, d3⟩, d4⟩ := c2
              have nm := o.nms his
              cases nm with
              | cons s1 nm =>
                cases nm with
                | cons s2 nm =>
                  refine s_rel _ (s_par2 o.calm o.ndX s1.1 s2.1 d1 (by rw [o.sc]; exact eq_of_beq d3) (by rw [o.sc]; exact eq_of_beq d4) (by simp [flsOf]) (snd_argsM h hF o _) (swap_ok hk ?_))
                  rw [o.sc, hs, hns]
                  exact congrArg some (congrArg some (eq_of_beq d2))
            · exact ps_bad1
          · rename_i x px y py z pz a b c' i j l
            split
            · rename_i c2
              simp only [Bool.and_eq_true, decide_eq_true_eq] at c2
              obtain ⟨⟨⟨⟨⟨⟨d1, d2⟩, d3⟩, d4⟩, d5⟩, d6⟩, d7⟩ := c2
              have nm := o.nms his
              cases nm with
              | cons s1 nm =>
                cases nm with
                | cons s2 nm =>
                  cases nm with
                  | cons s3 nm =>
                    refine s_rel _ (s_par3 o.calm o.ndX s1.1 s2.1 s3.1 d1 d2 d3 (by rw [o.sc]; exact eq_of_beq d5) (by rw [o.sc]; exact eq_of_beq d6) (by rw [o.sc]; exact eq_of_beq d7) (by simp [flsOf]) (snd_argsM h hF o _) (swap_ok hk ?_))
                    rw [o.sc, hs, hns]
                    exact congrArg some (congrArg some (eq_of_beq d4))
            · exact ps_bad1
          · exact ps_bad1
        · exact ps_bad1
      · exact ps_bad1
    · exact ps_bad1
  · split
    · exact ps_bad1
    · rename_i c
      split
      · rename_i is his
        exact s_rel _ (s_setT (h.E o _) (g_many o.eK o.calm o.ndX (o.nms his)) swT_false (swS_none (by simpa using c)) rfl)
      · exact ps_bad1
  · split
    · rename_i t ht
      split
      · exact ps_bad1
      · rename_i c
        exact s_rel _ (s_for own o.calm (h.I o _ _) (o.tg ht) (snd_blk hf _) (fold_set (by simpa using c)))
    · exact ps_bad1
  · exact s_rel _ (s_while wh own (h.B o _) (snd_blk hf _))
  · split
    · rename_i c
      simp only [Bool.and_eq_true] at c
      exact s_raise o.calm o.tk (o.exc _ c.2) (o.gl c.1.1) (okN_of c.1.2).1
    · exact ps_bad1
  · exact ps_bad1
theorem snd_S {n : Nat} (hv : v = step T N (ev T N n)) (o : CxOk T N X C s) (own : PassesOwn (model X.prog X.w) X.A X.env X.xe) : ∀ m st, PS X st (tS C (evS T N wh v s m st))
  | 0, _ => ps_bad1
  | m + 1, st => snd_stepS hv o own (snd_S hv o own m) st
end
end DL
/-! The data layer: defs, the program's table, the law. -/
namespace DL
open PySem PySem.Spec PyProof.Rows L2
structure Glob (P : Program) (w : World) (K : PySem.W.Frag) (mg : Str → Option Value) (base : Heap) (cl : Str → Addr) (T : Tbl) (k : Nat) : Prop where
  fn : ∀ (x : Str) (n : Nat) (F : List D → R D), T.fn x = some (n, F) → ∃ (f : Addr) (fd : FuncData) (ps : List Str), FnOk P w K mg base (L2.CX P w) k f fd ps (spD K cl n F) ∧ mg x = some (.ref f) ∧ PySem.W.keepIn K (.ref f) = true ∧ Binds K fd ps []
  con : ∀ (x : Str) (d : D), T.con x = some d → ∃ (v : V) (u : Value), mg x = some u ∧ RelV v u ∧ FlatV v d
  free : ∀ x ∈ blts, T.fn x = none → mg x = none
  exc : ∀ x, T.exc x = true → PySem.W.excIn K (cl x) [.type "ValueError", .type "Exception", .type "BaseException", .type "object"] "ValueError.__new__" = true ∧ mg x = some (.ref (cl x)) ∧ PySem.W.keepIn K (.ref (cl x)) = true ∧
    PySem.W.subIn K (.ref (cl x)) (.type "BaseException") = some true ∧ PySem.W.typeIn K (.ref (cl x)) = some (.type "type")
section
variable {P : Program} {w : World} {K : PySem.W.Frag} {mg : Str → Option Value} {base : Heap} {cl : Str → Addr} {T : Tbl} {k : Nat}
theorem start_env {N : List Str} {Hf H : Hp} {vs : List V} {ds : List D} (sf : Same Hf H) (r : RpL K Hf vs ds) : EnvR K Hf H Hf H (L2.start N vs) (ds.map DL.Slot.va ++ List.replicate (N.length - ds.length) .un) := by
  have hl := r.length
  have sp : ∀ (i : Nat) (s : DL.Slot), (ds.map DL.Slot.va ++ List.replicate (N.length - ds.length) DL.Slot.un)[i]? = some s → (∃ d, ds[i]? = some d ∧ s = .va d) ∨ s = .un := fun i s h => by
    by_cases hi : i < ds.length
    · rw [List.getElem?_append_left (by simpa using hi), List.getElem?_map, List.getElem?_eq_getElem hi] at h
      cases h
      exact .inl ⟨_, List.getElem?_eq_getElem hi, rfl⟩
    · rw [List.getElem?_append_right (by simpa using hi)] at h
      right
      have := List.mem_of_getElem? h
      exact (List.mem_replicate.mp this).2
  refine ⟨Grow.refl sf, ?_, fun i s v h1 h2 => ?_, fun i j d e a h1 => ?_⟩
  · unfold L2.start
    simp [hl]
  · rcases sp i s h1 with ⟨d, hd, rfl⟩ | rfl
    · obtain ⟨x, q1, q2⟩ := r.get hd
      have hi : i < vs.length := (List.getElem?_eq_some_iff.mp q1).1
      unfold L2.start at h2
      rw [List.getElem?_append_left (by simpa using hi), List.getElem?_map, q1] at h2
      cases h2
      exact ⟨x, rfl, q2⟩
    · trivial
  · rcases sp i _ h1 with ⟨_, _, z⟩ | z <;> cases z
theorem fn_run {x qual : Str} {params : Arguments} {body : List Stmt} {scope : Scope} {f : Addr} {fd : FuncData} {N ps : List Str} (n wh : Nat) (F : FunD K x qual params body scope [] [] f fd) (S : FnScope N ps scope) (G : Glob P w K mg base cl T k) :
    FnOk P w K mg base (L2.CX P w) (k + 1) f fd ps (spD K cl ps.length (runD T N wh (n + 1) scope body)) := by
  refine F.ok S (fun vs H Q E h => ?_) (fun cdv A outer s H vs Q E hr h => ?_)
  · obtain ⟨Hf, ds, _, r, hl, _⟩ := h
    exact r.length.trans hl
  · obtain ⟨Hf, ds, sf, r, hl, h⟩ := h
    have o : CxOk T N (cxOf (L2.CX P w) P w K mg base N qual scope f cdv A outer s H E) ⟨K, E, cl⟩ ⟨scope, N⟩ := {
      eK := rfl
      calm := rfl
      eN := rfl
      nd := S.nd
      sc := rfl
      kind := S.kind
      wr := fun x _ => .inl rfl
      units := by have := hr.un; show (A.deeper (envOfC qual scope s.heap.objs.size f cdv)).units + 65 < cLine; omega
      tk := takes_of rfl rfl rfl rfl
      fn := fun x n F hF => by
        obtain ⟨f', fd', ps', h1, h2, h3, h4⟩ := G.fn x n F hF
        exact ⟨k, f', fd', ps', h1, hr, h2, h3, h4⟩
      con := G.con
      free := G.free
      exc := fun x hx => by
        obtain ⟨h1, h2, h3, h4, h5⟩ := G.exc x hx
        exact ⟨h1, h2, h3, raises_own h4 h5⟩ }
    refine ⟨_, snd_blk (snd_S (wh := wh) (n := n) (v := ev T N (n + 1)) rfl o (passes_of rfl) (n + 1)) body, Hf, H, Hf, _, start_env sf r, ?_⟩
    have h : OutG ⟨K, E, cl⟩ (RelE ⟨K, E, cl⟩) Hf H (blkS (evS T N wh (ev T N (n + 1)) ⟨scope, N⟩ (n + 1)) body (ds.map DL.Slot.va ++ List.replicate (N.length - ds.length) .un) >>= fun o => match o with
      | .rt d => .ok d
      | .nx _ => .ok .none
      | _ => .bad) Q := h
    cases e1 : blkS (evS T N wh (ev T N (n + 1)) ⟨scope, N⟩ (n + 1)) body (ds.map DL.Slot.va ++ List.replicate (N.length - ds.length) .un) with
    | bad => rw [e1] at h; exact h.elim
    | exc c => rw [e1] at h; exact h
    | ok o' =>
      rw [e1] at h
      cases o' with
      | rt d => exact h
      | nx ρ => exact fun Hf' H' σ' s' e' => h .non Hf' H' e'.grow .non
      | bk ρ => exact h.elim
      | ct ρ => exact h.elim
end
/-! ### the program -/
structure DefI where
  name : Str
  st : Stmt
  ps : List Str
  N : List Str
def DefI.d (i : DefI) : He.DefD := ⟨(i.name, none), i.name, i.name, defArgs i.st, defBody i.st, defScope i.st, [], []⟩
structure Prg where
  defs : List DefI
  inn : List (Str × Int)
  txt : List (Str × Str)
  excs : List Str
def Prg.has (p : Prg) (x : Str) : Bool := p.defs.any fun d => d.name == x
def Prg.fn (p : Prg) : List He.DefD := p.defs.map DefI.d
def Prg.fa (p : Prg) : List He.Fa := p.defs.map (fun d => .glo d.name) ++ (blts.map .free ++ (p.inn.map (fun q => .int q.1 q.2) ++ (p.txt.map (fun q => .str q.1 q.2) ++ (p.excs.map .exc ++ p.excs.map .glo))))
def Prg.con (p : Prg) (x : Str) : Option D := match p.inn.lookup x with
  | some i => some (.int i)
  | none => (p.txt.lookup x).map .str
def Prg.T (p : Prg) (wh n : Nat) : Nat → Tbl
  | 0 => ⟨fun _ => none, p.con, fun x => p.excs.contains x⟩
  | k + 1 => ⟨fun x => (p.defs.find? fun d => d.name == x).map fun d => (d.ps.length, runD (p.T wh n k) d.N wh (n + 1) (defScope d.st) (defBody d.st)), p.con, fun x => p.excs.contains x⟩
/-- a def's scope is as wanted -/
def scB (d : DefI) : Bool := (match (defScope d.st).kind with | .function => true | _ => false) && !(defScope d.st).isCoroutine && !(defScope d.st).isGenerator && decide d.N.Nodup && decide (d.N.take d.ps.length = d.ps) &&
  (d.ps.all fun x => isLoc (defScope d.st) x) && ((defScope d.st).names.all fun y => match y.2 with | .free => false | _ => true)
theorem scB_ok {d : DefI} (h : scB d = true) : FnScope d.N d.ps (defScope d.st) := by
  simp only [scB, Bool.and_eq_true, Bool.not_eq_true', decide_eq_true_eq, List.all_eq_true] at h
  obtain ⟨⟨⟨⟨⟨⟨h1, h2⟩, h3⟩, h4⟩, h5⟩, h6⟩, h7⟩ := h
  refine ⟨?_, h2, h3, h4, h5, fun x hx => ?_, fun y hy e => ?_⟩
  · split at h1
    · rename_i e; exact e
    · cases h1
  · have := h6 x hx
    unfold isLoc at this
    split at this
    · rename_i e; exact .inl e
    · rename_i e; exact .inr e
    · cases this
  · have := h7 y hy
    rw [e] at this
    cases this
/-- its parameters are bound as they are written -/
def BndOk (d : DefI) : Prop := ∀ (kV doc pm : Value) (an : Option Addr) (cdv ct : Value) (us : List Value), us.length = d.ps.length → bindArgs (PySem.W.fnOf d.name d.name (defArgs d.st) (defBody d.st) (defScope d.st) .none kV doc pm an cdv ct) ⟨us, []⟩ = pure (d.ps.zip us)
section
variable {P : Program} {w : World} {K : PySem.W.Frag} {mg : Str → Option Value} {base h : Heap}
theorem fact_mem {fa : List He.Fa} {fn : List He.DefD} (c : He.SaysD fa fn K) {f : He.Fa} (hf : f ∈ fa) : f.ok K = true := by
  obtain ⟨i, hi⟩ := List.getElem?_of_mem hf
  exact c.fact i hi
theorem lookup_mem2 {α : Type} {l : List (Str × α)} {x : Str} {a : α} (h : l.lookup x = some a) : (x, a) ∈ l := PySem.mem_of_lookup h
theorem prg_glob (p : Prg) (wh n : Nat) (X : K.In h) (G : h.Ns mainGlobals mg) (c : He.SaysD p.fa p.fn K) (hs : p.defs.all scB = true) (hb : ∀ d ∈ p.defs, BndOk d) : ∀ k, Glob P w K mg base (He.ga K) (p.T wh n k) k := by
  have con : ∀ (x : Str) (d : D), p.con x = some d → ∃ (v : V) (u : Value), mg x = some u ∧ RelV v u ∧ FlatV v d := fun x d hd => by
    unfold Prg.con at hd
    cases q : p.inn.lookup x with
    | some i =>
      rw [q] at hd
      cases hd
      obtain ⟨t, e⟩ := He.int_ok X G (fact_mem c (f := .int x i) (by
        unfold Prg.fa
        exact List.mem_append_right _ (List.mem_append_right _ (List.mem_append_left _ (List.mem_map.mpr ⟨(x, i), lookup_mem2 q, rfl⟩)))))
      exact ⟨.int i, _, e, ⟨t, rfl⟩, fun _ _ => .int i⟩
    | none =>
      rw [q] at hd
      cases q2 : p.txt.lookup x with
      | none => rw [q2] at hd; cases hd
      | some z =>
        rw [q2] at hd
        cases hd
        obtain ⟨t, e⟩ := He.str_ok X G (fact_mem c (f := .str x z) (by
          unfold Prg.fa
          exact List.mem_append_right _ (List.mem_append_right _ (List.mem_append_right _ (List.mem_append_left _ (List.mem_map.mpr ⟨(x, z), lookup_mem2 q2, rfl⟩))))))
        exact ⟨.str z, _, e, ⟨t, rfl⟩, fun _ _ => .str z⟩
  have free : ∀ x ∈ blts, mg x = none := fun x hx => He.free_ok X G (fact_mem c (f := .free x) (by
    unfold Prg.fa
    exact List.mem_append_right _ (List.mem_append_left _ (List.mem_map.mpr ⟨x, hx, rfl⟩))))
  have exc : ∀ x, p.excs.contains x = true → PySem.W.excIn K (He.ga K x) [.type "ValueError", .type "Exception", .type "BaseException", .type "object"] "ValueError.__new__" = true ∧ mg x = some (.ref (He.ga K x)) ∧ PySem.W.keepIn K (.ref (He.ga K x)) = true ∧
      PySem.W.subIn K (.ref (He.ga K x)) (.type "BaseException") = some true ∧ PySem.W.typeIn K (.ref (He.ga K x)) = some (.type "type") := fun x hx => by
    have hm : x ∈ p.excs := by simpa using hx
    obtain ⟨h1, h2, h3, h4⟩ := He.exc_ok (fact_mem c (f := .exc x) (by
      unfold Prg.fa
      exact List.mem_append_right _ (List.mem_append_right _ (List.mem_append_right _ (List.mem_append_right _ (List.mem_append_left _ (List.mem_map.mpr ⟨x, hm, rfl⟩)))))))
    have g := He.glo_ok X G (fact_mem c (f := .glo x) (by
      unfold Prg.fa
      exact List.mem_append_right _ (List.mem_append_right _ (List.mem_append_right _ (List.mem_append_right _ (List.mem_append_right _ (List.mem_map.mpr ⟨x, hm, rfl⟩)))))))
    exact ⟨h1, g, h2, h3, h4⟩
  intro k
  induction k with
  | zero => exact ⟨fun x n F e => (nomatch e), con, fun x hx _ => free x hx, exc⟩
  | succ k ih =>
    refine ⟨fun x m F e => ?_, con, fun x hx _ => free x hx, exc⟩
    have e : ((p.defs.find? fun d => d.name == x).map fun d => (d.ps.length, runD (p.T wh n k) d.N wh (n + 1) (defScope d.st) (defBody d.st))) = some (m, F) := e
    cases q : p.defs.find? fun d => d.name == x with
    | none => rw [q] at e; cases e
    | some d =>
      rw [q] at e
      cases e
      have hm : d ∈ p.defs := List.mem_of_find?_eq_some q
      have hx : d.name = x := by simpa using List.find?_some q
      obtain ⟨i, hi⟩ := List.getElem?_of_mem hm
      obtain ⟨fd, FD⟩ := c.def_ i (d := d.d) (by unfold Prg.fn; rw [List.getElem?_map, hi]; rfl)
      have FD : FunD K d.name d.name (defArgs d.st) (defBody d.st) (defScope d.st) [] [] (He.ga K d.name) fd := FD
      have g := He.glo_ok X G (fact_mem c (f := .glo d.name) (by
        unfold Prg.fa
        exact List.mem_append_left _ (List.mem_map.mpr ⟨d, hm, rfl⟩)))
      exact ⟨_, fd, d.ps, fn_run n wh FD (scB_ok (List.all_eq_true.mp hs d hm)) ih, by rw [← hx]; exact g, FD.kp, FD.bindsN (hb d hm)⟩
end
/-! ### the law -/
def CXany : CXT := fun outer H s E e s' => ∃ (P : Program) (w : World), L2.CX P w outer H s E e s'
theorem fn_wider {P : Program} {w : World} {K : PySem.W.Frag} {mg : Str → Option Value} {base : Heap} {k : Nat} {f : Addr} {fd : FuncData} {ps : List Str} {sp : Sp} (F : FnOk P w K mg base (L2.CX P w) k f fd ps sp) : FnOk P w K mg base CXany k f fd ps sp :=
  ⟨F.len, fun A outer s H args us vs Q E hr he hb hv hs => codeAny_mono (F.run A outer s H args us vs Q E hr he hb hv hs) fun r s' q => by
    cases r with
    | error e => exact ⟨P, w, q⟩
    | ok fl =>
      cases fl with
      | ret u => exact q
      | next => exact q
      | brk => exact q
      | cont => exact q⟩
theorem cxany_no {H : Hp} {s : Shared} {e : Value} {s' : Shared} (h : CXany [] H s (fun _ _ _ => False) e s') : False := by
  obtain ⟨P, w, _, _, _, _, _, _, _, _, _, _, _, _, z⟩ := h
  exact z
theorem law_ok {P : Program} {w : World} {K : PySem.W.Frag} {mg : Str → Option Value} {h : Heap} {f : Addr} (p : Prg) (wh n k : Nat) (X : K.In h) (G : h.Ns mainGlobals mg) (hfa : mg ("law" : Str) = some (.ref f)) (c : He.SaysD p.fa p.fn K) (hs : p.defs.all scB = true) (hb : ∀ d ∈ p.defs, BndOk d)
    (d : DefI) (hd : d ∈ p.defs) (hn : d.name = "law") (hp : d.ps = [("script" : Str)]) (ok : ∀ ns : List Int, ns.length ≤ 63 → runD (p.T wh n k) d.N wh (n + 1) (defScope d.st) (defBody d.st) [scr ns] = .ok (.bool true)) :
    ∃ (fd : FuncData) (sp : Sp), (∀ (s : Shared) (u : Value), BindsTo s fd ⟨[u], []⟩ [("script", u)]) ∧
      (∀ (H : Hp) (a : Addr) (ns : List Int), ns.length ≤ 63 → Only H → SqL K H a (ns.map V.int) → sp [.ref a] H (fun v _ => v = .bl true) fun _ _ _ => False) ∧
      ∀ base : Heap, K.In base → base.Ns mainGlobals mg → FnOk P w K mg base CXany (k + 1) f fd [("script" : Str)] sp := by
  obtain ⟨i, hi⟩ := List.getElem?_of_mem hd
  obtain ⟨fd, FD⟩ := c.def_ i (d := d.d) (by unfold Prg.fn; rw [List.getElem?_map, hi]; rfl)
  have FD : FunD K d.name d.name (defArgs d.st) (defBody d.st) (defScope d.st) [] [] (He.ga K d.name) fd := FD
  have g := He.glo_ok X G (fact_mem c (f := .glo d.name) (by
    unfold Prg.fa
    exact List.mem_append_left _ (List.mem_map.mpr ⟨d, hd, rfl⟩)))
  have ef : He.ga K d.name = f := by
    rw [hn, hfa] at g
    rw [hn]
    cases g
    rfl
  refine ⟨fd, spD K (He.ga K) 1 (runD (p.T wh n k) d.N wh (n + 1) (defScope d.st) (defBody d.st)), fun s u => ?_, fun H a ns hlen _ hS => ?_, fun base KB GB => ?_⟩
  · have := FD.bindsA (ps := d.ps) (hb d hd) s [u] (by rw [hp]; rfl)
    rw [hp] at this
    exact this
  · refine ⟨H, [scr ns], Same.refl _, .cons (.scr hS (by rw [sizeLine_eq]; omega)) .nil, rfl, ?_⟩
    rw [ok ns hlen]
    intro v Hf' H' g r
    cases r
    rfl
  · have q := fn_run (P := P) (w := w) (base := base) (mg := mg) (k := k) (cl := He.ga K) n wh FD (scB_ok (List.all_eq_true.mp hs d hd)) (prg_glob p wh n X G c hs hb k)
    rw [hp, ef] at q
    exact fn_wider q
end DL
/-! The data layer: a def's functional form. -/
namespace DL
open PySem PySem.Spec PyProof.Rows L2
def kD (d : D) : Env → R D := fun _ => .ok d
def kT (b : Bool) : Env → R Bool := fun _ => .ok b
def e1 (F : D → R D) (a : Env → R D) : Env → R D := fun ρ => a ρ >>= F
def e2 (F : D → D → R D) (a b : Env → R D) : Env → R D := fun ρ => a ρ >>= fun x => b ρ >>= fun y => F x y
def t1 (F : D → R Bool) (a : Env → R D) : Env → R Bool := fun ρ => a ρ >>= F
def t2 (F : D → D → R Bool) (a b : Env → R D) : Env → R Bool := fun ρ => a ρ >>= fun x => b ρ >>= fun y => F x y
def bCmp (op : CmpOp) (x y : D) : R D := asBool (dCmp op x y)
def eBo (f : Env → R Bool) : Env → R D := fun ρ => asBool (f ρ)
def eArgs : List (Env → R D) → Env → R (List D)
  | [] => fun _ => .ok []
  | f :: fs => fCons f (eArgs fs)
def eTup (fs : List (Env → R D)) : Env → R D := fun ρ => eArgs fs ρ >>= fun ds => okLen ds .tuple
def eLst (fs : List (Env → R D)) : Env → R D := fun ρ => eArgs fs ρ >>= fun ds => okLen ds .list
def pN : Env → R (Option Int) := fun _ => .ok none
def pS (a : Env → R D) : Env → R (Option Int) := fun ρ => a ρ >>= dPart
def eSl (a : Env → R D) (lo hi : Env → R (Option Int)) : Env → R D := fun ρ => a ρ >>= fun x => lo ρ >>= fun l => hi ρ >>= fun u => dSl x l u
def eRv (a : Env → R D) : Env → R D := fun ρ => a ρ >>= fun x => (R.ok none : R (Option Int)) >>= fun l => dRev x l
def eRvF (a : Env → R D) (lo : Env → R (Option Int)) : Env → R D := fun ρ => a ρ >>= fun x => match x with | .tuple _ => lo ρ >>= fun l => dRev x l | _ => .bad
def eC (n : Nat) (F : List D → R D) (fs : List (Env → R D)) : Env → R D := fun ρ => eArgs fs ρ >>= ari n F
def eB (F : List D → R D) (fs : List (Env → R D)) : Env → R D := fun ρ => eArgs fs ρ >>= F
def iB (F : List D → R (List D)) (fs : List (Env → R D)) : Env → R (List D) := fun ρ => eArgs fs ρ >>= F
def i1 (F : D → R (List D)) (a : Env → R D) : Env → R (List D) := fun ρ => a ρ >>= F
def sNil : Env → R Out := fun ρ => .ok (.nx ρ)
def sBrk : Env → R Out := fun ρ => .ok (.bk ρ)
def sCnt : Env → R Out := fun ρ => .ok (.ct ρ)
def sRet0 : Env → R Out := fun _ => .ok (.rt .none)
def sRet (a : Env → R D) : Env → R Out := fun ρ => a ρ >>= fun d => .ok (.rt d)
def sExp (a : Env → R D) : Env → R Out := fun ρ => a ρ >>= fun _ => .ok (.nx ρ)
def sSet (i : Nat) (a : Env → R D) : Env → R Out := fun ρ => a ρ >>= fun d => .ok (.nx (ρ.set i (.va d)))
def sOwn (i : Nat) (a : Env → R D) : Env → R Out := fun ρ => a ρ >>= fun d => .ok (.nx (ρ.set i (.ow d)))
def sExc (c : Str) : Env → R Out := fun _ => .exc c
def fOut : Out → R D
  | .rt d => .ok d
  | .nx _ => .ok .none
  | _ => .bad
def fRun (n : Nat) (b : Env → R Out) (ds : List D) : R D := b (ds.map Slot.va ++ List.replicate (n - ds.length) .un) >>= fun o => match o with
    | .rt d => .ok d
    | .nx _ => .ok .none
    | _ => .bad
end DL
/-! The data layer: rules by which a functional form is worked out. -/
namespace DL
open PySem PySem.Spec PyProof.Rows L2
section
variable {ρ : Env} {a b : Env → R D}
@[simp] theorem rdE_zero (d : D) : rdE 0 (.va d :: ρ) = .ok d := (rfl)
@[simp] theorem rdE_one (s : Slot) (d : D) : rdE 1 (s :: .va d :: ρ) = .ok d := (rfl)
theorem rdE_succ (n : Nat) (s : Slot) : rdE (n + 1) (s :: ρ) = rdE n ρ := by simp [rdE]
@[simp] theorem rdP_zero (d : D) : rdP 0 (.va d :: ρ) = .ok d := (rfl)
@[simp] theorem rdP_zero_ow (d : D) : rdP 0 (.ow d :: ρ) = .ok d := (rfl)
theorem rdP_succ (n : Nat) (s : Slot) : rdP (n + 1) (s :: ρ) = rdP n ρ := by simp [rdP]
@[simp] theorem kD_ap (d : D) : kD d ρ = .ok d := (rfl)
@[simp] theorem kT_ap (d : Bool) : kT d ρ = .ok d := (rfl)
@[simp] theorem e1_ap (F : D → R D) : e1 F a ρ = a ρ >>= F := (rfl)
@[simp] theorem e2_ap (F : D → D → R D) : e2 F a b ρ = a ρ >>= fun x => b ρ >>= fun y => F x y := (rfl)
@[simp] theorem t1_ap (F : D → R Bool) : t1 F a ρ = a ρ >>= F := (rfl)
@[simp] theorem t2_ap (F : D → D → R Bool) : t2 F a b ρ = a ρ >>= fun x => b ρ >>= fun y => F x y := (rfl)
@[simp] theorem bCmp_ap (op : CmpOp) (x y : D) : bCmp op x y = asBool (dCmp op x y) := (rfl)
@[simp] theorem asBool_ok (x : Bool) : asBool (.ok x) = .ok (.bool x) := (rfl)
@[simp] theorem eBo_ap (f : Env → R Bool) : eBo f ρ = asBool (f ρ) := (rfl)
@[simp] theorem eArgs_nil : eArgs [] ρ = .ok [] := (rfl)
@[simp] theorem eArgs_cons (f : Env → R D) (fs : List (Env → R D)) : eArgs (f :: fs) ρ = f ρ >>= fun x => eArgs fs ρ >>= fun xs => .ok (x :: xs) := (rfl)
@[simp] theorem eTup_ap (fs : List (Env → R D)) : eTup fs ρ = eArgs fs ρ >>= fun ds => okLen ds .tuple := (rfl)
@[simp] theorem eLst_ap (fs : List (Env → R D)) : eLst fs ρ = eArgs fs ρ >>= fun ds => okLen ds .list := (rfl)
@[simp] theorem okLen_nil (f : List D → D) : okLen [] f = .ok (f []) := (rfl)
@[simp] theorem okLen_1 (f : List D → D) (x1 : D) : okLen [x1] f = .ok (f [x1]) := (rfl)
@[simp] theorem okLen_2 (f : List D → D) (x1 x2 : D) : okLen [x1, x2] f = .ok (f [x1, x2]) := (rfl)
@[simp] theorem okLen_3 (f : List D → D) (x1 x2 x3 : D) : okLen [x1, x2, x3] f = .ok (f [x1, x2, x3]) := (rfl)
@[simp] theorem okLen_4 (f : List D → D) (x1 x2 x3 x4 : D) : okLen [x1, x2, x3, x4] f = .ok (f [x1, x2, x3, x4]) := (rfl)
@[simp] theorem okLen_5 (f : List D → D) (x1 x2 x3 x4 x5 : D) : okLen [x1, x2, x3, x4, x5] f = .ok (f [x1, x2, x3, x4, x5]) := (rfl)
theorem okLen_le {ds : List D} {f : List D → D} (h : ds.length ≤ 1000) : okLen ds f = .ok (f ds) := if_pos h
@[simp] theorem pN_ap : pN ρ = .ok none := (rfl)
@[simp] theorem pS_ap : pS a ρ = a ρ >>= dPart := (rfl)
@[simp] theorem dPart_int (i : Int) : dPart (.int i) = .ok (some i) := (rfl)
@[simp] theorem eSl_ap (lo hi : Env → R (Option Int)) : eSl a lo hi ρ = a ρ >>= fun x => lo ρ >>= fun l => hi ρ >>= fun u => dSl x l u := (rfl)
@[simp] theorem eRv_ap : eRv a ρ = a ρ >>= fun x => dRev x none := (rfl)
@[simp] theorem eC_ap (n : Nat) (F : List D → R D) (fs : List (Env → R D)) : eC n F fs ρ = eArgs fs ρ >>= ari n F := (rfl)
@[simp] theorem ari_1 (F : List D → R D) (x1 : D) : ari 1 F [x1] = F [x1] := (rfl)
@[simp] theorem ari_2 (F : List D → R D) (x1 x2 : D) : ari 2 F [x1, x2] = F [x1, x2] := (rfl)
@[simp] theorem ari_3 (F : List D → R D) (x1 x2 x3 : D) : ari 3 F [x1, x2, x3] = F [x1, x2, x3] := (rfl)
@[simp] theorem ari_4 (F : List D → R D) (x1 x2 x3 x4 : D) : ari 4 F [x1, x2, x3, x4] = F [x1, x2, x3, x4] := (rfl)
@[simp] theorem ari_5 (F : List D → R D) (x1 x2 x3 x4 x5 : D) : ari 5 F [x1, x2, x3, x4, x5] = F [x1, x2, x3, x4, x5] := (rfl)
@[simp] theorem ari_6 (F : List D → R D) (x1 x2 x3 x4 x5 x6 : D) : ari 6 F [x1, x2, x3, x4, x5, x6] = F [x1, x2, x3, x4, x5, x6] := (rfl)
@[simp] theorem eB_ap (F : List D → R D) (fs : List (Env → R D)) : eB F fs ρ = eArgs fs ρ >>= F := (rfl)
@[simp] theorem iB_ap (F : List D → R (List D)) (fs : List (Env → R D)) : iB F fs ρ = eArgs fs ρ >>= F := (rfl)
@[simp] theorem i1_ap (F : D → R (List D)) : i1 F a ρ = a ρ >>= F := (rfl)
@[simp] theorem sNil_ap : sNil ρ = .ok (.nx ρ) := (rfl)
@[simp] theorem sBrk_ap : sBrk ρ = .ok (.bk ρ) := (rfl)
@[simp] theorem sCnt_ap : sCnt ρ = .ok (.ct ρ) := (rfl)
@[simp] theorem sRet0_ap : sRet0 ρ = .ok (.rt .none) := (rfl)
@[simp] theorem sRet_ap : sRet a ρ = a ρ >>= fun d => .ok (.rt d) := (rfl)
@[simp] theorem sExp_ap : sExp a ρ = a ρ >>= fun _ => .ok (.nx ρ) := (rfl)
@[simp] theorem sSet_ap (i : Nat) : sSet i a ρ = a ρ >>= fun d => .ok (.nx (ρ.set i (.va d))) := (rfl)
@[simp] theorem sOwn_ap (i : Nat) : sOwn i a ρ = a ρ >>= fun d => .ok (.nx (ρ.set i (.ow d))) := (rfl)
@[simp] theorem sExc_ap (c : Str) : sExc c ρ = .exc c := (rfl)
/-- behind a statement -/
def thenS (G : Env → R Out) : Out → R Out
  | .nx ρ' => G ρ'
  | o => .ok o
@[simp] theorem fSeq_ap (F G : Env → R Out) : fSeq F G ρ = F ρ >>= thenS G := by
  show (F ρ).bind _ = (F ρ).bind _
  refine congrArg _ (funext fun o => ?_)
  cases o <;> rfl
@[simp] theorem thenS_nx (G : Env → R Out) : thenS G (.nx ρ) = G ρ := (rfl)
@[simp] theorem thenS_rt (G : Env → R Out) (d : D) : thenS G (.rt d) = .ok (.rt d) := (rfl)
@[simp] theorem thenS_bk (G : Env → R Out) : thenS G (.bk ρ) = .ok (.bk ρ) := (rfl)
@[simp] theorem thenS_ct (G : Env → R Out) : thenS G (.ct ρ) = .ok (.ct ρ) := (rfl)
@[simp] theorem fRun_ap (n : Nat) (B : Env → R Out) (ds : List D) : fRun n B ds = B (ds.map Slot.va ++ List.replicate (n - ds.length) .un) >>= fOut := by
  refine congrArg (R.bind _) (funext fun o => ?_)
  cases o <;> rfl
@[simp] theorem fOut_rt (d : D) : fOut (.rt d) = .ok d := (rfl)
@[simp] theorem fOut_nx : fOut (.nx ρ) = .ok .none := (rfl)
@[simp] theorem fIfS_ap (t : Env → R Bool) (F G : Env → R Out) : fIfS t F G ρ = t ρ >>= fun b => if b then F ρ else G ρ := (rfl)
@[simp] theorem fIf_ap (t : Env → R Bool) (F G : Env → R D) : fIf t F G ρ = t ρ >>= fun b => if b then F ρ else G ρ := (rfl)
@[simp] theorem tstAnd_ap (s t : Env → R Bool) : tstAnd s t ρ = s ρ >>= fun x => if x then t ρ else .ok false := (rfl)
@[simp] theorem tstOr_ap (s t : Env → R Bool) : tstOr s t ρ = s ρ >>= fun x => if x then .ok true else t ρ := (rfl)
@[simp] theorem tstNot_ap (s : Env → R Bool) : tstNot s ρ = s ρ >>= fun x => .ok (!x) := (rfl)
@[simp] theorem fChain_ap (F G : D → D → R Bool) (fa fb fc : Env → R D) : fChain F G fa fb fc ρ = fa ρ >>= fun x => fb ρ >>= fun y => F x y >>= fun k => if k then fc ρ >>= fun z => G y z else .ok false := (rfl)
@[simp] theorem fChain3_ap (F G G2 : D → D → R Bool) (fa fb fc fd : Env → R D) : fChain3 F G G2 fa fb fc fd ρ = fa ρ >>= fun x => fb ρ >>= fun y => F x y >>= fun k => if k then fc ρ >>= fun z => G y z >>= fun k2 => if k2 then fd ρ >>= fun u => G2 z u else .ok false else .ok false := (rfl)
def andK (y : R D) : D → R D
  | .bool b => if b then y else .ok (.bool false)
  | _ => .bad
def orK (y : R D) : D → R D
  | .bool b => if b then .ok (.bool true) else y
  | _ => .bad
@[simp] theorem andK_bool (y : R D) (b : Bool) : andK y (.bool b) = if b then y else .ok (.bool false) := (rfl)
@[simp] theorem orK_bool (y : R D) (b : Bool) : orK y (.bool b) = if b then .ok (.bool true) else y := (rfl)
@[simp] theorem fAnd_ap (fa fb : Env → R D) : fAnd fa fb ρ = fa ρ >>= andK (fb ρ) := by
  unfold fAnd
  congr 1
  funext x
  cases x with
  | bool b => cases b <;> rfl
  | _ => rfl
@[simp] theorem fOr_ap (fa fb : Env → R D) : fOr fa fb ρ = fa ρ >>= orK (fb ρ) := by
  unfold fOr
  congr 1
  funext x
  cases x with
  | bool b => cases b <;> rfl
  | _ => rfl
@[simp] theorem relS_ap (is : List Nat) (F : Env → R Out) : relS is F ρ = F (relR is ρ) := (rfl)
@[simp] theorem relR_nil : relR [] ρ = ρ := (rfl)
@[simp] theorem relR_cons (i : Nat) (is : List Nat) : relR (i :: is) ρ = relR is (relR1 i ρ) := (rfl)
@[simp] theorem relR1_0va (d : D) : relR1 0 (.va d :: ρ) = .va d :: ρ := (rfl)
@[simp] theorem relR1_0ow (d : D) : relR1 0 (.ow d :: ρ) = .va d :: ρ := (rfl)
@[simp] theorem relR1_0un : relR1 0 (.un :: ρ) = .un :: ρ := (rfl)
theorem relR1_succ (n : Nat) (s : Slot) : relR1 (n + 1) (s :: ρ) = s :: relR1 n ρ := by
  simp only [relR1, List.getElem?_cons_succ]
  cases ρ[n]? with
  | none => rfl
  | some t => cases t <;> rfl
@[simp] theorem dNot_bool (x : Bool) : dNot (.bool x) = .ok (.bool (!x)) := (rfl)
@[simp] theorem dNeg_int (x : Int) : dNeg (.int x) = .ok (.int (-x)) := (rfl)
@[simp] theorem dTru_bool (x : Bool) : dTru (.bool x) = .ok x := (rfl)
@[simp] theorem fPar_ap (fl : List Bool) (is : List Nat) (fr : Env → R (List D)) : fPar fl is fr ρ = fr ρ >>= fun ds => .ok (.nx (setFl fl is ds ρ)) := (rfl)
@[simp] theorem fSetT_ap (tg : Tg) (fe : Env → R D) : fSetT tg fe ρ = fe ρ >>= fun d => fTg tg d ρ >>= fun ρ' => .ok (.nx ρ') := (rfl)
@[simp] theorem fFor_ap (fi : Env → R (List D)) (tg : Tg) (fb : Env → R Out) : fFor fi tg fb ρ = fi ρ >>= fun ds => forLoop tg fb ds ρ := (rfl)
@[simp] theorem fTg_one (i : Nat) (d : D) : fTg (.one i) d ρ = .ok (ρ.set i (.va d)) := (rfl)
@[simp] theorem calm_ok {α : Type} (x : α) : (R.ok x).calm = .ok x := (rfl)
@[simp] theorem fLc_ap (fi : Env → R (List D)) (tg : Tg) (ft : Env → R Bool) (fe : Env → R D) (own : List Nat) : fLc fi tg ft fe own ρ = fi ρ >>= fun ds => (lcLoop tg ft fe (wipeR ρ own) ds).calm >>= fun ys => .ok (.list ys) := (rfl)
@[simp] theorem wipeR_nil : wipeR ρ [] = ρ := (rfl)
@[simp] theorem wipeR_cons (v : Nat) (vs : List Nat) : wipeR ρ (v :: vs) = (wipeR ρ vs).set v .un := (rfl)
end
/-! ### truth values -/
@[simp] theorem ite_ok_and (b c : Bool) : (if b = true then (R.ok (.bool c) : R D) else .ok (.bool false)) = .ok (.bool (b && c)) := by cases b <;> rfl
@[simp] theorem ite_ok_or (b c : Bool) : (if b = true then (R.ok (.bool true) : R D) else .ok (.bool c)) = .ok (.bool (b || c)) := by cases b <;> rfl
@[simp] theorem ite_ok_andB (b c : Bool) : (if b = true then (R.ok c : R Bool) else .ok false) = .ok (b && c) := by cases b <;> rfl
@[simp] theorem ite_ok_orB (b c : Bool) : (if b = true then (R.ok true : R Bool) else .ok c) = .ok (b || c) := by cases b <;> rfl
@[simp] theorem ite_ok_andP (p : Prop) [Decidable p] (c : Bool) : (if p then (R.ok (.bool c) : R D) else .ok (.bool false)) = .ok (.bool (decide p && c)) := by by_cases h : p <;> simp [h]
@[simp] theorem ite_ok_orP (p : Prop) [Decidable p] (c : Bool) : (if p then (R.ok (.bool true) : R D) else .ok (.bool c)) = .ok (.bool (decide p || c)) := by by_cases h : p <;> simp [h]
@[simp] theorem ite_ok_andBP (p : Prop) [Decidable p] (c : Bool) : (if p then (R.ok c : R Bool) else .ok false) = .ok (decide p && c) := by by_cases h : p <;> simp [h]
@[simp] theorem ite_ok_orBP (p : Prop) [Decidable p] (c : Bool) : (if p then (R.ok true : R Bool) else .ok c) = .ok (decide p || c) := by by_cases h : p <;> simp [h]
/-! ### what the ops answer -/
@[simp] theorem dCmp_lte (i j : Int) : dCmp .LtE (.int i) (.int j) = .ok (decide (i ≤ j)) := (rfl)
@[simp] theorem dCmp_gt (i j : Int) : dCmp .Gt (.int i) (.int j) = .ok (decide (j < i)) := (rfl)
@[simp] theorem dCmp_gte (i j : Int) : dCmp .GtE (.int i) (.int j) = .ok (decide (j ≤ i)) := (rfl)
@[simp] theorem dCmp_lt (i j : Int) : dCmp .Lt (.int i) (.int j) = .ok (decide (i < j)) := (rfl)
@[simp] theorem shaped_int (i : Int) : SeqAt.shaped (.int i) = true := (rfl)
@[simp] theorem dCmp_eq (i j : Int) : dCmp .Eq (.int i) (.int j) = .ok (decide (i = j)) := by
  show dEq (.int i) (.int j) = _
  unfold dEq
  simp [PyData.eqv, BEq.beq]
@[simp] theorem dCmp_ne (i j : Int) : dCmp .NotEq (.int i) (.int j) = .ok (!decide (i = j)) := by
  show (dEq (.int i) (.int j) >>= fun b => .ok (!b)) = _
  have : dEq (.int i) (.int j) = .ok (decide (i = j)) := dCmp_eq i j
  rw [this]
  rfl
theorem scr_not {d : D} (h : d.canLay0 = true) : isScr d = none := by
  cases d with
  | dict k => simp [PyData.canLay0] at h
  | _ => rfl
@[simp] theorem dIsi_int (t : String) (i : Int) : dIsi t (.int i) = .ok (.bool (t == "int")) := (rfl)
@[simp] theorem dIsi_none (t : String) : dIsi t .none = .ok (.bool false) := (rfl)
@[simp] theorem dIsi_bool (t : String) (b : Bool) : dIsi t (.bool b) = .ok (.bool (t == "bool" || t == "int")) := (rfl)
@[simp] theorem dIsi_str (t : String) (z : Str) : dIsi t (.str z) = .ok (.bool (t == "str")) := (rfl)
@[simp] theorem dIsi_list (t : String) (z : List D) : dIsi t (.list z) = .ok (.bool (t == "list")) := (rfl)
@[simp] theorem dIsi_tuple (t : String) (z : List D) : dIsi t (.tuple z) = .ok (.bool (t == "tuple")) := (rfl)
@[simp] theorem dLen_list (ds : List D) : dLen [.list ds] = .ok (.int ds.length) := (rfl)
@[simp] theorem dLen_tuple (ds : List D) : dLen [.tuple ds] = .ok (.int ds.length) := (rfl)
@[simp] theorem dLen_str {z : Str} (h : z.length ≤ sizeLine) : dLen [.str z] = .ok (.int z.length) := (if_pos h)
@[simp] theorem dItems_list (ds : List D) : dItems (.list ds) = .ok ds := (rfl)
@[simp] theorem dItems_tuple (ds : List D) : dItems (.tuple ds) = .ok ds := (rfl)
@[simp] theorem dItems_str {z : Str} (h : z.length ≤ sizeLine) : dItems (.str z) = .ok (signs z) := (if_pos h)
@[simp] theorem dTuple_list (ds : List D) : dTuple [.list ds] = .ok (.tuple ds) := (rfl)
@[simp] theorem dTuple_tuple (ds : List D) : dTuple [.tuple ds] = .ok (.tuple ds) := (rfl)
@[simp] theorem dList_list (ds : List D) : dList [.list ds] = .ok (.list ds) := (rfl)
@[simp] theorem dList_tuple (ds : List D) : dList [.tuple ds] = .ok (.list ds) := (rfl)
@[simp] theorem dZip_tt (xs ys : List D) : dZip [.tuple xs, .tuple ys] = .ok (pairs xs ys) := (rfl)
@[simp] theorem dZip_ll (xs ys : List D) : dZip [.list xs, .list ys] = .ok (pairs xs ys) := (rfl)
@[simp] theorem dAdd_int (i j : Int) : dBin .Add (.int i) (.int j) = .ok (.int (i + j)) := (rfl)
@[simp] theorem dSub_int (i j : Int) : dBin .Sub (.int i) (.int j) = .ok (.int (i - j)) := (rfl)
theorem bools_map {α : Type} (g : α → Bool) : ∀ xs : List α, bools (xs.map fun x => .bool (g x)) = some (xs.map g)
  | [] => rfl
  | x :: xs => by simp [bools, bools_map g xs]
@[simp] theorem dAll_map {α : Type} (g : α → Bool) (xs : List α) : dAll [.list (xs.map fun x => .bool (g x))] = .ok (.bool (xs.all g)) := by
  simp [dAll, bools_map, List.all_map, Function.comp_def]
@[simp] theorem dAny_map {α : Type} (g : α → Bool) (xs : List α) : dAny [.list (xs.map fun x => .bool (g x))] = .ok (.bool (xs.any g)) := by
  simp [dAny, bools_map, List.any_map, Function.comp_def]
/-! ### loops -/
theorem lc_map {α : Type} {tg : Tg} {fe : Env → R D} {ρ : Env} (emb : α → D) (g : α → D) : ∀ xs : List α, (∀ x ∈ xs, (fTg tg (emb x) ρ >>= fun ρ1 => fe ρ1) = .ok (g x)) → lcLoop tg (kT true) fe ρ (xs.map emb) = .ok (xs.map g)
  | [], _ => rfl
  | x :: xs, h => by
    have h1 := h x (by simp)
    have ih := lc_map emb g xs fun y hy => h y (by simp [hy])
    simp only [List.map_cons, lcLoop]
    cases q : fTg tg (emb x) ρ with
    | bad => rw [q] at h1; cases h1
    | exc c => rw [q] at h1; cases h1
    | ok r =>
      rw [q] at h1
      simp only [R.ok_bind] at h1 ⊢
      simp [h1, ih]
theorem lc_one {i : Nat} {fe : Env → R D} {ρ : Env} (g : D → D) {ds : List D} (h : ∀ d ∈ ds, fe (ρ.set i (.va d)) = .ok (g d)) : lcLoop (.one i) (kT true) fe ρ ds = .ok (ds.map g) := by
  have := lc_map (tg := .one i) (fe := fe) (ρ := ρ) id g ds (fun x hx => by simpa using h x hx)
  simpa using this
theorem lc_filter {α : Type} {tg : Tg} {ft : Env → R Bool} {fe : Env → R D} {ρ : Env} (emb : α → D) (p : α → Bool) (g : α → D) : ∀ xs : List α, (∀ x ∈ xs, ∃ ρ1, fTg tg (emb x) ρ = .ok ρ1 ∧ ft ρ1 = .ok (p x) ∧ (p x = true → fe ρ1 = .ok (g x))) → lcLoop tg ft fe ρ (xs.map emb) = .ok ((xs.filter p).map g)
  | [], _ => rfl
  | x :: xs, h => by
    obtain ⟨ρ1, h1, h2, h3⟩ := h x (by simp)
    have ih := lc_filter emb p g xs fun y hy => h y (by simp [hy])
    simp only [List.map_cons, lcLoop, h1, R.ok_bind, h2]
    cases q : p x with
    | true => simp [q, h3 q, ih]
    | false => simp [q, ih]
end DL
namespace DL
open PySem PySem.Spec PyProof.Rows L2
/-- a loop that only looks -/
def lastSet (i : Nat) (ρ : Env) : List D → Env
  | [] => ρ
  | d :: ds => lastSet i (ρ.set i (.va d)) ds
theorem for_chk {i : Nat} {fb : Env → R Out} : ∀ {ds : List D} {ρ : Env}, (∀ d ∈ ds, fb (ρ.set i (.va d)) = .ok (.nx (ρ.set i (.va d)))) → forLoop (.one i) fb ds ρ = .ok (.nx (lastSet i ρ ds))
  | [], _, _ => rfl
  | d :: ds, ρ, h => by
    have h1 := h d (by simp)
    have ih := for_chk (ds := ds) (ρ := ρ.set i (.va d)) fun e he => by
      rw [List.set_set]
      exact h e (by simp [he])
    simp only [forLoop, fTg_one, R.ok_bind, h1]
    exact ih
theorem seq_nx {F G : Env → R Out} {ρ ρ' : Env} (h : F ρ = .ok (.nx ρ')) : fSeq F G ρ = G ρ' := by rw [fSeq_ap, h]; rfl
theorem seq_rt {F G : Env → R Out} {ρ : Env} {d : D} (h : F ρ = .ok (.rt d)) : fSeq F G ρ = .ok (.rt d) := by rw [fSeq_ap, h]; rfl
end DL
/-! The functional forms of the program's defs (printed by fc.py). -/
namespace DL
open PySem PySem.Spec PyProof.Rows L2
def FF_is_whole : List D → R D := fRun 3 (fSeq (relS [] (sRet (fAnd (e1 (dIsi "int") (rdP 0)) (fAnd (e1 dNot (e1 (dIsi "bool") (rdP 0))) (eBo (fChain (dCmp .LtE) (dCmp .LtE) (rdP 1) (rdP 0) (rdP 2)))))))
  sNil)
def FF_is_name : List D → R D := fRun 2 (fSeq (relS [0] (sRet (fAnd (e1 (dIsi "str") (rdP 0)) (fAnd (eBo (fChain (dCmp .LtE) (dCmp .LtE) (kD (.int 1)) (eB dLen [(rdP 0)]) (kD (.int 6)))) (eB dAll [(fLc (i1 dItems (rdE 0)) (.one 1) (kT true) (e2 (bCmp .In) (rdP 1) (kD (.str "abcdefghijklmnopqrstuvwxyz"))) [1])])))))
  sNil)
def FF_is_cell (f_is_whole : List D → R D) : List D → R D := fRun 2 (fSeq (relS [1, 0] (sRet (fAnd (e1 (dIsi "tuple") (rdP 0)) (fAnd (e2 (bCmp .Eq) (eB dLen [(rdP 0)]) (kD (.int 2))) (eB dAll [(fLc (i1 dItems (rdE 0)) (.one 1) (kT true) (eC 3 f_is_whole [(rdE 1), (kD (.int 0)), (kD (.int 9))]) [1])])))))
  sNil)
def FF_is_rising : List D → R D := fRun 3 (fSeq (relS [0] (sRet (eB dAll [(fLc (iB dZip [(rdE 0), (eSl (rdP 0) (pS (kD (.int 1))) pN)]) (.many [1, 2]) (kT true) (e2 (bCmp .Lt) (rdP 1) (rdP 2)) [1, 2])])))
  sNil)
def FF_is_islands (f_is_cell : List D → R D) (f_is_rising : List D → R D) : List D → R D := fRun 2 (fSeq (relS [1, 0] (fIfS (tstOr (tstNot (t1 dTru (e1 (dIsi "tuple") (rdP 0)))) (tstOr (t2 (dCmp .Gt) (eB dLen [(rdP 0)]) (kD (.int 12))) (tstNot (t1 dTru (eB dAll [(fLc (i1 dItems (rdE 0)) (.one 1) (kT true) (eC 1 f_is_cell [(rdE 1)]) [1])]))))) (fSeq (relS [] (sRet (kD (.bool false))))
    sNil) sNil))
  (fSeq (relS [0] (sRet (eC 1 f_is_rising [(rdE 0)])))
  sNil))
def FF_is_ship (f_is_name : List D → R D) (f_is_whole : List D → R D) (f_is_cell : List D → R D) : List D → R D := fRun 5 (fSeq (relS [] (fIfS (tstOr (tstNot (t1 dTru (e1 (dIsi "tuple") (rdP 2)))) (tstOr (t2 (dCmp .NotEq) (eB dLen [(rdP 2)]) (kD (.int 3))) (tstOr (tstNot (t1 dTru (eC 1 f_is_name [(e2 dIx (rdP 2) (kD (.int 0)))]))) (tstNot (t1 dTru (eC 3 f_is_whole [(e2 dIx (rdP 2) (kD (.int 1))), (kD (.int 0)), (kD (.int 9))])))))) (fSeq (relS [] (sRet (kD (.bool false))))
    sNil) sNil))
  (fSeq (relS [] (sSet 3 (e2 dIx (rdP 2) (kD (.int 2)))))
  (fSeq (relS [] (fIfS (tstOr (tstNot (t1 dTru (e1 (dIsi "tuple") (rdP 3)))) (t2 (dCmp .NotEq) (eB dLen [(rdP 3)]) (e2 (dBin .Add) (rdP 0) (kD (.int 1))))) (fSeq (relS [] (sRet (kD (.bool false))))
    sNil) sNil))
  (fSeq (relS [4, 3] (sRet (eB dAll [(fLc (i1 dItems (rdE 3)) (.one 4) (kT true) (fAnd (eC 1 f_is_cell [(rdE 4)]) (e2 (bCmp .NotIn) (rdP 4) (rdP 1))) [4])])))
  sNil))))
def FF_is_mist (f_is_whole : List D → R D) (f_is_cell : List D → R D) : List D → R D := fRun 7 (fSeq (relS [] (fIfS (tstOr (tstNot (t1 dTru (e1 (dIsi "tuple") (rdP 1)))) (t2 (dCmp .NotEq) (eB dLen [(rdP 1)]) (kD (.int 5)))) (fSeq (relS [] (sRet (kD (.bool false))))
    sNil) sNil))
  (fSeq (relS [1] (fSetT (.many [2, 3, 4, 5, 6]) (rdE 1)))
  (fSeq (relS [2, 0, 3, 2, 0, 6] (fIfS (tstOr (tstNot (t1 dTru (eC 3 f_is_whole [(rdE 2), (kD (.int 0)), (rdE 0)]))) (tstOr (tstNot (t1 dTru (eC 3 f_is_whole [(rdE 3), (rdE 2), (rdE 0)]))) (tstNot (t1 dTru (eC 3 f_is_whole [(rdE 6), (kD (.int 0)), (kD (.int 9))]))))) (fSeq (relS [] (sRet (kD (.bool false))))
    sNil) sNil))
  (fSeq (relS [4, 5] (sRet (fAnd (eC 1 f_is_cell [(rdE 4)]) (fAnd (eC 1 f_is_cell [(rdE 5)]) (fAnd (e2 (bCmp .LtE) (e2 dIx (rdP 4) (kD (.int 0))) (e2 dIx (rdP 5) (kD (.int 0)))) (e2 (bCmp .LtE) (e2 dIx (rdP 4) (kD (.int 1))) (e2 dIx (rdP 5) (kD (.int 1)))))))))
  sNil))))
def FF_is_fleet (f_is_whole : List D → R D) (f_is_islands : List D → R D) (f_is_ship : List D → R D) (f_is_rising : List D → R D) (f_is_mist : List D → R D) : List D → R D := fRun 7 (fSeq (relS [] (fIfS (tstOr (tstNot (t1 dTru (e1 (dIsi "tuple") (rdP 0)))) (tstOr (t2 (dCmp .NotEq) (eB dLen [(rdP 0)]) (kD (.int 4))) (tstNot (t1 dTru (eC 3 f_is_whole [(e2 dIx (rdP 0) (kD (.int 0))), (kD (.int 0)), (kD (.int 7))]))))) (fSeq (relS [] (sRet (kD (.bool false))))
    sNil) sNil))
  (fSeq (relS [0] (fSetT (.many [1, 2, 3, 4]) (rdE 0)))
  (fSeq (relS [2] (fIfS (tstOr (tstNot (t1 dTru (eC 1 f_is_islands [(rdE 2)]))) (tstOr (tstNot (t1 dTru (e1 (dIsi "tuple") (rdP 3)))) (tstNot (fChain (dCmp .LtE) (dCmp .LtE) (kD (.int 1)) (eB dLen [(rdP 3)]) (kD (.int 5)))))) (fSeq (relS [] (sRet (kD (.bool false))))
    sNil) sNil))
  (fSeq (relS [1, 2, 5, 3, 3] (fIfS (tstOr (tstNot (t1 dTru (eB dAll [(fLc (i1 dItems (rdE 3)) (.one 5) (kT true) (eC 3 f_is_ship [(rdE 1), (rdE 2), (rdE 5)]) [5])]))) (tstNot (t1 dTru (eC 1 f_is_rising [(fLc (i1 dItems (rdE 3)) (.one 5) (kT true) (e2 dIx (rdP 5) (kD (.int 0))) [5])])))) (fSeq (relS [] (sRet (kD (.bool false))))
    sNil) sNil))
  (fSeq (relS [1, 6, 4] (fIfS (tstOr (tstNot (t1 dTru (e1 (dIsi "tuple") (rdP 4)))) (tstOr (t2 (dCmp .Gt) (eB dLen [(rdP 4)]) (kD (.int 4))) (tstNot (t1 dTru (eB dAll [(fLc (i1 dItems (rdE 4)) (.one 6) (kT true) (eC 2 f_is_mist [(rdE 1), (rdE 6)]) [6])]))))) (fSeq (relS [] (sRet (kD (.bool false))))
    sNil) sNil))
  (fSeq (relS [4] (sRet (eC 1 f_is_rising [(rdE 4)])))
  sNil))))))
def FF_look_fleet (f_is_fleet : List D → R D) : List D → R D := fRun 1 (fSeq (relS [0] (fIfS (tstNot (t1 dTru (eC 1 f_is_fleet [(rdE 0)]))) (fSeq (sExc "NoFleet")
    sNil) sNil))
  sNil)
def FF_plain_names : List D → R D := fRun 2 (fSeq (relS [] (sRet (fLc (i1 dItems (e2 dIx (rdP 0) (kD (.int 2)))) (.one 1) (kT true) (e2 dIx (rdP 1) (kD (.int 0))) [1])))
  sNil)
def FF_names_of (f_look_fleet : List D → R D) (f_plain_names : List D → R D) : List D → R D := fRun 1 (fSeq (relS [0] (sExp (eC 1 f_look_fleet [(rdE 0)])))
  (fSeq (relS [0] (sRet (eC 1 f_plain_names [(rdE 0)])))
  sNil))
def FF_law_drawn_s4 : DL.Env → R Out := (relS [] (sRet (e2 (dBin .Mod) (e2 (dBin .FloorDiv) (e2 (dBin .Mod) (e2 (dBin .Add) (e2 (dBin .Mult) (rdP 3) (rdP 3)) (e2 (dBin .FloorDiv) (rdP 3) (kD (.int 7)))) (kD (.int 2147483647))) (kD (.int 11))) (rdP 2))))
def FF_law_drawn_t4 : DL.Env → R Out := fSeq (FF_law_drawn_s4) sNil
def FF_law_drawn_s3 : DL.Env → R Out := (relS [] (sSet 3 (e2 (dBin .Mod) (e2 (dBin .Add) (e2 (dBin .Mult) (rdP 3) (rdP 3)) (e2 (dBin .FloorDiv) (rdP 3) (kD (.int 3)))) (kD (.int 2147483399)))))
def FF_law_drawn_t3 : DL.Env → R Out := fSeq (FF_law_drawn_s3) (FF_law_drawn_t4)
def FF_law_drawn_s2 : DL.Env → R Out := (relS [] (sSet 3 (e2 (dBin .Mod) (e2 (dBin .Add) (e2 (dBin .Mult) (e2 (dBin .Mod) (rdP 3) (kD (.int 2147483563))) (kD (.int 69069))) (e2 (dBin .Mult) (kD (.int 104723)) (e2 (dBin .Add) (rdP 1) (kD (.int 1))))) (kD (.int 2147483563)))))
def FF_law_drawn_t2 : DL.Env → R Out := fSeq (FF_law_drawn_s2) (FF_law_drawn_t3)
def FF_law_drawn_s1 : DL.Env → R Out := (relS [] (fIfS (t2 (dCmp .NotEq) (rdP 0) (eLst [])) (fSeq (relS [] (sSet 3 (e2 dIx (rdP 0) (e2 (dBin .Mod) (rdP 1) (eB dLen [(rdP 0)])))))
  (fSeq (relS [] (sSet 4 (e2 (dBin .FloorDiv) (rdP 1) (eB dLen [(rdP 0)]))))
  (fSeq (relS [] (fIfS (tstAnd (t2 (dCmp .GtE) (rdP 3) (e2 (dBin .Pow) (kD (.int 10)) (kD (.int 18)))) (t2 (dCmp .Lt) (rdP 4) (kD (.int 60)))) (fSeq (relS [] (sSet 5 (e2 (dBin .FloorDiv) (rdP 3) (e2 (dBin .Pow) (kD (.int 10)) (kD (.int 18))))))
    (fSeq (relS [] (whLoop (tstAnd (t2 (dCmp .Gt) (rdP 5) (kD (.int 0))) (t2 (dCmp .Gt) (rdP 4) (kD (.int 0)))) (fSeq (relS [] (sSet 5 (e2 (dBin .FloorDiv) (rdP 5) (kD (.int 1000000)))))
      (fSeq (relS [] (sSet 4 (e2 (dBin .Sub) (rdP 4) (kD (.int 1)))))
      sNil)) 100000))
    (fSeq (relS [] (fIfS (t2 (dCmp .Gt) (rdP 5) (kD (.int 0))) (fSeq (relS [] (sRet (e2 (dBin .Mod) (e2 (dBin .Mod) (rdP 5) (kD (.int 1000000))) (rdP 2))))
      sNil) sNil))
    sNil))) sNil))
  (fSeq (relS [] (sSet 3 (e2 (dBin .Add) (rdP 3) (e2 (dBin .Mult) (kD (.int 6553)) (e2 (dBin .FloorDiv) (rdP 1) (eB dLen [(rdP 0)]))))))
  sNil)))) sNil))
def FF_law_drawn_t1 : DL.Env → R Out := fSeq (FF_law_drawn_s1) (FF_law_drawn_t2)
def FF_law_drawn_s0 : DL.Env → R Out := (relS [] (sSet 3 (e2 (dBin .Mult) (kD (.int 7)) (rdP 1))))
def FF_law_drawn_t0 : DL.Env → R Out := fSeq (FF_law_drawn_s0) (FF_law_drawn_t1)
def FF_law_drawn : List D → R D := fRun 6 (FF_law_drawn_t0)
def FF_look_ship (f_is_name : List D → R D) (f_plain_names : List D → R D) : List D → R D := fRun 2 (fSeq (relS [1, 0] (fIfS (tstOr (tstNot (t1 dTru (eC 1 f_is_name [(rdE 1)]))) (t2 (dCmp .NotIn) (rdP 1) (eC 1 f_plain_names [(rdE 0)]))) (fSeq (sExc "NoShip")
    sNil) sNil))
  sNil)
def FF_look_hour (f_is_whole : List D → R D) : List D → R D := fRun 2 (fSeq (relS [0, 1] (fIfS (tstNot (t1 dTru (eC 3 f_is_whole [(rdE 0), (kD (.int 0)), (rdE 1)]))) (fSeq (sExc "NoHour")
    sNil) sNil))
  sNil)
def FF_is_in : List D → R D := fRun 4 (fSeq (relS [] (fPar [false, false] [2, 3] (eArgs [(e2 dIx (rdP 0) (kD (.int 2))), (e2 dIx (rdP 0) (kD (.int 3)))])))
  (fSeq (relS [] (sRet (fAnd (eBo (fChain (dCmp .LtE) (dCmp .LtE) (e2 dIx (rdP 2) (kD (.int 0))) (e2 dIx (rdP 1) (kD (.int 0))) (e2 dIx (rdP 3) (kD (.int 0))))) (eBo (fChain (dCmp .LtE) (dCmp .LtE) (e2 dIx (rdP 2) (kD (.int 1))) (e2 dIx (rdP 1) (kD (.int 1))) (e2 dIx (rdP 3) (kD (.int 1))))))))
  sNil))
def FF_is_between : List D → R D := fRun 4 (fSeq (relS [0, 1] (fIfS (t2 (dCmp .In) (rdP 2) (eTup [(rdE 0), (rdE 1)])) (fSeq (relS [] (sRet (kD (.bool false))))
    sNil) sNil))
  (fSeq (relS [] (fIfS (t2 (dCmp .NotEq) (e2 (dBin .Mult) (e2 (dBin .Sub) (e2 dIx (rdP 2) (kD (.int 0))) (e2 dIx (rdP 0) (kD (.int 0)))) (e2 (dBin .Sub) (e2 dIx (rdP 1) (kD (.int 1))) (e2 dIx (rdP 0) (kD (.int 1))))) (e2 (dBin .Mult) (e2 (dBin .Sub) (e2 dIx (rdP 2) (kD (.int 1))) (e2 dIx (rdP 0) (kD (.int 1)))) (e2 (dBin .Sub) (e2 dIx (rdP 1) (kD (.int 0))) (e2 dIx (rdP 0) (kD (.int 0)))))) (fSeq (relS [] (sRet (kD (.bool false))))
    sNil) sNil))
  (fSeq (relS [] (sSet 3 (eBo (fChain (dCmp .LtE) (dCmp .LtE) (eB dMin [(e2 dIx (rdP 0) (kD (.int 0))), (e2 dIx (rdP 1) (kD (.int 0)))]) (e2 dIx (rdP 2) (kD (.int 0))) (eB dMax [(e2 dIx (rdP 0) (kD (.int 0))), (e2 dIx (rdP 1) (kD (.int 0)))])))))
  (fSeq (relS [3] (sRet (fAnd (rdP 3) (eBo (fChain (dCmp .LtE) (dCmp .LtE) (eB dMin [(e2 dIx (rdP 0) (kD (.int 1))), (e2 dIx (rdP 1) (kD (.int 1)))]) (e2 dIx (rdP 2) (kD (.int 1))) (eB dMax [(e2 dIx (rdP 0) (kD (.int 1))), (e2 dIx (rdP 1) (kD (.int 1)))]))))))
  sNil))))
def FF_sees_at (f_is_in : List D → R D) (f_is_between : List D → R D) : List D → R D := fRun 9 (fSeq (relS [] (fPar [false, false] [4, 5] (eArgs [(e2 dIx (e2 dIx (rdP 2) (kD (.int 2))) (rdP 1)), (e2 dIx (e2 dIx (rdP 3) (kD (.int 2))) (rdP 1))])))
  (fSeq (relS [] (sSet 6 (eB dMax [(eB dAbs [(e2 (dBin .Sub) (e2 dIx (rdP 4) (kD (.int 0))) (e2 dIx (rdP 5) (kD (.int 0))))]), (eB dAbs [(e2 (dBin .Sub) (e2 dIx (rdP 4) (kD (.int 1))) (e2 dIx (rdP 5) (kD (.int 1))))])])))
  (fSeq (relS [] (fIfS (tstOr (t2 (dCmp .Eq) (rdP 2) (rdP 3)) (t2 (dCmp .Gt) (rdP 6) (e2 dIx (rdP 2) (kD (.int 1))))) (fSeq (relS [] (sRet (kD (.bool false))))
    sNil) sNil))
  (fSeq (relS [] (fFor (i1 dItems (e2 dIx (rdP 0) (kD (.int 3)))) (.one 7) (fSeq (relS [7, 4, 7, 5] (fIfS (tstAnd (fChain (dCmp .LtE) (dCmp .LtE) (e2 dIx (rdP 7) (kD (.int 0))) (rdP 1) (e2 dIx (rdP 7) (kD (.int 1)))) (tstAnd (tstOr (t1 dTru (eC 2 f_is_in [(rdE 7), (rdE 4)])) (t1 dTru (eC 2 f_is_in [(rdE 7), (rdE 5)]))) (t2 (dCmp .Gt) (rdP 6) (e2 dIx (rdP 7) (kD (.int 4)))))) (fSeq (relS [] (sRet (kD (.bool false))))
      sNil) sNil))
    sNil)))
  (fSeq (relS [4, 5, 8] (sRet (e1 dNot (eB dAny [(fLc (i1 dItems (e2 dIx (rdP 0) (kD (.int 1)))) (.one 8) (kT true) (eC 3 f_is_between [(rdE 4), (rdE 5), (rdE 8)]) [8])]))))
  sNil)))))
def FF_sees (f_look_fleet : List D → R D) (f_look_hour : List D → R D) (f_look_ship : List D → R D) (f_sees_at : List D → R D) (f_ship_of : List D → R D) : List D → R D := fRun 4 (fSeq (relS [0] (sExp (eC 1 f_look_fleet [(rdE 0)])))
  (fSeq (relS [1] (sExp (eC 2 f_look_hour [(rdE 1), (e2 dIx (rdP 0) (kD (.int 0)))])))
  (fSeq (relS [0, 2] (sExp (eC 2 f_look_ship [(rdE 0), (rdE 2)])))
  (fSeq (relS [0, 3] (sExp (eC 2 f_look_ship [(rdE 0), (rdE 3)])))
  (fSeq (relS [0, 1, 0, 2, 0, 3] (sRet (eC 4 f_sees_at [(rdE 0), (rdE 1), (eC 2 f_ship_of [(rdE 0), (rdE 2)]), (eC 2 f_ship_of [(rdE 0), (rdE 3)])])))
  sNil)))))
def FF_plain_sightings (f_sees_at : List D → R D) : List D → R D := fRun 5 (fSeq (relS [] (sOwn 1 (eLst [])))
  (fSeq (relS [] (fFor (iB dRng1 [(e2 (dBin .Add) (e2 dIx (rdP 0) (kD (.int 0))) (kD (.int 1)))]) (.one 2) (fSeq (relS [] (fFor (i1 dItems (e2 dIx (rdP 0) (kD (.int 2)))) (.one 3) (fSeq (relS [] (fFor (i1 dItems (e2 dIx (rdP 0) (kD (.int 2)))) (.one 4) (fSeq (relS [0, 2, 3, 4] (fIfS (t1 dTru (eC 4 f_sees_at [(rdE 0), (rdE 2), (rdE 3), (rdE 4)])) (fSeq (relS [2] (fApp 1 (eTup [(rdE 2), (e2 dIx (rdP 3) (kD (.int 0))), (e2 dIx (rdP 4) (kD (.int 0)))])))
          sNil) sNil))
        sNil)))
      sNil)))
    sNil)))
  (fSeq (relS [1] (sRet (rdE 1)))
  sNil)))
def FF_sightings (f_look_fleet : List D → R D) (f_plain_sightings : List D → R D) : List D → R D := fRun 1 (fSeq (relS [0] (sExp (eC 1 f_look_fleet [(rdE 0)])))
  (fSeq (relS [0] (sRet (eC 1 f_plain_sightings [(rdE 0)])))
  sNil))
def FF_cleared (f_look_fleet : List D → R D) : List D → R D := fRun 1 (fSeq (relS [0] (sExp (eC 1 f_look_fleet [(rdE 0)])))
  (fSeq (relS [] (sRet (e2 (dBin .Add) (eSl (rdP 0) pN (pS (kD (.int 3)))) (eTup [(eTup [])]))))
  sNil))
def FF_is_of_form (f_is_whole : List D → R D) : List D → R D := fRun 1 (fSeq (relS [] (sRet (fAnd (e1 (dIsi "tuple") (rdP 0)) (fAnd (e2 (bCmp .Eq) (eB dLen [(rdP 0)]) (kD (.int 3))) (eC 3 f_is_whole [(e2 dIx (rdP 0) (kD (.int 0))), (kD (.int 0)), (kD (.int 7))])))))
  sNil)
def FF_is_plain_chain (f_is_of_form : List D → R D) : List D → R D := fRun 8 (fSeq (relS [] (fIfS (tstNot (t1 dTru (e1 (dIsi "list") (rdP 4)))) (fSeq (relS [] (sRet (kD (.bool false))))
    sNil) sNil))
  (fSeq (relS [] (fIfS (tstOr (t2 (dCmp .Eq) (rdP 1) (rdP 3)) (t2 (dCmp .Eq) (rdP 4) (eLst []))) (fSeq (relS [] (sRet (fAnd (e2 (bCmp .Eq) (rdP 1) (rdP 3)) (e2 (bCmp .Eq) (rdP 4) (eLst [])))))
    sNil) sNil))
  (fSeq (relS [1, 2] (fPar [false, false] [5, 6] (eArgs [(rdE 1), (rdE 2)])))
  (fSeq (relS [4] (fFor (i1 dItems (rdE 4)) (.one 7) (fSeq (relS [7] (fIfS (tstOr (tstNot (t1 dTru (eC 1 f_is_of_form [(rdE 7)]))) (tstOr (t2 (dCmp .NotIn) (rdP 7) (rdP 0)) (tstOr (t2 (dCmp .Lt) (e2 dIx (rdP 7) (kD (.int 0))) (rdP 6)) (t2 (dCmp .NotEq) (e2 dIx (rdP 7) (kD (.int 2))) (rdP 5))))) (fSeq (relS [] (sRet (kD (.bool false))))
      sNil) sNil))
    (fSeq (relS [] (fPar [false, false] [5, 6] (eArgs [(e2 dIx (rdP 7) (kD (.int 1))), (e2 (dBin .Add) (e2 dIx (rdP 7) (kD (.int 0))) (kD (.int 1)))])))
    sNil))))
  (fSeq (relS [] (sRet (e2 (bCmp .Eq) (rdP 5) (rdP 3))))
  sNil)))))
def FF_look_ends (f_look_fleet : List D → R D) (f_look_ship : List D → R D) (f_look_hour : List D → R D) : List D → R D := fRun 4 (fSeq (relS [0] (sExp (eC 1 f_look_fleet [(rdE 0)])))
  (fSeq (relS [0, 1] (sExp (eC 2 f_look_ship [(rdE 0), (rdE 1)])))
  (fSeq (relS [0, 3] (sExp (eC 2 f_look_ship [(rdE 0), (rdE 3)])))
  (fSeq (relS [2] (sExp (eC 2 f_look_hour [(rdE 2), (e2 dIx (rdP 0) (kD (.int 0)))])))
  sNil))))
def FF_is_chain (f_look_ends : List D → R D) (f_is_plain_chain : List D → R D) (f_plain_sightings : List D → R D) : List D → R D := fRun 5 (fSeq (relS [0, 1, 2, 3] (sExp (eC 4 f_look_ends [(rdE 0), (rdE 1), (rdE 2), (rdE 3)])))
  (fSeq (relS [0, 1, 2, 3, 4] (sRet (eC 5 f_is_plain_chain [(eC 1 f_plain_sightings [(rdE 0)]), (rdE 1), (rdE 2), (rdE 3), (rdE 4)])))
  sNil))
def FF_first_chain (f_look_ends : List D → R D) (f_chain_by : List D → R D) (f_plain_sightings : List D → R D) : List D → R D := fRun 4 (fSeq (relS [0, 1, 2, 3] (sExp (eC 4 f_look_ends [(rdE 0), (rdE 1), (rdE 2), (rdE 3)])))
  (fSeq (relS [0, 1, 2, 3] (sRet (eC 4 f_chain_by [(eC 1 f_plain_sightings [(rdE 0)]), (rdE 1), (rdE 2), (rdE 3)])))
  sNil))
def FF_latest (f_look_fleet : List D → R D) (f_look_ship : List D → R D) (f_look_hour : List D → R D) (f_plain_latest : List D → R D) : List D → R D := fRun 3 (fSeq (relS [0] (sExp (eC 1 f_look_fleet [(rdE 0)])))
  (fSeq (relS [0, 1] (sExp (eC 2 f_look_ship [(rdE 0), (rdE 1)])))
  (fSeq (relS [2] (sExp (eC 2 f_look_hour [(rdE 2), (e2 (dBin .Add) (e2 dIx (rdP 0) (kD (.int 0))) (kD (.int 1)))])))
  (fSeq (relS [0, 1, 2] (sRet (eC 3 f_plain_latest [(rdE 0), (rdE 1), (rdE 2)])))
  sNil))))
def FF_is_showings (f_plain_names : List D → R D) (f_is_whole : List D → R D) (f_is_name : List D → R D) (f_is_rising : List D → R D) : List D → R D := fRun 4 (fSeq (relS [1] (fIfS (tstOr (tstNot (t1 dTru (e1 (dIsi "list") (rdP 1)))) (tstNot (t1 dTru (eB dAll [(fLc (i1 dItems (rdE 1)) (.one 3) (kT true) (fAnd (e1 (dIsi "tuple") (rdP 3)) (e2 (bCmp .Eq) (eB dLen [(rdP 3)]) (kD (.int 2)))) [3])])))) (fSeq (relS [] (sRet (kD (.bool false))))
    sNil) sNil))
  (fSeq (relS [0] (sSet 2 (eC 1 f_plain_names [(rdE 0)])))
  (fSeq (relS [1] (fIfS (tstNot (t1 dTru (eB dAll [(fLc (i1 dItems (rdE 1)) (.one 3) (kT true) (fAnd (eC 3 f_is_whole [(e2 dIx (rdP 3) (kD (.int 0))), (kD (.int 0)), (e2 dIx (rdP 0) (kD (.int 0)))]) (fAnd (eC 1 f_is_name [(e2 dIx (rdP 3) (kD (.int 1)))]) (e2 (bCmp .In) (e2 dIx (rdP 3) (kD (.int 1))) (rdP 2)))) [3])]))) (fSeq (relS [] (sRet (kD (.bool false))))
    sNil) sNil))
  (fSeq (relS [1] (sRet (eC 1 f_is_rising [(rdE 1)])))
  sNil))))
def FF_look_showings (f_is_showings : List D → R D) : List D → R D := fRun 2 (fSeq (relS [0, 1] (fIfS (tstNot (t1 dTru (eC 2 f_is_showings [(rdE 0), (rdE 1)]))) (fSeq (sExc "NoShowings")
    sNil) sNil))
  sNil)
def FF_seen_of : List D → R D := fRun 3 (fSeq (relS [2, 0] (sRet (fLc (i1 dItems (rdE 0)) (.one 2) (t2 (dCmp .In) (eTup [(e2 dIx (rdP 2) (kD (.int 0))), (e2 dIx (rdP 2) (kD (.int 2)))]) (rdP 1)) (rdE 2) [2])))
  sNil)
def FF_are_names (f_is_name : List D → R D) (f_is_rising : List D → R D) (f_plain_names : List D → R D) : List D → R D := fRun 3 (fSeq (relS [2, 1] (fIfS (tstOr (tstNot (t1 dTru (e1 (dIsi "tuple") (rdP 1)))) (tstOr (t2 (dCmp .Eq) (rdP 1) (eTup [])) (tstNot (t1 dTru (eB dAll [(fLc (i1 dItems (rdE 1)) (.one 2) (kT true) (eC 1 f_is_name [(rdE 2)]) [2])]))))) (fSeq (relS [] (sRet (kD (.bool false))))
    sNil) sNil))
  (fSeq (relS [1, 0, 1] (sRet (fAnd (eC 1 f_is_rising [(rdE 1)]) (eB dAll [(fLc (i1 dItems (rdE 1)) (.one 2) (kT true) (e2 (bCmp .In) (rdP 2) (eC 1 f_plain_names [(rdE 0)])) [2])]))))
  sNil))
def FF_look_task (f_look_fleet : List D → R D) (f_look_ship : List D → R D) (f_are_names : List D → R D) (f_look_hour : List D → R D) : List D → R D := fRun 5 (fSeq (relS [0] (sExp (eC 1 f_look_fleet [(rdE 0)])))
  (fSeq (relS [0, 1] (sExp (eC 2 f_look_ship [(rdE 0), (rdE 1)])))
  (fSeq (relS [0, 3] (fIfS (tstNot (t1 dTru (eC 2 f_are_names [(rdE 0), (rdE 3)]))) (fSeq (sExc "NoGoals")
    sNil) sNil))
  (fSeq (relS [2] (sExp (eC 2 f_look_hour [(rdE 2), (e2 dIx (rdP 0) (kD (.int 0)))])))
  (fSeq (relS [4] (sExp (eC 2 f_look_hour [(rdE 4), (e2 (dBin .Add) (e2 dIx (rdP 0) (kD (.int 0))) (kD (.int 1)))])))
  sNil)))))
def FF_do_have : List D → R D := fRun 4 (fSeq (relS [1] (sRet (eB dAll [(fLc (i1 dItems (rdE 1)) (.one 3) (kT true) (fAnd (e2 (bCmp .In) (rdP 3) (rdP 0)) (e2 (bCmp .LtE) (e2 dIx (rdP 0) (rdP 3)) (rdP 2))) [3])])))
  sNil)
def FF_lots_of : List D → R D := fRun 4 (fSeq (relS [] (sOwn 1 (eLst [(eTup [])])))
  (fSeq (relS [0] (fFor (i1 dItems (rdE 0)) (.one 2) (fSeq (relS [2, 1] (sSet 1 (e2 (dBin .Add) (rdP 1) (fLc (i1 dItems (rdE 1)) (.one 3) (kT true) (e2 (dBin .Add) (rdP 3) (eTup [(rdE 2)])) [3]))))
    sNil)))
  (fSeq (relS [1] (sRet (rdE 1)))
  sNil)))
def FF_is_enough (f_look_task : List D → R D) (f_is_showings : List D → R D) (f_do_have : List D → R D) (f_spread : List D → R D) (f_seen_of : List D → R D) (f_plain_sightings : List D → R D) : List D → R D := fRun 6 (fSeq (relS [0, 1, 2, 3, 4] (sExp (eC 5 f_look_task [(rdE 0), (rdE 1), (rdE 2), (rdE 3), (rdE 4)])))
  (fSeq (relS [0, 5] (fIfS (tstNot (t1 dTru (eC 2 f_is_showings [(rdE 0), (rdE 5)]))) (fSeq (relS [] (sRet (kD (.bool false))))
    sNil) sNil))
  (fSeq (relS [0, 5, 1, 2, 3, 4] (sRet (eC 3 f_do_have [(eC 3 f_spread [(eC 2 f_seen_of [(eC 1 f_plain_sightings [(rdE 0)]), (rdE 5)]), (rdE 1), (rdE 2)]), (rdE 3), (rdE 4)])))
  sNil)))
def FF_look_asked (f_look_fleet : List D → R D) (f_look_ship : List D → R D) (f_look_hour : List D → R D) : List D → R D := fRun 5 (fSeq (relS [0] (sExp (eC 1 f_look_fleet [(rdE 0)])))
  (fSeq (relS [0, 1] (sExp (eC 2 f_look_ship [(rdE 0), (rdE 1)])))
  (fSeq (relS [0, 3] (sExp (eC 2 f_look_ship [(rdE 0), (rdE 3)])))
  (fSeq (relS [] (fIfS (t2 (dCmp .Eq) (rdP 3) (rdP 1)) (fSeq (sExc "NoShip")
    sNil) sNil))
  (fSeq (relS [2] (sExp (eC 2 f_look_hour [(rdE 2), (e2 dIx (rdP 0) (kD (.int 0)))])))
  (fSeq (relS [4] (sExp (eC 2 f_look_hour [(rdE 4), (e2 (dBin .Add) (e2 dIx (rdP 0) (kD (.int 0))) (kD (.int 1)))])))
  sNil))))))
def FF_others_of (f_plain_names : List D → R D) : List D → R D := fRun 4 (fSeq (relS [3, 0, 1, 2] (sRet (fLc (i1 dItems (eC 1 f_plain_names [(rdE 0)])) (.one 3) (t2 (dCmp .NotIn) (rdP 3) (eTup [(rdE 1), (rdE 2)])) (rdE 3) [3])))
  sNil)
def FF_clear_of : List D → R D := fRun 3 (fSeq (relS [2, 0] (sRet (fLc (i1 dItems (rdE 0)) (.one 2) (tstAnd (t2 (dCmp .NotIn) (e2 dIx (rdP 2) (kD (.int 1))) (rdP 1)) (t2 (dCmp .NotIn) (e2 dIx (rdP 2) (kD (.int 2))) (rdP 1))) (rdE 2) [2])))
  sNil)
def FF_comes (f_spread : List D → R D) : List D → R D := fRun 6 (fSeq (relS [0, 1, 2] (sSet 5 (eC 3 f_spread [(rdE 0), (rdE 1), (rdE 2)])))
  (fSeq (relS [] (sRet (fAnd (e2 (bCmp .In) (rdP 3) (rdP 5)) (e2 (bCmp .LtE) (e2 dIx (rdP 5) (rdP 3)) (rdP 4)))))
  sNil))
def FF_must (f_look_asked : List D → R D) (f_plain_sightings : List D → R D) (f_comes : List D → R D) (f_others_of : List D → R D) (f_clear_of : List D → R D) : List D → R D := fRun 8 (fSeq (relS [0, 1, 2, 3, 4] (sExp (eC 5 f_look_asked [(rdE 0), (rdE 1), (rdE 2), (rdE 3), (rdE 4)])))
  (fSeq (relS [0] (sSet 5 (eC 1 f_plain_sightings [(rdE 0)])))
  (fSeq (relS [5, 1, 2, 3, 4] (fIfS (tstNot (t1 dTru (eC 5 f_comes [(rdE 5), (rdE 1), (rdE 2), (rdE 3), (rdE 4)]))) (fSeq (relS [] (sRet (kD .none)))
    sNil) sNil))
  (fSeq (relS [0, 1, 3] (sSet 6 (eC 3 f_others_of [(rdE 0), (rdE 1), (rdE 3)])))
  (fSeq (relS [7, 6, 5, 7, 1, 2, 3, 4] (sRet (fLc (i1 dItems (rdE 6)) (.one 7) (tstNot (t1 dTru (eC 5 f_comes [(eC 2 f_clear_of [(rdE 5), (eLst [(rdE 7)])]), (rdE 1), (rdE 2), (rdE 3), (rdE 4)]))) (rdE 7) [7])))
  sNil)))))
def FF_least_cut (f_look_asked : List D → R D) (f_plain_sightings : List D → R D) (f_lots_of : List D → R D) (f_others_of : List D → R D) (f_comes : List D → R D) (f_clear_of : List D → R D) : List D → R D := fRun 9 (fSeq (relS [0, 1, 2, 3, 4] (sExp (eC 5 f_look_asked [(rdE 0), (rdE 1), (rdE 2), (rdE 3), (rdE 4)])))
  (fSeq (relS [0] (sSet 5 (eC 1 f_plain_sightings [(rdE 0)])))
  (fSeq (relS [0, 1, 3] (sSet 6 (eC 1 f_lots_of [(eC 3 f_others_of [(rdE 0), (rdE 1), (rdE 3)])])))
  (fSeq (relS [8, 6, 5, 8, 1, 2, 3, 4] (sOwn 7 (fLc (i1 dItems (rdE 6)) (.one 8) (tstNot (t1 dTru (eC 5 f_comes [(eC 2 f_clear_of [(rdE 5), (rdE 8)]), (rdE 1), (rdE 2), (rdE 3), (rdE 4)]))) (eTup [(eB dLen [(rdP 8)]), (rdE 8)]) [8])))
  (fSeq (relS [] (sRet (fIf (t2 (dCmp .NotEq) (rdP 7) (eLst [])) (e2 dIx (eB dMin [(rdP 7)]) (kD (.int 1))) (kD .none))))
  sNil)))))
def FF_is_cut (f_look_asked : List D → R D) (f_is_name : List D → R D) (f_is_rising : List D → R D) (f_others_of : List D → R D) (f_comes : List D → R D) (f_clear_of : List D → R D) (f_plain_sightings : List D → R D) : List D → R D := fRun 8 (fSeq (relS [0, 1, 2, 3, 4] (sExp (eC 5 f_look_asked [(rdE 0), (rdE 1), (rdE 2), (rdE 3), (rdE 4)])))
  (fSeq (relS [7, 5, 5] (fIfS (tstOr (tstNot (t1 dTru (e1 (dIsi "tuple") (rdP 5)))) (tstOr (tstNot (t1 dTru (eB dAll [(fLc (i1 dItems (rdE 5)) (.one 7) (kT true) (eC 1 f_is_name [(rdE 7)]) [7])]))) (tstNot (t1 dTru (eC 1 f_is_rising [(rdE 5)]))))) (fSeq (relS [] (sRet (kD (.bool false))))
    sNil) sNil))
  (fSeq (relS [0, 1, 3] (sSet 6 (eC 3 f_others_of [(rdE 0), (rdE 1), (rdE 3)])))
  (fSeq (relS [5] (fIfS (tstNot (t1 dTru (eB dAll [(fLc (i1 dItems (rdE 5)) (.one 7) (kT true) (e2 (bCmp .In) (rdP 7) (rdP 6)) [7])]))) (fSeq (relS [] (sRet (kD (.bool false))))
    sNil) sNil))
  (fSeq (relS [0, 5, 1, 2, 3, 4] (sRet (e1 dNot (eC 5 f_comes [(eC 2 f_clear_of [(eC 1 f_plain_sightings [(rdE 0)]), (rdE 5)]), (rdE 1), (rdE 2), (rdE 3), (rdE 4)]))))
  sNil)))))
def FF_best_lots (f_best_lots : List D → R D) : List D → R D := fRun 8 (fSeq (relS [] (sOwn 1 (eLst [])))
  (fSeq (relS [0] (fFor (iB dEnum [(rdE 0)]) (.many [2, 3]) (fSeq (relS [6, 6] (sOwn 4 (fLc (i1 dItems (eSl (rdP 0) (pS (e2 (dBin .Add) (rdP 2) (kD (.int 1)))) pN)) (.one 6) (tstNot (t1 dTru (eB dAny [(fLc (i1 dItems (rdE 6)) (.one 7) (kT true) (e2 (bCmp .In) (rdP 7) (rdP 3)) [7])]))) (rdE 6) [6])))
    (fSeq (relS [3, 4] (sSet 5 (e2 (dBin .Add) (eLst [(rdE 3)]) (eC 1 f_best_lots [(rdE 4)]))))
    (fSeq (relS [5, 1] (sSet 1 (fIf (t2 (dCmp .Gt) (eB dLen [(rdP 5)]) (eB dLen [(rdP 1)])) (rdE 5) (rdE 1))))
    sNil)))))
  (fSeq (relS [1] (sRet (rdE 1)))
  sNil)))
def FF_straight : List D → R D := fRun 4 (fSeq (relS [3, 0] (sRet (fLc (i1 dItems (rdE 0)) (.one 3) (tstAnd (t2 (dCmp .NotEq) (e2 dIx (rdP 3) (kD (.int 1))) (rdP 1)) (t2 (dCmp .NotEq) (e2 dIx (rdP 3) (kD (.int 2))) (rdP 2))) (rdE 3) [3])))
  sNil)
def FF_rows_by (f_clear_of : List D → R D) : List D → R D := fRun 8 (fSeq (relS [0, 7, 3] (sSet 5 (eC 2 f_clear_of [(rdE 0), (fLc (i1 dItems (rdE 3)) (.one 7) (t2 (dCmp .NotIn) (rdP 7) (rdP 4)) (rdE 7) [7])])))
  (fSeq (relS [6, 5] (sRet (fLc (i1 dItems (rdE 5)) (.one 6) (tstOr (t2 (dCmp .Eq) (rdP 4) (eTup [])) (tstOr (t2 (dCmp .NotEq) (e2 dIx (rdP 6) (kD (.int 1))) (rdP 2)) (t2 (dCmp .NotEq) (e2 dIx (rdP 6) (kD (.int 2))) (rdP 1)))) (rdE 6) [6])))
  sNil))
def FF_most_apart (f_look_asked : List D → R D) (f_straight : List D → R D) (f_plain_sightings : List D → R D) (f_others_of : List D → R D) (f_comes : List D → R D) (f_rows_by : List D → R D) (f_lots_of : List D → R D) (f_best_lots : List D → R D) (f_chain_by : List D → R D) : List D → R D := fRun 9 (fSeq (relS [0, 1, 2, 3, 4] (sExp (eC 5 f_look_asked [(rdE 0), (rdE 1), (rdE 2), (rdE 3), (rdE 4)])))
  (fSeq (relS [0, 1, 3, 0, 1, 3] (fPar [false, false] [5, 6] (eArgs [(eC 3 f_straight [(eC 1 f_plain_sightings [(rdE 0)]), (rdE 1), (rdE 3)]), (eC 3 f_others_of [(rdE 0), (rdE 1), (rdE 3)])])))
  (fSeq (relS [8, 6, 5, 1, 3, 6, 8, 1, 2, 3, 4] (sOwn 7 (fLc (i1 dItems (eC 1 f_lots_of [(rdE 6)])) (.one 8) (t1 dTru (eC 5 f_comes [(eC 5 f_rows_by [(rdE 5), (rdE 1), (rdE 3), (rdE 6), (rdE 8)]), (rdE 1), (rdE 2), (rdE 3), (rdE 4)])) (rdE 8) [8])))
  (fSeq (relS [5, 1, 3, 6, 8, 1, 2, 3, 7] (sRet (fLc (i1 dItems (eC 1 f_best_lots [(rdE 7)])) (.one 8) (kT true) (eC 4 f_chain_by [(eC 5 f_rows_by [(rdE 5), (rdE 1), (rdE 3), (rdE 6), (rdE 8)]), (rdE 1), (rdE 2), (rdE 3)]) [8])))
  sNil))))
def FF_without (f_look_fleet : List D → R D) (f_look_ship : List D → R D) : List D → R D := fRun 3 (fSeq (relS [0] (sExp (eC 1 f_look_fleet [(rdE 0)])))
  (fSeq (relS [0, 1] (sExp (eC 2 f_look_ship [(rdE 0), (rdE 1)])))
  (fSeq (relS [] (fIfS (t2 (dCmp .Eq) (eB dLen [(e2 dIx (rdP 0) (kD (.int 2)))]) (kD (.int 1))) (fSeq (sExc "NoShip")
    sNil) sNil))
  (fSeq (relS [2] (sRet (e2 (dBin .Add) (eSl (rdP 0) pN (pS (kD (.int 2)))) (eTup [(eB dTuple [(fLc (i1 dItems (e2 dIx (rdP 0) (kD (.int 2)))) (.one 2) (t2 (dCmp .NotEq) (e2 dIx (rdP 2) (kD (.int 0))) (rdP 1)) (rdE 2) [2])]), (e2 dIx (rdP 0) (kD (.int 3)))]))))
  sNil))))
def FF_look_both (f_look_fleet : List D → R D) (f_plain_names : List D → R D) : List D → R D := fRun 2 (fSeq (relS [0] (sExp (eC 1 f_look_fleet [(rdE 0)])))
  (fSeq (relS [1] (sExp (eC 1 f_look_fleet [(rdE 1)])))
  (fSeq (relS [0, 1] (fIfS (tstOr (t2 (dCmp .NotEq) (e2 dIx (rdP 0) (kD (.int 0))) (e2 dIx (rdP 1) (kD (.int 0)))) (t2 (dCmp .NotEq) (eC 1 f_plain_names [(rdE 0)]) (eC 1 f_plain_names [(rdE 1)]))) (fSeq (sExc "NoFleet")
    sNil) sNil))
  sNil)))
def FF_are_alike (f_parting : List D → R D) : List D → R D := fRun 2 (fSeq (relS [0, 1] (sRet (e2 (bCmp .Is) (eC 2 f_parting [(rdE 0), (rdE 1)]) (kD .none))))
  sNil)
def FF_wall : List D → R D := fRun 1 (fSeq (relS [] (whLoop (t1 dTru (kD (.bool true))) (fSeq sNil
    sNil) 100000))
  sNil)
def FF_turned : List D → R D := fRun 8 (fSeq (relS [] (sOwn 4 (eLst [])))
  (fSeq (relS [] (fFor (i1 dItems (e2 dIx (rdP 0) (kD (.int 2)))) (.many [5, 6, 7]) (fSeq (relS [5, 6, 3, 7] (fApp 4 (eTup [(rdE 5), (rdE 6), (fIf (t2 (dCmp .Eq) (rdP 5) (rdP 1)) (e2 (dBin .Add) (e2 (dBin .Add) (eSl (rdP 7) pN (pS (rdP 2))) (eTup [(rdE 3)])) (eSl (rdP 7) (pS (e2 (dBin .Add) (rdP 2) (kD (.int 1)))) pN)) (rdE 7))])))
    sNil)))
  (fSeq (relS [] (sRet (e2 (dBin .Add) (eSl (rdP 0) pN (pS (kD (.int 2)))) (eTup [(eB dTuple [(rdP 4)]), (e2 dIx (rdP 0) (kD (.int 3)))]))))
  sNil)))
def FF_ship_in (f_number_in : List D → R D) (f_cell_in : List D → R D) : List D → R D := fRun 2 (fSeq (relS [] (fIfS (t2 (dCmp .Lt) (eB dLen [(rdP 0)]) (kD (.int 3))) (fSeq (sExc "NoText")
    sNil) sNil))
  (fSeq (relS [1] (sRet (eTup [(e2 dIx (rdP 0) (kD (.int 0))), (eC 1 f_number_in [(e2 dIx (rdP 0) (kD (.int 1)))]), (eB dTuple [(fLc (i1 dItems (eSl (rdP 0) (pS (kD (.int 2))) pN)) (.one 1) (kT true) (eC 1 f_cell_in [(rdE 1)]) [1])])])))
  sNil))
def FF_mist_in (f_number_in : List D → R D) (f_cell_in : List D → R D) : List D → R D := fRun 1 (fSeq (relS [] (fIfS (t2 (dCmp .NotEq) (eB dLen [(rdP 0)]) (kD (.int 5))) (fSeq (sExc "NoText")
    sNil) sNil))
  (fSeq (relS [] (sRet (eTup [(eC 1 f_number_in [(e2 dIx (rdP 0) (kD (.int 0)))]), (eC 1 f_number_in [(e2 dIx (rdP 0) (kD (.int 1)))]), (eC 1 f_cell_in [(e2 dIx (rdP 0) (kD (.int 2)))]), (eC 1 f_cell_in [(e2 dIx (rdP 0) (kD (.int 3)))]), (eC 1 f_number_in [(e2 dIx (rdP 0) (kD (.int 4)))])])))
  sNil))
def FF_fleet_text (f_look_fleet : List D → R D) (f_plain_text : List D → R D) : List D → R D := fRun 1 (fSeq (relS [0] (sExp (eC 1 f_look_fleet [(rdE 0)])))
  (fSeq (relS [0] (sRet (eC 1 f_plain_text [(rdE 0)])))
  sNil))
def FF_is_world_of (f_is_whole : List D → R D) : List D → R D := fRun 3 (fSeq (relS [] (fIfS (tstOr (tstNot (t1 dTru (e1 (dIsi "tuple") (rdP 1)))) (t2 (dCmp .NotEq) (eB dLen [(rdP 1)]) (eB dLen [(e2 dIx (rdP 0) (kD (.int 2)))]))) (fSeq (relS [] (sRet (kD (.bool false))))
    sNil) sNil))
  (fSeq (relS [2, 1] (sRet (eB dAll [(fLc (i1 dItems (rdE 1)) (.one 2) (kT true) (eC 3 f_is_whole [(rdE 2), (kD (.int 0)), (e2 (dBin .Add) (e2 dIx (rdP 0) (kD (.int 0))) (kD (.int 1)))]) [2])])))
  sNil))
def FF_are_worlds_of (f_is_world_of : List D → R D) (f_is_rising : List D → R D) : List D → R D := fRun 3 (fSeq (relS [] (fIfS (tstOr (tstNot (t1 dTru (e1 (dIsi "tuple") (rdP 1)))) (tstNot (fChain (dCmp .LtE) (dCmp .LtE) (kD (.int 1)) (eB dLen [(rdP 1)]) (kD (.int 24))))) (fSeq (relS [] (sRet (kD (.bool false))))
    sNil) sNil))
  (fSeq (relS [0, 2, 1, 1] (sRet (fAnd (eB dAll [(fLc (i1 dItems (rdE 1)) (.one 2) (kT true) (eC 2 f_is_world_of [(rdE 0), (rdE 2)]) [2])]) (eC 1 f_is_rising [(rdE 1)]))))
  sNil))
def FF_is_world (f_look_fleet : List D → R D) (f_is_world_of : List D → R D) : List D → R D := fRun 2 (fSeq (relS [0] (sExp (eC 1 f_look_fleet [(rdE 0)])))
  (fSeq (relS [0, 1] (sRet (eC 2 f_is_world_of [(rdE 0), (rdE 1)])))
  sNil))
def FF_are_worlds (f_look_fleet : List D → R D) (f_are_worlds_of : List D → R D) : List D → R D := fRun 2 (fSeq (relS [0] (sExp (eC 1 f_look_fleet [(rdE 0)])))
  (fSeq (relS [0, 1] (sRet (eC 2 f_are_worlds_of [(rdE 0), (rdE 1)])))
  sNil))
def FF_law_pick_s5 : DL.Env → R Out := (relS [] (sRet (e2 (dBin .Mod) (e2 (dBin .Mod) (e2 (dBin .Add) (e2 (dBin .Mult) (rdP 6) (rdP 6)) (e2 (dBin .FloorDiv) (rdP 6) (kD (.int 31)))) (kD (.int 2147483629))) (rdP 2))))
def FF_law_pick_t5 : DL.Env → R Out := fSeq (FF_law_pick_s5) sNil
def FF_law_pick_s4 : DL.Env → R Out := (relS [] (sSet 6 (e2 (dBin .Mod) (e2 (dBin .Mult) (e2 (dBin .Add) (e2 (dBin .Mult) (rdP 3) (kD (.int 31))) (e2 (dBin .Mult) (kD (.int 6151)) (e2 (dBin .Add) (rdP 1) (kD (.int 1))))) (kD (.int 40692))) (kD (.int 2147483399)))))
def FF_law_pick_t4 : DL.Env → R Out := fSeq (FF_law_pick_s4) (FF_law_pick_t5)
def FF_law_pick_s3 : DL.Env → R Out := (relS [] (fIfS (t2 (dCmp .Gt) (rdP 4) (kD (.int 0))) (fSeq (relS [] (sRet (e2 (dBin .Mod) (e2 (dBin .Mod) (rdP 4) (kD (.int 840))) (rdP 2))))
  sNil) sNil))
def FF_law_pick_t3 : DL.Env → R Out := fSeq (FF_law_pick_s3) (FF_law_pick_t4)
def FF_law_pick_s2 : DL.Env → R Out := (relS [] (whLoop (tstAnd (t2 (dCmp .Gt) (rdP 4) (kD (.int 0))) (t2 (dCmp .Gt) (rdP 5) (kD (.int 0)))) (fSeq (relS [] (fPar [false, false] [4, 5] (eArgs [(e2 (dBin .FloorDiv) (rdP 4) (kD (.int 840))), (e2 (dBin .Sub) (rdP 5) (kD (.int 1)))])))
  sNil) 100000))
def FF_law_pick_t2 : DL.Env → R Out := fSeq (FF_law_pick_s2) (FF_law_pick_t3)
def FF_law_pick_s1 : DL.Env → R Out := (relS [] (fPar [false, false] [4, 5] (eArgs [(e2 (dBin .FloorDiv) (rdP 3) (e2 (dBin .Pow) (kD (.int 10)) (kD (.int 18)))), (e2 (dBin .FloorDiv) (rdP 1) (eB dMax [(eB dLen [(rdP 0)]), (kD (.int 1))]))])))
def FF_law_pick_t1 : DL.Env → R Out := fSeq (FF_law_pick_s1) (FF_law_pick_t2)
def FF_law_pick_s0 : DL.Env → R Out := (relS [] (sSet 3 (fIf (t2 (dCmp .NotEq) (rdP 0) (eLst [])) (e2 dIx (rdP 0) (e2 (dBin .Mod) (rdP 1) (eB dLen [(rdP 0)]))) (kD (.int 0)))))
def FF_law_pick_t0 : DL.Env → R Out := fSeq (FF_law_pick_s0) (FF_law_pick_t1)
def FF_law_pick : List D → R D := fRun 7 (FF_law_pick_t0)
def FF_look_world (f_is_world_of : List D → R D) : List D → R D := fRun 2 (fSeq (relS [0, 1] (fIfS (tstNot (t1 dTru (eC 2 f_is_world_of [(rdE 0), (rdE 1)]))) (fSeq (sExc "NoWorld")
    sNil) sNil))
  sNil)
def FF_when_read : List D → R D := fRun 2 (fSeq (relS [0] (sRet (fIf (t2 (dCmp .LtE) (rdP 0) (rdP 1)) (rdE 0) (kD .none))))
  sNil)
def FF_read_by (f_look_fleet : List D → R D) (f_look_world : List D → R D) (f_look_ship : List D → R D) (f_look_hour : List D → R D) (f_read_in : List D → R D) (f_plain_names : List D → R D) (f_plain_latest : List D → R D) : List D → R D := fRun 4 (fSeq (relS [0] (sExp (eC 1 f_look_fleet [(rdE 0)])))
  (fSeq (relS [0, 1] (sExp (eC 2 f_look_world [(rdE 0), (rdE 1)])))
  (fSeq (relS [0, 2] (sExp (eC 2 f_look_ship [(rdE 0), (rdE 2)])))
  (fSeq (relS [3] (sExp (eC 2 f_look_hour [(rdE 3), (e2 (dBin .Add) (e2 dIx (rdP 0) (kD (.int 0))) (kD (.int 1)))])))
  (fSeq (relS [0, 0, 2, 3, 1] (sRet (eC 3 f_read_in [(eC 1 f_plain_names [(rdE 0)]), (eC 3 f_plain_latest [(rdE 0), (rdE 2), (rdE 3)]), (rdE 1)])))
  sNil)))))
def FF_cant_tell_s6 (f_look_fleet : List D → R D) (f_look_world : List D → R D) (f_look_ship : List D → R D) (f_look_hour : List D → R D) (f_plain_latest : List D → R D) (f_read_in : List D → R D) (f_plain_names : List D → R D) : DL.Env → R Out := (relS [0, 5, 1, 0, 5, 2] (sRet (e2 (bCmp .Eq) (eC 3 f_read_in [(eC 1 f_plain_names [(rdE 0)]), (rdE 5), (rdE 1)]) (eC 3 f_read_in [(eC 1 f_plain_names [(rdE 0)]), (rdE 5), (rdE 2)]))))
def FF_cant_tell_t6 (f_look_fleet : List D → R D) (f_look_world : List D → R D) (f_look_ship : List D → R D) (f_look_hour : List D → R D) (f_plain_latest : List D → R D) (f_read_in : List D → R D) (f_plain_names : List D → R D) : DL.Env → R Out := fSeq (FF_cant_tell_s6 f_look_fleet f_look_world f_look_ship f_look_hour f_plain_latest f_read_in f_plain_names) sNil
def FF_cant_tell_s5 (f_look_fleet : List D → R D) (f_look_world : List D → R D) (f_look_ship : List D → R D) (f_look_hour : List D → R D) (f_plain_latest : List D → R D) (f_read_in : List D → R D) (f_plain_names : List D → R D) : DL.Env → R Out := (relS [0, 3, 4] (sSet 5 (eC 3 f_plain_latest [(rdE 0), (rdE 3), (rdE 4)])))
def FF_cant_tell_t5 (f_look_fleet : List D → R D) (f_look_world : List D → R D) (f_look_ship : List D → R D) (f_look_hour : List D → R D) (f_plain_latest : List D → R D) (f_read_in : List D → R D) (f_plain_names : List D → R D) : DL.Env → R Out := fSeq (FF_cant_tell_s5 f_look_fleet f_look_world f_look_ship f_look_hour f_plain_latest f_read_in f_plain_names) (FF_cant_tell_t6 f_look_fleet f_look_world f_look_ship f_look_hour f_plain_latest f_read_in f_plain_names)
def FF_cant_tell_s4 (f_look_fleet : List D → R D) (f_look_world : List D → R D) (f_look_ship : List D → R D) (f_look_hour : List D → R D) (f_plain_latest : List D → R D) (f_read_in : List D → R D) (f_plain_names : List D → R D) : DL.Env → R Out := (relS [4] (sExp (eC 2 f_look_hour [(rdE 4), (e2 (dBin .Add) (e2 dIx (rdP 0) (kD (.int 0))) (kD (.int 1)))])))
def FF_cant_tell_t4 (f_look_fleet : List D → R D) (f_look_world : List D → R D) (f_look_ship : List D → R D) (f_look_hour : List D → R D) (f_plain_latest : List D → R D) (f_read_in : List D → R D) (f_plain_names : List D → R D) : DL.Env → R Out := fSeq (FF_cant_tell_s4 f_look_fleet f_look_world f_look_ship f_look_hour f_plain_latest f_read_in f_plain_names) (FF_cant_tell_t5 f_look_fleet f_look_world f_look_ship f_look_hour f_plain_latest f_read_in f_plain_names)
def FF_cant_tell_s3 (f_look_fleet : List D → R D) (f_look_world : List D → R D) (f_look_ship : List D → R D) (f_look_hour : List D → R D) (f_plain_latest : List D → R D) (f_read_in : List D → R D) (f_plain_names : List D → R D) : DL.Env → R Out := (relS [0, 3] (sExp (eC 2 f_look_ship [(rdE 0), (rdE 3)])))
def FF_cant_tell_t3 (f_look_fleet : List D → R D) (f_look_world : List D → R D) (f_look_ship : List D → R D) (f_look_hour : List D → R D) (f_plain_latest : List D → R D) (f_read_in : List D → R D) (f_plain_names : List D → R D) : DL.Env → R Out := fSeq (FF_cant_tell_s3 f_look_fleet f_look_world f_look_ship f_look_hour f_plain_latest f_read_in f_plain_names) (FF_cant_tell_t4 f_look_fleet f_look_world f_look_ship f_look_hour f_plain_latest f_read_in f_plain_names)
def FF_cant_tell_s2 (f_look_fleet : List D → R D) (f_look_world : List D → R D) (f_look_ship : List D → R D) (f_look_hour : List D → R D) (f_plain_latest : List D → R D) (f_read_in : List D → R D) (f_plain_names : List D → R D) : DL.Env → R Out := (relS [0, 2] (sExp (eC 2 f_look_world [(rdE 0), (rdE 2)])))
def FF_cant_tell_t2 (f_look_fleet : List D → R D) (f_look_world : List D → R D) (f_look_ship : List D → R D) (f_look_hour : List D → R D) (f_plain_latest : List D → R D) (f_read_in : List D → R D) (f_plain_names : List D → R D) : DL.Env → R Out := fSeq (FF_cant_tell_s2 f_look_fleet f_look_world f_look_ship f_look_hour f_plain_latest f_read_in f_plain_names) (FF_cant_tell_t3 f_look_fleet f_look_world f_look_ship f_look_hour f_plain_latest f_read_in f_plain_names)
def FF_cant_tell_s1 (f_look_fleet : List D → R D) (f_look_world : List D → R D) (f_look_ship : List D → R D) (f_look_hour : List D → R D) (f_plain_latest : List D → R D) (f_read_in : List D → R D) (f_plain_names : List D → R D) : DL.Env → R Out := (relS [0, 1] (sExp (eC 2 f_look_world [(rdE 0), (rdE 1)])))
def FF_cant_tell_t1 (f_look_fleet : List D → R D) (f_look_world : List D → R D) (f_look_ship : List D → R D) (f_look_hour : List D → R D) (f_plain_latest : List D → R D) (f_read_in : List D → R D) (f_plain_names : List D → R D) : DL.Env → R Out := fSeq (FF_cant_tell_s1 f_look_fleet f_look_world f_look_ship f_look_hour f_plain_latest f_read_in f_plain_names) (FF_cant_tell_t2 f_look_fleet f_look_world f_look_ship f_look_hour f_plain_latest f_read_in f_plain_names)
def FF_cant_tell_s0 (f_look_fleet : List D → R D) (f_look_world : List D → R D) (f_look_ship : List D → R D) (f_look_hour : List D → R D) (f_plain_latest : List D → R D) (f_read_in : List D → R D) (f_plain_names : List D → R D) : DL.Env → R Out := (relS [0] (sExp (eC 1 f_look_fleet [(rdE 0)])))
def FF_cant_tell_t0 (f_look_fleet : List D → R D) (f_look_world : List D → R D) (f_look_ship : List D → R D) (f_look_hour : List D → R D) (f_plain_latest : List D → R D) (f_read_in : List D → R D) (f_plain_names : List D → R D) : DL.Env → R Out := fSeq (FF_cant_tell_s0 f_look_fleet f_look_world f_look_ship f_look_hour f_plain_latest f_read_in f_plain_names) (FF_cant_tell_t1 f_look_fleet f_look_world f_look_ship f_look_hour f_plain_latest f_read_in f_plain_names)
def FF_cant_tell (f_look_fleet : List D → R D) (f_look_world : List D → R D) (f_look_ship : List D → R D) (f_look_hour : List D → R D) (f_plain_latest : List D → R D) (f_read_in : List D → R D) (f_plain_names : List D → R D) : List D → R D := fRun 6 (FF_cant_tell_t0 f_look_fleet f_look_world f_look_ship f_look_hour f_plain_latest f_read_in f_plain_names)
def FF_deep_s6 (f_is_hour_of : List D → R D) (f_deep : List D → R D) (f_is_whole : List D → R D) (f_is_knower : List D → R D) : DL.Env → R Out := (relS [] (sRet (fIf (t2 (dCmp .IsNot) (rdP 4) (kD .none)) (e2 (dBin .Add) (rdP 4) (kD (.int 1))) (kD .none))))
def FF_deep_t6 (f_is_hour_of : List D → R D) (f_deep : List D → R D) (f_is_whole : List D → R D) (f_is_knower : List D → R D) : DL.Env → R Out := fSeq (FF_deep_s6 f_is_hour_of f_deep f_is_whole f_is_knower) sNil
def FF_deep_s5 (f_is_hour_of : List D → R D) (f_deep : List D → R D) (f_is_whole : List D → R D) (f_is_knower : List D → R D) : DL.Env → R Out := (relS [0] (sSet 4 (eC 3 f_deep [(rdE 0), (e2 dIx (rdP 1) (kD (.int 3))), (e2 (dBin .Sub) (rdP 2) (kD (.int 1)))])))
def FF_deep_t5 (f_is_hour_of : List D → R D) (f_deep : List D → R D) (f_is_whole : List D → R D) (f_is_knower : List D → R D) : DL.Env → R Out := fSeq (FF_deep_s5 f_is_hour_of f_deep f_is_whole f_is_knower) (FF_deep_t6 f_is_hour_of f_deep f_is_whole f_is_knower)
def FF_deep_s4 (f_is_hour_of : List D → R D) (f_deep : List D → R D) (f_is_whole : List D → R D) (f_is_knower : List D → R D) : DL.Env → R Out := (relS [0, 1] (fIfS (tstNot (t1 dTru (eC 2 f_is_knower [(rdE 0), (rdE 1)]))) (fSeq (relS [] (sRet (kD .none)))
  sNil) sNil))
def FF_deep_t4 (f_is_hour_of : List D → R D) (f_deep : List D → R D) (f_is_whole : List D → R D) (f_is_knower : List D → R D) : DL.Env → R Out := fSeq (FF_deep_s4 f_is_hour_of f_deep f_is_whole f_is_knower) (FF_deep_t5 f_is_hour_of f_deep f_is_whole f_is_knower)
def FF_deep_s3 (f_is_hour_of : List D → R D) (f_deep : List D → R D) (f_is_whole : List D → R D) (f_is_knower : List D → R D) : DL.Env → R Out := (relS [] (fIfS (tstOr (t2 (dCmp .NotIn) (e2 dIx (rdP 1) (kD (.int 0))) (eTup [(kD (.str "knows")), (kD (.str "all")), (kD (.str "common"))])) (tstOr (t2 (dCmp .NotEq) (eB dLen [(rdP 1)]) (kD (.int 4))) (tstNot (t1 dTru (eC 3 f_is_whole [(e2 dIx (rdP 1) (kD (.int 2))), (kD (.int 0)), (e2 (dBin .Add) (e2 dIx (rdP 0) (kD (.int 0))) (kD (.int 1)))]))))) (fSeq (relS [] (sRet (kD .none)))
  sNil) sNil))
def FF_deep_t3 (f_is_hour_of : List D → R D) (f_deep : List D → R D) (f_is_whole : List D → R D) (f_is_knower : List D → R D) : DL.Env → R Out := fSeq (FF_deep_s3 f_is_hour_of f_deep f_is_whole f_is_knower) (FF_deep_t4 f_is_hour_of f_deep f_is_whole f_is_knower)
def FF_deep_s2 (f_is_hour_of : List D → R D) (f_deep : List D → R D) (f_is_whole : List D → R D) (f_is_knower : List D → R D) : DL.Env → R Out := (relS [] (fIfS (tstOr (tstAnd (t2 (dCmp .Eq) (e2 dIx (rdP 1) (kD (.int 0))) (kD (.str "not"))) (t2 (dCmp .Eq) (eB dLen [(rdP 1)]) (kD (.int 2)))) (tstAnd (t2 (dCmp .Eq) (e2 dIx (rdP 1) (kD (.int 0))) (kD (.str "and"))) (t2 (dCmp .Eq) (eB dLen [(rdP 1)]) (kD (.int 3))))) (fSeq (relS [0, 5] (sOwn 3 (fLc (i1 dItems (eSl (rdP 1) (pS (kD (.int 1))) pN)) (.one 5) (kT true) (eC 3 f_deep [(rdE 0), (rdE 5), (e2 (dBin .Sub) (rdP 2) (kD (.int 1)))]) [5])))
  (fSeq (relS [] (sRet (fIf (t2 (dCmp .In) (kD .none) (rdP 3)) (kD .none) (e2 (dBin .Add) (eB dMax [(rdP 3)]) (kD (.int 1))))))
  sNil)) sNil))
def FF_deep_t2 (f_is_hour_of : List D → R D) (f_deep : List D → R D) (f_is_whole : List D → R D) (f_is_knower : List D → R D) : DL.Env → R Out := fSeq (FF_deep_s2 f_is_hour_of f_deep f_is_whole f_is_knower) (FF_deep_t3 f_is_hour_of f_deep f_is_whole f_is_knower)
def FF_deep_s1 (f_is_hour_of : List D → R D) (f_deep : List D → R D) (f_is_whole : List D → R D) (f_is_knower : List D → R D) : DL.Env → R Out := (relS [] (fIfS (t2 (dCmp .Eq) (e2 dIx (rdP 1) (kD (.int 0))) (kD (.str "by"))) (fSeq (relS [0, 1] (sRet (fIf (tstAnd (t2 (dCmp .Eq) (eB dLen [(rdP 1)]) (kD (.int 3))) (t1 dTru (eC 2 f_is_hour_of [(rdE 0), (rdE 1)]))) (kD (.int 1)) (kD .none))))
  sNil) sNil))
def FF_deep_t1 (f_is_hour_of : List D → R D) (f_deep : List D → R D) (f_is_whole : List D → R D) (f_is_knower : List D → R D) : DL.Env → R Out := fSeq (FF_deep_s1 f_is_hour_of f_deep f_is_whole f_is_knower) (FF_deep_t2 f_is_hour_of f_deep f_is_whole f_is_knower)
def FF_deep_s0 (f_is_hour_of : List D → R D) (f_deep : List D → R D) (f_is_whole : List D → R D) (f_is_knower : List D → R D) : DL.Env → R Out := (relS [] (fIfS (tstOr (tstNot (t1 dTru (e1 (dIsi "tuple") (rdP 1)))) (tstOr (t2 (dCmp .Eq) (rdP 1) (eTup [])) (tstOr (tstNot (t1 dTru (e1 (dIsi "str") (e2 dIx (rdP 1) (kD (.int 0)))))) (t2 (dCmp .Lt) (rdP 2) (kD (.int 1)))))) (fSeq (relS [] (sRet (kD .none)))
  sNil) sNil))
def FF_deep_t0 (f_is_hour_of : List D → R D) (f_deep : List D → R D) (f_is_whole : List D → R D) (f_is_knower : List D → R D) : DL.Env → R Out := fSeq (FF_deep_s0 f_is_hour_of f_deep f_is_whole f_is_knower) (FF_deep_t1 f_is_hour_of f_deep f_is_whole f_is_knower)
def FF_deep (f_is_hour_of : List D → R D) (f_deep : List D → R D) (f_is_whole : List D → R D) (f_is_knower : List D → R D) : List D → R D := fRun 6 (FF_deep_t0 f_is_hour_of f_deep f_is_whole f_is_knower)
def FF_is_hour_of (f_is_name : List D → R D) (f_plain_names : List D → R D) (f_is_whole : List D → R D) : List D → R D := fRun 2 (fSeq (relS [0] (sRet (fAnd (eC 1 f_is_name [(e2 dIx (rdP 1) (kD (.int 1)))]) (fAnd (e2 (bCmp .In) (e2 dIx (rdP 1) (kD (.int 1))) (eC 1 f_plain_names [(rdE 0)])) (eC 3 f_is_whole [(e2 dIx (rdP 1) (kD (.int 2))), (kD (.int 0)), (e2 dIx (rdP 0) (kD (.int 0)))])))))
  sNil)
def FF_is_knower (f_is_name : List D → R D) (f_plain_names : List D → R D) (f_are_names : List D → R D) : List D → R D := fRun 2 (fSeq (relS [] (fIfS (t2 (dCmp .Eq) (e2 dIx (rdP 1) (kD (.int 0))) (kD (.str "knows"))) (fSeq (relS [0] (sRet (fAnd (eC 1 f_is_name [(e2 dIx (rdP 1) (kD (.int 1)))]) (e2 (bCmp .In) (e2 dIx (rdP 1) (kD (.int 1))) (eC 1 f_plain_names [(rdE 0)])))))
    sNil) sNil))
  (fSeq (relS [0] (sRet (eC 2 f_are_names [(rdE 0), (e2 dIx (rdP 1) (kD (.int 1)))])))
  sNil))
def FF_is_sentence (f_look_fleet : List D → R D) (f_deep : List D → R D) : List D → R D := fRun 2 (fSeq (relS [0] (sExp (eC 1 f_look_fleet [(rdE 0)])))
  (fSeq (relS [0, 1] (sRet (e2 (bCmp .IsNot) (eC 3 f_deep [(rdE 0), (rdE 1), (kD (.int 4))]) (kD .none))))
  sNil))
def FF_look_worlds (f_look_fleet : List D → R D) (f_are_worlds_of : List D → R D) (f_is_world_of : List D → R D) : List D → R D := fRun 3 (fSeq (relS [0] (sExp (eC 1 f_look_fleet [(rdE 0)])))
  (fSeq (relS [0, 1] (fIfS (tstNot (t1 dTru (eC 2 f_are_worlds_of [(rdE 0), (rdE 1)]))) (fSeq (sExc "NoWorlds")
    sNil) sNil))
  (fSeq (relS [0, 2] (fIfS (tstOr (tstNot (t1 dTru (eC 2 f_is_world_of [(rdE 0), (rdE 2)]))) (t2 (dCmp .NotIn) (rdP 2) (rdP 1))) (fSeq (sExc "NoWorld")
    sNil) sNil))
  sNil)))
def FF_look_sentence (f_deep : List D → R D) : List D → R D := fRun 3 (fSeq (relS [0, 1] (fIfS (t2 (dCmp .Is) (eC 3 f_deep [(rdE 0), (rdE 1), (e2 (dBin .Sub) (kD (.int 4)) (rdP 2))]) (kD .none)) (fSeq (sExc "NoSentence")
    sNil) sNil))
  sNil)
def FF_look_knower (f_look_worlds : List D → R D) (f_look_ship : List D → R D) (f_look_hour : List D → R D) (f_look_sentence : List D → R D) : List D → R D := fRun 6 (fSeq (relS [0, 1, 2] (sExp (eC 3 f_look_worlds [(rdE 0), (rdE 1), (rdE 2)])))
  (fSeq (relS [0, 3] (sExp (eC 2 f_look_ship [(rdE 0), (rdE 3)])))
  (fSeq (relS [4] (sExp (eC 2 f_look_hour [(rdE 4), (e2 (dBin .Add) (e2 dIx (rdP 0) (kD (.int 0))) (kD (.int 1)))])))
  (fSeq (relS [0, 5] (sExp (eC 3 f_look_sentence [(rdE 0), (rdE 5), (kD (.int 0))])))
  sNil))))
def FF_look_names (f_are_names : List D → R D) : List D → R D := fRun 2 (fSeq (relS [0, 1] (fIfS (tstNot (t1 dTru (eC 2 f_are_names [(rdE 0), (rdE 1)]))) (fSeq (sExc "NoGoals")
    sNil) sNil))
  sNil)
def FF_look_doubters (f_look_worlds : List D → R D) (f_look_names : List D → R D) (f_look_hour : List D → R D) (f_look_sentence : List D → R D) : List D → R D := fRun 6 (fSeq (relS [0, 1, 2] (sExp (eC 3 f_look_worlds [(rdE 0), (rdE 1), (rdE 2)])))
  (fSeq (relS [0, 3] (sExp (eC 2 f_look_names [(rdE 0), (rdE 3)])))
  (fSeq (relS [4] (sExp (eC 2 f_look_hour [(rdE 4), (e2 (dBin .Add) (e2 dIx (rdP 0) (kD (.int 0))) (kD (.int 1)))])))
  (fSeq (relS [0, 5] (sExp (eC 3 f_look_sentence [(rdE 0), (rdE 5), (kD (.int 0))])))
  sNil))))
def FF_read_by_showings (f_look_fleet : List D → R D) (f_look_world : List D → R D) (f_look_ship : List D → R D) (f_look_hour : List D → R D) (f_look_showings : List D → R D) (f_read_in : List D → R D) (f_plain_names : List D → R D) (f_tills_by : List D → R D) : List D → R D := fRun 5 (fSeq (relS [0] (sExp (eC 1 f_look_fleet [(rdE 0)])))
  (fSeq (relS [0, 1] (sExp (eC 2 f_look_world [(rdE 0), (rdE 1)])))
  (fSeq (relS [0, 2] (sExp (eC 2 f_look_ship [(rdE 0), (rdE 2)])))
  (fSeq (relS [3] (sExp (eC 2 f_look_hour [(rdE 3), (e2 (dBin .Add) (e2 dIx (rdP 0) (kD (.int 0))) (kD (.int 1)))])))
  (fSeq (relS [0, 4] (sExp (eC 2 f_look_showings [(rdE 0), (rdE 4)])))
  (fSeq (relS [0, 0, 2, 3, 4, 1] (sRet (eC 3 f_read_in [(eC 1 f_plain_names [(rdE 0)]), (eC 4 f_tills_by [(rdE 0), (rdE 2), (rdE 3), (rdE 4)]), (rdE 1)])))
  sNil))))))
def FF_is_plain (f_is_plain : List D → R D) : List D → R D := fRun 2 (fSeq (relS [] (fIfS (t2 (dCmp .Eq) (e2 dIx (rdP 0) (kD (.int 0))) (kD (.str "by"))) (fSeq (relS [] (sRet (kD (.bool true))))
    sNil) sNil))
  (fSeq (relS [1] (sRet (fAnd (e2 (bCmp .In) (e2 dIx (rdP 0) (kD (.int 0))) (eTup [(kD (.str "not")), (kD (.str "and"))])) (eB dAll [(fLc (i1 dItems (eSl (rdP 0) (pS (kD (.int 1))) pN)) (.one 1) (kT true) (eC 1 f_is_plain [(rdE 1)]) [1])]))))
  sNil))
def FF_look_plain (f_look_worlds : List D → R D) (f_look_ship : List D → R D) (f_look_hour : List D → R D) (f_look_sentence : List D → R D) (f_is_plain : List D → R D) : List D → R D := fRun 6 (fSeq (relS [0, 1, 2] (sExp (eC 3 f_look_worlds [(rdE 0), (rdE 1), (rdE 2)])))
  (fSeq (relS [0, 3] (sExp (eC 2 f_look_ship [(rdE 0), (rdE 3)])))
  (fSeq (relS [4] (sExp (eC 2 f_look_hour [(rdE 4), (e2 (dBin .Add) (e2 dIx (rdP 0) (kD (.int 0))) (kD (.int 1)))])))
  (fSeq (relS [0, 5] (sExp (eC 3 f_look_sentence [(rdE 0), (rdE 5), (kD (.int 0))])))
  (fSeq (relS [5] (fIfS (tstNot (t1 dTru (eC 1 f_is_plain [(rdE 5)]))) (fSeq (sExc "NoSentence")
    sNil) sNil))
  sNil)))))
def FF_does_know (f_plain_names : List D → R D) (f_tills_by : List D → R D) (f_read_in : List D → R D) (f_is_so : List D → R D) : List D → R D := fRun 12 (fSeq (relS [0, 0, 3, 4, 6] (fPar [false, false] [7, 8] (eArgs [(eC 1 f_plain_names [(rdE 0)]), (eC 4 f_tills_by [(rdE 0), (rdE 3), (rdE 4), (rdE 6)])])))
  (fSeq (relS [7, 8, 2] (sSet 9 (eC 3 f_read_in [(rdE 7), (rdE 8), (rdE 2)])))
  (fSeq (relS [11, 1, 7, 8, 11] (sOwn 10 (fLc (i1 dItems (rdE 1)) (.one 11) (t2 (dCmp .Eq) (eC 3 f_read_in [(rdE 7), (rdE 8), (rdE 11)]) (rdP 9)) (rdE 11) [11])))
  (fSeq (relS [7, 11, 5, 10] (sRet (eB dAll [(fLc (i1 dItems (rdE 10)) (.one 11) (kT true) (eC 3 f_is_so [(rdE 7), (rdE 11), (rdE 5)]) [11])])))
  sNil))))
def FF_knows_by (f_look_plain : List D → R D) (f_look_showings : List D → R D) (f_does_know : List D → R D) : List D → R D := fRun 7 (fSeq (relS [0, 1, 2, 3, 4, 5] (sExp (eC 6 f_look_plain [(rdE 0), (rdE 1), (rdE 2), (rdE 3), (rdE 4), (rdE 5)])))
  (fSeq (relS [0, 6] (sExp (eC 2 f_look_showings [(rdE 0), (rdE 6)])))
  (fSeq (relS [0, 1, 2, 3, 4, 5, 6] (sRet (eC 7 f_does_know [(rdE 0), (rdE 1), (rdE 2), (rdE 3), (rdE 4), (rdE 5), (rdE 6)])))
  sNil)))
def FF_lots_of_size (f_lots_of_size : List D → R D) : List D → R D := fRun 6 (fSeq (relS [] (fIfS (t2 (dCmp .Eq) (rdP 1) (kD (.int 0))) (fSeq (relS [] (sRet (eLst [(eLst [])])))
    sNil) sNil))
  (fSeq (relS [] (sOwn 2 (eLst [])))
  (fSeq (relS [0] (fFor (iB dEnum [(rdE 0)]) (.many [3, 4]) (fSeq (relS [4] (fExt 2 (fLc (i1 dItems (eC 2 f_lots_of_size [(eSl (rdP 0) (pS (e2 (dBin .Add) (rdP 3) (kD (.int 1)))) pN), (e2 (dBin .Sub) (rdP 1) (kD (.int 1)))])) (.one 5) (kT true) (e2 (dBin .Add) (eLst [(rdE 4)]) (rdP 5)) [5])))
    sNil)))
  (fSeq (relS [2] (sRet (rdE 2)))
  sNil))))
def FF_are_enough (f_look_plain : List D → R D) (f_is_showings : List D → R D) (f_does_know : List D → R D) : List D → R D := fRun 7 (fSeq (relS [0, 1, 2, 3, 4, 5] (sExp (eC 6 f_look_plain [(rdE 0), (rdE 1), (rdE 2), (rdE 3), (rdE 4), (rdE 5)])))
  (fSeq (relS [0, 6, 0, 1, 2, 3, 4, 5, 6] (sRet (fAnd (eC 2 f_is_showings [(rdE 0), (rdE 6)]) (eC 7 f_does_know [(rdE 0), (rdE 1), (rdE 2), (rdE 3), (rdE 4), (rdE 5), (rdE 6)]))))
  sNil))
def FF_all_chains (f_look_asked : List D → R D) (f_chains_of : List D → R D) : List D → R D := fRun 5 (fSeq (relS [0, 1, 2, 3, 4] (sExp (eC 5 f_look_asked [(rdE 0), (rdE 1), (rdE 2), (rdE 3), (rdE 4)])))
  (fSeq (relS [0, 1, 2, 3, 4] (sRet (eC 5 f_chains_of [(rdE 0), (rdE 1), (rdE 2), (rdE 3), (rdE 4)])))
  sNil))
def FF_is_clear : List D → R D := fRun 3 (fSeq (relS [0] (sRet (e1 dNot (eB dAny [(fLc (i1 dItems (rdE 0)) (.one 2) (kT true) (fOr (e2 (bCmp .In) (e2 dIx (rdP 2) (kD (.int 1))) (rdP 1)) (e2 (bCmp .In) (e2 dIx (rdP 2) (kD (.int 2))) (rdP 1))) [2])]))))
  sNil)
def FF_fits (f_is_clear : List D → R D) : List D → R D := fRun 6 (fSeq (relS [5, 0, 5, 3] (sOwn 4 (fLc (i1 dItems (rdE 0)) (.one 5) (t1 dTru (eC 2 f_is_clear [(rdE 5), (rdE 3)])) (rdE 5) [5])))
  (fSeq (relS [] (fIfS (t2 (dCmp .Is) (rdP 2) (kD .none)) (fSeq (relS [] (sRet (e2 (bCmp .Eq) (rdP 4) (eLst []))))
    sNil) sNil))
  (fSeq (relS [5, 2, 4] (sRet (eB dAll [(fLc (i1 dItems (rdE 4)) (.one 5) (kT true) (e2 (bCmp .In) (eTup [(rdE 5), (rdE 2)]) (rdP 1)) [5])])))
  sNil)))
def FF_look_readings (f_look_asked : List D → R D) (f_chains_of : List D → R D) (f_are_readings : List D → R D) (f_is_whole : List D → R D) : List D → R D := fRun 8 (fSeq (relS [0, 1, 2, 3, 4] (sExp (eC 5 f_look_asked [(rdE 0), (rdE 1), (rdE 2), (rdE 3), (rdE 4)])))
  (fSeq (relS [0, 1, 2, 3, 4] (sSet 7 (eC 5 f_chains_of [(rdE 0), (rdE 1), (rdE 2), (rdE 3), (rdE 4)])))
  (fSeq (relS [7, 5] (fIfS (tstNot (t1 dTru (eC 2 f_are_readings [(rdE 7), (rdE 5)]))) (fSeq (sExc "NoReadings")
    sNil) sNil))
  (fSeq (relS [6] (fIfS (tstNot (t1 dTru (eC 3 f_is_whole [(rdE 6), (kD (.int 0)), (kD (.int 3))]))) (fSeq (sExc "NoNumber")
    sNil) sNil))
  (fSeq (relS [7] (sRet (rdE 7)))
  sNil)))))
def FF_are_false (f_is_name : List D → R D) (f_is_rising : List D → R D) : List D → R D := fRun 4 (fSeq (relS [3, 1] (fIfS (tstOr (tstNot (t1 dTru (e1 (dIsi "tuple") (rdP 1)))) (tstOr (t2 (dCmp .Gt) (eB dLen [(rdP 1)]) (rdP 2)) (tstNot (t1 dTru (eB dAll [(fLc (i1 dItems (rdE 1)) (.one 3) (kT true) (eC 1 f_is_name [(rdE 3)]) [3])]))))) (fSeq (relS [] (sRet (kD (.bool false))))
    sNil) sNil))
  (fSeq (relS [1, 1] (sRet (fAnd (eC 1 f_is_rising [(rdE 1)]) (eB dAll [(fLc (i1 dItems (rdE 1)) (.one 3) (kT true) (e2 (bCmp .In) (rdP 3) (rdP 0)) [3])]))))
  sNil))
def FF_is_tale (f_look_readings : List D → R D) (f_are_false : List D → R D) (f_others_of : List D → R D) (f_is_name : List D → R D) (f_values_of : List D → R D) (f_fits : List D → R D) : List D → R D := fRun 9 (fSeq (relS [0, 1, 2, 3, 4, 5, 6] (sSet 8 (eC 7 f_look_readings [(rdE 0), (rdE 1), (rdE 2), (rdE 3), (rdE 4), (rdE 5), (rdE 6)])))
  (fSeq (relS [0, 1, 3, 6] (fIfS (tstOr (tstNot (t1 dTru (e1 (dIsi "tuple") (rdP 7)))) (tstOr (t2 (dCmp .NotEq) (eB dLen [(rdP 7)]) (kD (.int 2))) (tstNot (t1 dTru (eC 3 f_are_false [(eC 3 f_others_of [(rdE 0), (rdE 1), (rdE 3)]), (e2 dIx (rdP 7) (kD (.int 1))), (rdE 6)]))))) (fSeq (relS [] (sRet (kD (.bool false))))
    sNil) sNil))
  (fSeq (relS [5] (fIfS (tstAnd (t2 (dCmp .IsNot) (e2 dIx (rdP 7) (kD (.int 0))) (kD .none)) (tstOr (tstNot (t1 dTru (eC 1 f_is_name [(e2 dIx (rdP 7) (kD (.int 0)))]))) (t2 (dCmp .NotIn) (e2 dIx (rdP 7) (kD (.int 0))) (eC 1 f_values_of [(rdE 5)])))) (fSeq (relS [] (sRet (kD (.bool false))))
    sNil) sNil))
  (fSeq (relS [8, 5] (sRet (eC 4 f_fits [(rdE 8), (rdE 5), (e2 dIx (rdP 7) (kD (.int 0))), (e2 dIx (rdP 7) (kD (.int 1)))])))
  sNil))))
def FF_tales (f_look_readings : List D → R D) (f_lots_of : List D → R D) (f_others_of : List D → R D) (f_values_of : List D → R D) (f_fits : List D → R D) : List D → R D := fRun 12 (fSeq (relS [0, 1, 2, 3, 4, 5, 6] (sSet 7 (eC 7 f_look_readings [(rdE 0), (rdE 1), (rdE 2), (rdE 3), (rdE 4), (rdE 5), (rdE 6)])))
  (fSeq (relS [11, 0, 1, 3] (sOwn 8 (eB dSorted [(fLc (i1 dItems (eC 1 f_lots_of [(eC 3 f_others_of [(rdE 0), (rdE 1), (rdE 3)])])) (.one 11) (t2 (dCmp .LtE) (eB dLen [(rdP 11)]) (rdP 6)) (rdE 11) [11])])))
  (fSeq (relS [] (sOwn 9 (eLst [])))
  (fSeq (relS [5] (fFor (i1 dItems (e2 (dBin .Add) (eLst [(kD .none)]) (eC 1 f_values_of [(rdE 5)]))) (.one 10) (fSeq (relS [10, 11, 8, 7, 5, 10, 11] (fExt 9 (fLc (i1 dItems (rdE 8)) (.one 11) (t1 dTru (eC 4 f_fits [(rdE 7), (rdE 5), (rdE 10), (rdE 11)])) (eTup [(rdE 10), (rdE 11)]) [11])))
    sNil)))
  (fSeq (relS [9] (sRet (rdE 9)))
  sNil)))))
def FF_stands (f_tales : List D → R D) : List D → R D := fRun 11 (fSeq (relS [0, 1, 2, 3, 4, 5, 6] (sSet 7 (eC 7 f_tales [(rdE 0), (rdE 1), (rdE 2), (rdE 3), (rdE 4), (rdE 5), (rdE 6)])))
  (fSeq (relS [9, 7] (sOwn 8 (fLc (i1 dItems (rdE 7)) (.many [9, 10]) (kT true) (rdE 9) [9, 10])))
  (fSeq (relS [] (sRet (fIf (tstAnd (t2 (dCmp .NotEq) (rdP 8) (eLst [])) (tstAnd (t2 (dCmp .IsNot) (e2 dIx (rdP 8) (kD (.int 0))) (kD .none)) (t2 (dCmp .Eq) (e2 dIx (rdP 8) (e1 dNeg (kD (.int 1)))) (e2 dIx (rdP 8) (kD (.int 0)))))) (e2 dIx (rdP 8) (kD (.int 0))) (kD .none))))
  sNil)))
def FF_surely_false (f_tales : List D → R D) (f_others_of : List D → R D) : List D → R D := fRun 12 (fSeq (relS [0, 1, 2, 3, 4, 5, 6] (sSet 7 (eC 7 f_tales [(rdE 0), (rdE 1), (rdE 2), (rdE 3), (rdE 4), (rdE 5), (rdE 6)])))
  (fSeq (relS [0, 1, 3] (sSet 8 (eC 3 f_others_of [(rdE 0), (rdE 1), (rdE 3)])))
  (fSeq (relS [9, 8, 7] (sRet (fIf (t2 (dCmp .NotEq) (rdP 7) (eLst [])) (fLc (i1 dItems (rdE 8)) (.one 9) (t1 dTru (eB dAll [(fLc (i1 dItems (rdE 7)) (.many [10, 11]) (kT true) (e2 (bCmp .In) (rdP 9) (rdP 11)) [10, 11])])) (rdE 9) [9]) (kD .none))))
  sNil)))
def FF_perhaps_false (f_tales : List D → R D) (f_others_of : List D → R D) : List D → R D := fRun 12 (fSeq (relS [0, 1, 2, 3, 4, 5, 6] (sSet 7 (eC 7 f_tales [(rdE 0), (rdE 1), (rdE 2), (rdE 3), (rdE 4), (rdE 5), (rdE 6)])))
  (fSeq (relS [0, 1, 3] (sSet 8 (eC 3 f_others_of [(rdE 0), (rdE 1), (rdE 3)])))
  (fSeq (relS [9, 8, 7] (sRet (fIf (t2 (dCmp .NotEq) (rdP 7) (eLst [])) (fLc (i1 dItems (rdE 8)) (.one 9) (t1 dTru (eB dAny [(fLc (i1 dItems (rdE 7)) (.many [10, 11]) (kT true) (e2 (bCmp .In) (rdP 9) (rdP 11)) [10, 11])])) (rdE 9) [9]) (kD .none))))
  sNil)))
def FF_look_most (f_look_asked : List D → R D) (f_chains_of : List D → R D) (f_is_whole : List D → R D) : List D → R D := fRun 7 (fSeq (relS [0, 1, 2, 3, 4] (sExp (eC 5 f_look_asked [(rdE 0), (rdE 1), (rdE 2), (rdE 3), (rdE 4)])))
  (fSeq (relS [0, 1, 2, 3, 4] (sSet 6 (eC 5 f_chains_of [(rdE 0), (rdE 1), (rdE 2), (rdE 3), (rdE 4)])))
  (fSeq (relS [5] (fIfS (tstNot (t1 dTru (eC 3 f_is_whole [(rdE 5), (kD (.int 0)), (kD (.int 3))]))) (fSeq (sExc "NoNumber")
    sNil) sNil))
  (fSeq (relS [6] (sRet (rdE 6)))
  sNil))))
def FF_is_safe (f_look_most : List D → R D) (f_comes : List D → R D) (f_clear_of : List D → R D) (f_plain_sightings : List D → R D) (f_others_of : List D → R D) (f_least_cut : List D → R D) : List D → R D := fRun 6 (fSeq (relS [0, 1, 2, 3, 4, 5] (fIfS (t2 (dCmp .Eq) (eC 6 f_look_most [(rdE 0), (rdE 1), (rdE 2), (rdE 3), (rdE 4), (rdE 5)]) (eLst [])) (fSeq (relS [] (sRet (kD (.bool false))))
    sNil) sNil))
  (fSeq (relS [0, 0, 1, 3, 1, 2, 3, 4] (fIfS (t1 dTru (eC 5 f_comes [(eC 2 f_clear_of [(eC 1 f_plain_sightings [(rdE 0)]), (eC 3 f_others_of [(rdE 0), (rdE 1), (rdE 3)])]), (rdE 1), (rdE 2), (rdE 3), (rdE 4)])) (fSeq (relS [] (sRet (kD (.bool true))))
    sNil) sNil))
  (fSeq (relS [0, 1, 2, 3, 4] (sRet (e2 (bCmp .Gt) (eB dLen [(eC 5 f_least_cut [(rdE 0), (rdE 1), (rdE 2), (rdE 3), (rdE 4)])]) (e2 (dBin .Mult) (kD (.int 2)) (rdP 5)))))
  sNil)))
def FF_rival_s8 (f_look_most : List D → R D) (f_is_safe : List D → R D) (f_least_cut : List D → R D) (f_is_clear : List D → R D) (f_values_of : List D → R D) : DL.Env → R Out := (relS [10, 8, 9, 7] (sRet (eTup [(rdE 10), (eTup [(e2 dIx (rdP 12) (kD (.int 0))), (fIf (t2 (dCmp .Eq) (rdP 12) (eLst [(kD (.str "so"))])) (rdE 8) (rdE 9))]), (eTup [(kD .none), (rdE 7)])])))
def FF_rival_t8 (f_look_most : List D → R D) (f_is_safe : List D → R D) (f_least_cut : List D → R D) (f_is_clear : List D → R D) (f_values_of : List D → R D) : DL.Env → R Out := fSeq (FF_rival_s8 f_look_most f_is_safe f_least_cut f_is_clear f_values_of) sNil
def FF_rival_s7 (f_look_most : List D → R D) (f_is_safe : List D → R D) (f_least_cut : List D → R D) (f_is_clear : List D → R D) (f_values_of : List D → R D) : DL.Env → R Out := (relS [] (fIfS (t2 (dCmp .Eq) (rdP 12) (eLst [(kD (.str "so")), (kD (.str "thus"))])) (fSeq (relS [10, 8, 9] (sRet (eTup [(rdE 10), (eTup [(kD (.str "so")), (rdE 8)]), (eTup [(kD (.str "thus")), (rdE 9)])])))
  sNil) sNil))
def FF_rival_t7 (f_look_most : List D → R D) (f_is_safe : List D → R D) (f_least_cut : List D → R D) (f_is_clear : List D → R D) (f_values_of : List D → R D) : DL.Env → R Out := fSeq (FF_rival_s7 f_look_most f_is_safe f_least_cut f_is_clear f_values_of) (FF_rival_t8 f_look_most f_is_safe f_least_cut f_is_clear f_values_of)
def FF_rival_s6 (f_look_most : List D → R D) (f_is_safe : List D → R D) (f_least_cut : List D → R D) (f_is_clear : List D → R D) (f_values_of : List D → R D) : DL.Env → R Out := (relS [13, 10] (sOwn 12 (fLc (i1 dItems (eTup [(kD (.str "so")), (kD (.str "thus"))])) (.one 13) (t2 (dCmp .In) (rdP 13) (eC 1 f_values_of [(rdE 10)])) (rdE 13) [13])))
def FF_rival_t6 (f_look_most : List D → R D) (f_is_safe : List D → R D) (f_least_cut : List D → R D) (f_is_clear : List D → R D) (f_values_of : List D → R D) : DL.Env → R Out := fSeq (FF_rival_s6 f_look_most f_is_safe f_least_cut f_is_clear f_values_of) (FF_rival_t7 f_look_most f_is_safe f_least_cut f_is_clear f_values_of)
def FF_rival_s5 (f_look_most : List D → R D) (f_is_safe : List D → R D) (f_least_cut : List D → R D) (f_is_clear : List D → R D) (f_values_of : List D → R D) : DL.Env → R Out := (relS [6] (fFor (i1 dItems (rdE 6)) (.one 11) (fSeq (relS [11, 8] (fIfS (t1 dTru (eC 2 f_is_clear [(rdE 11), (rdE 8)])) (fSeq (relS [11] (fApp 10 (eTup [(rdE 11), (kD (.str "so"))])))
    sNil) (fSeq (relS [11, 9] (fIfS (t1 dTru (eC 2 f_is_clear [(rdE 11), (rdE 9)])) (fSeq (relS [11] (fApp 10 (eTup [(rdE 11), (kD (.str "thus"))])))
      sNil) sNil))
    sNil)))
  sNil)))
def FF_rival_t5 (f_look_most : List D → R D) (f_is_safe : List D → R D) (f_least_cut : List D → R D) (f_is_clear : List D → R D) (f_values_of : List D → R D) : DL.Env → R Out := fSeq (FF_rival_s5 f_look_most f_is_safe f_least_cut f_is_clear f_values_of) (FF_rival_t6 f_look_most f_is_safe f_least_cut f_is_clear f_values_of)
def FF_rival_s4 (f_look_most : List D → R D) (f_is_safe : List D → R D) (f_least_cut : List D → R D) (f_is_clear : List D → R D) (f_values_of : List D → R D) : DL.Env → R Out := (relS [] (sOwn 10 (eLst [])))
def FF_rival_t4 (f_look_most : List D → R D) (f_is_safe : List D → R D) (f_least_cut : List D → R D) (f_is_clear : List D → R D) (f_values_of : List D → R D) : DL.Env → R Out := fSeq (FF_rival_s4 f_look_most f_is_safe f_least_cut f_is_clear f_values_of) (FF_rival_t5 f_look_most f_is_safe f_least_cut f_is_clear f_values_of)
def FF_rival_s3 (f_look_most : List D → R D) (f_is_safe : List D → R D) (f_least_cut : List D → R D) (f_is_clear : List D → R D) (f_values_of : List D → R D) : DL.Env → R Out := (relS [] (fPar [false, false] [8, 9] (eArgs [(eSl (rdP 7) pN (pS (rdP 5))), (eSl (rdP 7) (pS (rdP 5)) pN)])))
def FF_rival_t3 (f_look_most : List D → R D) (f_is_safe : List D → R D) (f_least_cut : List D → R D) (f_is_clear : List D → R D) (f_values_of : List D → R D) : DL.Env → R Out := fSeq (FF_rival_s3 f_look_most f_is_safe f_least_cut f_is_clear f_values_of) (FF_rival_t4 f_look_most f_is_safe f_least_cut f_is_clear f_values_of)
def FF_rival_s2 (f_look_most : List D → R D) (f_is_safe : List D → R D) (f_least_cut : List D → R D) (f_is_clear : List D → R D) (f_values_of : List D → R D) : DL.Env → R Out := (relS [0, 1, 2, 3, 4] (sSet 7 (eC 5 f_least_cut [(rdE 0), (rdE 1), (rdE 2), (rdE 3), (rdE 4)])))
def FF_rival_t2 (f_look_most : List D → R D) (f_is_safe : List D → R D) (f_least_cut : List D → R D) (f_is_clear : List D → R D) (f_values_of : List D → R D) : DL.Env → R Out := fSeq (FF_rival_s2 f_look_most f_is_safe f_least_cut f_is_clear f_values_of) (FF_rival_t3 f_look_most f_is_safe f_least_cut f_is_clear f_values_of)
def FF_rival_s1 (f_look_most : List D → R D) (f_is_safe : List D → R D) (f_least_cut : List D → R D) (f_is_clear : List D → R D) (f_values_of : List D → R D) : DL.Env → R Out := (relS [0, 1, 2, 3, 4, 5] (fIfS (tstOr (t2 (dCmp .Eq) (rdP 6) (eLst [])) (t1 dTru (eC 6 f_is_safe [(rdE 0), (rdE 1), (rdE 2), (rdE 3), (rdE 4), (rdE 5)]))) (fSeq (relS [] (sRet (kD .none)))
  sNil) sNil))
def FF_rival_t1 (f_look_most : List D → R D) (f_is_safe : List D → R D) (f_least_cut : List D → R D) (f_is_clear : List D → R D) (f_values_of : List D → R D) : DL.Env → R Out := fSeq (FF_rival_s1 f_look_most f_is_safe f_least_cut f_is_clear f_values_of) (FF_rival_t2 f_look_most f_is_safe f_least_cut f_is_clear f_values_of)
def FF_rival_s0 (f_look_most : List D → R D) (f_is_safe : List D → R D) (f_least_cut : List D → R D) (f_is_clear : List D → R D) (f_values_of : List D → R D) : DL.Env → R Out := (relS [0, 1, 2, 3, 4, 5] (sSet 6 (eC 6 f_look_most [(rdE 0), (rdE 1), (rdE 2), (rdE 3), (rdE 4), (rdE 5)])))
def FF_rival_t0 (f_look_most : List D → R D) (f_is_safe : List D → R D) (f_least_cut : List D → R D) (f_is_clear : List D → R D) (f_values_of : List D → R D) : DL.Env → R Out := fSeq (FF_rival_s0 f_look_most f_is_safe f_least_cut f_is_clear f_values_of) (FF_rival_t1 f_look_most f_is_safe f_least_cut f_is_clear f_values_of)
def FF_rival (f_look_most : List D → R D) (f_is_safe : List D → R D) (f_least_cut : List D → R D) (f_is_clear : List D → R D) (f_values_of : List D → R D) : List D → R D := fRun 14 (FF_rival_t0 f_look_most f_is_safe f_least_cut f_is_clear f_values_of)
def FF_is_rival (f_look_most : List D → R D) (f_are_readings : List D → R D) (f_is_tale : List D → R D) : List D → R D := fRun 9 (fSeq (relS [0, 1, 2, 3, 4, 5] (sSet 7 (eC 6 f_look_most [(rdE 0), (rdE 1), (rdE 2), (rdE 3), (rdE 4), (rdE 5)])))
  (fSeq (relS [7] (fIfS (tstOr (tstNot (t1 dTru (e1 (dIsi "tuple") (rdP 6)))) (tstOr (t2 (dCmp .NotEq) (eB dLen [(rdP 6)]) (kD (.int 3))) (tstNot (t1 dTru (eC 2 f_are_readings [(rdE 7), (e2 dIx (rdP 6) (kD (.int 0)))]))))) (fSeq (relS [] (sRet (kD (.bool false))))
    sNil) sNil))
  (fSeq (relS [0, 1, 2, 3, 4, 5] (sSet 8 (eC 8 f_is_tale [(rdE 0), (rdE 1), (rdE 2), (rdE 3), (rdE 4), (e2 dIx (rdP 6) (kD (.int 0))), (rdE 5), (e2 dIx (rdP 6) (kD (.int 1)))])))
  (fSeq (relS [8, 0, 1, 2, 3, 4, 5] (sRet (fAnd (rdP 8) (fAnd (eC 8 f_is_tale [(rdE 0), (rdE 1), (rdE 2), (rdE 3), (rdE 4), (e2 dIx (rdP 6) (kD (.int 0))), (rdE 5), (e2 dIx (rdP 6) (kD (.int 2)))]) (e2 (bCmp .NotEq) (e2 dIx (e2 dIx (rdP 6) (kD (.int 1))) (kD (.int 0))) (e2 dIx (e2 dIx (rdP 6) (kD (.int 2))) (kD (.int 0))))))))
  sNil))))
def FF_are_delays (f_plain_names : List D → R D) (f_is_name : List D → R D) (f_is_whole : List D → R D) : List D → R D := fRun 6 (fSeq (relS [1] (fIfS (tstOr (tstNot (t1 dTru (e1 (dIsi "list") (rdP 1)))) (tstNot (t1 dTru (eB dAll [(fLc (i1 dItems (rdE 1)) (.one 5) (kT true) (fAnd (e1 (dIsi "tuple") (rdP 5)) (e2 (bCmp .Eq) (eB dLen [(rdP 5)]) (kD (.int 2)))) [5])])))) (fSeq (relS [] (sRet (kD (.bool false))))
    sNil) sNil))
  (fSeq (relS [0] (sSet 2 (eC 1 f_plain_names [(rdE 0)])))
  (fSeq (relS [1] (fIfS (tstNot (t1 dTru (eB dAll [(fLc (i1 dItems (rdE 1)) (.one 5) (kT true) (fAnd (eC 1 f_is_name [(e2 dIx (rdP 5) (kD (.int 0)))]) (fAnd (e2 (bCmp .In) (e2 dIx (rdP 5) (kD (.int 0))) (rdP 2)) (eC 3 f_is_whole [(e2 dIx (rdP 5) (kD (.int 1))), (kD (.int 1)), (e2 dIx (rdP 0) (kD (.int 0)))]))) [5])]))) (fSeq (relS [] (sRet (kD (.bool false))))
    sNil) sNil))
  (fSeq (relS [1] (sRet (eB dAll [(fLc (iB dZip [(rdE 1), (eSl (rdP 1) (pS (kD (.int 1))) pN)]) (.many [3, 4]) (kT true) (e2 (bCmp .Lt) (e2 dIx (rdP 3) (kD (.int 0))) (e2 dIx (rdP 4) (kD (.int 0)))) [3, 4])])))
  sNil))))
def FF_delayed (f_look_fleet : List D → R D) (f_are_delays : List D → R D) (f_held_back : List D → R D) : List D → R D := fRun 2 (fSeq (relS [0] (sExp (eC 1 f_look_fleet [(rdE 0)])))
  (fSeq (relS [0, 1] (fIfS (tstNot (t1 dTru (eC 2 f_are_delays [(rdE 0), (rdE 1)]))) (fSeq (sExc "NoDelays")
    sNil) sNil))
  (fSeq (relS [0, 1] (sRet (eC 2 f_held_back [(rdE 0), (rdE 1)])))
  sNil)))
def FF_are_delays_enough (f_look_ends : List D → R D) (f_are_delays : List D → R D) (f_comes : List D → R D) (f_plain_sightings : List D → R D) (f_held_back : List D → R D) : List D → R D := fRun 6 (fSeq (relS [0, 1, 2, 3, 4] (sExp (eC 5 f_look_ends [(rdE 0), (rdE 1), (rdE 2), (rdE 3), (rdE 4)])))
  (fSeq (relS [0, 5, 0, 5, 1, 2, 3, 4] (sRet (fAnd (eC 2 f_are_delays [(rdE 0), (rdE 5)]) (eC 5 f_comes [(eC 1 f_plain_sightings [(eC 2 f_held_back [(rdE 0), (rdE 5)])]), (rdE 1), (rdE 2), (rdE 3), (rdE 4)]))))
  sNil))
def C_is_whole : List D → R D := FF_is_whole
def C_is_name : List D → R D := FF_is_name
def C_is_rising : List D → R D := FF_is_rising
def C_plain_names : List D → R D := FF_plain_names
def C_law_drawn : List D → R D := FF_law_drawn
def C_is_in : List D → R D := FF_is_in
def C_is_between : List D → R D := FF_is_between
def C_seen_of : List D → R D := FF_seen_of
def C_do_have : List D → R D := FF_do_have
def C_lots_of : List D → R D := FF_lots_of
def C_clear_of : List D → R D := FF_clear_of
def C_straight : List D → R D := FF_straight
def C_wall : List D → R D := FF_wall
def C_turned : List D → R D := FF_turned
def C_law_pick : List D → R D := FF_law_pick
def C_when_read : List D → R D := FF_when_read
def C_is_clear : List D → R D := FF_is_clear
def C_is_cell : List D → R D := FF_is_cell C_is_whole
def C_look_ship : List D → R D := FF_look_ship C_is_name C_plain_names
def C_look_hour : List D → R D := FF_look_hour C_is_whole
def C_sees_at : List D → R D := FF_sees_at C_is_in C_is_between
def C_is_of_form : List D → R D := FF_is_of_form C_is_whole
def C_is_showings : List D → R D := FF_is_showings C_plain_names C_is_whole C_is_name C_is_rising
def C_are_names : List D → R D := FF_are_names C_is_name C_is_rising C_plain_names
def C_others_of : List D → R D := FF_others_of C_plain_names
def C_rows_by : List D → R D := FF_rows_by C_clear_of
def C_is_world_of : List D → R D := FF_is_world_of C_is_whole
def C_is_hour_of : List D → R D := FF_is_hour_of C_is_name C_plain_names C_is_whole
def C_fits : List D → R D := FF_fits C_is_clear
def C_are_false : List D → R D := FF_are_false C_is_name C_is_rising
def C_are_delays : List D → R D := FF_are_delays C_plain_names C_is_name C_is_whole
def C_is_islands : List D → R D := FF_is_islands C_is_cell C_is_rising
def C_is_ship : List D → R D := FF_is_ship C_is_name C_is_whole C_is_cell
def C_is_mist : List D → R D := FF_is_mist C_is_whole C_is_cell
def C_plain_sightings : List D → R D := FF_plain_sightings C_sees_at
def C_is_plain_chain : List D → R D := FF_is_plain_chain C_is_of_form
def C_look_showings : List D → R D := FF_look_showings C_is_showings
def C_are_worlds_of : List D → R D := FF_are_worlds_of C_is_world_of C_is_rising
def C_look_world : List D → R D := FF_look_world C_is_world_of
def C_is_knower : List D → R D := FF_is_knower C_is_name C_plain_names C_are_names
def C_look_names : List D → R D := FF_look_names C_are_names
def C_is_fleet : List D → R D := FF_is_fleet C_is_whole C_is_islands C_is_ship C_is_rising C_is_mist
def C_look_fleet : List D → R D := FF_look_fleet C_is_fleet
def C_names_of : List D → R D := FF_names_of C_look_fleet C_plain_names
def C_sightings : List D → R D := FF_sightings C_look_fleet C_plain_sightings
def C_cleared : List D → R D := FF_cleared C_look_fleet
def C_look_ends : List D → R D := FF_look_ends C_look_fleet C_look_ship C_look_hour
def C_look_task : List D → R D := FF_look_task C_look_fleet C_look_ship C_are_names C_look_hour
def C_look_asked : List D → R D := FF_look_asked C_look_fleet C_look_ship C_look_hour
def C_without : List D → R D := FF_without C_look_fleet C_look_ship
def C_look_both : List D → R D := FF_look_both C_look_fleet C_plain_names
def C_is_world : List D → R D := FF_is_world C_look_fleet C_is_world_of
def C_are_worlds : List D → R D := FF_are_worlds C_look_fleet C_are_worlds_of
def C_look_worlds : List D → R D := FF_look_worlds C_look_fleet C_are_worlds_of C_is_world_of
def C_is_chain : List D → R D := FF_is_chain C_look_ends C_is_plain_chain C_plain_sightings
end DL
/-! What the program's defs on fleets answer, in plain Lean. -/
namespace DL
open PySem PySem.Spec PyProof.Rows L2
/-! ### data without dicts, of bounded depth -/
def okD : Nat → D → Bool
  | _, .none => true
  | _, .bool _ => true
  | _, .int _ => true
  | _, .str z => PyData.strOk z && decide (z.length ≤ 1000000)
  | n + 1, .list ds => ds.all (okD n)
  | n + 1, .tuple ds => ds.all (okD n)
  | _, _ => false
theorem okD_tup {n : Nat} {ds : List D} (h : okD n (.tuple ds) = true) : ∃ m, n = m + 1 ∧ ∀ d ∈ ds, okD m d = true := by
  cases n with
  | zero => simp [okD] at h
  | succ m => exact ⟨m, rfl, by simpa [okD] using h⟩
theorem okD_lst {n : Nat} {ds : List D} (h : okD n (.list ds) = true) : ∃ m, n = m + 1 ∧ ∀ d ∈ ds, okD m d = true := by
  cases n with
  | zero => simp [okD] at h
  | succ m => exact ⟨m, rfl, by simpa [okD] using h⟩
theorem canAll {ds : List D} (h : ∀ d ∈ ds, PyData.canLay0 d = true) : PyData.canLayAll0 ds = true := by
  induction ds with
  | nil => simp [PyData.canLayAll0]
  | cons d ds ih => simp [PyData.canLayAll0, h d (by simp), ih fun e he => h e (by simp [he])]
theorem depAll {ds : List D} {n : Nat} (h : ∀ d ∈ ds, PyData.depth d ≤ n) : PyData.depthAll ds ≤ n := by
  induction ds with
  | nil => simp [PyData.depthAll]
  | cons d ds ih =>
    simp only [PyData.depthAll]
    have h1 := h d (by simp)
    have h2 := ih fun e he => h e (by simp [he])
    omega
theorem okD_can : ∀ (n : Nat) (d : D), okD n d = true → PyData.canLay0 d = true ∧ PyData.depth d ≤ n
  | n, .none, _ => ⟨rfl, Nat.zero_le _⟩
  | n, .bool _, _ => ⟨rfl, Nat.zero_le _⟩
  | n, .int _, _ => ⟨rfl, Nat.zero_le _⟩
  | n, .str z, h => by
    have h : PyData.strOk z = true ∧ z.length ≤ 1000000 := by simpa [okD] using h
    exact ⟨by simpa [PyData.canLay0] using h.1, Nat.zero_le _⟩
  | 0, .list ds, h => by simp [okD] at h
  | 0, .tuple ds, h => by simp [okD] at h
  | n, .dict ds, h => by cases n <;> simp [okD] at h
  | n + 1, .list ds, h => by
    have h : ∀ d ∈ ds, okD n d = true := by simpa [okD] using h
    have q := fun d hd => okD_can n d (h d hd)
    refine ⟨?_, ?_⟩
    · simp only [PyData.canLay0]
      exact canAll fun d hd => (q d hd).1
    · simp only [PyData.depth]
      have := depAll fun d hd => (q d hd).2
      omega
  | n + 1, .tuple ds, h => by
    have h : ∀ d ∈ ds, okD n d = true := by simpa [okD] using h
    have q := fun d hd => okD_can n d (h d hd)
    refine ⟨?_, ?_⟩
    · simp only [PyData.canLay0]
      exact canAll fun d hd => (q d hd).1
    · simp only [PyData.depth]
      have := depAll fun d hd => (q d hd).2
      omega
theorem okD_shaped {n : Nat} {d : D} (h : okD n d = true) (hn : n ≤ 64) : SeqAt.shaped d = true := by
  have := okD_can n d h
  simp [SeqAt.shaped, this.1]
  omega
theorem okD_scr {n : Nat} {d : D} (h : okD n d = true) : isScr d = none := scr_not (okD_can n d h).1
theorem dIsi_ok {n : Nat} {d : D} (t : String) (h : okD n d = true) : dIsi t d = .ok (.bool (isiB t d)) := by
  unfold dIsi
  rw [okD_scr h]
theorem okD_mono : ∀ {n m : Nat} {d : D}, okD n d = true → n ≤ m → okD m d = true := by
  intro n
  induction n with
  | zero =>
    intro m d h hm
    cases d <;> first | (cases m <;> simpa [okD] using h) | (simp [okD] at h)
  | succ n ih =>
    intro m d h hm
    obtain ⟨k, rfl⟩ : ∃ k, m = k + 1 := ⟨m - 1, by omega⟩
    cases d with
    | list ds => simp [okD] at h ⊢; exact fun d hd => ih (h d hd) (by omega)
    | tuple ds => simp [okD] at h ⊢; exact fun d hd => ih (h d hd) (by omega)
    | dict ds => simp [okD] at h
    | _ => simpa [okD] using h
/-! ### is_whole -/
def isWholeB (t : D) (l m : Int) : Bool := match t with
  | .int i => decide (l ≤ i) && decide (i ≤ m)
  | _ => false
theorem sp_is_whole {n : Nat} {t : D} {l m : Int} (h : okD n t = true) : FF_is_whole [t, .int l, .int m] = .ok (.bool (isWholeB t l m)) := by
  cases t with
  | dict k => cases n <;> simp [okD] at h
  | _ => simp [FF_is_whole, rdP_succ, isWholeB]
/-! ### is_name -/
def small : List Nat := ("abcdefghijklmnopqrstuvwxyz" : Str).cps.toList
def isNameB : D → Bool
  | .str z => decide ((1 : Int) ≤ z.length) && decide ((z.length : Int) ≤ 6) && z.cps.toList.all fun c => decide (c ∈ small)
  | _ => false
theorem dIn_sign (c : Nat) (z : Str) : dIn (.str ⟨#[c]⟩) (.str z) = .ok (decide (c ∈ z.cps.toList)) := rfl
theorem dCmp_in (x y : D) : dCmp .In x y = dIn x y := rfl
theorem dCmp_notin (x y : D) : dCmp .NotIn x y = dIn x y >>= fun b => .ok (!b) := rfl
theorem sp_is_name {n : Nat} {t : D} (h : okD n t = true) : FF_is_name [t] = .ok (.bool (isNameB t)) := by
  cases t with
  | dict k => cases n <;> simp [okD] at h
  | str z =>
    have hz : PyData.strOk z = true ∧ z.length ≤ 1000000 := by simpa [okD] using h
    have hl : z.length ≤ sizeLine := Nat.le_trans hz.2 (by decide)
    have key : lcLoop (.one 1) (kT true) (e2 (bCmp .In) (rdP 1) (kD (.str "abcdefghijklmnopqrstuvwxyz"))) [.va (.str z), .un] (signs z) = .ok (z.cps.toList.map fun c => .bool (decide (c ∈ small))) := by
      refine lc_map (fun c => .str ⟨#[c]⟩) _ _ fun c _ => ?_
      simp [rdP_succ, dCmp_in, dIn_sign, small]
    simp [FF_is_name, hl, key, isNameB, Bool.and_assoc]
  | _ => simp [FF_is_name, isNameB]
/-! ### is_cell -/
def isCellB : D → Bool
  | .tuple [a, b] => isWholeB a 0 9 && isWholeB b 0 9
  | _ => false
abbrev SpWhole (W : List D → R D) : Prop := ∀ {n : Nat} {t : D} {l m : Int}, okD n t = true → W [t, .int l, .int m] = .ok (.bool (isWholeB t l m))
theorem all_eq_two {p : D → Bool} : ∀ ds : List D, (decide ((ds.length : Int) = 2) && ds.all p) = (match ds with | [a, b] => p a && p b | _ => false)
  | [] => rfl
  | [a] => by simp
  | [a, b] => by simp
  | a :: b :: c :: r => by
    have : ¬ (((a :: b :: c :: r).length : Nat) : Int) = 2 := by simp only [List.length_cons]; omega
    rw [decide_eq_false this]
    rfl
theorem sp_is_cell {W : List D → R D} (hW : SpWhole W) {n : Nat} {t : D} (h : okD n t = true) : FF_is_cell W [t] = .ok (.bool (isCellB t)) := by
  cases t with
  | dict k => cases n <;> simp [okD] at h
  | tuple ds =>
    obtain ⟨m, rfl, hd⟩ := okD_tup h
    have key : lcLoop (.one 1) (kT true) (eC 3 W [(rdE 1), (kD (.int 0)), (kD (.int 9))]) [.va (.tuple ds), .un] ds = .ok (ds.map fun d => .bool (isWholeB d 0 9)) := by
      refine lc_one _ fun d hx => ?_
      simp [hW (hd d hx)]
    simp [FF_is_cell, key, relR1_succ]
    exact (all_eq_two ds).trans (by rcases ds with _ | ⟨a, _ | ⟨b, _ | ⟨c, r⟩⟩⟩ <;> rfl)
  | _ => simp [FF_is_cell, isCellB, relR1_succ]
/-! ### is_rising -/
def risingB : List D → Bool
  | a :: b :: r => PySem.W.dataLt a b && risingB (b :: r)
  | _ => true
/-- two that can be put in order -/
def ordB (x y : D) : Bool := SeqAt.shaped x && SeqAt.shaped y && PySem.W.alike x y && !isNon x
theorem dLt_ord {x y : D} (h : ordB x y = true) : dCmp .Lt x y = .ok (PySem.W.dataLt x y) := by
  simp only [ordB, Bool.and_eq_true, Bool.not_eq_true'] at h
  obtain ⟨⟨⟨h1, h2⟩, h3⟩, h4⟩ := h
  show dLt x y = _
  cases x with
  | none => simp [isNon] at h4
  | int i =>
    cases y with
    | int j => simp [dLt, PySem.W.dataLt_int]
    | _ => simp [PySem.W.alike] at h3
  | str i =>
    cases y with
    | str j => simp [dLt, PySem.W.dataLt_str]
    | _ => simp [PySem.W.alike] at h3
  | _ => simp [dLt, h1, h2, h3]
def tails (ds : List D) : List (D × D) := ds.zip (ds.drop 1)
theorem tails_all : ∀ ds : List D, (tails ds).all (fun p => PySem.W.dataLt p.1 p.2) = risingB ds
  | [] => rfl
  | [a] => rfl
  | a :: b :: r => by
    have := tails_all (b :: r)
    simp only [tails, List.drop_succ_cons, List.drop_zero, List.zip_cons_cons, List.all_cons, risingB] at this ⊢
    rw [this]
theorem cutD_one (ds : List D) : cutD ds (some 1) none = ds.drop 1 := by
  unfold cutD HT.sIx
  cases ds with
  | nil => rfl
  | cons d ds => simp
theorem rise_loop {ρ : Env} {ds : List D} (hl : 3 ≤ ρ.length) (h : ∀ p ∈ tails ds, ordB p.1 p.2 = true) :
    lcLoop (.many [1, 2]) (kT true) (e2 (bCmp .Lt) (rdP 1) (rdP 2)) ρ (pairs ds (ds.drop 1)) = .ok ((tails ds).map fun p => .bool (PySem.W.dataLt p.1 p.2)) := by
  obtain ⟨s0, s1, s2, ρ, rfl⟩ : ∃ s0 s1 s2 r, ρ = s0 :: s1 :: s2 :: r := by
    match ρ, hl with
    | s0 :: s1 :: s2 :: r, _ => exact ⟨s0, s1, s2, r, rfl⟩
  refine lc_map (fun p : D × D => .tuple [p.1, p.2]) _ _ fun p hp => ?_
  simp [fTg, setMany, rdP_succ, dLt_ord (h p hp)]
theorem sp_is_rising {ds : List D} (h : ∀ p ∈ tails ds, ordB p.1 p.2 = true) : FF_is_rising [.tuple ds] = .ok (.bool (risingB ds)) ∧ FF_is_rising [.list ds] = .ok (.bool (risingB ds)) := by
  have k1 := rise_loop (ρ := [.va (.tuple ds), .un, .un]) (by simp) h
  have k2 := rise_loop (ρ := [.va (.list ds), .un, .un]) (by simp) h
  rw [List.drop_one] at k1 k2
  constructor <;> simp [FF_is_rising, dSl, cutD_one, k1, k2, tails_all]
theorem tails_mem {ds : List D} {p : D × D} (h : p ∈ tails ds) : p.1 ∈ ds ∧ p.2 ∈ ds := by
  have := List.of_mem_zip (a := p.1) (b := p.2) h
  exact ⟨this.1, List.mem_of_mem_drop this.2⟩
/-! ### is_islands -/
theorem isWholeB_int {t : D} {l m : Int} (h : isWholeB t l m = true) : ∃ i, t = .int i ∧ l ≤ i ∧ i ≤ m := by
  cases t with
  | int i =>
    simp only [isWholeB, Bool.and_eq_true, decide_eq_true_eq] at h
    exact ⟨i, rfl, h.1, h.2⟩
  | _ => simp [isWholeB] at h
theorem isCellB_eq {t : D} (h : isCellB t = true) : ∃ x y, t = .tuple [.int x, .int y] ∧ 0 ≤ x ∧ x ≤ 9 ∧ 0 ≤ y ∧ y ≤ 9 := by
  unfold isCellB at h
  split at h
  · rename_i a b
    simp only [Bool.and_eq_true] at h
    obtain ⟨x, rfl, h1, h2⟩ := isWholeB_int h.1
    obtain ⟨y, rfl, h3, h4⟩ := isWholeB_int h.2
    exact ⟨x, y, rfl, h1, h2, h3, h4⟩
  · cases h
theorem cell_ord {a b : D} (h : isCellB a = true) (h' : isCellB b = true) : ordB a b = true := by
  obtain ⟨x, y, rfl, _⟩ := isCellB_eq h
  obtain ⟨u, v, rfl, _⟩ := isCellB_eq h'
  rfl
def isIslandsB : D → Bool
  | .tuple ds => decide (ds.length ≤ 12) && (ds.all isCellB && risingB ds)
  | _ => false
abbrev Sp1 (F : List D → R D) (g : D → Bool) : Prop := ∀ {n : Nat} {t : D}, okD n t = true → F [t] = .ok (.bool (g t))
abbrev SpRise (F : List D → R D) : Prop := ∀ {ds : List D}, (∀ p ∈ tails ds, ordB p.1 p.2 = true) → F [.tuple ds] = .ok (.bool (risingB ds)) ∧ F [.list ds] = .ok (.bool (risingB ds))
theorem sp_is_islands {C S : List D → R D} (hC : Sp1 C isCellB) (hS : SpRise S) {n : Nat} {t : D} (h : okD n t = true) : FF_is_islands C S [t] = .ok (.bool (isIslandsB t)) := by
  cases t with
  | dict k => cases n <;> simp [okD] at h
  | tuple ds =>
    obtain ⟨m, rfl, hd⟩ := okD_tup h
    have key : lcLoop (.one 1) (kT true) (eC 1 C [(rdE 1)]) [.va (.tuple ds), .un] ds = .ok (ds.map fun d => .bool (isCellB d)) := by
      refine lc_one _ fun d hx => ?_
      simp [hC (hd d hx)]
    by_cases hl : ds.length ≤ 12
    · have hl' : ¬ (12 : Int) < ds.length := by omega
      cases ha : ds.all isCellB with
      | true =>
        have hr := hS (ds := ds) fun p hp => by
          have := tails_mem hp
          rw [List.all_eq_true] at ha
          exact cell_ord (ha _ this.1) (ha _ this.2)
        simp [FF_is_islands, key, relR1_succ, hl', ha, isIslandsB, hl, hr.1]
      | false => simp [FF_is_islands, key, relR1_succ, hl', ha, isIslandsB]
    · have hl' : (12 : Int) < ds.length := by omega
      simp [FF_is_islands, key, relR1_succ, hl', isIslandsB, hl]
  | _ => simp [FF_is_islands, isIslandsB, relR1_succ]
/-! ### is_ship -/
def isShipB (last : Int) (isl : List D) : D → Bool
  | .tuple [n, s, .tuple c] => isNameB n && (isWholeB s 0 9 && (decide ((c.length : Int) = last + 1) && c.all fun d => isCellB d && !isl.any fun z => PyData.eqv z d))
  | _ => false
theorem dIn_tup {x : D} {ds : List D} (h : SeqAt.shaped x = true) (h' : SeqAt.shaped (.tuple ds) = true) : dIn x (.tuple ds) = .ok (ds.any fun z => PyData.eqv z x) := by
  unfold dIn
  split
  · rename_i e; cases e
  · rename_i e; cases e
  · rename_i e; cases e; simp [h, h']
  · rename_i e1 e2 e3
    first
      | exact absurd rfl (e1 _)
      | exact absurd rfl (e2 _)
      | exact absurd rfl (e3 _)
theorem atI_nat {α : Type} {xs : List α} {i : Nat} (h : i < xs.length) : L2.atI xs (i : Int) = some xs[i] := by
  unfold L2.atI L2.ixN
  rw [if_pos (by omega), if_pos (by omega)]
  simp [h]
theorem dIx_tup {ds : List D} {i : Nat} {d : D} (h : ds[i]? = some d) : dIx (.tuple ds) (.int i) = .ok d := by
  obtain ⟨h1, h2⟩ := List.getElem?_eq_some_iff.mp h
  simp only [dIx, atI_nat h1, h2]
theorem dIx_lst {ds : List D} {i : Nat} {d : D} (h : ds[i]? = some d) : dIx (.list ds) (.int i) = .ok d := by
  obtain ⟨h1, h2⟩ := List.getElem?_eq_some_iff.mp h
  simp only [dIx, atI_nat h1, h2]
@[simp] theorem dIx_t0 (a : D) (r : List D) : dIx (.tuple (a :: r)) (.int 0) = .ok a := dIx_tup (i := 0) rfl
@[simp] theorem dIx_t1 (a b : D) (r : List D) : dIx (.tuple (a :: b :: r)) (.int 1) = .ok b := dIx_tup (i := 1) rfl
@[simp] theorem dIx_t2 (a b c : D) (r : List D) : dIx (.tuple (a :: b :: c :: r)) (.int 2) = .ok c := dIx_tup (i := 2) rfl
@[simp] theorem dIx_t3 (a b c d : D) (r : List D) : dIx (.tuple (a :: b :: c :: d :: r)) (.int 3) = .ok d := dIx_tup (i := 3) rfl
@[simp] theorem dIx_t4 (a b c d e : D) (r : List D) : dIx (.tuple (a :: b :: c :: d :: e :: r)) (.int 4) = .ok e := dIx_tup (i := 4) rfl
theorem cell_shaped {a : D} (h : isCellB a = true) : SeqAt.shaped a = true := by
  obtain ⟨x, y, rfl, _⟩ := isCellB_eq h
  rfl
theorem sp_is_ship {N W C : List D → R D} (hN : Sp1 N isNameB) (hW : SpWhole W) (hC : Sp1 C isCellB) {n : Nat} {t : D} {last : Int} {isl : List D} (h : okD n t = true) (hi : isIslandsB (.tuple isl) = true) :
    FF_is_ship N W C [.int last, .tuple isl, t] = .ok (.bool (isShipB last isl t)) := by
  have hsi : SeqAt.shaped (.tuple isl) = true := by
    simp only [isIslandsB, Bool.and_eq_true, List.all_eq_true] at hi
    have h1 : PyData.canLayAll0 isl = true := canAll fun d hd => by
      obtain ⟨x, y, rfl, _⟩ := isCellB_eq (hi.2.1 d hd)
      rfl
    have h2 : PyData.depthAll isl ≤ 1 := depAll fun d hd => by
      obtain ⟨x, y, rfl, _⟩ := isCellB_eq (hi.2.1 d hd)
      exact Nat.le_refl 1
    have h3 : PyData.depthAll isl + 1 ≤ 64 := by omega
    simp [SeqAt.shaped, PyData.canLay0, h1, PyData.depth, h3]
  cases t with
  | dict k => cases n <;> simp [okD] at h
  | tuple ds =>
    obtain ⟨m, rfl, hd⟩ := okD_tup h
    match ds, hd with
    | [], _ => simp [FF_is_ship, isShipB, rdP_succ]
    | [a], _ => simp [FF_is_ship, isShipB, rdP_succ]
    | [a, b], _ => simp [FF_is_ship, isShipB, rdP_succ]
    | a :: b :: c :: d :: r, _ =>
      have : ¬ ((r.length : Int) + 1 + 1 + 1 + 1 = 3) := by omega
      simp [FF_is_ship, isShipB, rdP_succ, this]
    | [a, b, c], hd =>
      have h1 := hd a (by simp)
      have h2 := hd b (by simp)
      have h3 := hd c (by simp)
      cases c with
      | tuple ds =>
        obtain ⟨q, rfl, hds⟩ := okD_tup h3
        have key : lcLoop (.one 4) (kT true) (fAnd (eC 1 C [(rdE 4)]) (e2 (bCmp .NotIn) (rdP 4) (rdP 1))) [.va (.int last), .va (.tuple isl), .va (.tuple [a, b, .tuple ds]), .va (.tuple ds), .un] ds = .ok (ds.map fun d => .bool (isCellB d && !isl.any fun z => PyData.eqv z d)) := by
          refine lc_one _ fun d hx => ?_
          cases hc : isCellB d with
          | false => simp [hC (hds d hx), hc, rdE_succ, rdP_succ]
          | true => simp [hC (hds d hx), hc, rdE_succ, rdP_succ, dCmp_notin, dIn_tup (cell_shaped hc) hsi]
        cases hn : isNameB a <;> cases hw : isWholeB b 0 9 <;> by_cases hl : (ds.length : Int) = last + 1 <;>
          simp [FF_is_ship, isShipB, rdP_succ, rdE_succ, hN h1, hW h2, hn, hw, hl, relR1_succ, key]
      | dict k => cases m <;> simp [okD] at h3
      | _ =>
        cases hn : isNameB a <;> cases hw : isWholeB b 0 9 <;>
          simp [FF_is_ship, isShipB, rdP_succ, rdE_succ, hN h1, hW h2, hn, hw, relR1_succ]
  | _ => simp [FF_is_ship, isShipB, rdP_succ]
/-! ### is_mist -/
def isMistB (last : Int) : D → Bool
  | .tuple [f, u, a, b, m] => isWholeB f 0 last && (match f with | .int i => isWholeB u i last | _ => false) && isWholeB m 0 9 && isCellB a && isCellB b && (match a, b with | .tuple [.int x, .int y], .tuple [.int v, .int w] => decide (x ≤ v) && decide (y ≤ w) | _, _ => false)
  | _ => false
theorem sp_is_mist {W C : List D → R D} (hW : SpWhole W) (hC : Sp1 C isCellB) {n : Nat} {t : D} {last : Int} (h : okD n t = true) : FF_is_mist W C [.int last, t] = .ok (.bool (isMistB last t)) := by
  cases t with
  | dict k => cases n <;> simp [okD] at h
  | tuple ds =>
    obtain ⟨m, rfl, hd⟩ := okD_tup h
    match ds, hd with
    | [], _ => simp [FF_is_mist, isMistB, rdP_succ]
    | [a], _ => simp [FF_is_mist, isMistB, rdP_succ]
    | [a, b], _ => simp [FF_is_mist, isMistB, rdP_succ]
    | [a, b, c], _ => simp [FF_is_mist, isMistB, rdP_succ]
    | [a, b, c, d], _ => simp [FF_is_mist, isMistB, rdP_succ]
    | a :: b :: c :: d :: e :: f :: r, _ =>
      have : ¬ ((r.length : Int) + 1 + 1 + 1 + 1 + 1 + 1 = 5) := by omega
      simp [FF_is_mist, isMistB, rdP_succ, this]
    | [f, u, a, b, m], hd =>
      have h1 := hd f (by simp)
      have h2 := hd u (by simp)
      have h3 := hd a (by simp)
      have h4 := hd b (by simp)
      have h5 := hd m (by simp)
      cases hf : isWholeB f 0 last with
      | false => simp [FF_is_mist, isMistB, rdP_succ, rdE_succ, relR1_succ, fTg, setMany, hW h1, hf]
      | true =>
        obtain ⟨i, rfl, _⟩ := isWholeB_int hf
        cases hu : isWholeB u i last <;> cases hm : isWholeB m 0 9 <;> cases ha : isCellB a <;> cases hb : isCellB b <;>
          first
          | (simp [FF_is_mist, isMistB, rdP_succ, rdE_succ, relR1_succ, fTg, setMany, hW h1, hf, hW h2, hu, hW h5, hm, hC h3, ha, hC h4, hb]; done)
          | (obtain ⟨x, y, rfl, _⟩ := isCellB_eq ha
             obtain ⟨v, w, rfl, _⟩ := isCellB_eq hb
             simp [FF_is_mist, isMistB, rdP_succ, rdE_succ, relR1_succ, fTg, setMany, hW h1, hf, hW h2, hu, hW h5, hm, hC h3, ha, hC h4, hb])
  | _ => simp [FF_is_mist, isMistB, rdP_succ]
/-! ### is_fleet -/
def fstD : D → D
  | .tuple (a :: _) => a
  | _ => .none
def isFleetB : D → Bool
  | .tuple [.int last, .tuple isl, .tuple ships, .tuple mists] =>
    isWholeB (.int last) 0 7 && (isIslandsB (.tuple isl) && ((decide ((1 : Int) ≤ ships.length) && decide ((ships.length : Int) ≤ 5)) && (ships.all (isShipB last isl) && (risingB (ships.map fstD) &&
      (decide ((mists.length : Int) ≤ 4) && (mists.all (isMistB last) && risingB mists))))))
  | _ => false
theorem isShipB_eq {last : Int} {isl : List D} {t : D} (h : isShipB last isl t = true) : ∃ z s c, t = .tuple [.str z, .int s, .tuple c] ∧ isNameB (.str z) = true := by
  unfold isShipB at h
  split at h
  · rename_i n s c
    simp only [Bool.and_eq_true] at h
    obtain ⟨i, rfl, _⟩ := isWholeB_int h.2.1
    cases n with
    | str z => exact ⟨z, i, c, rfl, h.1⟩
    | _ => simp [isNameB] at h
  · cases h
theorem small_ok : ∀ c ∈ small, c < 1114112 := by decide +kernel
theorem name_ok {z : Str} (h : isNameB (.str z) = true) : PyData.strOk z = true ∧ z.length ≤ 6 := by
  simp only [isNameB, Bool.and_eq_true, decide_eq_true_eq, List.all_eq_true] at h
  refine ⟨?_, by omega⟩
  unfold PyData.strOk
  rw [← Array.all_toList, List.all_eq_true]
  intro c hc
  exact decide_eq_true (small_ok c (h.2 c hc))
theorem name_ord {z y : Str} (h : isNameB (.str z) = true) (h' : isNameB (.str y) = true) : ordB (.str z) (.str y) = true := by
  simp [ordB, SeqAt.shaped, PyData.canLay0, PyData.depth, PySem.W.alike, isNon, (name_ok h).1, (name_ok h').1]
theorem isMistB_eq {last : Int} {t : D} (h : isMistB last t = true) : ∃ f u x y v w m : Int, t = .tuple [.int f, .int u, .tuple [.int x, .int y], .tuple [.int v, .int w], .int m] ∧ 0 ≤ f ∧ f ≤ u ∧ u ≤ last ∧ 0 ≤ m ∧ m ≤ 9 ∧ 0 ≤ x ∧ x ≤ v ∧ v ≤ 9 ∧ 0 ≤ y ∧ y ≤ w ∧ w ≤ 9 := by
  unfold isMistB at h
  split at h
  · rename_i f u a b m
    simp only [Bool.and_eq_true] at h
    obtain ⟨⟨⟨⟨⟨h1, h2⟩, h3⟩, h4⟩, h5⟩, h6⟩ := h
    obtain ⟨i, rfl, q1, q2⟩ := isWholeB_int h1
    obtain ⟨j, rfl, q3, q4⟩ := isWholeB_int h2
    obtain ⟨k, rfl, q5, q6⟩ := isWholeB_int h3
    obtain ⟨x, y, rfl, q7, q8, q9, q10⟩ := isCellB_eq h4
    obtain ⟨v, w, rfl, r7, r8, r9, r10⟩ := isCellB_eq h5
    simp only [Bool.and_eq_true, decide_eq_true_eq] at h6
    exact ⟨i, j, x, y, v, w, k, rfl, q1, q3, q4, q5, q6, q7, h6.1, r8, q9, h6.2, r10⟩
  · cases h
theorem mist_ord {last : Int} {a b : D} (h : isMistB last a = true) (h' : isMistB last b = true) : ordB a b = true := by
  obtain ⟨_, _, _, _, _, _, _, rfl, _⟩ := isMistB_eq h
  obtain ⟨_, _, _, _, _, _, _, rfl, _⟩ := isMistB_eq h'
  rfl
theorem tails_map (f : D → D) : ∀ ds : List D, tails (ds.map f) = (tails ds).map fun p => (f p.1, f p.2) := fun ds => by
  unfold tails
  rw [← List.map_drop, List.zip_map]
  rfl
abbrev SpShip (F : List D → R D) : Prop := ∀ {n : Nat} {t : D} {last : Int} {isl : List D}, okD n t = true → isIslandsB (.tuple isl) = true → F [.int last, .tuple isl, t] = .ok (.bool (isShipB last isl t))
abbrev SpMist (F : List D → R D) : Prop := ∀ {n : Nat} {t : D} {last : Int}, okD n t = true → F [.int last, t] = .ok (.bool (isMistB last t))
theorem sp_is_fleet {W I P S M : List D → R D} (hW : SpWhole W) (hI : Sp1 I isIslandsB) (hP : SpShip P) (hS : SpRise S) (hM : SpMist M) {n : Nat} {t : D} (h : okD n t = true) : FF_is_fleet W I P S M [t] = .ok (.bool (isFleetB t)) := by
  cases t with
  | dict k => cases n <;> simp [okD] at h
  | tuple ds =>
    obtain ⟨m, rfl, hd⟩ := okD_tup h
    match ds, hd with
    | [], _ => simp [FF_is_fleet, isFleetB, rdP_succ]
    | [a], _ => simp [FF_is_fleet, isFleetB, rdP_succ]
    | [a, b], _ => simp [FF_is_fleet, isFleetB, rdP_succ]
    | [a, b, c], _ => simp [FF_is_fleet, isFleetB, rdP_succ]
    | a :: b :: c :: d :: e :: r, _ =>
      have : ¬ ((r.length : Int) + 1 + 1 + 1 + 1 + 1 = 4) := by omega
      simp [FF_is_fleet, isFleetB, rdP_succ, this]
    | [f, i, p, q], hd =>
      have h1 := hd f (by simp)
      have h2 := hd i (by simp)
      have h3 := hd p (by simp)
      have h4 := hd q (by simp)
      cases hf : isWholeB f 0 7 with
      | false =>
        have e : isFleetB (.tuple [f, i, p, q]) = false := by
          unfold isFleetB
          split
          · rename_i e; cases e; rw [hf]; rfl
          · rfl
        rw [e]
        simp [FF_is_fleet, rdP_succ, rdE_succ, relR1_succ, fTg, setMany, hW h1, hf]
      | true =>
        obtain ⟨last, rfl, _⟩ := isWholeB_int hf
        cases hi : isIslandsB i with
        | false =>
          have e : isFleetB (.tuple [.int last, i, p, q]) = false := by
            unfold isFleetB
            split
            · rename_i e; cases e; rw [hi]; simp
            · rfl
          rw [e]
          simp [FF_is_fleet, rdP_succ, rdE_succ, relR1_succ, fTg, setMany, hW h1, hf, hI h2, hi]
        | true =>
          cases i with
          | tuple isl =>
            cases p with
            | tuple ps =>
              obtain ⟨m', rfl, hps⟩ := okD_tup h3
              by_cases hl : (1 : Int) ≤ ps.length ∧ (ps.length : Int) ≤ 5
              · have key : lcLoop (.one 5) (kT true) (eC 3 P [(rdE 1), (rdE 2), (rdE 5)]) [.va (.tuple [.int last, .tuple isl, .tuple ps, q]), .va (.int last), .va (.tuple isl), .va (.tuple ps), .va q, .un, .un] ps = .ok (ps.map fun d => .bool (isShipB last isl d)) := by
                  refine lc_one _ fun d hx => ?_
                  simp [rdE_succ, hP (hps d hx) hi]
                cases ha : ps.all (isShipB last isl) with
                | false =>
                  have e : isFleetB (.tuple [.int last, .tuple isl, .tuple ps, q]) = false := by
                    unfold isFleetB
                    split
                    · rename_i e; cases e; simp [ha]
                    · rfl
                  rw [e]
                  simp [FF_is_fleet, rdP_succ, rdE_succ, relR1_succ, fTg, setMany, hW h1, hf, hI h2, hi, hl, key, ha]
                | true =>
                  have ha' := List.all_eq_true.mp ha
                  have key2 : lcLoop (.one 5) (kT true) (e2 dIx (rdP 5) (kD (.int 0))) [.va (.tuple [.int last, .tuple isl, .tuple ps, q]), .va (.int last), .va (.tuple isl), .va (.tuple ps), .va q, .un, .un] ps = .ok (ps.map fstD) := by
                    refine lc_one _ fun d hx => ?_
                    obtain ⟨z, s, c, rfl, _⟩ := isShipB_eq (ha' d hx)
                    simp [rdP_succ, fstD]
                  have hr := hS (ds := ps.map fstD) fun p hp => by
                    rw [tails_map] at hp
                    obtain ⟨r, hr, rfl⟩ := List.mem_map.mp hp
                    have := tails_mem hr
                    obtain ⟨z, s, c, e1, hz⟩ := isShipB_eq (ha' _ this.1)
                    obtain ⟨z', s', c', e2, hz'⟩ := isShipB_eq (ha' _ this.2)
                    rw [e1, e2]
                    exact name_ord hz hz'
                  cases hn : risingB (ps.map fstD) with
                  | false =>
                    have e : isFleetB (.tuple [.int last, .tuple isl, .tuple ps, q]) = false := by
                      unfold isFleetB
                      split
                      · rename_i e; cases e; simp [hn]
                      · rfl
                    rw [e]
                    simp [FF_is_fleet, rdP_succ, rdE_succ, relR1_succ, fTg, setMany, hW h1, hf, hI h2, hi, hl, key, ha, key2, hr.2, hn]
                  | true =>
                    cases q with
                    | tuple ms =>
                      obtain ⟨m2, _, hms⟩ := okD_tup h4
                      have key3 : lcLoop (.one 6) (kT true) (eC 2 M [(rdE 1), (rdE 6)]) [.va (.tuple [.int last, .tuple isl, .tuple ps, .tuple ms]), .va (.int last), .va (.tuple isl), .va (.tuple ps), .va (.tuple ms), .un, .un] ms = .ok (ms.map fun d => .bool (isMistB last d)) := by
                        refine lc_one _ fun d hx => ?_
                        simp [rdE_succ, hM (hms d hx)]
                      by_cases hl4 : (ms.length : Int) ≤ 4
                      · have hl4' : ¬ (4 : Int) < ms.length := by omega
                        cases hma : ms.all (isMistB last) with
                        | false => simp [FF_is_fleet, isFleetB, rdP_succ, rdE_succ, relR1_succ, fTg, setMany, hW h1, hf, hI h2, hi, hl, key, ha, key2, hr.2, hn, key3, hl4, hl4', hma]
                        | true =>
                          have hma' := List.all_eq_true.mp hma
                          have hr2 := hS (ds := ms) fun p hp => by
                            have := tails_mem hp
                            exact mist_ord (hma' _ this.1) (hma' _ this.2)
                          simp [FF_is_fleet, isFleetB, rdP_succ, rdE_succ, relR1_succ, fTg, setMany, hW h1, hf, hI h2, hi, hl, key, ha, key2, hr.2, hn, key3, hl4, hl4', hma, hr2.1]
                      · have hl4' : (4 : Int) < ms.length := by omega
                        simp [FF_is_fleet, isFleetB, rdP_succ, rdE_succ, relR1_succ, fTg, setMany, hW h1, hf, hI h2, hi, hl, key, ha, key2, hr.2, hn, key3, hl4, hl4']
                    | dict k => simp [okD] at h4
                    | _ => simp [FF_is_fleet, isFleetB, rdP_succ, rdE_succ, relR1_succ, fTg, setMany, hW h1, hf, hI h2, hi, hl, key, ha, key2, hr.2, hn]
              · have e : isFleetB (.tuple [.int last, .tuple isl, .tuple ps, q]) = false := by
                  unfold isFleetB
                  split
                  · rename_i e; cases e
                    have : (decide ((1 : Int) ≤ ps.length) && decide ((ps.length : Int) ≤ 5)) = false := by
                      rw [← Bool.decide_and]; exact decide_eq_false hl
                    rw [this]
                    simp
                  · rfl
                rw [e]
                by_cases hl1 : (1 : Int) ≤ ps.length
                · have hl2 : ¬ (ps.length : Int) ≤ 5 := fun h => hl ⟨hl1, h⟩
                  simp [FF_is_fleet, rdP_succ, rdE_succ, relR1_succ, fTg, setMany, hW h1, hf, hI h2, hi, hl1, hl2]
                · simp [FF_is_fleet, rdP_succ, rdE_succ, relR1_succ, fTg, setMany, hW h1, hf, hI h2, hi, hl1]
            | dict k => cases m <;> simp [okD] at h3
            | _ => simp [FF_is_fleet, isFleetB, rdP_succ, rdE_succ, relR1_succ, fTg, setMany, hW h1, hf, hI h2, hi]
          | _ => simp [isIslandsB] at hi
  | _ => simp [FF_is_fleet, isFleetB, rdP_succ]
/-! ### names -/
theorem sp_look_fleet {F : List D → R D} (hF : Sp1 F isFleetB) {n : Nat} {t : D} (h : okD n t = true) : FF_look_fleet F [t] = if isFleetB t then .ok .none else .exc "NoFleet" := by
  cases e : isFleetB t <;> simp [FF_look_fleet, hF h, e]
theorem sp_plain_names {last isl ms : D} {ps : List D} (h : ∀ d ∈ ps, ∃ a r, d = .tuple (a :: r)) : FF_plain_names [.tuple [last, isl, .tuple ps, ms]] = .ok (.list (ps.map fstD)) := by
  have key : lcLoop (.one 1) (kT true) (e2 dIx (rdP 1) (kD (.int 0))) [.va (.tuple [last, isl, .tuple ps, ms]), .un] ps = .ok (ps.map fstD) := by
    refine lc_one _ fun d hx => ?_
    obtain ⟨a, r, rfl⟩ := h d hx
    simp [rdP_succ, fstD]
  simp [FF_plain_names, key]
/-! ### the closed forms -/
theorem sC_whole : SpWhole C_is_whole := fun h => sp_is_whole h
theorem sC_name : Sp1 C_is_name isNameB := fun h => sp_is_name h
theorem sC_cell : Sp1 C_is_cell isCellB := fun h => sp_is_cell sC_whole h
theorem sC_rise : SpRise C_is_rising := fun h => sp_is_rising h
theorem sC_islands : Sp1 C_is_islands isIslandsB := fun h => sp_is_islands sC_cell sC_rise h
theorem sC_ship : SpShip C_is_ship := fun h h' => sp_is_ship sC_name sC_whole sC_cell h h'
theorem sC_mist : SpMist C_is_mist := fun h => sp_is_mist sC_whole sC_cell h
theorem sC_fleet : Sp1 C_is_fleet isFleetB := fun h => sp_is_fleet sC_whole sC_islands sC_ship sC_rise sC_mist h
theorem sC_look {n : Nat} {t : D} (h : okD n t = true) : C_look_fleet [t] = if isFleetB t then .ok .none else .exc "NoFleet" := sp_look_fleet sC_fleet h
/-! ### sorting -/
theorem sortD_eq {xs ys : List D} (hp : ys.Perm xs) (hs : ys.Pairwise fun a b => PySem.W.dataLt b a = false) (hi : ∀ a ∈ xs, ∀ b ∈ xs, PySem.W.keyToks a = PySem.W.keyToks b → a = b) : sortD xs = ys := by
  refine List.Perm.eq_of_pairwise (le := fun a b => (!PySem.W.dataLt b a) = true) (fun a b ha hb h1 h2 => ?_) ?_ ?_ ((List.mergeSort_perm _ _).trans hp.symm)
  · simp only [Bool.not_eq_true'] at h1 h2
    have ha : a ∈ xs := (List.mergeSort_perm _ _).mem_iff.mp ha
    exact hi a ha b (hp.mem_iff.mp hb) (lex_total (O := itemOrd) _ _ h2 h1)
  · refine List.pairwise_mergeSort (fun a b c h1 h2 => ?_) (fun a b => ?_) xs
    · simp only [Bool.not_eq_true'] at h1 h2 ⊢
      cases e : PySem.W.dataLt c a with
      | false => rfl
      | true =>
        rcases lex_negTrans (O := itemOrd) _ (PySem.W.keyToks b) _ e with h | h
        · have h2 : PyProof.Rows.lexLt itemOrd (PySem.W.keyToks c) (PySem.W.keyToks b) = false := h2
          rw [h2] at h; cases h
        · have h1 : PyProof.Rows.lexLt itemOrd (PySem.W.keyToks b) (PySem.W.keyToks a) = false := h1
          rw [h1] at h; cases h
    · cases e : PySem.W.dataLt b a with
      | false => rfl
      | true =>
        have : PySem.W.dataLt a b = false := by
          cases e2 : PySem.W.dataLt a b with
          | false => rfl
          | true =>
            have := lex_trans (O := itemOrd) _ _ _ e e2
            rw [lex_irrefl] at this
            cases this
        simp [this]
  · exact hs.imp fun h => by simp [h]
end DL
/-! What the laws draw from a script. -/
namespace DL
open PySem PySem.Spec PyProof.Rows L2
theorem log2_small {n : Nat} (h : n < 2 ^ 64) : n.log2 < 9000 := by
  by_cases h0 : n = 0
  · subst h0; decide
  · have := (Nat.log2_lt h0).mpr h
    omega
theorem dDiv_int {i j : Int} (h : 0 < j) (h1 : j < 2 ^ 64) : dBin .FloorDiv (.int i) (.int j) = .ok (.int (i / j)) := by
  have : j.natAbs.log2 < 9000 := log2_small (by omega)
  simp only [dBin, decide_eq_true h, decide_eq_true this, Bool.and_self, if_true]
theorem dMod_int {i j : Int} (h : 0 < j) : dBin .Mod (.int i) (.int j) = .ok (.int (i % j)) := if_pos h
theorem dMul_l {i j : Int} (h : smallI i = true) : dBin .Mult (.int i) (.int j) = .ok (.int (i * j)) := by simp [dBin, h]
theorem dMul_r {i j : Int} (h : smallI j = true) : dBin .Mult (.int i) (.int j) = .ok (.int (i * j)) := by simp [dBin, h]
theorem smallI_of {i : Int} (h : 0 ≤ i) (h1 : i < 2 ^ 64) : smallI i = true := by
  simp only [smallI, Bool.and_eq_true, decide_eq_true_eq]
  omega
theorem dPow_18 : dBin .Pow (.int 10) (.int 18) = .ok (.int 1000000000000000000) := rfl
theorem dMul_1 (j : Int) : dBin .Mult (.int 7) (.int j) = .ok (.int (7 * j)) := dMul_l (by decide)
theorem dMul_2 (j : Int) : dBin .Mult (.int 6553) (.int j) = .ok (.int (6553 * j)) := dMul_l (by decide)
theorem dMul_3 (j : Int) : dBin .Mult (.int j) (.int 69069) = .ok (.int (j * 69069)) := dMul_r (by decide)
theorem dMul_4 (j : Int) : dBin .Mult (.int 104723) (.int j) = .ok (.int (104723 * j)) := dMul_l (by decide)
theorem dMul_5 (j : Int) : dBin .Mult (.int j) (.int 31) = .ok (.int (j * 31)) := dMul_r (by decide)
theorem dMul_6 (j : Int) : dBin .Mult (.int 6151) (.int j) = .ok (.int (6151 * j)) := dMul_l (by decide)
theorem dMul_7 (j : Int) : dBin .Mult (.int j) (.int 40692) = .ok (.int (j * 40692)) := dMul_r (by decide)
theorem dEq_scr (ns : List Int) : dCmp .NotEq (scr ns) (.list []) = .ok (!ns.isEmpty) := by
  show (dEq (scr ns) (.list []) >>= fun b => .ok (!b)) = _
  simp [dEq, scr]
theorem dLen_scr (ns : List Int) : dLen [scr ns] = .ok (.int ns.length) := by simp [dLen, scr]
theorem dIx_scr {ns : List Int} {i : Nat} (h : i < ns.length) : dIx (scr ns) (.int i) = .ok (.int ns[i]) := by
  have : L2.atI (ns.map PyData.int) (i : Int) = some (.int ns[i]) := by
    rw [atI_nat (by simpa using h)]
    simp
  simp only [dIx, scr, this]
theorem wh_draw {s k m c : Slot} : ∀ (fuel : Nat) (turn rest : Int), turn < fuel → ∃ turn' rest' : Int, whLoop (tstAnd (t2 (dCmp .Gt) (rdP 5) (kD (.int 0))) (t2 (dCmp .Gt) (rdP 4) (kD (.int 0)))) (fSeq (relS [] (sSet 5 (e2 (dBin .FloorDiv) (rdP 5) (kD (.int 1000000)))))
        (fSeq (relS [] (sSet 4 (e2 (dBin .Sub) (rdP 4) (kD (.int 1))))) sNil)) (fuel + 1) [s, k, m, c, .va (.int turn), .va (.int rest)] = .ok (.nx [s, k, m, c, .va (.int turn'), .va (.int rest')])
  | fuel, turn, rest, h => by
    by_cases h1 : 0 < rest
    · by_cases h2 : 0 < turn
      · match fuel, h with
        | 0, h => exact absurd h (by simp; omega)
        | fuel + 1, h =>
          obtain ⟨t', r', e⟩ := wh_draw (s := s) (k := k) (m := m) (c := c) fuel (turn - 1) (rest / 1000000) (by omega)
          refine ⟨t', r', ?_⟩
          rw [whLoop]
          simp [rdP_succ, h1, h2, dDiv_int (i := rest) (j := 1000000) (by decide) (by decide), e]
      · refine ⟨turn, rest, ?_⟩
        rw [whLoop]
        simp [rdP_succ, h1, h2]
    · refine ⟨turn, rest, ?_⟩
      rw [whLoop]
      simp [rdP_succ, h1]
theorem drawn_tail (ns : List Int) {k many : Int} (hm : 0 < many) (cell : Int) (s4 s5 : Slot) : ∃ a : Int, 0 ≤ a ∧ a < many ∧ (FF_law_drawn_t2 [.va (scr ns), .va (.int k), .va (.int many), .va (.int cell), s4, s5] >>= fOut) = .ok (.int a) := by
  generalize hc : (cell % 2147483563 * 69069 + 104723 * (k + 1)) % 2147483563 = c1
  generalize hd : (c1 * c1 + c1 / 3) % 2147483399 = c2
  have b1 : 0 ≤ c1 ∧ c1 < 2147483563 := by omega
  have b2 : 0 ≤ c2 ∧ c2 < 2147483399 := ⟨by rw [← hd]; exact Int.emod_nonneg _ (by decide), by rw [← hd]; exact Int.emod_lt_of_pos _ (by decide)⟩
  refine ⟨(c2 * c2 + c2 / 7) % 2147483647 / 11 % many, Int.emod_nonneg _ (by omega), Int.emod_lt_of_pos _ hm, ?_⟩
  simp [FF_law_drawn_t2, FF_law_drawn_t3, FF_law_drawn_t4, FF_law_drawn_s2, FF_law_drawn_s3, FF_law_drawn_s4, rdP_succ, dMod_int (j := 2147483563) (by decide), dMul_3, dMul_4, hc, dMul_l (smallI_of b1.1 (by omega)), dDiv_int (j := 3) (by decide) (by decide), dMod_int (j := 2147483399) (by decide), hd,
      dMul_l (smallI_of b2.1 (by omega)), dDiv_int (j := 7) (by decide) (by decide), dMod_int (j := 2147483647) (by decide), dDiv_int (j := 11) (by decide) (by decide), dMod_int hm]
theorem sp_drawn (ns : List Int) {k many : Int} (hns : ns.length ≤ 63) (hk : 0 ≤ k) (hk2 : k < 99999) (hm : 0 < many) : ∃ a : Int, 0 ≤ a ∧ a < many ∧ FF_law_drawn [scr ns, .int k, .int many] = .ok (.int a) := by
  cases ns with
  | nil =>
    obtain ⟨a, h1, h2, h3⟩ := drawn_tail [] (k := k) hm (7 * k) .un .un
    refine ⟨a, h1, h2, ?_⟩
    rw [← h3]
    simp [FF_law_drawn, FF_law_drawn_t0, FF_law_drawn_t1, FF_law_drawn_s0, FF_law_drawn_s1, rdP_succ, dMul_1, dEq_scr]
  | cons n ns =>
    have hl : 0 < ((n :: ns).length : Int) := by simp only [List.length_cons]; omega
    have hmod : k % ((n :: ns).length : Int) = ((k % ((n :: ns).length : Int)).toNat : Int) := (Int.toNat_of_nonneg (Int.emod_nonneg _ (by omega))).symm
    have hlt : (k % ((n :: ns).length : Int)).toNat < (n :: ns).length := by
      have := Int.emod_lt_of_pos k hl
      omega
    have hdl := dDiv_int (i := k) hl (by omega)
    generalize hcell : (n :: ns)[(k % ((n :: ns).length : Int)).toNat] = cell
    have hix : dIx (scr (n :: ns)) (.int (k % ((n :: ns).length : Int))) = .ok (.int cell) := by
      rw [hmod, dIx_scr hlt, ← hcell]
    have hml := dMod_int (i := k) hl
    generalize hturn : k / ((n :: ns).length : Int) = turn at hdl
    have hnl := dLen_scr (n :: ns)
    generalize hll : ((n :: ns).length : Int) = ll at hdl hml hix hnl
    have h0 : turn ≤ k := by rw [← hturn]; exact Int.ediv_le_self _ hk
    have hd18 := dDiv_int (i := cell) (j := 1000000000000000000) (by decide) (by decide)
    by_cases hc : 1000000000000000000 ≤ cell ∧ turn < 60
    · obtain ⟨turn', rest', hw⟩ := wh_draw (s := .va (scr (n :: ns))) (k := .va (.int k)) (m := .va (.int many)) (c := .va (.int cell)) 99999 turn (cell / 1000000000000000000) (by omega)
      by_cases hr : 0 < rest'
      · refine ⟨rest' % 1000000 % many, Int.emod_nonneg _ (by omega), Int.emod_lt_of_pos _ hm, ?_⟩
        simp [FF_law_drawn, FF_law_drawn_t0, FF_law_drawn_t1, FF_law_drawn_s0, FF_law_drawn_s1, rdP_succ, dMul_1, dEq_scr, hnl, hml, hix, hdl, dPow_18, hc.1, hc.2, hd18, hw, hr, dMod_int (i := rest') (j := 1000000) (by decide), dMod_int hm]
      · obtain ⟨a, h1, h2, h3⟩ := drawn_tail (n :: ns) (k := k) hm (cell + 6553 * turn) (.va (.int turn')) (.va (.int rest'))
        refine ⟨a, h1, h2, ?_⟩
        rw [← h3]
        simp [FF_law_drawn, FF_law_drawn_t0, FF_law_drawn_t1, FF_law_drawn_s0, FF_law_drawn_s1, rdP_succ, dMul_1, dMul_2, dEq_scr, hnl, hml, hix, hdl, dPow_18, hc.1, hc.2, hd18, hw, hr]
    · obtain ⟨a, h1, h2, h3⟩ := drawn_tail (n :: ns) (k := k) hm (cell + 6553 * turn) (.va (.int turn)) .un
      refine ⟨a, h1, h2, ?_⟩
      rw [← h3]
      have hc' : (decide (1000000000000000000 ≤ cell) && decide (turn < 60)) = false := by rw [← Bool.decide_and]; exact decide_eq_false hc
      by_cases hq : 1000000000000000000 ≤ cell
      · have hq2 : ¬ turn < 60 := fun h => hc ⟨hq, h⟩
        simp [FF_law_drawn, FF_law_drawn_t0, FF_law_drawn_t1, FF_law_drawn_s0, FF_law_drawn_s1, rdP_succ, dMul_1, dMul_2, dEq_scr, hnl, hml, hix, hdl, dPow_18, hq, hq2]
      · simp [FF_law_drawn, FF_law_drawn_t0, FF_law_drawn_t1, FF_law_drawn_s0, FF_law_drawn_s1, rdP_succ, dMul_1, dMul_2, dEq_scr, hnl, hml, hix, hdl, dPow_18, hq]
def drw (ns : List Int) (k many : Int) : Int := match C_law_drawn [scr ns, .int k, .int many] with
  | .ok (.int a) => a
  | _ => 0
theorem drw_ok (ns : List Int) {k many : Int} (hns : ns.length ≤ 63) (hk : 0 ≤ k) (hk2 : k < 99999) (hm : 0 < many) : C_law_drawn [scr ns, .int k, .int many] = .ok (.int (drw ns k many)) ∧ 0 ≤ drw ns k many ∧ drw ns k many < many := by
  obtain ⟨a, h1, h2, h3⟩ := sp_drawn ns hns hk hk2 hm
  have h3 : C_law_drawn [scr ns, .int k, .int many] = .ok (.int a) := h3
  have : drw ns k many = a := by unfold drw; rw [h3]
  rw [this]
  exact ⟨h3, h1, h2⟩
/-! ### pick -/
theorem wh_pick {s k m c u : Slot} : ∀ (fuel : Nat) (turn rest : Int), turn < fuel → ∃ turn' rest' : Int, whLoop (tstAnd (t2 (dCmp .Gt) (rdP 4) (kD (.int 0))) (t2 (dCmp .Gt) (rdP 5) (kD (.int 0)))) (fSeq (relS [] (fPar [false, false] [4, 5] (eArgs [(e2 (dBin .FloorDiv) (rdP 4) (kD (.int 840))), (e2 (dBin .Sub) (rdP 5) (kD (.int 1)))])))
    sNil) (fuel + 1) [s, k, m, c, .va (.int rest), .va (.int turn), u] = .ok (.nx [s, k, m, c, .va (.int rest'), .va (.int turn'), u])
  | fuel, turn, rest, h => by
    by_cases h1 : 0 < rest
    · by_cases h2 : 0 < turn
      · match fuel, h with
        | 0, h => exact absurd h (by simp; omega)
        | fuel + 1, h =>
          obtain ⟨t', r', e⟩ := wh_pick (s := s) (k := k) (m := m) (c := c) (u := u) fuel (turn - 1) (rest / 840) (by omega)
          refine ⟨t', r', ?_⟩
          rw [whLoop]
          simp [rdP_succ, h1, h2, dDiv_int (i := rest) (j := 840) (by decide) (by decide), e, setFl]
      · refine ⟨turn, rest, ?_⟩
        rw [whLoop]
        simp [rdP_succ, h1, h2]
    · refine ⟨turn, rest, ?_⟩
      rw [whLoop]
      simp [rdP_succ, h1]
theorem sp_pick (ns : List Int) {k many : Int} (hns : ns.length ≤ 63) (hk : 0 ≤ k) (hk2 : k < 99999) (hm : 0 < many) : ∃ a : Int, 0 ≤ a ∧ a < many ∧ FF_law_pick [scr ns, .int k, .int many] = .ok (.int a) := by
  have e0 : ∃ cell : Int, FF_law_pick_s0 [.va (scr ns), .va (.int k), .va (.int many), .un, .un, .un, .un] = .ok (.nx [.va (scr ns), .va (.int k), .va (.int many), .va (.int cell), .un, .un, .un]) := by
    cases ns with
    | nil => exact ⟨0, by simp [FF_law_pick_s0, dEq_scr]⟩
    | cons n ns =>
      have hl : 0 < ((n :: ns).length : Int) := by simp only [List.length_cons]; omega
      have hmod : k % ((n :: ns).length : Int) = ((k % ((n :: ns).length : Int)).toNat : Int) := (Int.toNat_of_nonneg (Int.emod_nonneg _ (by omega))).symm
      have hlt : (k % ((n :: ns).length : Int)).toNat < (n :: ns).length := by
        have := Int.emod_lt_of_pos k hl
        omega
      generalize hcell : (n :: ns)[(k % ((n :: ns).length : Int)).toNat] = cell
      have hix : dIx (scr (n :: ns)) (.int (k % ((n :: ns).length : Int))) = .ok (.int cell) := by
        rw [hmod, dIx_scr hlt, ← hcell]
      have hml := dMod_int (i := k) hl
      have hnl := dLen_scr (n :: ns)
      generalize hll : ((n :: ns).length : Int) = ll at hml hix hnl
      exact ⟨cell, by simp [FF_law_pick_s0, dEq_scr, hnl, rdP_succ, hml, hix]⟩
  obtain ⟨cell, e0⟩ := e0
  have e1 : ∃ turn : Int, turn ≤ k ∧ FF_law_pick_s1 [.va (scr ns), .va (.int k), .va (.int many), .va (.int cell), .un, .un, .un] = .ok (.nx [.va (scr ns), .va (.int k), .va (.int many), .va (.int cell), .va (.int (cell / 1000000000000000000)), .va (.int turn), .un]) := by
    have hnl := dLen_scr ns
    generalize hl : (if (1 : Int) > (ns.length : Int) then (1 : Int) else (ns.length : Int)) = l
    have hl0 : 0 < l ∧ l < 2 ^ 64 := by
      rw [← hl]
      by_cases h : (1 : Int) > (ns.length : Int)
      · rw [if_pos h]; decide
      · rw [if_neg h]; omega
    have hmx : dMax [.int ns.length, .int 1] = .ok (.int l) := by rw [← hl]; rfl
    refine ⟨k / l, Int.ediv_le_self _ hk, ?_⟩
    simp [FF_law_pick_s1, rdP_succ, hnl, hmx, dPow_18, dDiv_int (i := cell) (j := 1000000000000000000) (by decide) (by decide), dDiv_int (i := k) hl0.1 hl0.2, setFl]
  obtain ⟨turn, ht, e1⟩ := e1
  obtain ⟨turn', rest', hw⟩ := wh_pick (s := .va (scr ns)) (k := .va (.int k)) (m := .va (.int many)) (c := .va (.int cell)) (u := .un) 99999 turn (cell / 1000000000000000000) (by omega)
  have e2 : FF_law_pick_s2 [.va (scr ns), .va (.int k), .va (.int many), .va (.int cell), .va (.int (cell / 1000000000000000000)), .va (.int turn), .un] = .ok (.nx [.va (scr ns), .va (.int k), .va (.int many), .va (.int cell), .va (.int rest'), .va (.int turn'), .un]) := by
    unfold FF_law_pick_s2
    rw [relS_ap, relR_nil]
    exact hw
  by_cases hr : 0 < rest'
  · refine ⟨rest' % 840 % many, Int.emod_nonneg _ (by omega), Int.emod_lt_of_pos _ hm, ?_⟩
    have e3 : FF_law_pick_s3 [.va (scr ns), .va (.int k), .va (.int many), .va (.int cell), .va (.int rest'), .va (.int turn'), .un] = .ok (.rt (.int (rest' % 840 % many))) := by
      simp [FF_law_pick_s3, rdP_succ, hr, dMod_int (i := rest') (j := 840) (by decide), dMod_int hm]
    unfold FF_law_pick
    rw [fRun_ap]
    show FF_law_pick_t0 [.va (scr ns), .va (.int k), .va (.int many), .un, .un, .un, .un] >>= fOut = _
    rw [FF_law_pick_t0, seq_nx e0, FF_law_pick_t1, seq_nx e1, FF_law_pick_t2, seq_nx e2, FF_law_pick_t3, seq_rt e3]
    rfl
  · have e3 : FF_law_pick_s3 [.va (scr ns), .va (.int k), .va (.int many), .va (.int cell), .va (.int rest'), .va (.int turn'), .un] = .ok (.nx [.va (scr ns), .va (.int k), .va (.int many), .va (.int cell), .va (.int rest'), .va (.int turn'), .un]) := by
      simp [FF_law_pick_s3, rdP_succ, hr]
    generalize hd : (cell * 31 + 6151 * (k + 1)) * 40692 % 2147483399 = dr
    have b2 : 0 ≤ dr ∧ dr < 2147483399 := ⟨by rw [← hd]; exact Int.emod_nonneg _ (by decide), by rw [← hd]; exact Int.emod_lt_of_pos _ (by decide)⟩
    have e4 : FF_law_pick_s4 [.va (scr ns), .va (.int k), .va (.int many), .va (.int cell), .va (.int rest'), .va (.int turn'), .un] = .ok (.nx [.va (scr ns), .va (.int k), .va (.int many), .va (.int cell), .va (.int rest'), .va (.int turn'), .va (.int dr)]) := by
      simp [FF_law_pick_s4, rdP_succ, dMul_5, dMul_6, dMul_7, dMod_int (j := 2147483399) (by decide), hd]
    refine ⟨(dr * dr + dr / 31) % 2147483629 % many, Int.emod_nonneg _ (by omega), Int.emod_lt_of_pos _ hm, ?_⟩
    have e5 : FF_law_pick_s5 [.va (scr ns), .va (.int k), .va (.int many), .va (.int cell), .va (.int rest'), .va (.int turn'), .va (.int dr)] = .ok (.rt (.int ((dr * dr + dr / 31) % 2147483629 % many))) := by
      simp [FF_law_pick_s5, rdP_succ, dMul_l (smallI_of b2.1 (by omega)), dDiv_int (j := 31) (by decide) (by decide), dMod_int (j := 2147483629) (by decide), dMod_int hm]
    unfold FF_law_pick
    rw [fRun_ap]
    show FF_law_pick_t0 [.va (scr ns), .va (.int k), .va (.int many), .un, .un, .un, .un] >>= fOut = _
    rw [FF_law_pick_t0, seq_nx e0, FF_law_pick_t1, seq_nx e1, FF_law_pick_t2, seq_nx e2, FF_law_pick_t3, seq_nx e3, FF_law_pick_t4, seq_nx e4, FF_law_pick_t5, seq_rt e5]
    rfl
def pk (ns : List Int) (k many : Int) : Int := match C_law_pick [scr ns, .int k, .int many] with
  | .ok (.int a) => a
  | _ => 0
theorem pk_ok (ns : List Int) {k many : Int} (hns : ns.length ≤ 63) (hk : 0 ≤ k) (hk2 : k < 99999) (hm : 0 < many) : C_law_pick [scr ns, .int k, .int many] = .ok (.int (pk ns k many)) ∧ 0 ≤ pk ns k many ∧ pk ns k many < many := by
  obtain ⟨a, h1, h2, h3⟩ := sp_pick ns hns hk hk2 hm
  have h3 : C_law_pick [scr ns, .int k, .int many] = .ok (.int a) := h3
  have : pk ns k many = a := by unfold pk; rw [h3]
  rw [this]
  exact ⟨h3, h1, h2⟩
end DL
/-! Fleets as plain records. -/
namespace DL
open PySem PySem.Spec PyProof.Rows L2
abbrev Cell := Nat × Nat
def cellD (p : Cell) : D := .tuple [.int p.1, .int p.2]
structure Ship where
  name : Str
  sight : Nat
  course : List Cell
def Ship.D (s : Ship) : DL.D := .tuple [.str s.name, .int s.sight, .tuple (s.course.map cellD)]
structure Mist where
  first : Nat
  til : Nat
  a : Cell
  b : Cell
  most : Nat
def Mist.D (m : Mist) : DL.D := .tuple [.int m.first, .int m.til, cellD m.a, cellD m.b, .int m.most]
structure Fl where
  last : Nat
  isl : List Cell
  ships : List Ship
  mists : List Mist
def Fl.D (F : Fl) : DL.D := .tuple [.int F.last, .tuple (F.isl.map cellD), .tuple (F.ships.map Ship.D), .tuple (F.mists.map Mist.D)]
def Fl.names (F : Fl) : List Str := F.ships.map Ship.name
def nmD (xs : List Str) : List DL.D := xs.map .str
structure Fl.Ok (F : Fl) : Prop where
  last : F.last ≤ 7
  isl : F.isl.length ≤ 12
  islc : ∀ c ∈ F.isl, c.1 ≤ 9 ∧ c.2 ≤ 9
  islr : risingB (F.isl.map cellD) = true
  many : 1 ≤ F.ships.length ∧ F.ships.length ≤ 5
  name : ∀ s ∈ F.ships, isNameB (.str s.name) = true
  sight : ∀ s ∈ F.ships, s.sight ≤ 9
  len : ∀ s ∈ F.ships, s.course.length = F.last + 1
  cell : ∀ s ∈ F.ships, ∀ c ∈ s.course, c.1 ≤ 9 ∧ c.2 ≤ 9 ∧ c ∉ F.isl
  rise : risingB (F.ships.map fun s => .str s.name) = true
  mmany : F.mists.length ≤ 4
  mist : ∀ m ∈ F.mists, m.first ≤ m.til ∧ m.til ≤ F.last ∧ m.a.1 ≤ m.b.1 ∧ m.a.2 ≤ m.b.2 ∧ m.b.1 ≤ 9 ∧ m.b.2 ≤ 9 ∧ m.most ≤ 9
  mrise : risingB (F.mists.map Mist.D) = true
theorem isCell_D {p : Cell} : isCellB (cellD p) = (decide (p.1 ≤ 9) && decide (p.2 ≤ 9)) := by
  have h1 : decide ((0 : Int) ≤ p.1) = true := decide_eq_true (by omega)
  have h2 : decide ((0 : Int) ≤ p.2) = true := decide_eq_true (by omega)
  have h3 : decide ((p.1 : Int) ≤ 9) = decide (p.1 ≤ 9) := decide_eq_decide.mpr (by omega)
  have h4 : decide ((p.2 : Int) ≤ 9) = decide (p.2 ≤ 9) := decide_eq_decide.mpr (by omega)
  simp only [isCellB, cellD, isWholeB, h1, h2, h3, h4, Bool.true_and]
theorem cell_inj {p q : Cell} : cellD p = cellD q ↔ p = q := by
  obtain ⟨a, b⟩ := p
  obtain ⟨c, d⟩ := q
  simp [cellD]
  omega
theorem eqv_cell (p q : Cell) : PyData.eqv (cellD p) (cellD q) = decide (p = q) := by
  obtain ⟨a, b⟩ := p
  obtain ⟨c, d⟩ := q
  simp only [cellD, PyData.eqv, PyData.eqvAll, Bool.and_true]
  rw [Bool.eq_iff_iff]
  simp
  omega
theorem any_cell (isl : List Cell) (p : Cell) : (isl.map cellD).any (fun z => PyData.eqv z (cellD p)) = decide (p ∈ isl) := by
  rw [Bool.eq_iff_iff]
  simp only [List.any_map, List.any_eq_true, Function.comp, eqv_cell, decide_eq_true_eq]
  constructor
  · rintro ⟨x, hx, rfl⟩; exact hx
  · intro h; exact ⟨p, h, rfl⟩
theorem Fl.Ok.fleet {F : Fl} (h : F.Ok) : isFleetB F.D = true := by
  have e1 : isIslandsB (.tuple (F.isl.map cellD)) = true := by
    simp only [isIslandsB, List.length_map, Bool.and_eq_true, decide_eq_true_eq, List.all_map, List.all_eq_true]
    refine ⟨h.isl, fun c hc => ?_, h.islr⟩
    simp only [Function.comp, isCell_D, Bool.and_eq_true, decide_eq_true_eq]
    exact h.islc c hc
  have e2 : (F.ships.map Ship.D).all (isShipB F.last (F.isl.map cellD)) = true := by
    simp only [List.all_map, List.all_eq_true]
    intro s hs
    have hl := h.len s hs
    have hsi := h.sight s hs
    simp only [Function.comp, Ship.D, isShipB, h.name s hs, Bool.true_and, List.length_map, List.all_map, Bool.and_eq_true, decide_eq_true_eq, List.all_eq_true, isWholeB, isCell_D, any_cell, Bool.not_eq_true', decide_eq_false_iff_not]
    refine ⟨⟨by omega, by omega⟩, by omega, fun c hc => ?_⟩
    have := h.cell s hs c hc
    exact ⟨⟨this.1, this.2.1⟩, this.2.2⟩
  have e3 : (F.ships.map Ship.D).map fstD = F.ships.map fun s => .str s.name := by
    rw [List.map_map]
    rfl
  have e4 : (F.mists.map Mist.D).all (isMistB F.last) = true := by
    simp only [List.all_map, List.all_eq_true]
    intro m hm
    have := h.mist m hm
    simp only [Function.comp, Mist.D, isMistB, isCellB, isWholeB, cellD, Bool.and_eq_true, decide_eq_true_eq]
    omega
  have h1 : (F.last : Int) ≤ 7 := by have := h.last; omega
  have h2 : (1 : Int) ≤ F.ships.length := by have := h.many; omega
  have h3 : (F.ships.length : Int) ≤ 5 := by have := h.many; omega
  have h4 : (F.mists.length : Int) ≤ 4 := by have := h.mmany; omega
  simp only [Fl.D, isFleetB, isWholeB, e1, e2, e3, h.rise, e4, h.mrise, List.length_map, decide_eq_true h1, decide_eq_true h2, decide_eq_true h3, decide_eq_true h4, Bool.and_true, decide_eq_true (Int.natCast_nonneg F.last)]
theorem str_okD {z : Str} (h : isNameB (.str z) = true) (n : Nat) : okD n (.str z) = true := by
  have := name_ok h
  cases n <;> (simp [okD, this.1]; omega)
theorem Fl.Ok.okD {F : Fl} (h : F.Ok) : okD 8 F.D = true := by
  have e1 : ∀ s ∈ F.ships, DL.okD 6 s.D = true := fun s hs => by
    have := name_ok (h.name s hs)
    simp [Ship.D, DL.okD, this.1, cellD]
    omega
  simp [Fl.D, DL.okD, cellD, Mist.D]
  exact e1
theorem Fl.Ok.C {F : Fl} (h : F.Ok) : C_is_fleet [F.D] = .ok (.bool true) := by rw [sC_fleet h.okD, h.fleet]
theorem Fl.Ok.look {F : Fl} (h : F.Ok) : C_look_fleet [F.D] = .ok .none := by rw [sC_look h.okD, h.fleet]; rfl
theorem C_names (F : Fl) : C_plain_names [F.D] = .ok (.list (nmD F.names)) := by
  unfold C_plain_names
  unfold Fl.D
  rw [sp_plain_names]
  · simp only [List.map_map, nmD, Fl.names]
    rfl
  · intro d hd
    obtain ⟨s, _, rfl⟩ := List.mem_map.mp hd
    exact ⟨_, _, rfl⟩
/-! ### a loop with an invariant -/
theorem for_inv {tg : Tg} {fb : Env → R Out} (P : Nat → Env → Prop) : ∀ {ds : List D} {ρ : Env} (n : Nat), P n ρ → (∀ i d ρ, ds[i]? = some d → P (n + i) ρ → ∃ ρ1 ρ', fTg tg d ρ = .ok ρ1 ∧ fb ρ1 = .ok (.nx ρ') ∧ P (n + i + 1) ρ') →
    ∃ ρ', forLoop tg fb ds ρ = .ok (.nx ρ') ∧ P (n + ds.length) ρ'
  | [], ρ, n, h, _ => ⟨ρ, rfl, h⟩
  | d :: ds, ρ, n, h, hs => by
    obtain ⟨ρ1, ρ', h1, h2, h3⟩ := hs 0 d ρ rfl h
    obtain ⟨ρ2, h4, h5⟩ := for_inv P (ds := ds) (ρ := ρ') (n + 1) h3 fun i e ρ he hp => by
      have := hs (i + 1) e ρ (by simpa using he) (by rw [show n + (i + 1) = n + 1 + i by omega]; exact hp)
      rw [show n + 1 + i + 1 = n + (i + 1) + 1 by omega]
      exact this
    refine ⟨ρ2, ?_, by rw [show n + (d :: ds).length = n + 1 + ds.length by simp; omega]; exact h5⟩
    simp only [forLoop, h1, R.ok_bind, h2, h4]
theorem app_ok {i : Nat} {fe : Env → R D} {ρ : Env} {ds : List D} {d : D} (h1 : ρ[i]? = some (.ow (.list ds))) (h2 : fe ρ = .ok d) (h3 : ds.length < 1000000) : fApp i fe ρ = .ok (.nx (ρ.set i (.ow (.list (ds ++ [d]))))) := by
  unfold fApp
  rw [h1]
  simp only [h2, R.ok_bind]
  rw [if_pos h3]
end DL
/-! The fleets that the later laws draw. -/
namespace DL
open PySem PySem.Spec PyProof.Rows L2
def FF_law_fleet_s9 (f_law_pick : List D → R D) : DL.Env → R Out := (relS [3, 5, 13] (sRet (eTup [(rdE 3), (rdE 5), (eB dTuple [(rdP 7)]), (rdE 13)])))
def FF_law_fleet_t9 (f_law_pick : List D → R D) : DL.Env → R Out := fSeq (FF_law_fleet_s9 f_law_pick) sNil
def FF_law_fleet_s8 (f_law_pick : List D → R D) : DL.Env → R Out := (relS [0, 12] (sSet 13 (fIf (t2 (dCmp .Eq) (eC 3 f_law_pick [(rdE 0), (e2 (dBin .Add) (rdP 1) (kD (.int 4))), (kD (.int 3))]) (kD (.int 0))) (eTup [(rdE 12)]) (eTup []))))
def FF_law_fleet_t8 (f_law_pick : List D → R D) : DL.Env → R Out := fSeq (FF_law_fleet_s8 f_law_pick) (FF_law_fleet_t9 f_law_pick)
def FF_law_fleet_s7 (f_law_pick : List D → R D) : DL.Env → R Out := (relS [0] (sSet 12 (eTup [(kD (.int 0)), (eC 3 f_law_pick [(rdE 0), (e2 (dBin .Add) (rdP 1) (kD (.int 3))), (e2 (dBin .Add) (rdP 3) (kD (.int 1)))]), (eTup [(kD (.int 0)), (kD (.int 0))]), (eTup [(kD (.int 1)), (kD (.int 2))]), (kD (.int 1))])))
def FF_law_fleet_t7 (f_law_pick : List D → R D) : DL.Env → R Out := fSeq (FF_law_fleet_s7 f_law_pick) (FF_law_fleet_t8 f_law_pick)
def FF_law_fleet_s6 (f_law_pick : List D → R D) : DL.Env → R Out := (relS [4] (fFor (iB dEnum [(rdE 4)]) (.many [8, 9]) (fSeq (relS [] (sSet 10 (e2 (dBin .Add) (e2 (dBin .Add) (rdP 1) (kD (.int 10))) (e2 (dBin .Mult) (kD (.int 8)) (rdP 8)))))
  (fSeq (relS [0] (sOwn 11 (fLc (iB dRng1 [(e2 (dBin .Add) (rdP 3) (kD (.int 1)))]) (.one 15) (kT true) (e2 dIx (rdP 6) (eC 3 f_law_pick [(rdE 0), (e2 (dBin .Add) (e2 (dBin .Add) (rdP 10) (kD (.int 1))) (rdP 15)), (eB dLen [(rdP 6)])])) [15])))
  (fSeq (relS [9, 0, 10] (fApp 7 (eTup [(rdE 9), (e2 dIx (eLst [(kD (.int 1)), (kD (.int 1)), (kD (.int 2)), (kD (.int 2)), (kD (.int 0))]) (eC 3 f_law_pick [(rdE 0), (rdE 10), (kD (.int 5))])), (eB dTuple [(rdP 11)])])))
  sNil)))))
def FF_law_fleet_t6 (f_law_pick : List D → R D) : DL.Env → R Out := fSeq (FF_law_fleet_s6 f_law_pick) (FF_law_fleet_t7 f_law_pick)
def FF_law_fleet_s5 (f_law_pick : List D → R D) : DL.Env → R Out := (relS [] (sOwn 7 (eLst [])))
def FF_law_fleet_t5 (f_law_pick : List D → R D) : DL.Env → R Out := fSeq (FF_law_fleet_s5 f_law_pick) (FF_law_fleet_t6 f_law_pick)
def FF_law_fleet_s4 (f_law_pick : List D → R D) : DL.Env → R Out := (relS [14, 6] (sOwn 6 (fLc (i1 dItems (rdE 6)) (.one 14) (t2 (dCmp .NotIn) (rdP 14) (rdP 5)) (rdE 14) [14])))
def FF_law_fleet_t4 (f_law_pick : List D → R D) : DL.Env → R Out := fSeq (FF_law_fleet_s4 f_law_pick) (FF_law_fleet_t5 f_law_pick)
def FF_law_fleet_s3 (f_law_pick : List D → R D) : DL.Env → R Out := (relS [] (sOwn 6 (fLc (iB dRng1 [(kD (.int 12))]) (.one 8) (kT true) (eTup [(e2 (dBin .Mod) (rdP 8) (kD (.int 4))), (e2 (dBin .FloorDiv) (rdP 8) (kD (.int 4)))]) [8])))
def FF_law_fleet_t3 (f_law_pick : List D → R D) : DL.Env → R Out := fSeq (FF_law_fleet_s3 f_law_pick) (FF_law_fleet_t4 f_law_pick)
def FF_law_fleet_s2 (f_law_pick : List D → R D) : DL.Env → R Out := (relS [0] (sSet 5 (fIf (t2 (dCmp .Eq) (eC 3 f_law_pick [(rdE 0), (e2 (dBin .Add) (rdP 1) (kD (.int 2))), (kD (.int 3))]) (kD (.int 0))) (eTup [(eTup [(kD (.int 1)), (kD (.int 1))])]) (eTup []))))
def FF_law_fleet_t2 (f_law_pick : List D → R D) : DL.Env → R Out := fSeq (FF_law_fleet_s2 f_law_pick) (FF_law_fleet_t3 f_law_pick)
def FF_law_fleet_s1 (f_law_pick : List D → R D) : DL.Env → R Out := (relS [0] (sSet 4 (eSl (rdP 4) pN (pS (e2 (dBin .Add) (kD (.int 2)) (eC 3 f_law_pick [(rdE 0), (e2 (dBin .Add) (rdP 1) (kD (.int 1))), (e2 (dBin .Sub) (rdP 2) (kD (.int 1)))]))))))
def FF_law_fleet_t1 (f_law_pick : List D → R D) : DL.Env → R Out := fSeq (FF_law_fleet_s1 f_law_pick) (FF_law_fleet_t2 f_law_pick)
def FF_law_fleet_s0 (f_law_pick : List D → R D) : DL.Env → R Out := (relS [0, 1] (fPar [false, true] [3, 4] (eArgs [(e2 (dBin .Add) (kD (.int 1)) (eC 3 f_law_pick [(rdE 0), (rdE 1), (kD (.int 3))])), (eLst [(kD (.str "sa")), (kD (.str "sb")), (kD (.str "sc")), (kD (.str "sd")), (kD (.str "se"))])])))
def FF_law_fleet_t0 (f_law_pick : List D → R D) : DL.Env → R Out := fSeq (FF_law_fleet_s0 f_law_pick) (FF_law_fleet_t1 f_law_pick)
def FF_law_fleet (f_law_pick : List D → R D) : List D → R D := fRun 16 (FF_law_fleet_t0 f_law_pick)
def C_law_fleet : List D → R D := FF_law_fleet C_law_pick
def five : List Str := [⟨#[115, 97]⟩, ⟨#[115, 98]⟩, ⟨#[115, 99]⟩, ⟨#[115, 100]⟩, ⟨#[115, 101]⟩]
/-- the free cells -/
def all12 : List Cell := (List.range 12).map fun k => (k % 4, k / 4)
def freeOf (isl : List Cell) : List Cell := all12.filter fun c => decide (c ∉ isl)
structure Drawn2 (F : Fl) (most : Nat) : Prop where
  ok : F.Ok
  last : 1 ≤ F.last ∧ F.last ≤ 3
  many : 2 ≤ F.ships.length ∧ F.ships.length ≤ most
  names : F.names = five.take F.ships.length
theorem f2_s0 (ns : List Int) (hn : ns.length ≤ 63) {at_ : Int} {most : D} (h0 : 0 ≤ at_) (h1 : at_ < 90000) : ∃ l : Nat, 1 ≤ l ∧ l ≤ 3 ∧
    FF_law_fleet_s0 C_law_pick [.va (scr ns), .va (.int at_), .va most, .un, .un, .un, .un, .un, .un, .un, .un, .un, .un, .un, .un, .un] = .ok (.nx [.va (scr ns), .va (.int at_), .va most, .va (.int l), .ow (.list (nmD five)), .un, .un, .un, .un, .un, .un, .un, .un, .un, .un, .un]) := by
  obtain ⟨e, p0, p1⟩ := pk_ok ns (k := at_) (many := 3) hn h0 (by omega) (by decide)
  refine ⟨(1 + pk ns at_ 3).toNat, by omega, by omega, ?_⟩
  have hf : (eLst [(kD (.str "sa")), (kD (.str "sb")), (kD (.str "sc")), (kD (.str "sd")), (kD (.str "se"))]) [.va (scr ns), .va (.int at_), .va most, .un, .un, .un, .un, .un, .un, .un, .un, .un, .un, .un, .un, .un] = .ok (.list (nmD five)) := by kernel_rfl
  have ht : ((1 + pk ns at_ 3).toNat : Int) = 1 + pk ns at_ 3 := by omega
  rw [FF_law_fleet_s0, relS_ap, relR_cons, relR1_0va, relR_cons, relR1_succ, relR1_0va, relR_nil, fPar_ap, eArgs_cons, eArgs_cons, eArgs_nil, hf, ht]
  simp [e, rdE_succ, rdP_succ, setFl]
theorem cutD_to {α : Type} {xs : List α} {n : Nat} : cutD xs none (some (n : Int)) = xs.take n := by
  have hz : ¬ (n : Int) < 0 := by omega
  unfold cutD HT.sIx
  simp [hz]
theorem f2_s1 (ns : List Int) (hn : ns.length ≤ 63) {at_ : Int} {most : Nat} (h0 : 0 ≤ at_) (h1 : at_ < 90000) (hm : 2 ≤ most) (s3 : Slot) : ∃ n : Nat, 2 ≤ n ∧ n ≤ most ∧
    FF_law_fleet_s1 C_law_pick [.va (scr ns), .va (.int at_), .va (.int most), s3, .ow (.list (nmD five)), .un, .un, .un, .un, .un, .un, .un, .un, .un, .un, .un] = .ok (.nx [.va (scr ns), .va (.int at_), .va (.int most), s3, .va (.list (nmD (five.take n))), .un, .un, .un, .un, .un, .un, .un, .un, .un, .un, .un]) := by
  obtain ⟨e, p0, p1⟩ := pk_ok ns (k := at_ + 1) (many := (most : Int) - 1) hn (by omega) (by omega) (by omega)
  refine ⟨(2 + pk ns (at_ + 1) (most - 1)).toNat, by omega, by omega, ?_⟩
  have ht : 2 + pk ns (at_ + 1) (most - 1) = ((2 + pk ns (at_ + 1) (most - 1)).toNat : Int) := by omega
  simp only [FF_law_fleet_s1, relS_ap, relR_cons, relR1_0va, relR_nil, sSet_ap, eSl_ap, rdP_succ, rdP_zero_ow, pN_ap, pS_ap, e2_ap, kD_ap, eC_ap, eArgs_cons, eArgs_nil, rdE_zero, rdP_zero, R.ok_bind, dAdd_int, dSub_int, ari_3, e, dPart_int, dSl, List.set]
  rw [ht, cutD_to]
  simp only [nmD, List.map_take, ← ht]
theorem f2_s2 (ns : List Int) (hn : ns.length ≤ 63) {at_ : Int} (h0 : 0 ≤ at_) (h1 : at_ < 90000) (s2 s3 s4 : Slot) : ∃ isl : List Cell, (isl = [] ∨ isl = [(1, 1)]) ∧
    FF_law_fleet_s2 C_law_pick [.va (scr ns), .va (.int at_), s2, s3, s4, .un, .un, .un, .un, .un, .un, .un, .un, .un, .un, .un] = .ok (.nx [.va (scr ns), .va (.int at_), s2, s3, s4, .va (.tuple (isl.map cellD)), .un, .un, .un, .un, .un, .un, .un, .un, .un, .un]) := by
  obtain ⟨e, p0, p1⟩ := pk_ok ns (k := at_ + 2) (many := 3) hn (by omega) (by omega) (by decide)
  by_cases h : pk ns (at_ + 2) 3 = 0
  · exact ⟨[(1, 1)], .inr rfl, by simp [FF_law_fleet_s2, rdP_succ, e, h, cellD]⟩
  · exact ⟨[], .inl rfl, by simp [FF_law_fleet_s2, rdP_succ, e, h]⟩
theorem f2_s3 (s0 s1 s2 s3 s4 s5 : Slot) : FF_law_fleet_s3 C_law_pick [s0, s1, s2, s3, s4, s5, .un, .un, .un, .un, .un, .un, .un, .un, .un, .un] = .ok (.nx [s0, s1, s2, s3, s4, s5, .ow (.list (all12.map cellD)), .un, .un, .un, .un, .un, .un, .un, .un, .un]) := by kernel_rfl
theorem f2_s4 (s0 s1 s2 s3 s4 : Slot) {isl : List Cell} (h : isl = [] ∨ isl = [(1, 1)]) : FF_law_fleet_s4 C_law_pick [s0, s1, s2, s3, s4, .va (.tuple (isl.map cellD)), .ow (.list (all12.map cellD)), .un, .un, .un, .un, .un, .un, .un, .un, .un] = .ok (.nx [s0, s1, s2, s3, s4, .va (.tuple (isl.map cellD)), .ow (.list ((freeOf isl).map cellD)), .un, .un, .un, .un, .un, .un, .un, .un, .un]) := by
  have hs : ∀ c : Cell, SeqAt.shaped (cellD c) = true := fun c => rfl
  have hi : SeqAt.shaped (.tuple (isl.map cellD)) = true := by rcases h with rfl | rfl <;> rfl
  have key : lcLoop (.one 14) (t2 (dCmp .NotIn) (rdP 14) (rdP 5)) (rdE 14) [s0, s1, s2, s3, s4, .va (.tuple (isl.map cellD)), .va (.list (all12.map cellD)), .un, .un, .un, .un, .un, .un, .un, .un, .un] (all12.map cellD) = .ok ((freeOf isl).map cellD) := by
    refine lc_filter cellD (fun c => decide (c ∉ isl)) cellD all12 fun c _ => ⟨_, rfl, ?_, fun _ => ?_⟩
    · simp [rdP_succ, dCmp_notin, dIn_tup (hs c) hi]
      have := any_cell isl c
      simp only [List.any_map] at this
      rw [this]
    · simp [rdE_succ]
  simp only [FF_law_fleet_s4, relS_ap, relR_cons, relR1_succ, relR1_0un, relR1_0ow, relR_nil, sOwn_ap, fLc_ap, i1_ap, rdE_succ, rdE_zero, R.ok_bind, dItems_list, wipeR_cons, wipeR_nil, List.set, key, calm_ok]
theorem f2_s5 (s0 s1 s2 s3 s4 s5 s6 : Slot) : FF_law_fleet_s5 C_law_pick [s0, s1, s2, s3, s4, s5, s6, .un, .un, .un, .un, .un, .un, .un, .un, .un] = .ok (.nx [s0, s1, s2, s3, s4, s5, s6, .ow (.list []), .un, .un, .un, .un, .un, .un, .un, .un]) := by kernel_rfl
/-- what the loop has made -/
structure Made (last : Nat) (fr : List Cell) (names : List Str) (ships : List Ship) : Prop where
  names : ships.map Ship.name = names
  sight : ∀ s ∈ ships, s.sight ≤ 2
  len : ∀ s ∈ ships, s.course.length = last + 1
  cell : ∀ s ∈ ships, ∀ c ∈ s.course, c ∈ fr
theorem dIx_cells {fr : List Cell} {a : Int} (h0 : 0 ≤ a) (h1 : a < fr.length) : dIx (.list (fr.map cellD)) (.int a) = .ok (cellD (fr.getD a.toNat (0, 0))) := by
  obtain ⟨i, rfl⟩ : ∃ i : Nat, a = i := ⟨a.toNat, by omega⟩
  have hi : i < fr.length := by omega
  refine dIx_lst ?_
  simp [hi]
theorem rng1 {n : Nat} (h : n ≤ 1000000) : dRng1 [.int n] = .ok ((List.range n).map fun (i : Nat) => .int i) := by
  simp only [dRng1, rngD]
  rw [if_pos]
  · simp
  · simp only [Bool.and_eq_true, decide_eq_true_eq]; omega
theorem f2_s6 (ns : List Int) (hn : ns.length ≤ 63) {at_ : Int} (h0 : 0 ≤ at_) (h1 : at_ < 90000) (s2 s5 : Slot) {last : Nat} (hl : last ≤ 3) {names : List Str} (hnm : names.length ≤ 5) {fr : List Cell} (hfr : 0 < fr.length) (hfr2 : fr.length ≤ 12) : ∃ (ships : List Ship) (s8 s9 s10 s11 : Slot), Made last fr names ships ∧
    FF_law_fleet_s6 C_law_pick [.va (scr ns), .va (.int at_), s2, .va (.int last), .va (.list (nmD names)), s5, .ow (.list (fr.map cellD)), .ow (.list []), .un, .un, .un, .un, .un, .un, .un, .un] = .ok (.nx [.va (scr ns), .va (.int at_), s2, .va (.int last), .va (.list (nmD names)), s5, .ow (.list (fr.map cellD)), .ow (.list (ships.map Ship.D)), s8, s9, s10, s11, .un, .un, .un, .un]) := by
  let P : Nat → Env → Prop := fun i ρ => ∃ (ships : List Ship) (s8 s9 s10 s11 : Slot), Made last fr (names.take i) ships ∧ ρ = [.va (scr ns), .va (.int at_), s2, .va (.int last), .va (.list (nmD names)), s5, .ow (.list (fr.map cellD)), .ow (.list (ships.map Ship.D)), s8, s9, s10, s11, .un, .un, .un, .un]
  obtain ⟨ρ', e1, ⟨ships, s8, s9, s10, s11, m, rfl⟩⟩ := for_inv (tg := .many [8, 9]) (fb := fSeq (relS [] (sSet 10 (e2 (dBin .Add) (e2 (dBin .Add) (rdP 1) (kD (.int 10))) (e2 (dBin .Mult) (kD (.int 8)) (rdP 8)))))
    (fSeq (relS [0] (sOwn 11 (fLc (iB dRng1 [(e2 (dBin .Add) (rdP 3) (kD (.int 1)))]) (.one 15) (kT true) (e2 dIx (rdP 6) (eC 3 C_law_pick [(rdE 0), (e2 (dBin .Add) (e2 (dBin .Add) (rdP 10) (kD (.int 1))) (rdP 15)), (eB dLen [(rdP 6)])])) [15])))
    (fSeq (relS [9, 0, 10] (fApp 7 (eTup [(rdE 9), (e2 dIx (eLst [(kD (.int 1)), (kD (.int 1)), (kD (.int 2)), (kD (.int 2)), (kD (.int 0))]) (eC 3 C_law_pick [(rdE 0), (rdE 10), (kD (.int 5))])), (eB dTuple [(rdP 11)])])))
    sNil))) P (ds := pairs (rngD 0 (nmD names).length) (nmD names)) (ρ := [.va (scr ns), .va (.int at_), s2, .va (.int last), .va (.list (nmD names)), s5, .ow (.list (fr.map cellD)), .ow (.list []), .un, .un, .un, .un, .un, .un, .un, .un]) 0
    ⟨[], .un, .un, .un, .un, ⟨rfl, fun _ h => (nomatch h), fun _ h => (nomatch h), fun _ h => (nomatch h)⟩, rfl⟩ (by
      rintro i d ρ hd ⟨ships, s8, s9, s10, s11, m, rfl⟩
      have hi : i < names.length := by
        have := (List.getElem?_eq_some_iff.mp hd).1
        simpa [pairs, rngD, nmD] using this
      have hd : d = .tuple [.int i, .str names[i]] := by
        have := hd
        simp [pairs, rngD, nmD, hi] at this
        exact this.symm
      subst hd
      simp only [Nat.zero_add] at m ⊢
      obtain ⟨ek, k0, k1⟩ := pk_ok ns (k := at_ + 10 + 8 * (i : Int)) (many := 5) hn (by omega) (by omega) (by decide)
      have hsight : ∃ t : Nat, t ≤ 2 ∧ dIx (.list [.int 1, .int 1, .int 2, .int 2, .int 0]) (.int (pk ns (at_ + 10 + 8 * (i : Int)) 5)) = .ok (.int t) := by
        have : ∀ a : Int, 0 ≤ a → a < 5 → ∃ t : Nat, t ≤ 2 ∧ dIx (.list [.int 1, .int 1, .int 2, .int 2, .int 0]) (.int a) = .ok (.int t) := fun a a0 a1 => by
          have h : a = 0 ∨ a = 1 ∨ a = 2 ∨ a = 3 ∨ a = 4 := by omega
          rcases h with rfl | rfl | rfl | rfl | rfl
          · exact ⟨1, by decide, by kernel_rfl⟩
          · exact ⟨1, by decide, by kernel_rfl⟩
          · exact ⟨2, by decide, by kernel_rfl⟩
          · exact ⟨2, by decide, by kernel_rfl⟩
          · exact ⟨0, by decide, by kernel_rfl⟩
        exact this _ k0 k1
      obtain ⟨t, ht, hti⟩ := hsight
      let g : Nat → Cell := fun j => fr.getD (pk ns (at_ + 10 + 8 * (i : Int) + 1 + (j : Int)) fr.length).toNat (0, 0)
      have key : lcLoop (.one 15) (kT true) (e2 dIx (rdP 6) (eC 3 C_law_pick [(rdE 0), (e2 (dBin .Add) (e2 (dBin .Add) (rdP 10) (kD (.int 1))) (rdP 15)), (eB dLen [(rdP 6)])])) [.va (scr ns), .va (.int at_), s2, .va (.int last), .va (.list (nmD names)), s5, .ow (.list (fr.map cellD)), .ow (.list (ships.map Ship.D)), .va (.int i), .va (.str names[i]), .va (.int (at_ + 10 + 8 * (i : Int))), s11, .un, .un, .un, .un] ((List.range (last + 1)).map fun (j : Nat) => .int j) = .ok (((List.range (last + 1)).map g).map cellD) := by
        rw [List.map_map]
        refine lc_map (fun j : Nat => .int j) (fun j => cellD (g j)) _ fun j hj => ?_
        have hj : j < last + 1 := List.mem_range.mp hj
        obtain ⟨ej, j0, j1⟩ := pk_ok ns (k := at_ + 10 + 8 * (i : Int) + 1 + (j : Int)) (many := fr.length) hn (by omega) (by omega) (by omega)
        simp [rdP_succ, rdE_succ, ej, dIx_cells j0 j1, g]
      have hr : dRng1 [.int ((last : Int) + 1)] = .ok ((List.range (last + 1)).map fun (j : Nat) => .int j) := by
        rw [show (last : Int) + 1 = ((last + 1 : Nat) : Int) by omega]
        exact rng1 (by omega)
      have hm8 : dBin .Mult (.int 8) (.int i) = .ok (.int (8 * i)) := dMul_l (by decide)
      have hlen : ships.length < 1000000 := by
        have := congrArg List.length m.names
        simp at this
        omega
      refine ⟨_, _, rfl, ?_, ships ++ [⟨names[i], t, (List.range (last + 1)).map g⟩], .va (.int i), .va (.str names[i]), .va (.int (at_ + 10 + 8 * (i : Int))), .ow (.list (((List.range (last + 1)).map g).map cellD)), ⟨?_, ?_, ?_, ?_⟩, rfl⟩
      · simp only [setMany, List.set]
        rw [seq_nx (F := relS [] _) (ρ' := [.va (scr ns), .va (.int at_), s2, .va (.int last), .va (.list (nmD names)), s5, .ow (.list (fr.map cellD)), .ow (.list (ships.map Ship.D)), .va (.int i), .va (.str names[i]), .va (.int (at_ + 10 + 8 * (i : Int))), s11, .un, .un, .un, .un]) (by simp only [relS_ap, relR_nil, sSet_ap, e2_ap, rdP_succ, rdP_zero, kD_ap, R.ok_bind, dAdd_int, hm8, List.set])]
        rw [seq_nx (F := relS [0] _) (ρ' := [.va (scr ns), .va (.int at_), s2, .va (.int last), .va (.list (nmD names)), s5, .ow (.list (fr.map cellD)), .ow (.list (ships.map Ship.D)), .va (.int i), .va (.str names[i]), .va (.int (at_ + 10 + 8 * (i : Int))), .ow (.list (((List.range (last + 1)).map g).map cellD)), .un, .un, .un, .un]) (by
          simp -implicitDefEqProofs only [relS_ap, relR_cons, relR_nil, relR1_0va, sOwn_ap, fLc_ap, iB_ap, eArgs_cons, eArgs_nil, e2_ap, rdP_succ, rdP_zero, kD_ap, R.ok_bind, dAdd_int, hr, wipeR_cons, wipeR_nil, List.set, key, calm_ok])]
        refine seq_nx (F := relS [9, 0, 10] _) (G := sNil) ?_
        rw [relS_ap]
        have hrel : relR [9, 0, 10] [.va (scr ns), .va (.int at_), s2, .va (.int last), .va (.list (nmD names)), s5, .ow (.list (fr.map cellD)), .ow (.list (ships.map Ship.D)), .va (.int i), .va (.str names[i]), .va (.int (at_ + 10 + 8 * (i : Int))), .ow (.list (((List.range (last + 1)).map g).map cellD)), .un, .un, .un, .un] = [.va (scr ns), .va (.int at_), s2, .va (.int last), .va (.list (nmD names)), s5, .ow (.list (fr.map cellD)), .ow (.list (ships.map Ship.D)), .va (.int i), .va (.str names[i]), .va (.int (at_ + 10 + 8 * (i : Int))), .ow (.list (((List.range (last + 1)).map g).map cellD)), .un, .un, .un, .un] := by
          simp only [relR_cons, relR_nil, relR1_succ, relR1_0va]
        rw [hrel, app_ok (ds := ships.map Ship.D) (d := Ship.D ⟨names[i], t, (List.range (last + 1)).map g⟩) rfl ?_ (by simpa using hlen)]
        · simp only [List.set, List.map_append, List.map_cons, List.map_nil]
        · simp only [eTup_ap, eArgs_cons, eArgs_nil, rdE_succ, rdE_zero, R.ok_bind, e2_ap, eLst_ap, kD_ap, okLen_5, eC_ap, ari_3, ek, hti, eB_ap, rdP_succ, rdP_zero_ow, dTuple_list, okLen_3, Ship.D]
      · rw [List.map_append, m.names, List.take_succ_eq_append_getElem hi]
        rfl
      · intro s hs
        rcases List.mem_append.mp hs with hs | hs
        · exact m.sight s hs
        · rw [List.mem_singleton.mp hs]; exact ht
      · intro s hs
        rcases List.mem_append.mp hs with hs | hs
        · exact m.len s hs
        · rw [List.mem_singleton.mp hs]; simp
      · intro s hs c hc
        rcases List.mem_append.mp hs with hs | hs
        · exact m.cell s hs c hc
        · rw [List.mem_singleton.mp hs] at hc
          obtain ⟨j, hj, rfl⟩ := List.mem_map.mp hc
          have hj : j < last + 1 := List.mem_range.mp hj
          obtain ⟨ej, j0, j1⟩ := pk_ok ns (k := at_ + 10 + 8 * (i : Int) + 1 + (j : Int)) (many := fr.length) hn (by omega) (by omega) (by omega)
          have : (pk ns (at_ + 10 + 8 * (i : Int) + 1 + (j : Int)) fr.length).toNat < fr.length := by omega
          simp only [g, List.getD_eq_getElem?_getD, List.getElem?_eq_getElem this, Option.getD_some]
          exact List.getElem_mem this)
  refine ⟨ships, s8, s9, s10, s11, ?_, ?_⟩
  · have hl : (pairs (rngD 0 (nmD names).length) (nmD names)).length = names.length := by simp [pairs, rngD, nmD]
    rw [hl, Nat.zero_add, List.take_length] at m
    exact m
  · rw [FF_law_fleet_s6, relS_ap, relR_cons, relR1_succ, relR1_succ, relR1_succ, relR1_succ, relR1_0va, relR_nil, fFor_ap, iB_ap, eArgs_cons, eArgs_nil, rdE_succ, rdE_succ, rdE_succ, rdE_succ, rdE_zero]
    simp only [R.ok_bind, dEnum]
    exact e1
theorem f2_s7 (ns : List Int) (hn : ns.length ≤ 63) {at_ : Int} (h0 : 0 ≤ at_) (h1 : at_ < 90000) (s2 s4 s5 s6 s7 s8 s9 s10 s11 : Slot) {last : Nat} (hl : last ≤ 3) : ∃ u : Nat, u ≤ last ∧
    FF_law_fleet_s7 C_law_pick [.va (scr ns), .va (.int at_), s2, .va (.int last), s4, s5, s6, s7, s8, s9, s10, s11, .un, .un, .un, .un] = .ok (.nx [.va (scr ns), .va (.int at_), s2, .va (.int last), s4, s5, s6, s7, s8, s9, s10, s11, .va (Mist.D ⟨0, u, (0, 0), (1, 2), 1⟩), .un, .un, .un]) := by
  obtain ⟨e, p0, p1⟩ := pk_ok ns (k := at_ + 3) (many := (last : Int) + 1) hn (by omega) (by omega) (by omega)
  refine ⟨(pk ns (at_ + 3) ((last : Int) + 1)).toNat, by omega, ?_⟩
  have ht : ((pk ns (at_ + 3) ((last : Int) + 1)).toNat : Int) = pk ns (at_ + 3) ((last : Int) + 1) := by omega
  simp only [Mist.D, cellD, ht]
  simp -implicitDefEqProofs [FF_law_fleet_s7, rdP_succ, rdE_succ, e]
theorem f2_s8 (ns : List Int) (hn : ns.length ≤ 63) {at_ : Int} (h0 : 0 ≤ at_) (h1 : at_ < 90000) (s2 s3 s4 s5 s6 s7 s8 s9 s10 s11 : Slot) (m : Mist) : ∃ ms : List Mist, (ms = [] ∨ ms = [m]) ∧
    FF_law_fleet_s8 C_law_pick [.va (scr ns), .va (.int at_), s2, s3, s4, s5, s6, s7, s8, s9, s10, s11, .va m.D, .un, .un, .un] = .ok (.nx [.va (scr ns), .va (.int at_), s2, s3, s4, s5, s6, s7, s8, s9, s10, s11, .va m.D, .va (.tuple (ms.map Mist.D)), .un, .un]) := by
  obtain ⟨e, p0, p1⟩ := pk_ok ns (k := at_ + 4) (many := 3) hn (by omega) (by omega) (by decide)
  by_cases h : pk ns (at_ + 4) 3 = 0
  · exact ⟨[m], .inr rfl, by simp -implicitDefEqProofs [FF_law_fleet_s8, rdP_succ, rdE_succ, relR1_succ, e, h]⟩
  · exact ⟨[], .inl rfl, by simp -implicitDefEqProofs [FF_law_fleet_s8, rdP_succ, rdE_succ, relR1_succ, e, h]⟩
theorem f2_s9 (s0 s1 s2 s4 s6 s8 s9 s10 s11 s12 s14 s15 : Slot) (a b c : D) (ds : List D) : FF_law_fleet_s9 C_law_pick [s0, s1, s2, .va a, s4, .va b, s6, .ow (.list ds), s8, s9, s10, s11, s12, .va c, s14, s15] = .ok (.rt (.tuple [a, b, .tuple ds, c])) := by
  simp -implicitDefEqProofs [FF_law_fleet_s9, rdP_succ, rdE_succ, relR1_succ]
theorem five_ok : ∀ n : Nat, n ≤ 5 → ((five.take n).all fun z => isNameB (.str z)) = true ∧ risingB ((five.take n).map .str) = true := by
  intro n hn
  match n, hn with
  | 0, _ => decide +kernel
  | 1, _ => decide +kernel
  | 2, _ => decide +kernel
  | 3, _ => decide +kernel
  | 4, _ => decide +kernel
  | 5, _ => decide +kernel
theorem all12_ok : ∀ c ∈ all12, c.1 ≤ 3 ∧ c.2 ≤ 2 := by decide +kernel
theorem sp_fleet2 (ns : List Int) (hn : ns.length ≤ 63) {at_ : Int} {most : Nat} (h0 : 0 ≤ at_) (h1 : at_ < 90000) (hm : 2 ≤ most) (hm5 : most ≤ 5) : ∃ F : Fl, Drawn2 F most ∧ C_law_fleet [scr ns, .int at_, .int most] = .ok F.D := by
  obtain ⟨l, l1, l3, e0⟩ := f2_s0 ns hn (most := .int most) h0 h1
  obtain ⟨n, n2, nm, e1⟩ := f2_s1 ns hn h0 h1 hm (.va (.int l))
  obtain ⟨isl, hi, e2⟩ := f2_s2 ns hn h0 h1 (.va (.int most)) (.va (.int l)) (.va (.list (nmD (five.take n))))
  have hlen : (five.take n).length = n := by simp [five]; omega
  have hfr : 0 < (freeOf isl).length ∧ (freeOf isl).length ≤ 12 := by rcases hi with rfl | rfl <;> decide +kernel
  obtain ⟨ships, s8, s9, s10, s11, md, e6⟩ := f2_s6 ns hn h0 h1 (.va (.int most)) (.va (.tuple (isl.map cellD))) l3 (names := five.take n) (by omega) hfr.1 hfr.2
  obtain ⟨u, hu, e7⟩ := f2_s7 ns hn h0 h1 (.va (.int most)) (.va (.list (nmD (five.take n)))) (.va (.tuple (isl.map cellD))) (.ow (.list ((freeOf isl).map cellD))) (.ow (.list (ships.map Ship.D))) s8 s9 s10 s11 l3
  obtain ⟨ms, hms, e8⟩ := f2_s8 ns hn h0 h1 (.va (.int most)) (.va (.int l)) (.va (.list (nmD (five.take n)))) (.va (.tuple (isl.map cellD))) (.ow (.list ((freeOf isl).map cellD))) (.ow (.list (ships.map Ship.D))) s8 s9 s10 s11 ⟨0, u, (0, 0), (1, 2), 1⟩
  have hsl : ships.length = n := by
    have := congrArg List.length md.names
    rw [hlen] at this
    simpa using this
  have hfo := five_ok n (by omega)
  have hnmok : ∀ s ∈ ships, isNameB (.str s.name) = true := fun s hs => by
    have : s.name ∈ five.take n := by rw [← md.names]; exact List.mem_map_of_mem hs
    exact List.all_eq_true.mp hfo.1 _ this
  have hcell : ∀ s ∈ ships, ∀ c ∈ s.course, c.1 ≤ 9 ∧ c.2 ≤ 9 ∧ c ∉ isl := fun s hs c hc => by
    have := md.cell s hs c hc
    simp only [freeOf, List.mem_filter, decide_eq_true_eq] at this
    have q := all12_ok c this.1
    exact ⟨by omega, by omega, this.2⟩
  refine ⟨⟨l, isl, ships, ms⟩, ⟨{
    last := by show l ≤ 7; omega
    isl := by rcases hi with rfl | rfl <;> simp
    islc := by rcases hi with rfl | rfl <;> simp
    islr := by rcases hi with rfl | rfl <;> rfl
    many := by show 1 ≤ ships.length ∧ ships.length ≤ 5; omega
    name := hnmok
    sight := fun s hs => by have := md.sight s hs; omega
    len := md.len
    cell := hcell
    rise := by
      have e : (ships.map fun s => PyData.str s.name) = (five.take n).map .str := by rw [← md.names, List.map_map]; rfl
      show risingB (ships.map fun s => PyData.str s.name) = true
      rw [e]
      exact hfo.2
    mmany := by rcases hms with rfl | rfl <;> simp
    mist := by
      intro m hm
      rcases hms with rfl | rfl
      · cases hm
      · rw [List.mem_singleton.mp hm]
        refine ⟨Nat.zero_le _, hu, ?_⟩
        simp
    mrise := by rcases hms with rfl | rfl <;> rfl }, ⟨l1, l3⟩, ⟨by show 2 ≤ ships.length; omega, by show ships.length ≤ most; omega⟩, by show ships.map Ship.name = five.take ships.length; rw [md.names, hsl]⟩, ?_⟩
  unfold C_law_fleet FF_law_fleet
  rw [fRun_ap]
  show FF_law_fleet_t0 C_law_pick [.va (scr ns), .va (.int at_), .va (.int most), .un, .un, .un, .un, .un, .un, .un, .un, .un, .un, .un, .un, .un] >>= fOut = _
  rw [FF_law_fleet_t0, seq_nx e0, FF_law_fleet_t1, seq_nx e1, FF_law_fleet_t2, seq_nx e2, FF_law_fleet_t3, seq_nx (f2_s3 _ _ _ _ _ _), FF_law_fleet_t4, seq_nx (f2_s4 _ _ _ _ _ hi), FF_law_fleet_t5, seq_nx (f2_s5 _ _ _ _ _ _ _), FF_law_fleet_t6, seq_nx e6, FF_law_fleet_t7, seq_nx e7, FF_law_fleet_t8, seq_nx e8, FF_law_fleet_t9, seq_rt (f2_s9 _ _ _ _ _ _ _ _ _ _ _ _ _ _ _ _)]
  rfl
end DL
/-! Names of a fleet, sentences. -/
namespace DL
open PySem PySem.Spec PyProof.Rows L2
theorem dIn_lst {x : D} {ds : List D} (h : SeqAt.shaped x = true) (h' : SeqAt.shaped (.list ds) = true) : dIn x (.list ds) = .ok (ds.any fun z => PyData.eqv z x) := by
  unfold dIn
  split
  · rename_i e; cases e
  · rename_i e; cases e; simp [h, h']
  · rename_i e; cases e
  · rename_i e1 e2 e3
    first
      | exact absurd rfl (e1 _)
      | exact absurd rfl (e2 _)
      | exact absurd rfl (e3 _)
theorem eqv_str (a b : Str) : PyData.eqv (.str a) (.str b) = decide (a = b) := by
  rw [Bool.eq_iff_iff]
  simp [PyData.eqv]
theorem any_str (nm : List Str) (z : Str) : (nmD nm).any (fun y => PyData.eqv y (.str z)) = decide (z ∈ nm) := by
  rw [Bool.eq_iff_iff]
  simp only [nmD, List.any_map, List.any_eq_true, Function.comp, eqv_str, decide_eq_true_eq]
  constructor
  · rintro ⟨x, hx, rfl⟩; exact hx
  · intro h; exact ⟨z, h, rfl⟩
theorem shaped_of {n : Nat} {d : D} (h : okD n d = true) (hn : n ≤ 64 := by decide) : SeqAt.shaped d = true := okD_shaped h hn
theorem Fl.Ok.nm_ok {F : Fl} (h : F.Ok) : DL.okD 6 (.list (nmD F.names)) = true := by
  simp only [DL.okD, List.all_eq_true]
  intro d hd
  simp only [nmD, Fl.names, List.map_map] at hd
  obtain ⟨s, hs, rfl⟩ := List.mem_map.mp hd
  exact str_okD (h.name s hs) 5
theorem Fl.Ok.in_names {F : Fl} (h : F.Ok) {z : Str} {n : Nat} (hz : DL.okD n (.str z) = true) (hn : n ≤ 64 := by decide) : dIn (.str z) (.list (nmD F.names)) = .ok (decide (z ∈ F.names)) := by
  rw [dIn_lst (shaped_of hz hn) (shaped_of h.nm_ok), any_str]
/-- a name of the fleet -/
def ofB (nm : List Str) : D → Bool
  | .str z => isNameB (.str z) && decide (z ∈ nm)
  | _ => false
def areNamesB (nm : List Str) : D → Bool
  | .tuple ds => !ds.isEmpty && (ds.all isNameB && (risingB ds && ds.all (ofB nm)))
  | _ => false
theorem isNameB_str {t : D} (h : isNameB t = true) : ∃ z, t = .str z := by
  cases t with
  | str z => exact ⟨z, rfl⟩
  | _ => simp [isNameB] at h
theorem fst_D (F : Fl) : dIx F.D (.int 0) = .ok (.int F.last) := by simp [Fl.D]
theorem dEq_unit {ds : List D} {n : Nat} (h : okD n (.tuple ds) = true) (hn : n ≤ 64) : dCmp .Eq (.tuple ds) (.tuple []) = .ok ds.isEmpty := by
  show dEq (.tuple ds) (.tuple []) = _
  unfold dEq
  split
  · rename_i e _; cases e
  · have hs := okD_shaped h hn
    have e0 : SeqAt.shaped (.tuple []) = true := rfl
    rw [hs, e0]
    cases ds <;> rfl
theorem sC_are_names {F : Fl} (hF : F.Ok) {n : Nat} {t : D} (h : okD n t = true) (hn : n ≤ 64) : C_are_names [F.D, t] = .ok (.bool (areNamesB F.names t)) := by
  have hp := C_names F
  unfold C_are_names
  cases t with
  | dict k => cases n <;> simp [okD] at h
  | tuple ds =>
    have hq := dEq_unit h hn
    obtain ⟨m, rfl, hd⟩ := okD_tup h
    have key : lcLoop (.one 2) (kT true) (eC 1 C_is_name [(rdE 2)]) [.va F.D, .va (.tuple ds), .un] ds = .ok (ds.map fun d => .bool (isNameB d)) := by
      refine lc_one _ fun d hx => ?_
      simp -implicitDefEqProofs [sC_name (hd d hx), rdE_succ]
    cases he : ds.isEmpty with
    | true => simp -implicitDefEqProofs [FF_are_names, rdP_succ, relR1_succ, hq, he, areNamesB]
    | false =>
      cases ha : ds.all isNameB with
      | false => simp -implicitDefEqProofs [FF_are_names, rdP_succ, rdE_succ, relR1_succ, hq, he, key, ha, areNamesB]
      | true =>
        have ha' := List.all_eq_true.mp ha
        have hr := sC_rise (ds := ds) fun p hp => by
          have q := tails_mem hp
          obtain ⟨z, hz⟩ := isNameB_str (ha' _ q.1)
          obtain ⟨y, hy⟩ := isNameB_str (ha' _ q.2)
          have h1 := ha' _ q.1
          have h2 := ha' _ q.2
          rw [hz] at h1 ⊢
          rw [hy] at h2 ⊢
          exact name_ord h1 h2
        have key2 : lcLoop (.one 2) (kT true) (e2 (bCmp .In) (rdP 2) (eC 1 C_plain_names [(rdE 0)])) [.va F.D, .va (.tuple ds), .un] ds = .ok (ds.map fun d => .bool (ofB F.names d)) := by
          refine lc_one _ fun d hx => ?_
          have h1 := ha' d hx
          have h2 := hd d hx
          obtain ⟨z, rfl⟩ := isNameB_str h1
          simp -implicitDefEqProofs [rdP_succ, hp, dCmp_in, hF.in_names h2 (by omega), ofB, h1]
        cases hrb : risingB ds <;> simp -implicitDefEqProofs [FF_are_names, rdP_succ, rdE_succ, relR1_succ, hq, he, key, ha, areNamesB, hr.1, key2, hrb]
  | _ => simp -implicitDefEqProofs [FF_are_names, areNamesB, rdP_succ, relR1_succ]
theorem sC_hour_of {F : Fl} (hF : F.Ok) {n : Nat} {w a b : D} (ha : okD n a = true) (hb : okD n b = true) (hn : n ≤ 64) : C_is_hour_of [F.D, .tuple [w, a, b]] = .ok (.bool (ofB F.names a && isWholeB b 0 F.last)) := by
  have hp := C_names F
  unfold C_is_hour_of
  cases h1 : isNameB a with
  | false =>
    have : ofB F.names a = false := by
      cases a <;> first | rfl | (simp [ofB, h1])
    simp -implicitDefEqProofs [FF_is_hour_of, rdP_succ, sC_name ha, h1, this]
  | true =>
    obtain ⟨z, rfl⟩ := isNameB_str h1
    simp -implicitDefEqProofs [FF_is_hour_of, rdP_succ, sC_name ha, h1, hp, dCmp_in, hF.in_names ha hn, fst_D, sC_whole hb, ofB]
def knowerB (nm : List Str) (w : Str) (a : D) : Bool := if w = "knows" then ofB nm a else areNamesB nm a
theorem dEq_str {a b : Str} (ha : PyData.strOk a = true) (hb : PyData.strOk b = true) : dCmp .Eq (.str a) (.str b) = .ok (decide (a = b)) := by
  show dEq (.str a) (.str b) = _
  unfold dEq
  simp [SeqAt.shaped, PyData.canLay0, PyData.depth, ha, hb, eqv_str]
theorem sC_knower {F : Fl} (hF : F.Ok) {n : Nat} {w : Str} {a : D} {r : List D} (hw : PyData.strOk w = true) (ha : okD n a = true) (hn : n ≤ 64) : C_is_knower [F.D, .tuple (.str w :: a :: r)] = .ok (.bool (knowerB F.names w a)) := by
  have hp := C_names F
  have hq := dEq_str hw (b := "knows") (by decide +kernel)
  unfold C_is_knower
  by_cases h : w = "knows"
  · rw [decide_eq_true h] at hq
    have e : knowerB F.names w a = ofB F.names a := if_pos h
    rw [e]
    cases h1 : isNameB a with
    | false =>
      have : ofB F.names a = false := by
        cases a <;> first | rfl | (simp [ofB, h1])
      simp -implicitDefEqProofs [FF_is_knower, rdP_succ, hq, sC_name ha, h1, this]
    | true =>
      obtain ⟨z, rfl⟩ := isNameB_str h1
      simp -implicitDefEqProofs [FF_is_knower, rdP_succ, hq, sC_name ha, h1, hp, dCmp_in, hF.in_names ha hn, ofB]
  · simp -implicitDefEqProofs [FF_is_knower, rdP_succ, hq, h, sC_are_names hF ha hn, knowerB]
/-! ### deep -/
def optD : Option Nat → D
  | none => .none
  | some k => .int k
def byO (last : Nat) (nm : List Str) : List D → Option Nat
  | [a, b] => if ofB nm a && isWholeB b 0 last then some 1 else none
  | _ => none
def maxO : List (Option Nat) → Option Nat
  | [some a] => some (a + 1)
  | [some a, some b] => some (max a b + 1)
  | _ => none
def knO (last : Nat) (nm : List Str) (w : Str) (dp : D → Option Nat) : List D → Option Nat
  | [a, h, t] => if isWholeB h 0 (last + 1) && knowerB nm w a then (dp t).map (· + 1) else none
  | _ => none
def deepO (last : Nat) (nm : List Str) : Nat → D → Option Nat
  | 0, _ => none
  | n + 1, .tuple (.str w :: ps) =>
    if w = "by" then byO last nm ps
    else if w = "not" ∧ ps.length = 1 ∨ w = "and" ∧ ps.length = 2 then maxO (ps.map (deepO last nm n))
    else if w = "knows" ∨ w = "all" ∨ w = "common" then knO last nm w (deepO last nm n) ps
    else none
  | _, _ => none
abbrev SpDeep (F : Fl) (Dp : List D → R D) (n : Nat) : Prop := ∀ {m : Nat} {t : D}, okD m t = true → m ≤ 64 → Dp [F.D, t, .int n] = .ok (optD (deepO F.last F.names n t))
theorem lit_ok : PyData.strOk "by" = true ∧ PyData.strOk "not" = true ∧ PyData.strOk "and" = true ∧ PyData.strOk "knows" = true ∧ PyData.strOk "all" = true ∧ PyData.strOk "common" = true := by decide +kernel
theorem lit_ne : ("not" : Str) ≠ "by" ∧ ("and" : Str) ≠ "by" ∧ ("knows" : Str) ≠ "by" ∧ ("all" : Str) ≠ "by" ∧ ("common" : Str) ≠ "by" := by decide +kernel
section
variable {F : Fl} {Dp : List D → R D}
abbrev dE (F : Fl) (t : D) (n : Nat) (s3 s4 : Slot) : Env := [.va F.D, .va t, .va (.int n), s3, s4, .un]
theorem deep_zero {m : Nat} {t : D} (h : okD m t = true) (hm : m ≤ 64) : FF_deep C_is_hour_of Dp C_is_whole C_is_knower [F.D, t, .int (0 : Nat)] = .ok .none := by
  have e : FF_deep_s0 C_is_hour_of Dp C_is_whole C_is_knower (dE F t 0 .un .un) = .ok (.rt .none) := by
    cases t with
    | dict k => cases m <;> simp [okD] at h
    | tuple ds =>
      have hq := dEq_unit h hm
      obtain ⟨m, rfl, hd⟩ := okD_tup h
      cases ds with
      | nil => simp -implicitDefEqProofs [FF_deep_s0, rdP_succ, hq]
      | cons x ps =>
        have hx := dIsi_ok "str" (hd x (by simp))
        cases hb : isiB "str" x <;> simp -implicitDefEqProofs [FF_deep_s0, rdP_succ, hq, hx, hb]
    | _ => simp -implicitDefEqProofs [FF_deep_s0, rdP_succ]
  unfold FF_deep
  rw [fRun_ap]
  show FF_deep_t0 C_is_hour_of Dp C_is_whole C_is_knower (dE F t 0 .un .un) >>= fOut = _
  rw [FF_deep_t0, seq_rt e]
  rfl
theorem deep_start {m n : Nat} {t : D} (h : okD m t = true) (hm : m ≤ 64) : (FF_deep C_is_hour_of Dp C_is_whole C_is_knower [F.D, t, .int ((n + 1 : Nat) : Int)] = .ok .none ∧ deepO F.last F.names (n + 1) t = none) ∨
    (∃ w ps, t = .tuple (.str w :: ps) ∧ FF_deep C_is_hour_of Dp C_is_whole C_is_knower [F.D, t, .int ((n + 1 : Nat) : Int)] = (FF_deep_t1 C_is_hour_of Dp C_is_whole C_is_knower (dE F t (n + 1) .un .un) >>= fOut)) := by
  have fin : FF_deep_s0 C_is_hour_of Dp C_is_whole C_is_knower (dE F t (n + 1) .un .un) = .ok (.rt .none) → FF_deep C_is_hour_of Dp C_is_whole C_is_knower [F.D, t, .int ((n + 1 : Nat) : Int)] = .ok .none := fun e => by
    unfold FF_deep
    rw [fRun_ap]
    show FF_deep_t0 C_is_hour_of Dp C_is_whole C_is_knower (dE F t (n + 1) .un .un) >>= fOut = _
    rw [FF_deep_t0, seq_rt e]
    rfl
  cases t with
  | dict k => cases m <;> simp [okD] at h
  | tuple ds =>
    have hq := dEq_unit h hm
    obtain ⟨m, rfl, hd⟩ := okD_tup h
    cases ds with
    | nil => exact .inl ⟨fin (by simp -implicitDefEqProofs [FF_deep_s0, rdP_succ, hq]), rfl⟩
    | cons x ps =>
      have hx := dIsi_ok "str" (hd x (by simp))
      cases x with
      | str w =>
        right
        refine ⟨w, ps, rfl, ?_⟩
        have hlt : ¬ ((n : Int) + 1 < 1) := by omega
        have e : FF_deep_s0 C_is_hour_of Dp C_is_whole C_is_knower (dE F (.tuple (.str w :: ps)) (n + 1) .un .un) = .ok (.nx (dE F (.tuple (.str w :: ps)) (n + 1) .un .un)) := by
          simp -implicitDefEqProofs [FF_deep_s0, rdP_succ, hq, hlt]
        unfold FF_deep
        rw [fRun_ap]
        show FF_deep_t0 C_is_hour_of Dp C_is_whole C_is_knower (dE F (.tuple (.str w :: ps)) (n + 1) .un .un) >>= fOut = _
        rw [FF_deep_t0, seq_nx e]
      | dict k => simp [okD] at hd
      | _ => exact .inl ⟨fin (by simp -implicitDefEqProofs [FF_deep_s0, rdP_succ, hq]), rfl⟩
  | _ => exact .inl ⟨fin (by simp -implicitDefEqProofs [FF_deep_s0, rdP_succ]), rfl⟩
theorem none_in {ds : List D} {n : Nat} (h : okD n (.list ds) = true) (hn : n ≤ 64) : dCmp .In .none (.list ds) = .ok (ds.any isNon) := by
  rw [dCmp_in, dIn_lst rfl (okD_shaped h hn)]
  congr 2
  funext d
  cases d <;> rfl
theorem dMax_1 (a : Int) : dMax [.list [.int a]] = .ok (.int a) := by
  have h := PySem.W.maxD_ints a []
  have e : ordOk [.int a] = true := by kernel_rfl
  simp only [dMax, e, if_true]
  exact congrArg R.ok h
theorem dMax_2 (a b : Int) : dMax [.list [.int a, .int b]] = .ok (.int (max a b)) := by
  have h := PySem.W.maxD_ints a [b]
  have e : ordOk [.int a, .int b] = true := by kernel_rfl
  simp only [dMax, e, if_true]
  exact congrArg R.ok h
theorem deep_step (hF : F.Ok) {n : Nat} (hD : SpDeep F Dp n) : ∀ {m : Nat} {t : D}, okD m t = true → m ≤ 64 → FF_deep C_is_hour_of Dp C_is_whole C_is_knower [F.D, t, .int ((n + 1 : Nat) : Int)] = .ok (optD (deepO F.last F.names (n + 1) t)) := by
  intro m t h hm
  rcases deep_start (F := F) (Dp := Dp) (n := n) h hm with ⟨e1, e2⟩ | ⟨w, ps, rfl, e1⟩
  · rw [e1, e2]; rfl
  rw [e1]
  clear e1
  obtain ⟨m, rfl, hd⟩ := okD_tup h
  have hw : PyData.strOk w = true := (okD_can m (.str w) (hd _ (by simp))).1
  have hps : ∀ d ∈ ps, okD m d = true := fun d hd' => hd d (by simp [hd'])
  have q1 := dEq_str hw (b := "by") lit_ok.1
  have q2 := dEq_str hw (b := "not") lit_ok.2.1
  have q3 := dEq_str hw (b := "and") lit_ok.2.2.1
  have hsub : ((n : Int) + 1) - 1 = n := by omega
  by_cases hby : w = "by"
  · rw [decide_eq_true hby] at q1
    have e : deepO F.last F.names (n + 1) (.tuple (.str w :: ps)) = byO F.last F.names ps := by
      simp only [deepO, if_pos hby]
    rw [e]
    by_cases hl : ps.length = 2
    · match ps, hl, hps with
      | [a, b], _, hps =>
        have hh := sC_hour_of hF (w := .str w) (hps a (by simp)) (hps b (by simp)) (by omega)
        simp only [byO]
        cases hc : (ofB F.names a && isWholeB b 0 F.last) with
        | true =>
          have es : FF_deep_s1 C_is_hour_of Dp C_is_whole C_is_knower (dE F (.tuple [.str w, a, b]) (n + 1) .un .un) = .ok (.rt (.int 1)) := by
            rw [hc] at hh
            simp -implicitDefEqProofs [FF_deep_s1, rdP_succ, rdE_succ, relR1_succ, q1, hh]
          rw [FF_deep_t1, seq_rt es]
          rfl
        | false =>
          have es : FF_deep_s1 C_is_hour_of Dp C_is_whole C_is_knower (dE F (.tuple [.str w, a, b]) (n + 1) .un .un) = .ok (.rt .none) := by
            rw [hc] at hh
            simp -implicitDefEqProofs [FF_deep_s1, rdP_succ, rdE_succ, relR1_succ, q1, hh]
          rw [FF_deep_t1, seq_rt es]
          rfl
    · have hl' : ¬ ((ps.length : Int) + 1 = 3) := by omega
      have es : FF_deep_s1 C_is_hour_of Dp C_is_whole C_is_knower (dE F (.tuple (.str w :: ps)) (n + 1) .un .un) = .ok (.rt .none) := by
        simp -implicitDefEqProofs [FF_deep_s1, rdP_succ, rdE_succ, relR1_succ, q1, hl']
      rw [FF_deep_t1, seq_rt es]
      have e3 : byO F.last F.names ps = none := by
        clear es e h hd hps hl'
        match ps, hl with
        | [], _ => rfl
        | [_], _ => rfl
        | [_, _], hl => exact absurd rfl hl
        | _ :: _ :: _ :: _, _ => rfl
      rw [e3]
      rfl
  · rw [decide_eq_false hby] at q1
    have es1 : FF_deep_s1 C_is_hour_of Dp C_is_whole C_is_knower (dE F (.tuple (.str w :: ps)) (n + 1) .un .un) = .ok (.nx (dE F (.tuple (.str w :: ps)) (n + 1) .un .un)) := by
      simp -implicitDefEqProofs [FF_deep_s1, rdP_succ, rdE_succ, relR1_succ, q1]
    rw [FF_deep_t1, seq_nx es1]
    clear es1 q1
    have hcut : dSl (.tuple (.str w :: ps)) (some 1) none = .ok (.tuple ps) := by
      simp only [dSl, cutD_one]
      rfl
    have hsub' : dBin .Sub (.int ((n + 1 : Nat) : Int)) (.int 1) = .ok (.int n) := by
      rw [dSub_int]
      congr 2
    by_cases hna : w = "not" ∧ ps.length = 1 ∨ w = "and" ∧ ps.length = 2
    · have e : deepO F.last F.names (n + 1) (.tuple (.str w :: ps)) = maxO (ps.map (deepO F.last F.names n)) := by
        simp only [deepO, if_neg hby, if_pos hna]
      rw [e]
      have htest : (tstOr (tstAnd (t2 (dCmp .Eq) (e2 dIx (rdP 1) (kD (.int 0))) (kD (.str "not"))) (t2 (dCmp .Eq) (eB dLen [(rdP 1)]) (kD (.int 2)))) (tstAnd (t2 (dCmp .Eq) (e2 dIx (rdP 1) (kD (.int 0))) (kD (.str "and"))) (t2 (dCmp .Eq) (eB dLen [(rdP 1)]) (kD (.int 3))))) (dE F (.tuple (.str w :: ps)) (n + 1) .un .un) = .ok true := by
        rcases hna with ⟨h1, h2⟩ | ⟨h1, h2⟩
        · rw [decide_eq_true h1] at q2
          have hl : ((ps.length : Int) + 1 = 2) := by omega
          simp -implicitDefEqProofs [rdP_succ, q2, hl]
        · rw [decide_eq_true h1] at q3
          have h1' : w ≠ "not" := by rw [h1]; decide +kernel
          rw [decide_eq_false h1'] at q2
          have hl : ((ps.length : Int) + 1 = 3) := by omega
          simp -implicitDefEqProofs [rdP_succ, q2, q3, hl]
      have key : lcLoop (.one 5) (kT true) (eC 3 Dp [(rdE 0), (rdE 5), (e2 (dBin .Sub) (rdP 2) (kD (.int 1)))]) (dE F (.tuple (.str w :: ps)) (n + 1) .un .un) ps = .ok (ps.map fun d => optD (deepO F.last F.names n d)) := by
        refine lc_one _ fun d hx => ?_
        simp -implicitDefEqProofs only [List.set, eC_ap, eArgs_cons, eArgs_nil, rdE_zero, rdE_succ, e2_ap, rdP_succ, rdP_zero, kD_ap, R.ok_bind, hsub', ari_3, hD (hps d hx) (by omega)]
      have hok : okD 3 (.list (ps.map fun d => optD (deepO F.last F.names n d))) = true := by
        simp only [okD, List.all_map, List.all_eq_true]
        intro d _
        simp only [Function.comp]
        cases deepO F.last F.names n d <;> rfl
      have hin := none_in hok (by decide)
      have es2 : FF_deep_s2 C_is_hour_of Dp C_is_whole C_is_knower (dE F (.tuple (.str w :: ps)) (n + 1) .un .un) = .ok (.rt (optD (maxO (ps.map (deepO F.last F.names n))))) := by
        have hll : ps.length = 1 ∨ ps.length = 2 := by rcases hna with h | h <;> omega
        rw [FF_deep_s2, relS_ap, relR_nil, fIfS_ap, htest]
        simp -implicitDefEqProofs only [R.ok_bind, if_true, fSeq_ap, relS_ap, relR_cons, relR1_0va, relR1_succ, relR1_0un, relR_nil, sOwn_ap, fLc_ap, i1_ap, eSl_ap, rdP_succ, rdP_zero, pS_ap, kD_ap, dPart_int, pN_ap, hcut, dItems_tuple, wipeR_cons, wipeR_nil, List.set, key, calm_ok, thenS_nx, sRet_ap, fIf_ap, t2_ap, rdP_zero_ow, hin, e2_ap, eB_ap, eArgs_cons, eArgs_nil]
        rcases hll with hll | hll
        · match ps, hll with
          | [a], _ =>
            cases ha : deepO F.last F.names n a with
            | none => simp [ha, optD, isNon, maxO]
            | some x => simp [ha, optD, isNon, maxO, dMax_1]
        · match ps, hll with
          | [a, b], _ =>
            cases ha : deepO F.last F.names n a with
            | none => simp [ha, optD, isNon, maxO]
            | some x =>
              cases hb : deepO F.last F.names n b with
              | none => simp [ha, hb, optD, isNon, maxO]
              | some y =>
                have : max (x : Int) y = ((max x y : Nat) : Int) := by omega
                simp [ha, hb, optD, isNon, maxO, dMax_2, this]
      rw [FF_deep_t2, seq_rt es2]
      rfl
    · have es2 : FF_deep_s2 C_is_hour_of Dp C_is_whole C_is_knower (dE F (.tuple (.str w :: ps)) (n + 1) .un .un) = .ok (.nx (dE F (.tuple (.str w :: ps)) (n + 1) .un .un)) := by
        have g1 : ((ps.length : Int) + 1 = 2) ↔ ps.length = 1 := by omega
        have g2 : ((ps.length : Int) + 1 = 3) ↔ ps.length = 2 := by omega
        by_cases h1 : w = "not"
        · have h3 : ¬ w = "and" := by rw [h1]; decide +kernel
          have h2 : ¬ ps.length = 1 := fun q => hna (.inl ⟨h1, q⟩)
          rw [decide_eq_true h1] at q2
          rw [decide_eq_false h3] at q3
          simp -implicitDefEqProofs [FF_deep_s2, rdP_succ, q2, q3, g1, h2]
        · rw [decide_eq_false h1] at q2
          by_cases h3 : w = "and"
          · have h2 : ¬ ps.length = 2 := fun q => hna (.inr ⟨h3, q⟩)
            rw [decide_eq_true h3] at q3
            simp -implicitDefEqProofs [FF_deep_s2, rdP_succ, q2, q3, g2, h2]
          · rw [decide_eq_false h3] at q3
            simp -implicitDefEqProofs [FF_deep_s2, rdP_succ, q2, q3]
      rw [FF_deep_t2, seq_nx es2]
      clear es2 q2 q3
      have q4 : dCmp .NotIn (.str w) (.tuple [.str "knows", .str "all", .str "common"]) = .ok (!decide (w = "knows" ∨ w = "all" ∨ w = "common")) := by
        have hs : SeqAt.shaped (.str w) = true := by simp [SeqAt.shaped, PyData.canLay0, PyData.depth, hw]
        rw [dCmp_notin, dIn_tup hs (by decide +kernel)]
        simp only [List.any_cons, List.any_nil, eqv_str, R.ok_bind, Bool.or_false]
        congr 1
        congr 1
        rw [Bool.eq_iff_iff]
        simp only [Bool.or_eq_true, decide_eq_true_eq]
        exact ⟨fun h => h.imp Eq.symm (Or.imp Eq.symm Eq.symm), fun h => h.imp Eq.symm (Or.imp Eq.symm Eq.symm)⟩
      by_cases hk : w = "knows" ∨ w = "all" ∨ w = "common"
      · rw [decide_eq_true hk] at q4
        have e : deepO F.last F.names (n + 1) (.tuple (.str w :: ps)) = knO F.last F.names w (deepO F.last F.names n) ps := by
          simp only [deepO, if_neg hby, if_neg hna, if_pos hk]
        rw [e]
        by_cases hl : ps.length = 3
        · match ps, hl, hps with
          | [a, hh, t], _, hps =>
            have hwh := sC_whole (l := 0) (m := (F.last : Int) + 1) (hps hh (by simp))
            have hkn := sC_knower hF (r := [hh, t]) hw (hps a (by simp)) (by omega)
            have hdt := hD (hps t (by simp)) (by omega)
            simp only [knO]
            cases hc : isWholeB hh 0 (F.last + 1) with
            | false =>
              have es3 : FF_deep_s3 C_is_hour_of Dp C_is_whole C_is_knower (dE F (.tuple [.str w, a, hh, t]) (n + 1) .un .un) = .ok (.rt .none) := by
                simp -implicitDefEqProofs [FF_deep_s3, rdP_succ, q4, fst_D, hwh, hc]
              rw [FF_deep_t3, seq_rt es3]
              rfl
            | true =>
              have es3 : FF_deep_s3 C_is_hour_of Dp C_is_whole C_is_knower (dE F (.tuple [.str w, a, hh, t]) (n + 1) .un .un) = .ok (.nx (dE F (.tuple [.str w, a, hh, t]) (n + 1) .un .un)) := by
                simp -implicitDefEqProofs [FF_deep_s3, rdP_succ, q4, fst_D, hwh, hc]
              rw [FF_deep_t3, seq_nx es3]
              cases hkk : knowerB F.names w a with
              | false =>
                have es4 : FF_deep_s4 C_is_hour_of Dp C_is_whole C_is_knower (dE F (.tuple [.str w, a, hh, t]) (n + 1) .un .un) = .ok (.rt .none) := by
                  simp -implicitDefEqProofs [FF_deep_s4, rdE_succ, relR1_succ, hkn, hkk]
                rw [FF_deep_t4, seq_rt es4]
                rfl
              | true =>
                have es4 : FF_deep_s4 C_is_hour_of Dp C_is_whole C_is_knower (dE F (.tuple [.str w, a, hh, t]) (n + 1) .un .un) = .ok (.nx (dE F (.tuple [.str w, a, hh, t]) (n + 1) .un .un)) := by
                  simp -implicitDefEqProofs [FF_deep_s4, rdE_succ, relR1_succ, hkn, hkk]
                have es5 : FF_deep_s5 C_is_hour_of Dp C_is_whole C_is_knower (dE F (.tuple [.str w, a, hh, t]) (n + 1) .un .un) = .ok (.nx (dE F (.tuple [.str w, a, hh, t]) (n + 1) .un (.va (optD (deepO F.last F.names n t))))) := by
                  simp -implicitDefEqProofs only [FF_deep_s5, relS_ap, relR_cons, relR_nil, relR1_0va, sSet_ap, eC_ap, eArgs_cons, eArgs_nil, rdE_zero, e2_ap, rdP_succ, rdP_zero, kD_ap, R.ok_bind, dIx_t3, hsub', ari_3, hdt, List.set]
                rw [FF_deep_t4, seq_nx es4, FF_deep_t5, seq_nx es5]
                cases hdd : deepO F.last F.names n t with
                | none =>
                  have es6 : FF_deep_s6 C_is_hour_of Dp C_is_whole C_is_knower (dE F (.tuple [.str w, a, hh, t]) (n + 1) .un (.va (optD none))) = .ok (.rt .none) := by
                    simp -implicitDefEqProofs [FF_deep_s6, rdP_succ, optD, dCmp, dIs, isNon]
                  rw [FF_deep_t6, seq_rt es6]
                  rfl
                | some x =>
                  have es6 : FF_deep_s6 C_is_hour_of Dp C_is_whole C_is_knower (dE F (.tuple [.str w, a, hh, t]) (n + 1) .un (.va (optD (some x)))) = .ok (.rt (.int (x + 1))) := by
                    simp -implicitDefEqProofs [FF_deep_s6, rdP_succ, optD, dCmp, dIs, isNon]
                  rw [FF_deep_t6, seq_rt es6]
                  rfl
        · have hl' : ¬ ((ps.length : Int) + 1 = 4) := by omega
          have es3 : FF_deep_s3 C_is_hour_of Dp C_is_whole C_is_knower (dE F (.tuple (.str w :: ps)) (n + 1) .un .un) = .ok (.rt .none) := by
            simp -implicitDefEqProofs [FF_deep_s3, rdP_succ, q4, hl']
          rw [FF_deep_t3, seq_rt es3]
          have e3 : knO F.last F.names w (deepO F.last F.names n) ps = none := by
            clear es3 e h hd hps hl' hcut hna
            match ps, hl with
            | [], _ => rfl
            | [_], _ => rfl
            | [_, _], _ => rfl
            | [_, _, _], hl => exact absurd rfl hl
            | _ :: _ :: _ :: _ :: _, _ => rfl
          rw [e3]
          rfl
      · rw [decide_eq_false hk] at q4
        have e : deepO F.last F.names (n + 1) (.tuple (.str w :: ps)) = none := by
          simp only [deepO, if_neg hby, if_neg hna, if_neg hk]
        have es3 : FF_deep_s3 C_is_hour_of Dp C_is_whole C_is_knower (dE F (.tuple (.str w :: ps)) (n + 1) .un .un) = .ok (.rt .none) := by
          simp -implicitDefEqProofs [FF_deep_s3, rdP_succ, q4]
        rw [FF_deep_t3, seq_rt es3, e]
        rfl
end
end DL
/-! The sentences that the later laws draw. -/
namespace DL
open PySem PySem.Spec PyProof.Rows L2
def FF_law_sentence_s9 (f_law_pick : List D → R D) (f_law_sentence : List D → R D) : DL.Env → R Out := (relS [9, 7, 8] (sRet (eTup [(e2 dIx (eLst [(kD (.str "all")), (kD (.str "common"))]) (e2 (dBin .Sub) (rdP 5) (kD (.int 5)))), (rdE 9), (rdE 7), (rdE 8)])))
def FF_law_sentence_t9 (f_law_pick : List D → R D) (f_law_sentence : List D → R D) : DL.Env → R Out := fSeq (FF_law_sentence_s9 f_law_pick f_law_sentence) sNil
def FF_law_sentence_s8 (f_law_pick : List D → R D) (f_law_sentence : List D → R D) : DL.Env → R Out := (relS [12, 4, 0] (sSet 9 (eB dTuple [(fLc (iB dEnum [(rdE 4)]) (.many [11, 12]) (tstOr (t2 (dCmp .Eq) (rdP 12) (rdP 6)) (t2 (dCmp .Eq) (eC 3 f_law_pick [(rdE 0), (e2 (dBin .Add) (e2 (dBin .Add) (rdP 1) (kD (.int 3))) (rdP 11)), (kD (.int 2))]) (kD (.int 0)))) (rdE 12) [11, 12])])))
def FF_law_sentence_t8 (f_law_pick : List D → R D) (f_law_sentence : List D → R D) : DL.Env → R Out := fSeq (FF_law_sentence_s8 f_law_pick f_law_sentence) (FF_law_sentence_t9 f_law_pick f_law_sentence)
def FF_law_sentence_s7 (f_law_pick : List D → R D) (f_law_sentence : List D → R D) : DL.Env → R Out := (relS [] (fIfS (t2 (dCmp .Eq) (rdP 5) (kD (.int 4))) (fSeq (relS [6, 7, 8] (sRet (eTup [(kD (.str "knows")), (rdE 6), (rdE 7), (rdE 8)])))
  sNil) sNil))
def FF_law_sentence_t7 (f_law_pick : List D → R D) (f_law_sentence : List D → R D) : DL.Env → R Out := fSeq (FF_law_sentence_s7 f_law_pick f_law_sentence) (FF_law_sentence_t8 f_law_pick f_law_sentence)
def FF_law_sentence_s6 (f_law_pick : List D → R D) (f_law_sentence : List D → R D) : DL.Env → R Out := (relS [] (fIfS (t2 (dCmp .Eq) (rdP 5) (kD (.int 3))) (fSeq (relS [8, 0, 2] (sRet (eTup [(kD (.str "and")), (rdE 8), (eC 4 f_law_sentence [(rdE 0), (e2 (dBin .Add) (rdP 1) (kD (.int 40))), (rdE 2), (e2 (dBin .Sub) (rdP 3) (kD (.int 1)))])])))
  sNil) sNil))
def FF_law_sentence_t6 (f_law_pick : List D → R D) (f_law_sentence : List D → R D) : DL.Env → R Out := fSeq (FF_law_sentence_s6 f_law_pick f_law_sentence) (FF_law_sentence_t7 f_law_pick f_law_sentence)
def FF_law_sentence_s5 (f_law_pick : List D → R D) (f_law_sentence : List D → R D) : DL.Env → R Out := (relS [] (fIfS (t2 (dCmp .Eq) (rdP 5) (kD (.int 2))) (fSeq (relS [8] (sRet (eTup [(kD (.str "not")), (rdE 8)])))
  sNil) sNil))
def FF_law_sentence_t5 (f_law_pick : List D → R D) (f_law_sentence : List D → R D) : DL.Env → R Out := fSeq (FF_law_sentence_s5 f_law_pick f_law_sentence) (FF_law_sentence_t6 f_law_pick f_law_sentence)
def FF_law_sentence_s4 (f_law_pick : List D → R D) (f_law_sentence : List D → R D) : DL.Env → R Out := (relS [0, 2] (sSet 8 (eC 4 f_law_sentence [(rdE 0), (e2 (dBin .Add) (rdP 1) (kD (.int 9))), (rdE 2), (e2 (dBin .Sub) (rdP 3) (kD (.int 1)))])))
def FF_law_sentence_t4 (f_law_pick : List D → R D) (f_law_sentence : List D → R D) : DL.Env → R Out := fSeq (FF_law_sentence_s4 f_law_pick f_law_sentence) (FF_law_sentence_t5 f_law_pick f_law_sentence)
def FF_law_sentence_s3 (f_law_pick : List D → R D) (f_law_sentence : List D → R D) : DL.Env → R Out := (relS [] (fIfS (t2 (dCmp .Lt) (rdP 5) (kD (.int 2))) (fSeq (relS [6] (sRet (eTup [(kD (.str "by")), (rdE 6), (eB dMin [(rdP 7), (e2 dIx (rdP 2) (kD (.int 0)))])])))
  sNil) sNil))
def FF_law_sentence_t3 (f_law_pick : List D → R D) (f_law_sentence : List D → R D) : DL.Env → R Out := fSeq (FF_law_sentence_s3 f_law_pick f_law_sentence) (FF_law_sentence_t4 f_law_pick f_law_sentence)
def FF_law_sentence_s2 (f_law_pick : List D → R D) (f_law_sentence : List D → R D) : DL.Env → R Out := (relS [0] (sSet 7 (eC 3 f_law_pick [(rdE 0), (e2 (dBin .Add) (rdP 1) (kD (.int 2))), (e2 (dBin .Add) (e2 dIx (rdP 2) (kD (.int 0))) (kD (.int 2)))])))
def FF_law_sentence_t2 (f_law_pick : List D → R D) (f_law_sentence : List D → R D) : DL.Env → R Out := fSeq (FF_law_sentence_s2 f_law_pick f_law_sentence) (FF_law_sentence_t3 f_law_pick f_law_sentence)
def FF_law_sentence_s1 (f_law_pick : List D → R D) (f_law_sentence : List D → R D) : DL.Env → R Out := (relS [0, 1, 0] (fPar [false, false] [5, 6] (eArgs [(fIf (t2 (dCmp .Gt) (rdP 3) (kD (.int 1))) (eC 3 f_law_pick [(rdE 0), (rdE 1), (kD (.int 7))]) (kD (.int 0))), (e2 dIx (rdP 4) (eC 3 f_law_pick [(rdE 0), (e2 (dBin .Add) (rdP 1) (kD (.int 1))), (eB dLen [(rdP 4)])]))])))
def FF_law_sentence_t1 (f_law_pick : List D → R D) (f_law_sentence : List D → R D) : DL.Env → R Out := fSeq (FF_law_sentence_s1 f_law_pick f_law_sentence) (FF_law_sentence_t2 f_law_pick f_law_sentence)
def FF_law_sentence_s0 (f_law_pick : List D → R D) (f_law_sentence : List D → R D) : DL.Env → R Out := (relS [] (sOwn 4 (fLc (i1 dItems (e2 dIx (rdP 2) (kD (.int 2)))) (.one 10) (kT true) (e2 dIx (rdP 10) (kD (.int 0))) [10])))
def FF_law_sentence_t0 (f_law_pick : List D → R D) (f_law_sentence : List D → R D) : DL.Env → R Out := fSeq (FF_law_sentence_s0 f_law_pick f_law_sentence) (FF_law_sentence_t1 f_law_pick f_law_sentence)
def FF_law_sentence (f_law_pick : List D → R D) (f_law_sentence : List D → R D) : List D → R D := fRun 13 (FF_law_sentence_t0 f_law_pick f_law_sentence)
theorem rising_iff : ∀ ds : List D, risingB ds = true ↔ ds.Pairwise fun a b => PySem.W.dataLt a b = true
  | [] => by simp [risingB]
  | [a] => by simp [risingB]
  | a :: b :: r => by
    have ih := rising_iff (b :: r)
    simp only [risingB, Bool.and_eq_true, ih]
    constructor
    · rintro ⟨h1, h2⟩
      refine List.Pairwise.cons (fun c hc => ?_) h2
      rcases List.mem_cons.mp hc with rfl | hc
      · exact h1
      · exact lex_trans (O := itemOrd) _ _ _ h1 ((List.pairwise_cons.mp h2).1 c hc)
    · intro h
      have := List.pairwise_cons.mp h
      exact ⟨this.1 b (by simp), this.2⟩
theorem rising_sub {xs ys : List D} (h : ys.Sublist xs) (hx : risingB xs = true) : risingB ys = true := (rising_iff ys).mpr (((rising_iff xs).mp hx).sublist h)
theorem of_name {F : Fl} (hF : F.Ok) {z : Str} (hz : z ∈ F.names) : ofB F.names (.str z) = true ∧ isNameB (.str z) = true := by
  obtain ⟨s, hs, rfl⟩ := List.mem_map.mp hz
  simp [ofB, hF.name s hs, hz]
theorem nm_rise {F : Fl} (hF : F.Ok) : risingB (nmD F.names) = true := by
  have := hF.rise
  simp only [nmD, Fl.names, List.map_map]
  exact this
abbrev sE (ns : List Int) (a : Int) (F : Fl) (n : Nat) (s4 s5 s6 s7 s8 s9 : Slot) : Env := [.va (scr ns), .va (.int a), .va F.D, .va (.int n), s4, s5, s6, s7, s8, s9, .un, .un, .un]
structure Sent (F : Fl) (n : Nat) (t : D) : Prop where
  ok : okD (n + 1) t = true
  deep : ∃ d, deepO F.last F.names n t = some d
theorem atI_of {xs : List D} {i : Nat} (h : i < xs.length) : dIx (.list xs) (.int i) = .ok xs[i] := dIx_lst (List.getElem?_eq_getElem h)
theorem pick_name (F : Fl) {a : Int} (h0 : 0 ≤ a) (h1 : a < F.names.length) : ∃ z ∈ F.names, dIx (.list (nmD F.names)) (.int a) = .ok (.str z) := by
  obtain ⟨i, rfl⟩ : ∃ i : Nat, a = i := ⟨a.toNat, by omega⟩
  have hi : i < F.names.length := by omega
  refine ⟨F.names[i], List.getElem_mem hi, dIx_lst ?_⟩
  simp [nmD, hi]
theorem okD_t {n : Nat} {ds : List D} (h : ∀ d ∈ ds, okD n d = true) : okD (n + 1) (.tuple ds) = true := by simpa [okD] using h
theorem okD_s {z : Str} (h : PyData.strOk z = true ∧ z.length ≤ 1000000) : ∀ n, okD n (.str z) = true := fun n => by cases n <;> simp [okD, h.1, h.2]
theorem okD_i {i : Int} : ∀ n, okD n (.int i) = true := fun n => by cases n <;> rfl
theorem lit_okD (n : Nat) : okD n (.str "by") = true ∧ okD n (.str "not") = true ∧ okD n (.str "and") = true ∧ okD n (.str "knows") = true ∧ okD n (.str "all") = true ∧ okD n (.str "common") = true :=
  ⟨okD_s (by decide +kernel) n, okD_s (by decide +kernel) n, okD_s (by decide +kernel) n, okD_s (by decide +kernel) n, okD_s (by decide +kernel) n, okD_s (by decide +kernel) n⟩
section
variable {S : List D → R D}
theorem sent_step (ns : List Int) (hn : ns.length ≤ 63) {F : Fl} (hF : F.Ok) {n : Nat} {a : Int} (a0 : 0 ≤ a) (a1 : a < 90000)
    (hS : n ≠ 0 → ∀ b : Int, b = a + 9 ∨ b = a + 40 → ∃ t, S [scr ns, .int b, F.D, .int n] = .ok t ∧ Sent F n t) : ∃ t, FF_law_sentence C_law_pick S [scr ns, .int a, F.D, .int ((n + 1 : Nat) : Int)] = .ok t ∧ Sent F (n + 1) t := by
  have e0 : FF_law_sentence_s0 C_law_pick S (sE ns a F (n + 1) .un .un .un .un .un .un) = .ok (.nx (sE ns a F (n + 1) (.ow (.list (nmD F.names))) .un .un .un .un .un)) := by
    have hix : dIx F.D (.int 2) = .ok (.tuple (F.ships.map Ship.D)) := by simp [Fl.D]
    have key : lcLoop (.one 10) (kT true) (e2 dIx (rdP 10) (kD (.int 0))) (sE ns a F (n + 1) .un .un .un .un .un .un) (F.ships.map Ship.D) = .ok (nmD F.names) := by
      rw [nmD, Fl.names, List.map_map]
      refine lc_map Ship.D (fun s => .str s.name) _ fun s _ => ?_
      simp -implicitDefEqProofs [rdP_succ, Ship.D]
    simp -implicitDefEqProofs only [FF_law_sentence_s0, relS_ap, relR_nil, sOwn_ap, fLc_ap, i1_ap, e2_ap, rdP_succ, rdP_zero, kD_ap, R.ok_bind, hix, dItems_tuple, wipeR_cons, wipeR_nil, List.set, key, calm_ok]
  have hnl : 0 < F.names.length ∧ F.names.length ≤ 5 := by have := hF.many; simp only [Fl.names, List.length_map]; omega
  have hlen : dLen [.list (nmD F.names)] = .ok (.int F.names.length) := by simp [nmD]
  obtain ⟨p1, p10, p11⟩ := pk_ok ns (k := a + 1) (many := F.names.length) hn (by omega) (by omega) (by omega)
  obtain ⟨z, hz, hzi⟩ := pick_name F p10 p11
  obtain ⟨p2, p20, p21⟩ := pk_ok ns (k := a + 2) (many := (F.last : Int) + 2) hn (by omega) (by omega) (by omega)
  generalize pk ns (a + 2) ((F.last : Int) + 2) = hr at p2 p20 p21
  obtain ⟨hr, rfl⟩ : ∃ i : Nat, hr = i := ⟨hr.toNat, by omega⟩
  have zn := of_name hF hz
  have zo : ∀ m, okD m (.str z) = true := fun m => str_okD zn.2 m
  have e1 : ∃ turn : Int, 0 ≤ turn ∧ turn < 7 ∧ (n = 0 → turn = 0) ∧ FF_law_sentence_s1 C_law_pick S (sE ns a F (n + 1) (.ow (.list (nmD F.names))) .un .un .un .un .un) = .ok (.nx (sE ns a F (n + 1) (.ow (.list (nmD F.names))) (.va (.int turn)) (.va (.str z)) .un .un .un)) := by
    cases n with
    | zero =>
      refine ⟨0, by decide, by decide, fun _ => rfl, ?_⟩
      simp -implicitDefEqProofs [FF_law_sentence_s1, rdP_succ, rdE_succ, relR1_succ, hlen, p1, hzi, setFl]
    | succ n =>
      obtain ⟨p0, p00, p01⟩ := pk_ok ns (k := a) (many := 7) hn (by omega) (by omega) (by decide)
      have hgt : (1 : Int) < (n : Int) + 1 + 1 := by omega
      refine ⟨pk ns a 7, p00, p01, fun h => (by cases h), ?_⟩
      simp -implicitDefEqProofs [FF_law_sentence_s1, rdP_succ, rdE_succ, relR1_succ, hlen, p0, p1, hzi, setFl, hgt]
  obtain ⟨turn, t0, t7, tn, e1⟩ := e1
  have e2 : FF_law_sentence_s2 C_law_pick S (sE ns a F (n + 1) (.ow (.list (nmD F.names))) (.va (.int turn)) (.va (.str z)) .un .un .un) = .ok (.nx (sE ns a F (n + 1) (.ow (.list (nmD F.names))) (.va (.int turn)) (.va (.str z)) (.va (.int hr)) .un .un)) := by
    simp -implicitDefEqProofs [FF_law_sentence_s2, rdP_succ, rdE_succ, fst_D, p2]
  have start : FF_law_sentence C_law_pick S [scr ns, .int a, F.D, .int ((n + 1 : Nat) : Int)] = (FF_law_sentence_t3 C_law_pick S (sE ns a F (n + 1) (.ow (.list (nmD F.names))) (.va (.int turn)) (.va (.str z)) (.va (.int hr)) .un .un) >>= fOut) := by
    unfold FF_law_sentence
    rw [fRun_ap]
    show FF_law_sentence_t0 C_law_pick S (sE ns a F (n + 1) .un .un .un .un .un .un) >>= fOut = _
    rw [FF_law_sentence_t0, seq_nx e0, FF_law_sentence_t1, seq_nx e1, FF_law_sentence_t2, seq_nx e2]
  rw [start]
  clear start e0 e1 e2
  by_cases h2 : turn < 2
  · have hmin : ∃ m : Nat, m ≤ F.last ∧ dMin [.int hr, .int F.last] = .ok (.int m) := by
      by_cases h : (F.last : Int) < hr
      · exact ⟨F.last, Nat.le_refl _, by simp [dMin, h]⟩
      · exact ⟨hr, by omega, by simp [dMin, h]⟩
    obtain ⟨m, hm, hmi⟩ := hmin
    have e3 : FF_law_sentence_s3 C_law_pick S (sE ns a F (n + 1) (.ow (.list (nmD F.names))) (.va (.int turn)) (.va (.str z)) (.va (.int hr)) .un .un) = .ok (.rt (.tuple [.str "by", .str z, .int m])) := by
      simp -implicitDefEqProofs [FF_law_sentence_s3, rdP_succ, rdE_succ, relR1_succ, h2, fst_D, hmi]
    refine ⟨_, by rw [FF_law_sentence_t3, seq_rt e3]; rfl, ?_, 1, ?_⟩
    · exact okD_t (by simp only [List.forall_mem_cons]; exact ⟨(lit_okD _).1, zo _, okD_i _, by simp⟩)
    · simp only [deepO, if_true, byO, zn.1, isWholeB, Bool.true_and]
      rw [decide_eq_true (by omega : (0 : Int) ≤ m), decide_eq_true (by omega : (m : Int) ≤ F.last)]
      rfl
  · have hn0 : n ≠ 0 := fun h => h2 (by rw [tn h]; decide)
    have e3 : FF_law_sentence_s3 C_law_pick S (sE ns a F (n + 1) (.ow (.list (nmD F.names))) (.va (.int turn)) (.va (.str z)) (.va (.int hr)) .un .un) = .ok (.nx (sE ns a F (n + 1) (.ow (.list (nmD F.names))) (.va (.int turn)) (.va (.str z)) (.va (.int hr)) .un .un)) := by
      simp -implicitDefEqProofs [FF_law_sentence_s3, rdP_succ, rdE_succ, relR1_succ, h2]
    obtain ⟨bl, hb, sb⟩ := hS hn0 (a + 9) (.inl rfl)
    obtain ⟨bl2, hb2, sb2⟩ := hS hn0 (a + 40) (.inr rfl)
    obtain ⟨db, hdb⟩ := sb.deep
    obtain ⟨db2, hdb2⟩ := sb2.deep
    have hsub : dBin .Sub (.int ((n + 1 : Nat) : Int)) (.int 1) = .ok (.int n) := by
      rw [dSub_int, show ((n + 1 : Nat) : Int) - 1 = n by omega]
    have e4 : FF_law_sentence_s4 C_law_pick S (sE ns a F (n + 1) (.ow (.list (nmD F.names))) (.va (.int turn)) (.va (.str z)) (.va (.int hr)) .un .un) = .ok (.nx (sE ns a F (n + 1) (.ow (.list (nmD F.names))) (.va (.int turn)) (.va (.str z)) (.va (.int hr)) (.va bl) .un)) := by
      simp -implicitDefEqProofs only [FF_law_sentence_s4, relS_ap, relR_cons, relR1_0va, relR1_succ, relR_nil, sSet_ap, eC_ap, eArgs_cons, eArgs_nil, rdE_zero, rdE_succ, e2_ap, rdP_succ, rdP_zero, kD_ap, R.ok_bind, dAdd_int, hsub, ari_4, hb, List.set]
    have hokb : okD (n + 1) bl = true := sb.ok
    rw [FF_law_sentence_t3, seq_nx e3, FF_law_sentence_t4, seq_nx e4]
    clear e3 e4
    by_cases h3 : turn = 2
    · have e5 : FF_law_sentence_s5 C_law_pick S (sE ns a F (n + 1) (.ow (.list (nmD F.names))) (.va (.int turn)) (.va (.str z)) (.va (.int hr)) (.va bl) .un) = .ok (.rt (.tuple [.str "not", bl])) := by
        simp -implicitDefEqProofs [FF_law_sentence_s5, rdP_succ, rdE_succ, relR1_succ, h3]
      refine ⟨_, by rw [FF_law_sentence_t5, seq_rt e5]; rfl, ?_, db + 1, ?_⟩
      · exact okD_t (by simp only [List.forall_mem_cons]; exact ⟨(lit_okD _).2.1, hokb, by simp⟩)
      · simp only [deepO, if_neg lit_ne.1]
        rw [if_pos (.inl ⟨trivial, rfl⟩)]
        simp only [List.map, hdb, maxO]
    · have e5 : FF_law_sentence_s5 C_law_pick S (sE ns a F (n + 1) (.ow (.list (nmD F.names))) (.va (.int turn)) (.va (.str z)) (.va (.int hr)) (.va bl) .un) = .ok (.nx (sE ns a F (n + 1) (.ow (.list (nmD F.names))) (.va (.int turn)) (.va (.str z)) (.va (.int hr)) (.va bl) .un)) := by
        simp -implicitDefEqProofs [FF_law_sentence_s5, rdP_succ, rdE_succ, relR1_succ, h3]
      rw [FF_law_sentence_t5, seq_nx e5]
      clear e5
      by_cases h4 : turn = 3
      · have e6 : FF_law_sentence_s6 C_law_pick S (sE ns a F (n + 1) (.ow (.list (nmD F.names))) (.va (.int turn)) (.va (.str z)) (.va (.int hr)) (.va bl) .un) = .ok (.rt (.tuple [.str "and", bl, bl2])) := by
          subst h4
          simp -implicitDefEqProofs only [FF_law_sentence_s6, relS_ap, relR_nil, fIfS_ap, t2_ap, rdP_succ, rdP_zero, kD_ap, R.ok_bind, dCmp_eq, decide_true, if_true, fSeq_ap, relR_cons, relR1_succ, relR1_0va, sRet_ap, eTup_ap, eArgs_cons, eArgs_nil, rdE_succ, rdE_zero, eC_ap, e2_ap, dAdd_int, hsub, ari_4, hb2, okLen_3, thenS_rt]
        refine ⟨_, by rw [FF_law_sentence_t6, seq_rt e6]; rfl, ?_, max db db2 + 1, ?_⟩
        · exact okD_t (by simp only [List.forall_mem_cons]; exact ⟨(lit_okD _).2.2.1, hokb, sb2.ok, by simp⟩)
        · simp only [deepO, if_neg lit_ne.2.1]
          rw [if_pos (.inr ⟨trivial, rfl⟩)]
          simp only [List.map, hdb, hdb2, maxO]
      · have e6 : FF_law_sentence_s6 C_law_pick S (sE ns a F (n + 1) (.ow (.list (nmD F.names))) (.va (.int turn)) (.va (.str z)) (.va (.int hr)) (.va bl) .un) = .ok (.nx (sE ns a F (n + 1) (.ow (.list (nmD F.names))) (.va (.int turn)) (.va (.str z)) (.va (.int hr)) (.va bl) .un)) := by
          simp -implicitDefEqProofs [FF_law_sentence_s6, rdP_succ, rdE_succ, relR1_succ, h4]
        rw [FF_law_sentence_t6, seq_nx e6]
        clear e6
        have hwh : isWholeB (.int hr) 0 ((F.last : Int) + 1) = true := by
          simp only [isWholeB, Bool.and_eq_true, decide_eq_true_eq]
          omega
        by_cases h5 : turn = 4
        · have e7 : FF_law_sentence_s7 C_law_pick S (sE ns a F (n + 1) (.ow (.list (nmD F.names))) (.va (.int turn)) (.va (.str z)) (.va (.int hr)) (.va bl) .un) = .ok (.rt (.tuple [.str "knows", .str z, .int hr, bl])) := by
            simp -implicitDefEqProofs [FF_law_sentence_s7, rdP_succ, rdE_succ, relR1_succ, h5]
          refine ⟨_, by rw [FF_law_sentence_t7, seq_rt e7]; rfl, ?_, db + 1, ?_⟩
          · exact okD_t (by simp only [List.forall_mem_cons]; exact ⟨(lit_okD _).2.2.2.1, zo _, okD_i _, hokb, by simp⟩)
          · have g1 : ¬ (("knows" : Str) = "not" ∧ [PyData.str z, .int hr, bl].length = 1 ∨ ("knows" : Str) = "and" ∧ [PyData.str z, .int hr, bl].length = 2) := by simp
            have hk : knowerB F.names "knows" (.str z) = true := by simp [knowerB, zn.1]
            simp only [deepO, if_neg lit_ne.2.2.1, if_neg g1]
            rw [if_pos (.inl trivial)]
            simp only [knO, hwh, hk, Bool.and_self, if_true, hdb, Option.map]
        · have e7 : FF_law_sentence_s7 C_law_pick S (sE ns a F (n + 1) (.ow (.list (nmD F.names))) (.va (.int turn)) (.va (.str z)) (.va (.int hr)) (.va bl) .un) = .ok (.nx (sE ns a F (n + 1) (.ow (.list (nmD F.names))) (.va (.int turn)) (.va (.str z)) (.va (.int hr)) (.va bl) .un)) := by
            simp -implicitDefEqProofs [FF_law_sentence_s7, rdP_succ, rdE_succ, relR1_succ, h5]
          rw [FF_law_sentence_t7, seq_nx e7]
          clear e7
          let p : Nat × Str → Bool := fun q => decide (q.2 = z) || decide (pk ns (a + 3 + (q.1 : Int)) 2 = 0)
          let qs : List (Nat × Str) := (List.range F.names.length).zip F.names
          have hen : dEnum [.list (nmD F.names)] = .ok (qs.map fun q => .tuple [.int q.1, .str q.2]) := by
            simp only [dEnum, pairs, rngD, nmD, List.length_map, qs]
            congr 1
            rw [List.zip_map, List.map_map]
            simp [Function.comp_def]
          have hmem : ∀ q ∈ qs, q.1 < F.names.length ∧ q.2 ∈ F.names := fun q hq => by
            have := List.of_mem_zip (a := q.1) (b := q.2) hq
            exact ⟨List.mem_range.mp this.1, this.2⟩
          have key : lcLoop (.many [11, 12]) (tstOr (t2 (dCmp .Eq) (rdP 12) (rdP 6)) (t2 (dCmp .Eq) (eC 3 C_law_pick [(rdE 0), (e2 (dBin .Add) (e2 (dBin .Add) (rdP 1) (kD (.int 3))) (rdP 11)), (kD (.int 2))]) (kD (.int 0)))) (rdE 12) (sE ns a F (n + 1) (.va (.list (nmD F.names))) (.va (.int turn)) (.va (.str z)) (.va (.int hr)) (.va bl) .un) (qs.map fun q => .tuple [.int q.1, .str q.2]) = .ok ((qs.filter p).map fun q => .str q.2) := by
            refine lc_filter (fun q : Nat × Str => .tuple [.int q.1, .str q.2]) p (fun q => .str q.2) qs fun q hq => ⟨_, rfl, ?_, fun _ => ?_⟩
            · have hq' := hmem q hq
              obtain ⟨pq, _⟩ := pk_ok ns (k := a + 3 + (q.1 : Int)) (many := 2) hn (by omega) (by omega) (by decide)
              have hs := dEq_str (name_ok (of_name hF hq'.2).2).1 (name_ok zn.2).1
              simp -implicitDefEqProofs [setMany, rdP_succ, rdE_succ, hs, pq, p]
            · simp -implicitDefEqProofs [setMany, rdP_succ, rdE_succ]
          have hsnd : qs.map (·.2) = F.names := by
            simp only [qs]
            exact List.map_snd_zip (by simp)
          let some_ : List Str := (qs.filter p).map (·.2)
          have hsub1 : some_.Sublist F.names := by
            rw [← hsnd]
            exact List.Sublist.map _ List.filter_sublist
          have hzin : z ∈ some_ := by
            rw [← hsnd] at hz
            obtain ⟨q, hq, rfl⟩ := List.mem_map.mp hz
            refine List.mem_map.mpr ⟨q, List.mem_filter.mpr ⟨hq, ?_⟩, rfl⟩
            simp [p]
          have hsome : ((qs.filter p).map fun q => PyData.str q.2) = nmD some_ := by
            simp only [nmD, some_, List.map_map]
            rfl
          rw [hsome] at key
          have e8 : FF_law_sentence_s8 C_law_pick S (sE ns a F (n + 1) (.ow (.list (nmD F.names))) (.va (.int turn)) (.va (.str z)) (.va (.int hr)) (.va bl) .un) = .ok (.nx (sE ns a F (n + 1) (.va (.list (nmD F.names))) (.va (.int turn)) (.va (.str z)) (.va (.int hr)) (.va bl) (.va (.tuple (nmD some_))))) := by
            simp -implicitDefEqProofs only [FF_law_sentence_s8, relS_ap, relR_cons, relR1_succ, relR1_0un, relR1_0ow, relR1_0va, relR_nil, sSet_ap, eB_ap, eArgs_cons, eArgs_nil, fLc_ap, iB_ap, rdE_succ, rdE_zero, R.ok_bind, hen, wipeR_cons, wipeR_nil, List.set, key, calm_ok, dTuple_list]
          have hword : ∃ w : Str, (w = "all" ∨ w = "common") ∧ dIx (.list [.str "all", .str "common"]) (.int (turn - 5)) = .ok (.str w) := by
            have : turn = 5 ∨ turn = 6 := by omega
            rcases this with rfl | rfl
            · exact ⟨"all", .inl rfl, by kernel_rfl⟩
            · exact ⟨"common", .inr rfl, by kernel_rfl⟩
          obtain ⟨w, hw, hwi⟩ := hword
          have e9 : FF_law_sentence_s9 C_law_pick S (sE ns a F (n + 1) (.va (.list (nmD F.names))) (.va (.int turn)) (.va (.str z)) (.va (.int hr)) (.va bl) (.va (.tuple (nmD some_)))) = .ok (.rt (.tuple [.str w, .tuple (nmD some_), .int hr, bl])) := by
            simp -implicitDefEqProofs [FF_law_sentence_s9, rdP_succ, rdE_succ, relR1_succ, hwi]
          rw [FF_law_sentence_t8, seq_nx e8, FF_law_sentence_t9, seq_rt e9]
          have hall : ∀ d ∈ nmD some_, isNameB d = true ∧ ofB F.names d = true := fun d hd => by
            obtain ⟨y, hy, rfl⟩ := List.mem_map.mp hd
            have := of_name hF (hsub1.subset hy)
            exact ⟨this.2, this.1⟩
          refine ⟨_, rfl, ?_, db + 1, ?_⟩
          · have o1 : okD (n + 1) (.str w) = true := by
              rcases hw with rfl | rfl
              · exact (lit_okD _).2.2.2.2.1
              · exact (lit_okD _).2.2.2.2.2
            have o2 : okD (n + 1) (.tuple (nmD some_)) = true := by
              refine okD_t fun d hd => ?_
              have hd' := (hall d hd).1
              obtain ⟨y, hy, rfl⟩ := List.mem_map.mp hd
              exact str_okD hd' _
            exact okD_t (by simp only [List.forall_mem_cons]; exact ⟨o1, o2, okD_i _, hokb, by simp⟩)
          · have hk : knowerB F.names w (.tuple (nmD some_)) = true := by
              have hne : ¬ w = "knows" := by rcases hw with rfl | rfl <;> decide +kernel
              have hrise : risingB (nmD some_) = true := rising_sub (hsub1.map _) (nm_rise hF)
              have hem : (nmD some_).isEmpty = false := by
                cases e : some_ with
                | nil => rw [e] at hzin; cases hzin
                | cons _ _ => rfl
              simp only [knowerB, if_neg hne, areNamesB, hem, hrise, Bool.not_false, Bool.true_and, Bool.and_eq_true, List.all_eq_true]
              exact ⟨fun d hd => (hall d hd).1, fun d hd => (hall d hd).2⟩
            have g0 : ¬ w = "by" := by rcases hw with rfl | rfl <;> decide +kernel
            have g1 : ¬ (w = "not" ∧ [PyData.tuple (nmD some_), .int hr, bl].length = 1 ∨ w = "and" ∧ [PyData.tuple (nmD some_), .int hr, bl].length = 2) := by simp
            simp only [deepO, if_neg g0, if_neg g1]
            rw [if_pos (.inr hw)]
            simp only [knO, hwh, hk, Bool.and_self, if_true, hdb, Option.map]
end
end DL
namespace Lw
open PySem PySem.Spec PyProof.Rows L2 DL
def top (i : Nat) : Stmt := PySem.Challenge.pw_hullflags_k53_sentences.main.body.getD i (.Pass ⟨0, 0, 0, 0⟩)
def d_is_whole : DefI := ⟨"is_whole", top 10, ["thing", "least", "most"], ["thing", "least", "most"]⟩
def d_is_name : DefI := ⟨"is_name", top 11, ["thing"], ["thing", "sign"]⟩
def d_is_cell : DefI := ⟨"is_cell", top 12, ["thing"], ["thing", "part"]⟩
def d_is_rising : DefI := ⟨"is_rising", top 13, ["things"], ["things", "one", "other"]⟩
def d_is_islands : DefI := ⟨"is_islands", top 14, ["thing"], ["thing", "cell"]⟩
def d_is_ship : DefI := ⟨"is_ship", top 15, ["last", "islands", "thing"], ["last", "islands", "thing", "course", "cell"]⟩
def d_is_mist : DefI := ⟨"is_mist", top 16, ["last", "thing"], ["last", "thing", "first", "until", "one", "other", "most"]⟩
def d_is_fleet : DefI := ⟨"is_fleet", top 17, ["thing"], ["thing", "last", "islands", "ships", "mists", "ship", "mist"]⟩
def d_look_fleet : DefI := ⟨"look_fleet", top 18, ["thing"], ["thing"]⟩
def d_plain_names : DefI := ⟨"plain_names", top 19, ["fleet"], ["fleet", "ship"]⟩
def d_are_names : DefI := ⟨"are_names", top 21, ["fleet", "thing"], ["fleet", "thing", "name"]⟩
def d_deep : DefI := ⟨"deep", top 24, ["fleet", "thing", "most"], ["fleet", "thing", "most", "some", "below", "part"]⟩
def d_is_hour_of : DefI := ⟨"is_hour_of", top 25, ["fleet", "thing"], ["fleet", "thing"]⟩
def d_is_knower : DefI := ⟨"is_knower", top 26, ["fleet", "thing"], ["fleet", "thing"]⟩
def d_is_sentence : DefI := ⟨"is_sentence", top 27, ["fleet", "thing"], ["fleet", "thing"]⟩
def d_law_pick : DefI := ⟨"_law_pick", top 29, ["script", "k", "many"], ["script", "k", "many", "cell", "rest", "turn", "drawn"]⟩
def d_law_fleet : DefI := ⟨"_law_fleet", top 30, ["script", "at", "most"], ["script", "at", "most", "last", "names", "islands", "free", "ships", "k", "name", "here", "course", "mist", "mists", "cell", "hour"]⟩
def d_law_sentence : DefI := ⟨"_law_sentence", top 31, ["script", "at", "fleet", "most_deep"], ["script", "at", "fleet", "most_deep", "names", "turn", "name", "hour", "below", "some", "ship", "k", "one"]⟩
def d_law_odd : DefI := ⟨"_law_odd", top 32, ["script", "at"], ["script", "at", "made"]⟩
def d_law : DefI := ⟨"law", top 33, ["script"], ["script", "fleet", "last", "names", "one", "rows", "bad", "thing", "ship"]⟩
def prg : Prg := ⟨[d_is_whole, d_is_name, d_is_cell, d_is_rising, d_is_islands, d_is_ship, d_is_mist, d_is_fleet, d_look_fleet, d_plain_names, d_are_names, d_deep, d_is_hour_of, d_is_knower, d_is_sentence, d_law_pick, d_law_fleet, d_law_sentence, d_law_odd, d_law], [("MOST_PART", 9), ("MOST_LAST", 7), ("MOST_ISLANDS", 12), ("MOST_SHIPS", 5), ("MOST_MISTS", 4), ("MOST_DEEP", 4)], [("SMALL", "abcdefghijklmnopqrstuvwxyz")], ["FleetError", "NoFleet"]⟩
theorem bnd_d_is_whole : BndOk d_is_whole := fun _ _ _ _ _ _ us hl => match us, hl with | [_, _, _], _ => rfl
theorem bnd_d_is_name : BndOk d_is_name := fun _ _ _ _ _ _ us hl => match us, hl with | [_], _ => rfl
theorem bnd_d_is_cell : BndOk d_is_cell := fun _ _ _ _ _ _ us hl => match us, hl with | [_], _ => rfl
theorem bnd_d_is_rising : BndOk d_is_rising := fun _ _ _ _ _ _ us hl => match us, hl with | [_], _ => rfl
theorem bnd_d_is_islands : BndOk d_is_islands := fun _ _ _ _ _ _ us hl => match us, hl with | [_], _ => rfl
theorem bnd_d_is_ship : BndOk d_is_ship := fun _ _ _ _ _ _ us hl => match us, hl with | [_, _, _], _ => rfl
theorem bnd_d_is_mist : BndOk d_is_mist := fun _ _ _ _ _ _ us hl => match us, hl with | [_, _], _ => rfl
theorem bnd_d_is_fleet : BndOk d_is_fleet := fun _ _ _ _ _ _ us hl => match us, hl with | [_], _ => rfl
theorem bnd_d_look_fleet : BndOk d_look_fleet := fun _ _ _ _ _ _ us hl => match us, hl with | [_], _ => rfl
theorem bnd_d_plain_names : BndOk d_plain_names := fun _ _ _ _ _ _ us hl => match us, hl with | [_], _ => rfl
theorem bnd_d_are_names : BndOk d_are_names := fun _ _ _ _ _ _ us hl => match us, hl with | [_, _], _ => rfl
theorem bnd_d_deep : BndOk d_deep := fun _ _ _ _ _ _ us hl => match us, hl with | [_, _, _], _ => rfl
theorem bnd_d_is_hour_of : BndOk d_is_hour_of := fun _ _ _ _ _ _ us hl => match us, hl with | [_, _], _ => rfl
theorem bnd_d_is_knower : BndOk d_is_knower := fun _ _ _ _ _ _ us hl => match us, hl with | [_, _], _ => rfl
theorem bnd_d_is_sentence : BndOk d_is_sentence := fun _ _ _ _ _ _ us hl => match us, hl with | [_, _], _ => rfl
theorem bnd_d_law_pick : BndOk d_law_pick := fun _ _ _ _ _ _ us hl => match us, hl with | [_, _, _], _ => rfl
theorem bnd_d_law_fleet : BndOk d_law_fleet := fun _ _ _ _ _ _ us hl => match us, hl with | [_, _, _], _ => rfl
theorem bnd_d_law_sentence : BndOk d_law_sentence := fun _ _ _ _ _ _ us hl => match us, hl with | [_, _, _, _], _ => rfl
theorem bnd_d_law_odd : BndOk d_law_odd := fun _ _ _ _ _ _ us hl => match us, hl with | [_, _], _ => rfl
theorem bnd_d_law : BndOk d_law := fun _ _ _ _ _ _ us hl => match us, hl with | [_], _ => rfl
theorem bnd_all : ∀ d ∈ prg.defs, BndOk d := by
  intro d hd
  simp only [prg, List.mem_cons, List.not_mem_nil, or_false] at hd
  rcases hd with rfl | rfl | rfl | rfl | rfl | rfl | rfl | rfl | rfl | rfl | rfl | rfl | rfl | rfl | rfl | rfl | rfl | rfl | rfl | rfl
  · exact bnd_d_is_whole
  · exact bnd_d_is_name
  · exact bnd_d_is_cell
  · exact bnd_d_is_rising
  · exact bnd_d_is_islands
  · exact bnd_d_is_ship
  · exact bnd_d_is_mist
  · exact bnd_d_is_fleet
  · exact bnd_d_look_fleet
  · exact bnd_d_plain_names
  · exact bnd_d_are_names
  · exact bnd_d_deep
  · exact bnd_d_is_hour_of
  · exact bnd_d_is_knower
  · exact bnd_d_is_sentence
  · exact bnd_d_law_pick
  · exact bnd_d_law_fleet
  · exact bnd_d_law_sentence
  · exact bnd_d_law_odd
  · exact bnd_d_law
theorem sc_all : prg.defs.all scB = true := by decide +kernel
end Lw
namespace Lw
open PySem PySem.Spec PyProof.Rows L2 DL
def FF_law_odd (f_law_pick : List D → R D) : List D → R D := fRun 3 (fSeq (relS [0, 1] (sOwn 2 (eLst [(kD .none), (kD (.bool true)), (kD (.str "")), (kD (.str "A")), (kD (.str "5")), (eLst [(kD (.int 1))]), (eTup [(kD (.int 1))]), (e2 (dBin .Sub) (e1 dNeg (kD (.int 1))) (eC 3 f_law_pick [(rdE 0), (rdE 1), (kD (.int 9))])), (kD (.str "abcdefghi"))])))
  (fSeq (relS [] (sRet (e2 (dBin .Add) (rdP 2) (eLst [(eLst [(eLst [(kD (.str "a"))])]), (e2 (dBin .Pow) (kD (.int 10)) (kD (.int 9))), (eTup [(kD (.str "a"))])]))))
  sNil))
def FF_law_s16 (f_law_fleet : List D → R D) (f_law_pick : List D → R D) (f_law_sentence : List D → R D) (f_is_sentence : List D → R D) (f_law_odd : List D → R D) : DL.Env → R Out := (relS [1, 7, 0] (sRet (e2 (bCmp .Eq) (fLc (i1 dItems (e2 (dBin .Add) (rdP 6) (eC 2 f_law_odd [(rdE 0), (kD (.int 300))]))) (.one 7) (kT true) (eC 2 f_is_sentence [(rdE 1), (rdE 7)]) [7]) (e2 (dBin .Mult) (eLst [(kD (.bool false))]) (e2 (dBin .Add) (eB dLen [(rdP 6)]) (kD (.int 12)))))))
def FF_law_t16 (f_law_fleet : List D → R D) (f_law_pick : List D → R D) (f_law_sentence : List D → R D) (f_is_sentence : List D → R D) (f_law_odd : List D → R D) : DL.Env → R Out := fSeq (FF_law_s16 f_law_fleet f_law_pick f_law_sentence f_is_sentence f_law_odd) sNil
def FF_law_s15 (f_law_fleet : List D → R D) (f_law_pick : List D → R D) (f_law_sentence : List D → R D) (f_is_sentence : List D → R D) (f_law_odd : List D → R D) : DL.Env → R Out := (relS [4, 4] (fApp 6 (eTup [(kD (.str "and")), (rdE 4), (eTup [(kD (.str "not")), (eTup [(kD (.str "not")), (eTup [(kD (.str "not")), (rdE 4)])])])])))
def FF_law_t15 (f_law_fleet : List D → R D) (f_law_pick : List D → R D) (f_law_sentence : List D → R D) (f_is_sentence : List D → R D) (f_law_odd : List D → R D) : DL.Env → R Out := fSeq (FF_law_s15 f_law_fleet f_law_pick f_law_sentence f_is_sentence f_law_odd) (FF_law_t16 f_law_fleet f_law_pick f_law_sentence f_is_sentence f_law_odd)
def FF_law_s14 (f_law_fleet : List D → R D) (f_law_pick : List D → R D) (f_law_sentence : List D → R D) (f_is_sentence : List D → R D) (f_law_odd : List D → R D) : DL.Env → R Out := (relS [4] (fApp 6 (eLst [(kD (.str "not")), (rdE 4)])))
def FF_law_t14 (f_law_fleet : List D → R D) (f_law_pick : List D → R D) (f_law_sentence : List D → R D) (f_is_sentence : List D → R D) (f_law_odd : List D → R D) : DL.Env → R Out := fSeq (FF_law_s14 f_law_fleet f_law_pick f_law_sentence f_is_sentence f_law_odd) (FF_law_t15 f_law_fleet f_law_pick f_law_sentence f_is_sentence f_law_odd)
def FF_law_s13 (f_law_fleet : List D → R D) (f_law_pick : List D → R D) (f_law_sentence : List D → R D) (f_is_sentence : List D → R D) (f_law_odd : List D → R D) : DL.Env → R Out := (relS [4, 3, 4, 3] (fExt 6 (eLst [(eTup [(kD (.str "not")), (eTup [(kD (.str "not")), (eTup [(kD (.str "not")), (eTup [(kD (.str "not")), (rdE 4)])])])]), (eTup [(kD (.str "all")), (rdE 3), (e1 dNeg (kD (.int 1))), (rdE 4)]), (eTup [(kD (.str "all")), (rdE 3), (kD (.int 0)), (kD .none)])])))
def FF_law_t13 (f_law_fleet : List D → R D) (f_law_pick : List D → R D) (f_law_sentence : List D → R D) (f_is_sentence : List D → R D) (f_law_odd : List D → R D) : DL.Env → R Out := fSeq (FF_law_s13 f_law_fleet f_law_pick f_law_sentence f_is_sentence f_law_odd) (FF_law_t14 f_law_fleet f_law_pick f_law_sentence f_is_sentence f_law_odd)
def FF_law_s12 (f_law_fleet : List D → R D) (f_law_pick : List D → R D) (f_law_sentence : List D → R D) (f_is_sentence : List D → R D) (f_law_odd : List D → R D) : DL.Env → R Out := (relS [4, 4, 4] (fExt 6 (eLst [(eTup [(kD (.str "all")), (eRv (rdP 3)), (kD (.int 0)), (rdE 4)]), (eTup [(kD (.str "all")), (e2 (dBin .Add) (rdP 3) (eTup [(kD (.str "zz"))])), (kD (.int 0)), (rdE 4)]), (eTup [(kD (.str "common")), (eB dList [(rdP 3)]), (kD (.int 0)), (rdE 4)]), (eTup [])])))
def FF_law_t12 (f_law_fleet : List D → R D) (f_law_pick : List D → R D) (f_law_sentence : List D → R D) (f_is_sentence : List D → R D) (f_law_odd : List D → R D) : DL.Env → R Out := fSeq (FF_law_s12 f_law_fleet f_law_pick f_law_sentence f_is_sentence f_law_odd) (FF_law_t13 f_law_fleet f_law_pick f_law_sentence f_is_sentence f_law_odd)
def FF_law_s11 (f_law_fleet : List D → R D) (f_law_pick : List D → R D) (f_law_sentence : List D → R D) (f_is_sentence : List D → R D) (f_law_odd : List D → R D) : DL.Env → R Out := (relS [4, 4, 4, 4, 4] (fExt 6 (eLst [(eTup [(kD (.str "knows")), (e2 dIx (rdP 3) (kD (.int 0))), (e2 (dBin .Add) (rdP 2) (kD (.int 2))), (rdE 4)]), (eTup [(kD (.str "all")), (e2 dIx (rdP 3) (kD (.int 0))), (kD (.int 0)), (rdE 4)]), (eTup [(kD (.str "all")), (eTup []), (kD (.int 0)), (rdE 4)]), (eTup [(kD (.str "not")), (rdE 4), (rdE 4)])])))
def FF_law_t11 (f_law_fleet : List D → R D) (f_law_pick : List D → R D) (f_law_sentence : List D → R D) (f_is_sentence : List D → R D) (f_law_odd : List D → R D) : DL.Env → R Out := fSeq (FF_law_s11 f_law_fleet f_law_pick f_law_sentence f_is_sentence f_law_odd) (FF_law_t12 f_law_fleet f_law_pick f_law_sentence f_is_sentence f_law_odd)
def FF_law_s10 (f_law_fleet : List D → R D) (f_law_pick : List D → R D) (f_law_sentence : List D → R D) (f_is_sentence : List D → R D) (f_law_odd : List D → R D) : DL.Env → R Out := (relS [4, 4] (fExt 6 (eLst [(eTup [(kD (.str "or")), (rdE 4), (rdE 4)]), (eTup [(kD (.str "not")), (kD .none)])])))
def FF_law_t10 (f_law_fleet : List D → R D) (f_law_pick : List D → R D) (f_law_sentence : List D → R D) (f_is_sentence : List D → R D) (f_law_odd : List D → R D) : DL.Env → R Out := fSeq (FF_law_s10 f_law_fleet f_law_pick f_law_sentence f_is_sentence f_law_odd) (FF_law_t11 f_law_fleet f_law_pick f_law_sentence f_is_sentence f_law_odd)
def FF_law_s9 (f_law_fleet : List D → R D) (f_law_pick : List D → R D) (f_law_sentence : List D → R D) (f_is_sentence : List D → R D) (f_law_odd : List D → R D) : DL.Env → R Out := (relS [4, 4, 4, 4, 3, 4, 4] (fExt 6 (eLst [(eTup [(kD (.str "and")), (rdE 4)]), (eTup [(kD (.str "and")), (rdE 4), (rdE 4), (rdE 4)]), (eTup [(kD (.str "knows")), (rdE 3), (kD (.int 0)), (rdE 4)]), (eTup [(kD (.str "knows")), (kD (.str "zz")), (kD (.int 0)), (rdE 4)])])))
def FF_law_t9 (f_law_fleet : List D → R D) (f_law_pick : List D → R D) (f_law_sentence : List D → R D) (f_is_sentence : List D → R D) (f_law_odd : List D → R D) : DL.Env → R Out := fSeq (FF_law_s9 f_law_fleet f_law_pick f_law_sentence f_is_sentence f_law_odd) (FF_law_t10 f_law_fleet f_law_pick f_law_sentence f_is_sentence f_law_odd)
def FF_law_s8 (f_law_fleet : List D → R D) (f_law_pick : List D → R D) (f_law_sentence : List D → R D) (f_is_sentence : List D → R D) (f_law_odd : List D → R D) : DL.Env → R Out := (relS [] (sOwn 6 (eLst [(eTup [(kD (.str "by")), (e2 dIx (rdP 3) (kD (.int 0))), (e2 (dBin .Add) (rdP 2) (kD (.int 1)))]), (eTup [(kD (.str "by")), (kD (.str "zz")), (kD (.int 0))]), (eTup [(kD (.str "by")), (e2 dIx (rdP 3) (kD (.int 0)))]), (eTup [(kD (.str "by")), (e2 dIx (rdP 3) (kD (.int 0))), (kD (.bool true))]), (eTup [(kD (.str "not"))])])))
def FF_law_t8 (f_law_fleet : List D → R D) (f_law_pick : List D → R D) (f_law_sentence : List D → R D) (f_is_sentence : List D → R D) (f_law_odd : List D → R D) : DL.Env → R Out := fSeq (FF_law_s8 f_law_fleet f_law_pick f_law_sentence f_is_sentence f_law_odd) (FF_law_t9 f_law_fleet f_law_pick f_law_sentence f_is_sentence f_law_odd)
def FF_law_s7 (f_law_fleet : List D → R D) (f_law_pick : List D → R D) (f_law_sentence : List D → R D) (f_is_sentence : List D → R D) (f_law_odd : List D → R D) : DL.Env → R Out := (relS [1, 7, 5] (fIfS (t2 (dCmp .NotEq) (fLc (i1 dItems (rdE 5)) (.one 7) (kT true) (eC 2 f_is_sentence [(rdE 1), (rdE 7)]) [7]) (e2 (dBin .Mult) (eLst [(kD (.bool true))]) (eB dLen [(rdP 5)]))) (fSeq (relS [] (sRet (kD (.bool false))))
  sNil) sNil))
def FF_law_t7 (f_law_fleet : List D → R D) (f_law_pick : List D → R D) (f_law_sentence : List D → R D) (f_is_sentence : List D → R D) (f_law_odd : List D → R D) : DL.Env → R Out := fSeq (FF_law_s7 f_law_fleet f_law_pick f_law_sentence f_is_sentence f_law_odd) (FF_law_t8 f_law_fleet f_law_pick f_law_sentence f_is_sentence f_law_odd)
def FF_law_s6 (f_law_fleet : List D → R D) (f_law_pick : List D → R D) (f_law_sentence : List D → R D) (f_is_sentence : List D → R D) (f_law_odd : List D → R D) : DL.Env → R Out := (relS [0, 1] (fApp 5 (eC 4 f_law_sentence [(rdE 0), (kD (.int 100)), (rdE 1), (kD (.int 4))])))
def FF_law_t6 (f_law_fleet : List D → R D) (f_law_pick : List D → R D) (f_law_sentence : List D → R D) (f_is_sentence : List D → R D) (f_law_odd : List D → R D) : DL.Env → R Out := fSeq (FF_law_s6 f_law_fleet f_law_pick f_law_sentence f_is_sentence f_law_odd) (FF_law_t7 f_law_fleet f_law_pick f_law_sentence f_is_sentence f_law_odd)
def FF_law_s5 (f_law_fleet : List D → R D) (f_law_pick : List D → R D) (f_law_sentence : List D → R D) (f_is_sentence : List D → R D) (f_law_odd : List D → R D) : DL.Env → R Out := (relS [3, 4, 2] (fApp 5 (eTup [(kD (.str "knows")), (e2 dIx (rdP 3) (e1 dNeg (kD (.int 1)))), (kD (.int 0)), (eTup [(kD (.str "common")), (rdE 3), (kD (.int 0)), (eTup [(kD (.str "and")), (rdE 4), (eTup [(kD (.str "by")), (e2 dIx (rdP 3) (e1 dNeg (kD (.int 1)))), (rdE 2)])])])])))
def FF_law_t5 (f_law_fleet : List D → R D) (f_law_pick : List D → R D) (f_law_sentence : List D → R D) (f_is_sentence : List D → R D) (f_law_odd : List D → R D) : DL.Env → R Out := fSeq (FF_law_s5 f_law_fleet f_law_pick f_law_sentence f_is_sentence f_law_odd) (FF_law_t6 f_law_fleet f_law_pick f_law_sentence f_is_sentence f_law_odd)
def FF_law_s4 (f_law_fleet : List D → R D) (f_law_pick : List D → R D) (f_law_sentence : List D → R D) (f_is_sentence : List D → R D) (f_law_odd : List D → R D) : DL.Env → R Out := (relS [4, 4] (fExt 5 (eLst [(eTup [(kD (.str "common")), (eSl (rdP 3) pN (pS (kD (.int 1)))), (e2 (dBin .Add) (rdP 2) (kD (.int 1))), (rdE 4)]), (eTup [(kD (.str "not")), (eTup [(kD (.str "not")), (eTup [(kD (.str "not")), (rdE 4)])])])])))
def FF_law_t4 (f_law_fleet : List D → R D) (f_law_pick : List D → R D) (f_law_sentence : List D → R D) (f_is_sentence : List D → R D) (f_law_odd : List D → R D) : DL.Env → R Out := fSeq (FF_law_s4 f_law_fleet f_law_pick f_law_sentence f_is_sentence f_law_odd) (FF_law_t5 f_law_fleet f_law_pick f_law_sentence f_is_sentence f_law_odd)
def FF_law_s3 (f_law_fleet : List D → R D) (f_law_pick : List D → R D) (f_law_sentence : List D → R D) (f_is_sentence : List D → R D) (f_law_odd : List D → R D) : DL.Env → R Out := (relS [4, 4, 4, 4, 4, 3, 4] (sOwn 5 (eLst [(rdE 4), (eTup [(kD (.str "not")), (rdE 4)]), (eTup [(kD (.str "and")), (rdE 4), (rdE 4)]), (eTup [(kD (.str "knows")), (e2 dIx (rdP 3) (kD (.int 0))), (e2 (dBin .Add) (rdP 2) (kD (.int 1))), (rdE 4)]), (eTup [(kD (.str "all")), (rdE 3), (kD (.int 0)), (rdE 4)])])))
def FF_law_t3 (f_law_fleet : List D → R D) (f_law_pick : List D → R D) (f_law_sentence : List D → R D) (f_is_sentence : List D → R D) (f_law_odd : List D → R D) : DL.Env → R Out := fSeq (FF_law_s3 f_law_fleet f_law_pick f_law_sentence f_is_sentence f_law_odd) (FF_law_t4 f_law_fleet f_law_pick f_law_sentence f_is_sentence f_law_odd)
def FF_law_s2 (f_law_fleet : List D → R D) (f_law_pick : List D → R D) (f_law_sentence : List D → R D) (f_is_sentence : List D → R D) (f_law_odd : List D → R D) : DL.Env → R Out := (relS [0] (sSet 4 (eTup [(kD (.str "by")), (e2 dIx (rdP 3) (kD (.int 0))), (eC 3 f_law_pick [(rdE 0), (kD (.int 0)), (e2 (dBin .Add) (rdP 2) (kD (.int 1)))])])))
def FF_law_t2 (f_law_fleet : List D → R D) (f_law_pick : List D → R D) (f_law_sentence : List D → R D) (f_is_sentence : List D → R D) (f_law_odd : List D → R D) : DL.Env → R Out := fSeq (FF_law_s2 f_law_fleet f_law_pick f_law_sentence f_is_sentence f_law_odd) (FF_law_t3 f_law_fleet f_law_pick f_law_sentence f_is_sentence f_law_odd)
def FF_law_s1 (f_law_fleet : List D → R D) (f_law_pick : List D → R D) (f_law_sentence : List D → R D) (f_is_sentence : List D → R D) (f_law_odd : List D → R D) : DL.Env → R Out := (relS [] (fPar [false, false] [2, 3] (eArgs [(e2 dIx (rdP 1) (kD (.int 0))), (eB dTuple [(fLc (i1 dItems (e2 dIx (rdP 1) (kD (.int 2)))) (.one 8) (kT true) (e2 dIx (rdP 8) (kD (.int 0))) [8])])])))
def FF_law_t1 (f_law_fleet : List D → R D) (f_law_pick : List D → R D) (f_law_sentence : List D → R D) (f_is_sentence : List D → R D) (f_law_odd : List D → R D) : DL.Env → R Out := fSeq (FF_law_s1 f_law_fleet f_law_pick f_law_sentence f_is_sentence f_law_odd) (FF_law_t2 f_law_fleet f_law_pick f_law_sentence f_is_sentence f_law_odd)
def FF_law_s0 (f_law_fleet : List D → R D) (f_law_pick : List D → R D) (f_law_sentence : List D → R D) (f_is_sentence : List D → R D) (f_law_odd : List D → R D) : DL.Env → R Out := (relS [0] (sSet 1 (eC 3 f_law_fleet [(rdE 0), (kD (.int 20)), (kD (.int 4))])))
def FF_law_t0 (f_law_fleet : List D → R D) (f_law_pick : List D → R D) (f_law_sentence : List D → R D) (f_is_sentence : List D → R D) (f_law_odd : List D → R D) : DL.Env → R Out := fSeq (FF_law_s0 f_law_fleet f_law_pick f_law_sentence f_is_sentence f_law_odd) (FF_law_t1 f_law_fleet f_law_pick f_law_sentence f_is_sentence f_law_odd)
def FF_law (f_law_fleet : List D → R D) (f_law_pick : List D → R D) (f_law_sentence : List D → R D) (f_is_sentence : List D → R D) (f_law_odd : List D → R D) : List D → R D := fRun 9 (FF_law_t0 f_law_fleet f_law_pick f_law_sentence f_is_sentence f_law_odd)
def C_law_odd : List D → R D := FF_law_odd C_law_pick
abbrev fn_is_whole (k : Nat) : List D → R D := runD (prg.T 100000 60 k) d_is_whole.N 100000 61 (defScope d_is_whole.st) (defBody d_is_whole.st)
abbrev fn_is_name (k : Nat) : List D → R D := runD (prg.T 100000 60 k) d_is_name.N 100000 61 (defScope d_is_name.st) (defBody d_is_name.st)
abbrev fn_is_cell (k : Nat) : List D → R D := runD (prg.T 100000 60 k) d_is_cell.N 100000 61 (defScope d_is_cell.st) (defBody d_is_cell.st)
abbrev fn_is_rising (k : Nat) : List D → R D := runD (prg.T 100000 60 k) d_is_rising.N 100000 61 (defScope d_is_rising.st) (defBody d_is_rising.st)
abbrev fn_is_islands (k : Nat) : List D → R D := runD (prg.T 100000 60 k) d_is_islands.N 100000 61 (defScope d_is_islands.st) (defBody d_is_islands.st)
abbrev fn_is_ship (k : Nat) : List D → R D := runD (prg.T 100000 60 k) d_is_ship.N 100000 61 (defScope d_is_ship.st) (defBody d_is_ship.st)
abbrev fn_is_mist (k : Nat) : List D → R D := runD (prg.T 100000 60 k) d_is_mist.N 100000 61 (defScope d_is_mist.st) (defBody d_is_mist.st)
abbrev fn_is_fleet (k : Nat) : List D → R D := runD (prg.T 100000 60 k) d_is_fleet.N 100000 61 (defScope d_is_fleet.st) (defBody d_is_fleet.st)
abbrev fn_look_fleet (k : Nat) : List D → R D := runD (prg.T 100000 60 k) d_look_fleet.N 100000 61 (defScope d_look_fleet.st) (defBody d_look_fleet.st)
abbrev fn_plain_names (k : Nat) : List D → R D := runD (prg.T 100000 60 k) d_plain_names.N 100000 61 (defScope d_plain_names.st) (defBody d_plain_names.st)
abbrev fn_are_names (k : Nat) : List D → R D := runD (prg.T 100000 60 k) d_are_names.N 100000 61 (defScope d_are_names.st) (defBody d_are_names.st)
abbrev fn_deep (k : Nat) : List D → R D := runD (prg.T 100000 60 k) d_deep.N 100000 61 (defScope d_deep.st) (defBody d_deep.st)
abbrev fn_is_hour_of (k : Nat) : List D → R D := runD (prg.T 100000 60 k) d_is_hour_of.N 100000 61 (defScope d_is_hour_of.st) (defBody d_is_hour_of.st)
abbrev fn_is_knower (k : Nat) : List D → R D := runD (prg.T 100000 60 k) d_is_knower.N 100000 61 (defScope d_is_knower.st) (defBody d_is_knower.st)
abbrev fn_is_sentence (k : Nat) : List D → R D := runD (prg.T 100000 60 k) d_is_sentence.N 100000 61 (defScope d_is_sentence.st) (defBody d_is_sentence.st)
abbrev fn_law_pick (k : Nat) : List D → R D := runD (prg.T 100000 60 k) d_law_pick.N 100000 61 (defScope d_law_pick.st) (defBody d_law_pick.st)
abbrev fn_law_fleet (k : Nat) : List D → R D := runD (prg.T 100000 60 k) d_law_fleet.N 100000 61 (defScope d_law_fleet.st) (defBody d_law_fleet.st)
abbrev fn_law_sentence (k : Nat) : List D → R D := runD (prg.T 100000 60 k) d_law_sentence.N 100000 61 (defScope d_law_sentence.st) (defBody d_law_sentence.st)
abbrev fn_law_odd (k : Nat) : List D → R D := runD (prg.T 100000 60 k) d_law_odd.N 100000 61 (defScope d_law_odd.st) (defBody d_law_odd.st)
abbrev fn_law (k : Nat) : List D → R D := runD (prg.T 100000 60 k) d_law.N 100000 61 (defScope d_law.st) (defBody d_law.st)
theorem ff_is_whole (k : Nat) : fn_is_whole (k + 1) = FF_is_whole := by kernel_rfl
theorem ff_is_name (k : Nat) : fn_is_name (k + 1) = FF_is_name := by kernel_rfl
theorem ff_is_cell (k : Nat) : fn_is_cell (k + 1) = FF_is_cell (fn_is_whole k) := by kernel_rfl
theorem ff_is_rising (k : Nat) : fn_is_rising (k + 1) = FF_is_rising := by kernel_rfl
theorem ff_is_islands (k : Nat) : fn_is_islands (k + 1) = FF_is_islands (fn_is_cell k) (fn_is_rising k) := by kernel_rfl
theorem ff_is_ship (k : Nat) : fn_is_ship (k + 1) = FF_is_ship (fn_is_name k) (fn_is_whole k) (fn_is_cell k) := by kernel_rfl
theorem ff_is_mist (k : Nat) : fn_is_mist (k + 1) = FF_is_mist (fn_is_whole k) (fn_is_cell k) := by kernel_rfl
theorem ff_is_fleet (k : Nat) : fn_is_fleet (k + 1) = FF_is_fleet (fn_is_whole k) (fn_is_islands k) (fn_is_ship k) (fn_is_rising k) (fn_is_mist k) := by kernel_rfl
theorem ff_look_fleet (k : Nat) : fn_look_fleet (k + 1) = FF_look_fleet (fn_is_fleet k) := by kernel_rfl
theorem ff_plain_names (k : Nat) : fn_plain_names (k + 1) = FF_plain_names := by kernel_rfl
theorem ff_are_names (k : Nat) : fn_are_names (k + 1) = FF_are_names (fn_is_name k) (fn_is_rising k) (fn_plain_names k) := by kernel_rfl
theorem ff_deep (k : Nat) : fn_deep (k + 1) = FF_deep (fn_is_hour_of k) (fn_deep k) (fn_is_whole k) (fn_is_knower k) := by kernel_rfl
theorem ff_is_hour_of (k : Nat) : fn_is_hour_of (k + 1) = FF_is_hour_of (fn_is_name k) (fn_plain_names k) (fn_is_whole k) := by kernel_rfl
theorem ff_is_knower (k : Nat) : fn_is_knower (k + 1) = FF_is_knower (fn_is_name k) (fn_plain_names k) (fn_are_names k) := by kernel_rfl
theorem ff_is_sentence (k : Nat) : fn_is_sentence (k + 1) = FF_is_sentence (fn_look_fleet k) (fn_deep k) := by kernel_rfl
theorem ff_law_pick (k : Nat) : fn_law_pick (k + 1) = FF_law_pick := by kernel_rfl
theorem ff_law_fleet (k : Nat) : fn_law_fleet (k + 1) = FF_law_fleet (fn_law_pick k) := by kernel_rfl
theorem ff_law_sentence (k : Nat) : fn_law_sentence (k + 1) = FF_law_sentence (fn_law_pick k) (fn_law_sentence k) := by kernel_rfl
theorem ff_law_odd (k : Nat) : fn_law_odd (k + 1) = FF_law_odd (fn_law_pick k) := by kernel_rfl
theorem ff_law (k : Nat) : fn_law (k + 1) = FF_law (fn_law_fleet k) (fn_law_pick k) (fn_law_sentence k) (fn_is_sentence k) (fn_law_odd k) := by kernel_rfl
theorem c_is_whole (k : Nat) : fn_is_whole (k + 1) = C_is_whole := ff_is_whole k
theorem c_is_name (k : Nat) : fn_is_name (k + 1) = C_is_name := ff_is_name k
theorem c_is_rising (k : Nat) : fn_is_rising (k + 1) = C_is_rising := ff_is_rising k
theorem c_plain_names (k : Nat) : fn_plain_names (k + 1) = C_plain_names := ff_plain_names k
theorem c_law_pick (k : Nat) : fn_law_pick (k + 1) = C_law_pick := ff_law_pick k
theorem c_is_cell (k : Nat) : fn_is_cell (k + 2) = C_is_cell := (ff_is_cell (k + 1)).trans (congrArg FF_is_cell (c_is_whole (k + 0)))
theorem c_are_names (k : Nat) : fn_are_names (k + 2) = C_are_names := (ff_are_names (k + 1)).trans (congr (congr (congrArg FF_are_names (c_is_name (k + 0))) (c_is_rising (k + 0))) (c_plain_names (k + 0)))
theorem c_is_hour_of (k : Nat) : fn_is_hour_of (k + 2) = C_is_hour_of := (ff_is_hour_of (k + 1)).trans (congr (congr (congrArg FF_is_hour_of (c_is_name (k + 0))) (c_plain_names (k + 0))) (c_is_whole (k + 0)))
theorem c_law_fleet (k : Nat) : fn_law_fleet (k + 2) = C_law_fleet := (ff_law_fleet (k + 1)).trans (congrArg FF_law_fleet (c_law_pick (k + 0)))
theorem c_law_odd (k : Nat) : fn_law_odd (k + 2) = C_law_odd := (ff_law_odd (k + 1)).trans (congrArg FF_law_odd (c_law_pick (k + 0)))
theorem c_is_islands (k : Nat) : fn_is_islands (k + 3) = C_is_islands := (ff_is_islands (k + 2)).trans (congr (congrArg FF_is_islands (c_is_cell (k + 0))) (c_is_rising (k + 1)))
theorem c_is_ship (k : Nat) : fn_is_ship (k + 3) = C_is_ship := (ff_is_ship (k + 2)).trans (congr (congr (congrArg FF_is_ship (c_is_name (k + 1))) (c_is_whole (k + 1))) (c_is_cell (k + 0)))
theorem c_is_mist (k : Nat) : fn_is_mist (k + 3) = C_is_mist := (ff_is_mist (k + 2)).trans (congr (congrArg FF_is_mist (c_is_whole (k + 1))) (c_is_cell (k + 0)))
theorem c_is_knower (k : Nat) : fn_is_knower (k + 3) = C_is_knower := (ff_is_knower (k + 2)).trans (congr (congr (congrArg FF_is_knower (c_is_name (k + 1))) (c_plain_names (k + 1))) (c_are_names (k + 0)))
theorem c_is_fleet (k : Nat) : fn_is_fleet (k + 4) = C_is_fleet := (ff_is_fleet (k + 3)).trans (congr (congr (congr (congr (congrArg FF_is_fleet (c_is_whole (k + 2))) (c_is_islands (k + 0))) (c_is_ship (k + 0))) (c_is_rising (k + 2))) (c_is_mist (k + 0)))
theorem c_look_fleet (k : Nat) : fn_look_fleet (k + 5) = C_look_fleet := (ff_look_fleet (k + 4)).trans (congrArg FF_look_fleet (c_is_fleet (k + 0)))
end Lw
namespace Lw
open PySem PySem.Spec PyProof.Rows L2 DL
theorem s_deep {F : Fl} (hF : F.Ok) : ∀ (n j : Nat), SpDeep F (fn_deep (j + n + 4)) n
  | 0, j => fun h hm => by
    have e : fn_deep (j + 0 + 4) = FF_deep C_is_hour_of (fn_deep (j + 3)) C_is_whole C_is_knower := by
      rw [← c_is_hour_of (j + 1), ← c_is_whole (j + 2), ← c_is_knower j]
      exact ff_deep (j + 3)
    rw [e]
    exact deep_zero h hm
  | n + 1, j => fun h hm => by
    have e : fn_deep (j + (n + 1) + 4) = FF_deep C_is_hour_of (fn_deep (j + n + 4)) C_is_whole C_is_knower := by
      rw [← c_is_hour_of (j + n + 2), ← c_is_whole (j + n + 3), ← c_is_knower (j + n + 1)]
      exact ff_deep (j + n + 4)
    rw [e]
    exact deep_step hF (s_deep hF n j) h hm
theorem s_sentence {F : Fl} (hF : F.Ok) {m : Nat} {t : D} (h : okD m t = true) (hm : m ≤ 64) : fn_is_sentence 28 [F.D, t] = .ok (.bool (deepO F.last F.names 4 t).isSome) := by
  have hl : fn_look_fleet 27 [F.D] = .ok .none := by
    rw [c_look_fleet 22]
    exact hF.look
  have hd : fn_deep 27 [F.D, t, .int 4] = .ok (optD (deepO F.last F.names 4 t)) := s_deep hF 4 19 h hm
  rw [ff_is_sentence 27]
  cases e : deepO F.last F.names 4 t with
  | none =>
    rw [e] at hd
    simp -implicitDefEqProofs [FF_is_sentence, relR1_succ, rdE_succ, hl, hd, optD, dCmp, dIs, DL.isNon]
  | some d =>
    rw [e] at hd
    simp -implicitDefEqProofs [FF_is_sentence, relR1_succ, rdE_succ, hl, hd, optD, dCmp, dIs, DL.isNon]
theorem s_sent (ns : List Int) (hn : ns.length ≤ 63) {F : Fl} (hF : F.Ok) : ∀ (n j : Nat) (a : Int), 0 ≤ a → a + 40 * (n : Int) < 90000 → ∃ t, fn_law_sentence (j + n + 2) [scr ns, .int a, F.D, .int ((n + 1 : Nat) : Int)] = .ok t ∧ Sent F (n + 1) t
  | 0, j, a, h0, h1 => by
    have e : fn_law_sentence (j + 0 + 2) = FF_law_sentence C_law_pick (fn_law_sentence (j + 1)) := by
      rw [← c_law_pick j]
      exact ff_law_sentence (j + 1)
    rw [e]
    exact sent_step ns hn hF h0 (by omega) fun h => absurd rfl h
  | n + 1, j, a, h0, h1 => by
    have e : fn_law_sentence (j + (n + 1) + 2) = FF_law_sentence C_law_pick (fn_law_sentence (j + n + 2)) := by
      rw [← c_law_pick (j + n + 1)]
      exact ff_law_sentence (j + n + 2)
    rw [e]
    refine sent_step ns hn hF h0 (by omega) fun _ b hb => ?_
    exact s_sent ns hn hF n j b (by rcases hb with rfl | rfl <;> omega) (by rcases hb with rfl | rfl <;> omega)
/-! ### the rows -/
abbrev W (x : String) : D := .str x
def oneD (nm : List Str) (h : Nat) : D := .tuple [W "by", .str (nm.headD ⟨#[]⟩), .int h]
abbrev nmT (nm : List Str) : D := .tuple (nmD nm)
abbrev nt (t : D) : D := .tuple [W "not", t]
def rows1 (l h : Nat) (nm : List Str) : List D := [oneD nm h, nt (oneD nm h), .tuple [W "and", oneD nm h, oneD nm h], .tuple [W "knows", .str (nm.headD ⟨#[]⟩), .int (l + 1), oneD nm h], .tuple [W "all", nmT nm, .int 0, oneD nm h]]
def rows2 (l h : Nat) (nm : List Str) : List D := [.tuple [W "common", nmT (nm.take 1), .int (l + 1), oneD nm h], nt (nt (nt (oneD nm h)))]
def row3 (l h : Nat) (nm : List Str) : D := .tuple [W "knows", .str (nm.getLastD ⟨#[]⟩), .int 0, .tuple [W "common", nmT nm, .int 0, .tuple [W "and", oneD nm h, .tuple [W "by", .str (nm.getLastD ⟨#[]⟩), .int l]]]]
def rowsD (l h : Nat) (nm : List Str) : List D := (rows1 l h nm ++ rows2 l h nm) ++ [row3 l h nm]
def bad1D (l h : Nat) (nm : List Str) : List D := [.tuple [W "by", .str (nm.headD ⟨#[]⟩), .int (l + 1)], .tuple [W "by", W "zz", .int 0], .tuple [W "by", .str (nm.headD ⟨#[]⟩)], .tuple [W "by", .str (nm.headD ⟨#[]⟩), .bool true], .tuple [W "not"]]
def bad2D (l h : Nat) (nm : List Str) : List D := [.tuple [W "and", oneD nm h], .tuple [W "and", oneD nm h, oneD nm h, oneD nm h], .tuple [W "knows", nmT nm, .int 0, oneD nm h], .tuple [W "knows", W "zz", .int 0, oneD nm h]]
def bad3D (l h : Nat) (nm : List Str) : List D := [.tuple [W "or", oneD nm h, oneD nm h], .tuple [W "not", .none]]
def bad4D (l h : Nat) (nm : List Str) : List D := [.tuple [W "knows", .str (nm.headD ⟨#[]⟩), .int (l + 2), oneD nm h], .tuple [W "all", .str (nm.headD ⟨#[]⟩), .int 0, oneD nm h], .tuple [W "all", .tuple [], .int 0, oneD nm h], .tuple [W "not", oneD nm h, oneD nm h]]
def bad5D (l h : Nat) (nm : List Str) : List D := [.tuple [W "all", .tuple (nmD nm).reverse, .int 0, oneD nm h], .tuple [W "all", .tuple (nmD nm ++ [W "zz"]), .int 0, oneD nm h], .tuple [W "common", .list (nmD nm), .int 0, oneD nm h], .tuple []]
def bad6D (l h : Nat) (nm : List Str) : List D := [nt (nt (nt (nt (oneD nm h)))), .tuple [W "all", nmT nm, .int (-1), oneD nm h], .tuple [W "all", nmT nm, .int 0, .none]]
def bad7D (h : Nat) (nm : List Str) : D := .list [W "not", oneD nm h]
def bad8D (h : Nat) (nm : List Str) : D := .tuple [W "and", oneD nm h, nt (nt (nt (oneD nm h)))]
def badD (l h : Nat) (nm : List Str) : List D := (((((((bad1D l h nm ++ bad2D l h nm) ++ bad3D l h nm) ++ bad4D l h nm) ++ bad5D l h nm) ++ bad6D l h nm) ++ [bad7D h nm]) ++ [bad8D h nm])
def oddD (x : Int) : List D := [.none, .bool true, .str ⟨#[]⟩, W "A", W "5", .list [.int 1], .tuple [.int 1], .int x, W "abcdefghi", .list [.list [W "a"]], .int 1000000000, .tuple [W "a"]]
theorem rows_all : ((List.range 4).all fun l => (List.range 4).all fun h => (List.range 5).all fun n => decide (l < 1) || decide (l < h) || decide (n < 2) || (rowsD l h (five.take n)).all fun t => okD 10 t && (deepO l (five.take n) 4 t).isSome) = true := by decide +kernel
theorem bad_all : ((List.range 4).all fun l => (List.range 4).all fun h => (List.range 5).all fun n => decide (l < 1) || decide (l < h) || decide (n < 2) || (badD l h (five.take n)).all fun t => okD 10 t && (deepO l (five.take n) 4 t).isNone) = true := by decide +kernel
theorem grid {p : Nat → Nat → Nat → Bool} (e : ((List.range 4).all fun l => (List.range 4).all fun h => (List.range 5).all fun n => decide (l < 1) || decide (l < h) || decide (n < 2) || p l h n) = true) {l h n : Nat} (h1 : l < 4) (h2 : 1 ≤ l) (h3 : h ≤ l) (h4 : n < 5) (h5 : 2 ≤ n) : p l h n = true := by
  simp only [List.all_eq_true, List.mem_range, Bool.or_eq_true, decide_eq_true_eq] at e
  rcases e l h1 h (by omega) n h4 with ((q | q) | q) | q
  · omega
  · omega
  · omega
  · exact q
theorem rows_ok {l h n : Nat} (h1 : l < 4) (h2 : 1 ≤ l) (h3 : h ≤ l) (h4 : n < 5) (h5 : 2 ≤ n) : ∀ t ∈ rowsD l h (five.take n), okD 10 t = true ∧ (deepO l (five.take n) 4 t).isSome = true := by
  have := grid rows_all h1 h2 h3 h4 h5
  simpa only [List.all_eq_true, Bool.and_eq_true] using this
theorem bad_ok {l h n : Nat} (h1 : l < 4) (h2 : 1 ≤ l) (h3 : h ≤ l) (h4 : n < 5) (h5 : 2 ≤ n) : ∀ t ∈ badD l h (five.take n), okD 10 t = true ∧ (deepO l (five.take n) 4 t).isNone = true := by
  have := grid bad_all h1 h2 h3 h4 h5
  simpa only [List.all_eq_true, Bool.and_eq_true] using this
theorem odd_ok (x : Int) (l : Nat) (nm : List Str) : ((oddD x).all fun t => okD 10 t && (deepO l nm 4 t).isNone) = true := by kernel_rfl
end Lw
namespace Lw
open PySem PySem.Spec PyProof.Rows L2 DL
section
variable {S Q : List D → R D}
abbrev N3 (n : Nat) : Prop := n = 2 ∨ n = 3 ∨ n = 4
theorem law1 (s0 : Slot) (F : Fl) : FF_law_s1 C_law_fleet C_law_pick S Q C_law_odd [s0, .va F.D, .un, .un, .un, .un, .un, .un, .un] = .ok (.nx [s0, .va F.D, .va (.int F.last), .va (nmT F.names), .un, .un, .un, .un, .un]) := by
  have hix : dIx F.D (.int 2) = .ok (.tuple (F.ships.map Ship.D)) := by simp [Fl.D]
  have key : lcLoop (.one 8) (kT true) (e2 dIx (rdP 8) (kD (.int 0))) [s0, .va F.D, .un, .un, .un, .un, .un, .un, .un] (F.ships.map Ship.D) = .ok (nmD F.names) := by
    rw [nmD, Fl.names, List.map_map]
    refine lc_map Ship.D (fun s => .str s.name) _ fun s _ => ?_
    simp -implicitDefEqProofs [rdP_succ, Ship.D]
  simp -implicitDefEqProofs only [FF_law_s1, relS_ap, relR_nil, fPar_ap, eArgs_cons, eArgs_nil, e2_ap, rdP_succ, rdP_zero, kD_ap, R.ok_bind, fst_D, eB_ap, fLc_ap, i1_ap, hix, dItems_tuple, wipeR_cons, wipeR_nil, List.set, key, calm_ok, dTuple_list, setFl]
theorem hd_ix {n : Nat} (h : N3 n) : dIx (nmT (five.take n)) (.int 0) = .ok (.str ((five.take n).headD ⟨#[]⟩)) := by
  rcases h with rfl | rfl | rfl <;> kernel_rfl
theorem law2 (ns : List Int) (s1 : Slot) {n l : Nat} {h : Nat} (hn : N3 n) (hp : C_law_pick [scr ns, .int 0, .int ((l : Int) + 1)] = .ok (.int h)) : FF_law_s2 C_law_fleet C_law_pick S Q C_law_odd [.va (scr ns), s1, .va (.int l), .va (nmT (five.take n)), .un, .un, .un, .un, .un] = .ok (.nx [.va (scr ns), s1, .va (.int l), .va (nmT (five.take n)), .va (oneD (five.take n) h), .un, .un, .un, .un]) := by
  have := hd_ix hn
  simp -implicitDefEqProofs only [FF_law_s2, relS_ap, relR_cons, relR1_0va, relR_nil, sSet_ap, eTup_ap, eArgs_cons, eArgs_nil, kD_ap, e2_ap, rdP_succ, rdP_zero, R.ok_bind, this, eC_ap, rdE_zero, dAdd_int, ari_3, hp, okLen_3, List.set, oneD]
theorem law3 (s0 s1 : Slot) {n l h : Nat} (hn : N3 n) : FF_law_s3 C_law_fleet C_law_pick S Q C_law_odd [s0, s1, .va (.int l), .va (nmT (five.take n)), .va (oneD (five.take n) h), .un, .un, .un, .un] = .ok (.nx [s0, s1, .va (.int l), .va (nmT (five.take n)), .va (oneD (five.take n) h), .ow (.list (rows1 l h (five.take n))), .un, .un, .un]) := by
  rcases hn with rfl | rfl | rfl <;> kernel_rfl
theorem law4 (s0 s1 : Slot) {n l h : Nat} (hn : N3 n) : FF_law_s4 C_law_fleet C_law_pick S Q C_law_odd [s0, s1, .va (.int l), .va (nmT (five.take n)), .va (oneD (five.take n) h), .ow (.list (rows1 l h (five.take n))), .un, .un, .un] = .ok (.nx [s0, s1, .va (.int l), .va (nmT (five.take n)), .va (oneD (five.take n) h), .ow (.list (rows1 l h (five.take n) ++ rows2 l h (five.take n))), .un, .un, .un]) := by
  rcases hn with rfl | rfl | rfl <;> kernel_rfl
theorem law5 (s0 s1 : Slot) {n l h : Nat} (hn : N3 n) : FF_law_s5 C_law_fleet C_law_pick S Q C_law_odd [s0, s1, .va (.int l), .va (nmT (five.take n)), .va (oneD (five.take n) h), .ow (.list (rows1 l h (five.take n) ++ rows2 l h (five.take n))), .un, .un, .un] = .ok (.nx [s0, s1, .va (.int l), .va (nmT (five.take n)), .va (oneD (five.take n) h), .ow (.list (rowsD l h (five.take n))), .un, .un, .un]) := by
  rcases hn with rfl | rfl | rfl <;> kernel_rfl
theorem law6 (ns : List Int) (F : Fl) (s2 s3 s4 : Slot) {ds : List D} {t : D} (hl : ds.length < 1000000) (hs : S [scr ns, .int 100, F.D, .int 4] = .ok t) : FF_law_s6 C_law_fleet C_law_pick S Q C_law_odd [.va (scr ns), .va F.D, s2, s3, s4, .ow (.list ds), .un, .un, .un] = .ok (.nx [.va (scr ns), .va F.D, s2, s3, s4, .ow (.list (ds ++ [t])), .un, .un, .un]) := by
  rw [FF_law_s6, relS_ap]
  have hrel : relR [0, 1] [.va (scr ns), .va F.D, s2, s3, s4, .ow (.list ds), .un, .un, .un] = [.va (scr ns), .va F.D, s2, s3, s4, .ow (.list ds), .un, .un, .un] := by
    simp -implicitDefEqProofs only [relR_cons, relR_nil, relR1_succ, relR1_0va]
  rw [hrel, app_ok (ds := ds) (d := t) rfl ?_ hl]
  · rfl
  · simp -implicitDefEqProofs only [eC_ap, eArgs_cons, eArgs_nil, rdE_zero, rdE_succ, kD_ap, R.ok_bind, ari_4, hs]
theorem sent_loop {F : Fl} {ρ : DL.Env} (b : Bool) {ds : List D} (hr : rdE 1 ρ = .ok F.D) (hl : 8 ≤ ρ.length) (h : ∀ t ∈ ds, Q [F.D, t] = .ok (.bool b)) : lcLoop (.one 7) (kT true) (eC 2 Q [(rdE 1), (rdE 7)]) ρ ds = .ok (List.replicate ds.length (.bool b)) := by
  rw [lc_one (fun _ => .bool b)]
  · congr 1
    rw [List.map_const']
  · intro d hd
    have h1 : rdE 1 (ρ.set 7 (.va d)) = .ok F.D := by
      rw [← hr]
      simp [rdE]
    have h7 : rdE 7 (ρ.set 7 (.va d)) = .ok d := by
      have : 7 < ρ.length := by omega
      simp [rdE, this]
    simp -implicitDefEqProofs only [eC_ap, eArgs_cons, eArgs_nil, h1, h7, R.ok_bind, ari_2, h d hd]
theorem law7 (F : Fl) (s0 s2 s3 s4 : Slot) {ds : List D} (hl : ds.length = 9) (h : ∀ t ∈ ds, Q [F.D, t] = .ok (.bool true)) : FF_law_s7 C_law_fleet C_law_pick S Q C_law_odd [s0, .va F.D, s2, s3, s4, .ow (.list ds), .un, .un, .un] = .ok (.nx [s0, .va F.D, s2, s3, s4, .va (.list ds), .un, .un, .un]) := by
  have key := sent_loop (Q := Q) (F := F) (ρ := [s0, .va F.D, s2, s3, s4, .va (.list ds), .un, .un, .un]) true (ds := ds) rfl (by simp) h
  rw [hl] at key
  have hlen : dLen [.list ds] = .ok (.int 9) := by rw [dLen_list, hl]; rfl
  have hm : dBin .Mult (.list [.bool true]) (.int 9) = .ok (.list (List.replicate 9 (.bool true))) := by kernel_rfl
  have hq : dCmp .NotEq (.list (List.replicate 9 (.bool true))) (.list (List.replicate 9 (.bool true))) = .ok false := by kernel_rfl
  simp -implicitDefEqProofs only [FF_law_s7, relS_ap, relR_cons, relR1_succ, relR1_0va, relR1_0un, relR1_0ow, relR_nil, fIfS_ap, t2_ap, fLc_ap, i1_ap, rdE_succ, rdE_zero, R.ok_bind, dItems_list, wipeR_cons, wipeR_nil, List.set, key, calm_ok, e2_ap, eLst_ap, eArgs_cons, eArgs_nil, kD_ap, okLen_1, eB_ap, rdP_succ, rdP_zero, hlen, hm, hq, Bool.false_eq_true, if_false, sNil_ap]
abbrev E6 (s0 s1 s5 : Slot) (l n h : Nat) (b : Slot) : DL.Env := [s0, s1, .va (.int l), .va (nmT (five.take n)), .va (oneD (five.take n) h), s5, b, .un, .un]
theorem law8 (s0 s1 s5 : Slot) {n l h : Nat} (hn : N3 n) : FF_law_s8 C_law_fleet C_law_pick S Q C_law_odd (E6 s0 s1 s5 l n h .un) = .ok (.nx (E6 s0 s1 s5 l n h (.ow (.list (bad1D l h (five.take n)))))) := by
  rcases hn with rfl | rfl | rfl <;> kernel_rfl
theorem law9 (s0 s1 s5 : Slot) {n l h : Nat} (hn : N3 n) : FF_law_s9 C_law_fleet C_law_pick S Q C_law_odd (E6 s0 s1 s5 l n h (.ow (.list (bad1D l h (five.take n))))) = .ok (.nx (E6 s0 s1 s5 l n h (.ow (.list (bad1D l h (five.take n) ++ bad2D l h (five.take n)))))) := by
  rcases hn with rfl | rfl | rfl <;> kernel_rfl
theorem ext_ok {i : Nat} {fe : DL.Env → R D} {ρ : DL.Env} {ds es : List D} (h1 : ρ[i]? = some (.ow (.list ds))) (h2 : fe ρ = .ok (.list es)) (h3 : ds.length + es.length < 1000000) : fExt i fe ρ = .ok (.nx (ρ.set i (.ow (.list (ds ++ es))))) := by
  unfold fExt
  rw [h1]
  simp only [h2, R.ok_bind]
  rw [if_pos h3]
theorem law10 (s0 s1 s5 : Slot) {n l h : Nat} (hn : N3 n) {ds : List D} (hl : ds.length < 1000) : FF_law_s10 C_law_fleet C_law_pick S Q C_law_odd (E6 s0 s1 s5 l n h (.ow (.list ds))) = .ok (.nx (E6 s0 s1 s5 l n h (.ow (.list (ds ++ bad3D l h (five.take n)))))) := by
  rw [FF_law_s10, relS_ap]
  rw [ext_ok (ds := ds) (es := bad3D l h (five.take n)) rfl ?_ (by simp [bad3D]; omega)]
  · rcases hn with rfl | rfl | rfl <;> kernel_rfl
  · rcases hn with rfl | rfl | rfl <;> kernel_rfl
theorem law11 (s0 s1 s5 : Slot) {n l h : Nat} (hn : N3 n) {ds : List D} (hl : ds.length < 1000) : FF_law_s11 C_law_fleet C_law_pick S Q C_law_odd (E6 s0 s1 s5 l n h (.ow (.list ds))) = .ok (.nx (E6 s0 s1 s5 l n h (.ow (.list (ds ++ bad4D l h (five.take n)))))) := by
  rw [FF_law_s11, relS_ap]
  rw [ext_ok (ds := ds) (es := bad4D l h (five.take n)) rfl ?_ (by simp [bad4D]; omega)]
  · rcases hn with rfl | rfl | rfl <;> kernel_rfl
  · rcases hn with rfl | rfl | rfl <;> kernel_rfl
theorem law12 (s0 s1 s5 : Slot) {n l h : Nat} (hn : N3 n) {ds : List D} (hl : ds.length < 1000) : FF_law_s12 C_law_fleet C_law_pick S Q C_law_odd (E6 s0 s1 s5 l n h (.ow (.list ds))) = .ok (.nx (E6 s0 s1 s5 l n h (.ow (.list (ds ++ bad5D l h (five.take n)))))) := by
  rw [FF_law_s12, relS_ap]
  rw [ext_ok (ds := ds) (es := bad5D l h (five.take n)) rfl ?_ (by simp [bad5D]; omega)]
  · rcases hn with rfl | rfl | rfl <;> kernel_rfl
  · rcases hn with rfl | rfl | rfl <;> kernel_rfl
theorem law13 (s0 s1 s5 : Slot) {n l h : Nat} (hn : N3 n) {ds : List D} (hl : ds.length < 1000) : FF_law_s13 C_law_fleet C_law_pick S Q C_law_odd (E6 s0 s1 s5 l n h (.ow (.list ds))) = .ok (.nx (E6 s0 s1 s5 l n h (.ow (.list (ds ++ bad6D l h (five.take n)))))) := by
  rw [FF_law_s13, relS_ap]
  rw [ext_ok (ds := ds) (es := bad6D l h (five.take n)) rfl ?_ (by simp [bad6D]; omega)]
  · rcases hn with rfl | rfl | rfl <;> kernel_rfl
  · rcases hn with rfl | rfl | rfl <;> kernel_rfl
theorem law14 (s0 s1 s5 : Slot) {n l h : Nat} (hn : N3 n) {ds : List D} (hl : ds.length < 1000) : FF_law_s14 C_law_fleet C_law_pick S Q C_law_odd (E6 s0 s1 s5 l n h (.ow (.list ds))) = .ok (.nx (E6 s0 s1 s5 l n h (.ow (.list (ds ++ [bad7D h (five.take n)]))))) := by
  rw [FF_law_s14, relS_ap]
  rw [app_ok (ds := ds) (d := bad7D h (five.take n)) rfl ?_ (by omega)]
  · rcases hn with rfl | rfl | rfl <;> kernel_rfl
  · rcases hn with rfl | rfl | rfl <;> kernel_rfl
theorem law15 (s0 s1 s5 : Slot) {n l h : Nat} (hn : N3 n) {ds : List D} (hl : ds.length < 1000) : FF_law_s15 C_law_fleet C_law_pick S Q C_law_odd (E6 s0 s1 s5 l n h (.ow (.list ds))) = .ok (.nx (E6 s0 s1 s5 l n h (.ow (.list (ds ++ [bad8D h (five.take n)]))))) := by
  rw [FF_law_s15, relS_ap]
  rw [app_ok (ds := ds) (d := bad8D h (five.take n)) rfl ?_ (by omega)]
  · rcases hn with rfl | rfl | rfl <;> kernel_rfl
  · rcases hn with rfl | rfl | rfl <;> kernel_rfl
theorem odd_made (ns : List Int) (hn : ns.length ≤ 63) : ∃ x : Int, C_law_odd [scr ns, .int 300] = .ok (.list (oddD x)) := by
  obtain ⟨e, p0, p1⟩ := pk_ok ns (k := 300) (many := 9) hn (by decide) (by decide) (by decide)
  refine ⟨-1 - pk ns 300 9, ?_⟩
  have h9 : dBin .Pow (.int 10) (.int 9) = .ok (.int 1000000000) := by kernel_rfl
  have h12 : ∀ a b : List D, a.length = 9 → b.length = 3 → dBin .Add (.list a) (.list b) = .ok (.list (a ++ b)) := fun a b ha hb => by
    have : a.length + b.length ≤ sizeLine := by rw [ha, hb]; decide
    simp only [dBin, if_pos this]
  have k9 : ∀ (x1 x2 x3 x4 x5 x6 x7 x8 x9 : D) (f : List D → D), okLen [x1, x2, x3, x4, x5, x6, x7, x8, x9] f = .ok (f [x1, x2, x3, x4, x5, x6, x7, x8, x9]) := fun _ _ _ _ _ _ _ _ _ _ => rfl
  unfold C_law_odd FF_law_odd
  rw [fRun_ap, fSeq_ap]
  simp -implicitDefEqProofs [relR1_succ, rdE_succ, rdP_succ, e, k9, h9, h12, oddD]
  rfl
theorem law16 (ns : List Int) (F : Fl) (s2 s3 s4 s5 : Slot) {ds os : List D} (hl : ds.length = 24) (ho : os.length = 12) (hod : C_law_odd [scr ns, .int 300] = .ok (.list os)) (h : ∀ t ∈ ds ++ os, Q [F.D, t] = .ok (.bool false)) : FF_law_s16 C_law_fleet C_law_pick S Q C_law_odd [.va (scr ns), .va F.D, s2, s3, s4, s5, .ow (.list ds), .un, .un] = .ok (.rt (.bool true)) := by
  have key := sent_loop (Q := Q) (F := F) (ρ := [.va (scr ns), .va F.D, s2, s3, s4, s5, .ow (.list ds), .un, .un]) false (ds := ds ++ os) rfl (by simp) h
  rw [List.length_append, hl, ho] at key
  have hlen : dLen [.list ds] = .ok (.int 24) := by rw [dLen_list, hl]; rfl
  have hadd : dBin .Add (.list ds) (.list os) = .ok (.list (ds ++ os)) := by
    have : ds.length + os.length ≤ sizeLine := by rw [hl, ho]; decide
    simp only [dBin, if_pos this]
  have hm : dBin .Mult (.list [.bool false]) (.int 36) = .ok (.list (List.replicate 36 (.bool false))) := by kernel_rfl
  have hq : dCmp .Eq (.list (List.replicate (24 + 12) (.bool false))) (.list (List.replicate 36 (.bool false))) = .ok true := by kernel_rfl
  have h36 : dBin .Add (.int 24) (.int 12) = .ok (.int 36) := by kernel_rfl
  simp -implicitDefEqProofs only [FF_law_s16, relS_ap, relR_cons, relR1_succ, relR1_0va, relR1_0un, relR1_0ow, relR_nil, sRet_ap, e2_ap, fLc_ap, i1_ap, rdE_succ, rdE_zero, rdP_succ, rdP_zero_ow, R.ok_bind, eC_ap, eArgs_cons, eArgs_nil, kD_ap, ari_2, hod, hadd, dItems_list, wipeR_cons, wipeR_nil, List.set, key, calm_ok, eLst_ap, okLen_1, eB_ap, hlen, h36, hm, bCmp_ap, hq, asBool_ok]
end
theorem law_f (ns : List Int) (hn : ns.length ≤ 63) : FF_law C_law_fleet C_law_pick (fn_law_sentence 28) (fn_is_sentence 28) C_law_odd [scr ns] = .ok (.bool true) := by
  obtain ⟨F, dF, eF⟩ := sp_fleet2 ns hn (at_ := 20) (most := 4) (by decide) (by decide) (by decide) (by decide)
  have hF := dF.ok
  have e0 : FF_law_s0 C_law_fleet C_law_pick (fn_law_sentence 28) (fn_is_sentence 28) C_law_odd [.va (scr ns), .un, .un, .un, .un, .un, .un, .un, .un] = .ok (.nx [.va (scr ns), .va F.D, .un, .un, .un, .un, .un, .un, .un]) := by
    have eF : C_law_fleet [scr ns, .int 20, .int 4] = .ok F.D := eF
    simp -implicitDefEqProofs [FF_law_s0, eF]
  have hnm := dF.names
  generalize hnn : F.ships.length = n at hnm
  have hN : N3 n := by have := dF.many; unfold N3; omega
  have e1 := law1 (S := fn_law_sentence 28) (Q := fn_is_sentence 28) (.va (scr ns)) F
  rw [hnm] at e1
  obtain ⟨ep, p0, p1⟩ := pk_ok ns (k := 0) (many := (F.last : Int) + 1) hn (by decide) (by decide) (by omega)
  generalize pk ns 0 ((F.last : Int) + 1) = h at ep p0 p1
  obtain ⟨h, rfl⟩ : ∃ i : Nat, h = i := ⟨h.toNat, by omega⟩
  obtain ⟨t, et, st⟩ := s_sent ns hn hF 3 23 100 (by decide) (by decide)
  have et : fn_law_sentence 28 [scr ns, .int 100, F.D, .int 4] = .ok t := et
  have hl := dF.last
  have g1 : F.last < 4 := by omega
  have g3 : h ≤ F.last := by omega
  have g4 : n < 5 := by rcases hN with rfl | rfl | rfl <;> decide
  have g5 : 2 ≤ n := by rcases hN with rfl | rfl | rfl <;> decide
  have hrows : ∀ x ∈ rowsD F.last h (five.take n) ++ [t], fn_is_sentence 28 [F.D, x] = .ok (.bool true) := fun x hx => by
    rcases List.mem_append.mp hx with hx | hx
    · have := rows_ok g1 hl.1 g3 g4 g5 x hx
      rw [s_sentence hF this.1 (by decide), hnm, this.2]
    · rw [List.mem_singleton.mp hx]
      obtain ⟨d, hd⟩ := st.deep
      have hd : deepO F.last F.names 4 t = some d := hd
      rw [s_sentence hF st.ok (by decide), hd]
      rfl
  obtain ⟨x, ho⟩ := odd_made ns hn
  have hbad : ∀ y ∈ badD F.last h (five.take n) ++ oddD x, fn_is_sentence 28 [F.D, y] = .ok (.bool false) := fun y hy => by
    have q : okD 10 y = true ∧ (deepO F.last (five.take n) 4 y).isNone = true := by
      rcases List.mem_append.mp hy with hy | hy
      · exact bad_ok g1 hl.1 g3 g4 g5 y hy
      · have := odd_ok x F.last (five.take n)
        simp only [List.all_eq_true, Bool.and_eq_true] at this
        exact this y hy
    rw [s_sentence hF q.1 (by decide), hnm, Option.isNone_iff_eq_none.mp q.2]
    rfl
  unfold FF_law
  rw [fRun_ap]
  show FF_law_t0 C_law_fleet C_law_pick (fn_law_sentence 28) (fn_is_sentence 28) C_law_odd [.va (scr ns), .un, .un, .un, .un, .un, .un, .un, .un] >>= fOut = _
  have hr9 : (rowsD F.last h (five.take n) ++ [t]).length = 9 := by simp [rowsD, rows1, rows2]
  have hb24 : (badD F.last h (five.take n)).length = 24 := by simp [badD, bad1D, bad2D, bad3D, bad4D, bad5D, bad6D]
  unfold badD at hbad hb24
  rw [FF_law_t0, seq_nx e0, FF_law_t1, seq_nx e1, FF_law_t2, seq_nx (law2 ns _ hN ep), FF_law_t3, seq_nx (law3 _ _ hN), FF_law_t4, seq_nx (law4 _ _ hN), FF_law_t5, seq_nx (law5 _ _ hN), FF_law_t6, seq_nx (law6 ns F _ _ _ (by simp [rowsD, rows1, rows2]) et), FF_law_t7, seq_nx (law7 F _ _ _ _ hr9 hrows),
    FF_law_t8, seq_nx (law8 _ _ _ hN), FF_law_t9, seq_nx (law9 _ _ _ hN), FF_law_t10, seq_nx (law10 _ _ _ hN (by simp [bad1D, bad2D])), FF_law_t11, seq_nx (law11 _ _ _ hN (by simp [bad1D, bad2D, bad3D])), FF_law_t12, seq_nx (law12 _ _ _ hN (by simp [bad1D, bad2D, bad3D, bad4D])), FF_law_t13, seq_nx (law13 _ _ _ hN (by simp [bad1D, bad2D, bad3D, bad4D, bad5D])),
    FF_law_t14, seq_nx (law14 _ _ _ hN (by simp [bad1D, bad2D, bad3D, bad4D, bad5D, bad6D])), FF_law_t15, seq_nx (law15 _ _ _ hN (by simp [bad1D, bad2D, bad3D, bad4D, bad5D, bad6D])), FF_law_t16, seq_rt (law16 ns F _ _ _ _ hb24 rfl ho hbad)]
  rfl
theorem law_true : ∀ ns : List Int, ns.length ≤ 63 → runD (prg.T 100000 60 29) d_law.N 100000 61 (defScope d_law.st) (defBody d_law.st) [scr ns] = .ok (.bool true) := fun ns hn => by
  have e : fn_law 29 = FF_law C_law_fleet C_law_pick (fn_law_sentence 28) (fn_is_sentence 28) C_law_odd := by
    rw [← c_law_fleet 26, ← c_law_pick 27, ← c_law_odd 26]
    exact ff_law 28
  have := congrFun e [scr ns]
  exact this.trans (law_f ns hn)
end Lw
namespace Lw
open PySem PySem.Spec PyProof.Rows L2 DL
abbrev R : PySem.W.OpenRow := PySem.W.OpenLaw.row PySem.Challenge.rw_hullflags_k53_sentences
abbrev hk : PySem.W.Hook := He.hookD 4 prg.fa prg.fn
def ob (s : PySem.W.SharedT) : He.AlD := He.obsDG 4 prg.fa prg.fn (HandSHeadRun.getT s)
theorem ob_eq (s : PySem.W.SharedT) : ob s = hk.obs s.abs := He.obsDG_eq (HandSHeadRun.getT_eq s)
def loose : List PySem.Str := (["FleetError", "NoFleet", "SMALL", "MOST_PART", "MOST_LAST", "MOST_ISLANDS", "MOST_SHIPS", "MOST_MISTS", "is_whole", "is_name", "is_cell", "is_rising", "is_islands", "is_ship", "is_mist", "is_fleet", "look_fleet", "plain_names", "are_names", "MOST_DEEP", "deep", "is_hour_of", "is_knower", "is_sentence", "_law_pick", "_law_fleet", "_law_sentence", "_law_odd"] : List PySem.Str)
theorem run (w : World) : HandSHeadRun.RunEq R (PySem.W.view R.prog [33]) hk ob 3000 loose w := by
  intro os
  kernel_rfl
end Lw
open PySem PySem.W PySem.Calls PyProof.Rows
theorem PySem.Challenge.cw_hullflags_k53_sentences_holds : PySem.Challenge.rw_hullflags_k53_sentences.Holds := by
  w_on; o_law
  refine HandSHeadRun.head_any (r := OpenLaw.row PySem.Challenge.rw_hullflags_k53_sentences) (q := view (OpenLaw.row PySem.Challenge.rw_hullflags_k53_sentences).prog [33]) (H := Lw.hk) (ob := Lw.ob) (M := 3000) (loose := Lw.loose) (d := HandSHeadRun.topDef (OpenLaw.row PySem.Challenge.rw_hullflags_k53_sentences).prog 33) (kwd := []) Lw.ob_eq
    (by kernel_rfl) (fun s => by kernel_rfl) Lw.run (by kernel_rfl) (by kernel_rfl) (by kernel_rfl) (by rfl) (by first | assumption | decide +kernel) (by decide +kernel) ⟨rfl, rfl, rfl, rfl, rfl, by decide +kernel⟩ ?hw ?hc
  case hw => w_witness2
  case hc =>
    refine L2.walk_ofE (l := PySem.Challenge.rw_hullflags_k53_sentences) (n := 63) (k := 30) (x := "script") (CX := DL.CXany) rfl (by decide) (by kernel_rfl) ⟨rfl, by decide, by decide⟩ ?F (fun _ _ _ _ z => DL.cxany_no z)
    intro w mg fa h Y G hmg0
    obtain ⟨K, KX, c⟩ := Y
    have hmg : mg ("law" : PySem.Str) = some (.ref fa) := by
      have e : (HandSHeadRun.topDef (OpenLaw.row PySem.Challenge.rw_hullflags_k53_sentences).prog 33).name = ("law" : PySem.Str) := by kernel_rfl
      rw [← e]
      exact hmg0
    obtain ⟨fd, sp, hb, hsp, hF⟩ := DL.law_ok (P := (PySem.Challenge.rw_hullflags_k53_sentences).prog) (w := w) Lw.prg 100000 60 29 KX G hmg c Lw.sc_all Lw.bnd_all Lw.d_law (by simp [Lw.prg]) rfl rfl Lw.law_true
    exact ⟨K, fd, sp, KX, hb, hsp, hF⟩
