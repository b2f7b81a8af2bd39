import PyProof.Rows.All
import Wide.All
import OpenK.AllK
import Wide.FinOn
import HandS.ForMost
import HandS.Exc
import HandS.TryOnly
import HandS.ExcOwn
import HandS.WordsExc
import HandS.Deep
import HandS.Wide
import HandS.Zip
import HandS.More
import HandS.Style
import HandS.Defaults
import HandS.IsInst
import HandS.TupLe
import HandS.TupAny
import HandS.TupMul
import HandS.Conv
import KE.DataCmp
import KE.SortData
import KE.DataMinMax
import HandS.Dict
import HandS.TupSets
import KE.KeyNested
import HandS.Iter
import HandS.DictTup
import HandS.ExcIs
import HandS.Head0
import HandS.Head1
import HandS.Head2
import HandS.HeadEnd
import HandS.HeadHook1
import HandS.HeadHook2
import KE.KStateDown
import Lean
import PySem.Challenge.RW_hullflags_k06_whole_reading
set_option Elab.async false
set_option linter.all false
set_option maxRecDepth 100000
set_option maxHeartbeats 0
/-! The data layer: values as trees of data, an environment of slots, what an expression answers. -/
namespace DL
open PySem PySem.Spec PyProof.Rows L2
abbrev D := PyData
/-- an answer: a value, an exception of a class of the program, or nothing known -/
inductive R (α : Type) where
  | ok (a : α)
  | exc (c : Str)
  | bad
def R.bind {α β : Type} (r : R α) (k : α → R β) : R β := match r with
  | .ok a => k a
  | .exc c => .exc c
  | .bad => .bad
instance : Monad R where
  pure := R.ok
  bind := R.bind
@[simp] theorem R.pure_eq {α : Type} (a : α) : (pure a : R α) = .ok a := rfl
@[simp] theorem R.ok_bind {α β : Type} (a : α) (k : α → R β) : (R.ok a >>= k) = k a := rfl
@[simp] theorem R.exc_bind {α β : Type} (c : Str) (k : α → R β) : ((R.exc c : R α) >>= k) = R.exc c := rfl
@[simp] theorem R.bad_bind {α β : Type} (k : α → R β) : ((R.bad : R α) >>= k) = R.bad := rfl
/-- an exception is not looked at -/
def R.calm {α : Type} : R α → R α
  | .ok a => .ok a
  | _ => .bad
/-! ### keys of dicts -/
def keyD : Key → D
  | .inl i => .int i
  | .inr x => .str x
/-- the script: a list of ints that nobody may change -/
def scr (ns : List Int) : D := .dict [(.none, .list (ns.map .int))]
/-! ### a value stands for a datum -/
mutual
inductive Rp (K : PySem.W.Frag) (H : Hp) : V → D → Prop
  | non : Rp K H .non .none
  | bl (b : Bool) : Rp K H (.bl b) (.bool b)
  | int (i : Int) : Rp K H (.int i) (.int i)
  | str (x : Str) : Rp K H (.str x) (.str x)
  | lst {a : Addr} {xs : List V} {ds : List D} : H a = some (.lst xs) → xs.length ≤ sizeLine → RpL K H xs ds → Rp K H (.ref a) (.list ds)
  | tup {a : Addr} {xs : List V} {ds : List D} : H a = some (.tup xs) → xs.length ≤ sizeLine → RpL K H xs ds → Rp K H (.ref a) (.tuple ds)
  | scr {a : Addr} {ns : List Int} : SqL K H a (ns.map V.int) → ns.length ≤ sizeLine → Rp K H (.ref a) (scr ns)
  | dic {a : Addr} {ob : Obj} {kvs : List (Key × V)} {kds : List (D × D)} : H a = some (.frz ob (.dK kvs)) → kvs.length ≤ sizeLine → RpK K H kvs kds → Rp K H (.ref a) (.dict kds)
inductive RpL (K : PySem.W.Frag) (H : Hp) : List V → List D → Prop
  | nil : RpL K H [] []
  | cons {v : V} {vs : List V} {d : D} {ds : List D} : Rp K H v d → RpL K H vs ds → RpL K H (v :: vs) (d :: ds)
inductive RpK (K : PySem.W.Frag) (H : Hp) : List (Key × V) → List (D × D) → Prop
  | nil : RpK K H [] []
  | cons {k : Key} {v : V} {kvs : List (Key × V)} {d : D} {kds : List (D × D)} : Rp K H v d → RpK K H kvs kds → RpK K H ((k, v) :: kvs) ((keyD k, d) :: kds)
end
section
variable {K : PySem.W.Frag} {H H' : Hp}
mutual
theorem Rp.mono (e : Same H H') : ∀ {v : V} {d : D}, Rp K H v d → Rp K H' v d
  | _, _, .non => .non
  | _, _, .bl b => .bl b
  | _, _, .int i => .int i
  | _, _, .str x => .str x
  | _, _, .lst h l r => .lst (e _ _ h) l (RpL.mono e r)
  | _, _, .tup h l r => .tup (e _ _ h) l (RpL.mono e r)
  | _, _, .scr h l => .scr (Same.seq e h) l
  | _, _, .dic h l r => .dic (e _ _ h) l (RpK.mono e r)
theorem RpL.mono (e : Same H H') : ∀ {vs : List V} {ds : List D}, RpL K H vs ds → RpL K H' vs ds
  | _, _, .nil => .nil
  | _, _, .cons h r => .cons (Rp.mono e h) (RpL.mono e r)
theorem RpK.mono (e : Same H H') : ∀ {vs : List (Key × V)} {ds : List (D × D)}, RpK K H vs ds → RpK K H' vs ds
  | _, _, .nil => .nil
  | _, _, .cons h r => .cons (Rp.mono e h) (RpK.mono e r)
end
theorem RpL.length : ∀ {vs : List V} {ds : List D}, RpL K H vs ds → vs.length = ds.length
  | _, _, .nil => rfl
  | _, _, .cons _ r => by simp [RpL.length r]
theorem RpK.length : ∀ {vs : List (Key × V)} {ds : List (D × D)}, RpK K H vs ds → vs.length = ds.length
  | _, _, .nil => rfl
  | _, _, .cons _ r => by simp [RpK.length r]
theorem RpL.get : ∀ {vs : List V} {ds : List D} {i : Nat} {d : D}, RpL K H vs ds → ds[i]? = some d → ∃ v, vs[i]? = some v ∧ Rp K H v d
  | _, _, _, _, .nil, e => by simp at e
  | _, _, 0, _, .cons h _, e => by simp at e; subst e; exact ⟨_, rfl, h⟩
  | _, _, i + 1, _, .cons _ r, e => by
    obtain ⟨v, h1, h2⟩ := RpL.get (i := i) r (by simpa using e)
    exact ⟨v, by simpa using h1, h2⟩
theorem RpL.get' : ∀ {vs : List V} {ds : List D} {i : Nat} {v : V}, RpL K H vs ds → vs[i]? = some v → ∃ d, ds[i]? = some d ∧ Rp K H v d
  | _, _, _, _, .nil, e => by simp at e
  | _, _, 0, _, .cons h _, e => by simp at e; subst e; exact ⟨_, rfl, h⟩
  | _, _, i + 1, _, .cons _ r, e => by
    obtain ⟨d, h1, h2⟩ := RpL.get' (i := i) r (by simpa using e)
    exact ⟨d, by simpa using h1, h2⟩
theorem RpL.append : ∀ {vs ws : List V} {ds es : List D}, RpL K H vs ds → RpL K H ws es → RpL K H (vs ++ ws) (ds ++ es)
  | _, _, _, _, .nil, s => s
  | _, _, _, _, .cons h r, s => .cons h (RpL.append r s)
theorem RpL.drop : ∀ {vs : List V} {ds : List D} (n : Nat), RpL K H vs ds → RpL K H (vs.drop n) (ds.drop n)
  | _, _, 0, r => r
  | _, _, _ + 1, .nil => .nil
  | _, _, n + 1, .cons _ r => RpL.drop n r
theorem RpL.take : ∀ {vs : List V} {ds : List D} (n : Nat), RpL K H vs ds → RpL K H (vs.take n) (ds.take n)
  | _, _, 0, _ => .nil
  | _, _, _ + 1, .nil => .nil
  | _, _, n + 1, .cons h r => .cons h (RpL.take n r)
theorem RpL.rev : ∀ {vs : List V} {ds : List D}, RpL K H vs ds → RpL K H vs.reverse ds.reverse
  | _, _, .nil => .nil
  | _, _, .cons h r => by
    rw [List.reverse_cons, List.reverse_cons]
    exact RpL.append (RpL.rev r) (.cons h .nil)
/-! data without dicts -/
mutual
def noDict : D → Bool
  | .none => true
  | .bool _ => true
  | .int _ => true
  | .str _ => true
  | .list ds => noDictL ds
  | .tuple ds => noDictL ds
  | .dict _ => false
def noDictL : List D → Bool
  | [] => true
  | d :: ds => noDict d && noDictL ds
end
mutual
theorem Rp.dp : ∀ {v : V} {d : D}, Rp K H v d → noDict d = true → Dp K H v d
  | _, _, .non, _ => .non
  | _, _, .bl b, _ => .bl b
  | _, _, .int i, _ => .int i
  | _, _, .str x, _ => .str x
  | _, _, .lst h _ r, e => .lst (SqL.of h) (RpL.dp r e)
  | _, _, .tup h _ r, e => .tup (SqT.of h) (RpL.dp r e)
  | _, _, .scr _ _, e => by simp [DL.scr, noDict] at e
  | _, _, .dic _ _ _, e => by simp [noDict] at e
theorem RpL.dp : ∀ {vs : List V} {ds : List D}, RpL K H vs ds → noDictL ds = true → DpAll K H vs ds
  | _, _, .nil, _ => .nil
  | _, _, .cons h r, e => by
    have e' := Bool.and_eq_true_iff.mp (show (noDict _ && noDictL _) = true from e)
    exact .cons (Rp.dp h e'.1) (RpL.dp r e'.2)
end
end
/-! ### heaps that grow -/
structure Grow (Hf H Hf' H' : Hp) : Prop where
  f : Same Hf Hf'
  h : Same H H'
  new : ∀ b o, Hf' b = some o → Hf b = some o ∨ H b = none
  sub : Same Hf' H'
theorem Grow.refl {Hf H : Hp} (s : Same Hf H) : Grow Hf H Hf H := ⟨Same.refl _, Same.refl _, fun _ _ e => .inl e, s⟩
theorem Grow.trans {Hf H Hf1 H1 Hf2 H2 : Hp} (a : Grow Hf H Hf1 H1) (b : Grow Hf1 H1 Hf2 H2) : Grow Hf H Hf2 H2 :=
  ⟨a.f.trans b.f, a.h.trans b.h, fun c o e => by
    rcases b.new c o e with q | q
    · exact a.new c o q
    · exact .inr (Same.free a.h q), b.sub⟩
theorem same_upd {H : Hp} {p : Addr} {o : HO} (h : H p = none) : Same H (upd H p o) := fun b x e => by
  rw [upd_ne (ne_of_none e h)]
  exact e
/-- a new object is tracked in both -/
theorem Grow.push {Hf H : Hp} {p : Addr} {o : HO} (s : Same Hf H) (h : H p = none) : Grow Hf H (upd Hf p o) (upd H p o) := by
  have hf : Hf p = none := Same.free s h
  refine ⟨same_upd hf, same_upd h, fun b x e => ?_, fun b x e => ?_⟩
  · by_cases q : b = p
    · subst q; exact .inr h
    · rw [upd_ne q] at e; exact .inl e
  · by_cases q : b = p
    · subst q; rw [upd_same] at e ⊢; exact e
    · rw [upd_ne q] at e ⊢; exact s _ _ e
/-- a new object is tracked in the whole heap alone -/
theorem Grow.side {Hf H : Hp} {p : Addr} {o : HO} (s : Same Hf H) (h : H p = none) : Grow Hf H Hf (upd H p o) :=
  ⟨Same.refl _, same_upd h, fun _ _ e => .inl e, fun b x e => same_upd h _ _ (s _ _ e)⟩
/-! ### slots -/
inductive Slot where
  | un
  | va (d : D)
  | ow (d : D)
abbrev Env := List Slot
section
variable (K : PySem.W.Frag)
/-- a list (a dict) of one's own: it stands outside of what is kept -/
def OwnAt (Hf H : Hp) (a : Addr) : D → Prop
  | .list ds => ∃ xs, Hf a = none ∧ H a = some (.lst xs) ∧ xs.length ≤ sizeLine ∧ RpL K Hf xs ds
  | .dict kds => ∃ kvs, Hf a = none ∧ H a = some (.dK kvs) ∧ kvs.length ≤ sizeLine ∧ RpK K Hf kvs kds
  | _ => False
/-- what may be looked at -/
def Rp1 (Hf H : Hp) (v : V) (d : D) : Prop := Rp K Hf v d ∨ ∃ a, v = .ref a ∧ OwnAt K Hf H a d
def SlotR (H0 Hf H : Hp) (v : Option V) : Slot → Prop
  | .un => True
  | .va d => ∃ x, v = some x ∧ Rp K Hf x d
  | .ow d => ∃ a, v = some (.ref a) ∧ OwnAt K Hf H a d ∧ H0 a = none
structure EnvR (Hf0 H0 Hf H : Hp) (σ : L2.St) (ρ : Env) : Prop where
  grow : Grow Hf0 H0 Hf H
  len : σ.length = ρ.length
  slot : ∀ (i : Nat) (s : Slot) (v : Option V), ρ[i]? = some s → σ[i]? = some v → SlotR K H0 Hf H v s
  dis : ∀ (i j : Nat) (d e : D) (a : Addr), ρ[i]? = some (.ow d) → ρ[j]? = some (.ow e) → σ[i]? = some (some (.ref a)) → σ[j]? = some (some (.ref a)) → i = j
end
section
variable {K : PySem.W.Frag} {Hf0 H0 Hf H Hf' H' : Hp} {σ : L2.St} {ρ : Env}
theorem OwnAt.grow {a : Addr} {d : D} (g : Grow Hf H Hf' H') (h : OwnAt K Hf H a d) : OwnAt K Hf' H' a d := by
  have no : ∀ u, Hf a = none → H a = some u → Hf' a = none := fun u h1 h2 => by
    cases q : Hf' a with
    | none => rfl
    | some o =>
      rcases g.new a o q with z | z
      · rw [h1] at z; cases z
      · rw [h2] at z; cases z
  cases d with
  | list ds =>
    obtain ⟨xs, h1, h2, h3, h4⟩ := h
    exact ⟨xs, no _ h1 h2, g.h _ _ h2, h3, h4.mono g.f⟩
  | dict kds =>
    obtain ⟨xs, h1, h2, h3, h4⟩ := h
    exact ⟨xs, no _ h1 h2, g.h _ _ h2, h3, h4.mono g.f⟩
  | _ => exact h.elim
theorem Rp1.grow {v : V} {d : D} (g : Grow Hf H Hf' H') (h : Rp1 K Hf H v d) : Rp1 K Hf' H' v d := by
  rcases h with h | ⟨a, e, h⟩
  · exact .inl (h.mono g.f)
  · exact .inr ⟨a, e, h.grow g⟩
theorem OwnAt.rp {a : Addr} {d : D} (s : Same Hf H) (h : OwnAt K Hf H a d) (nd : ∀ k, d ≠ .dict k) : Rp K H (.ref a) d := by
  cases d with
  | list ds =>
    obtain ⟨xs, _, h2, h3, h4⟩ := h
    exact .lst h2 h3 (h4.mono s)
  | dict kds => exact absurd rfl (nd kds)
  | _ => exact h.elim
theorem Rp1.rp {v : V} {d : D} (s : Same Hf H) (h : Rp1 K Hf H v d) (nd : ∀ k, d ≠ .dict k) : Rp K H v d := by
  rcases h with h | ⟨a, e, h⟩
  · exact h.mono s
  · subst e; exact h.rp s nd
theorem EnvR.more (e : EnvR K Hf0 H0 Hf H σ ρ) (g : Grow Hf H Hf' H') : EnvR K Hf0 H0 Hf' H' σ ρ := by
  refine ⟨e.grow.trans g, e.len, fun i s v h1 h2 => ?_, e.dis⟩
  have q := e.slot i s v h1 h2
  cases s with
  | un => trivial
  | va d => obtain ⟨x, hx, r⟩ := q; exact ⟨x, hx, r.mono g.f⟩
  | ow d => obtain ⟨a, hx, r, z⟩ := q; exact ⟨a, hx, r.grow g, z⟩
end
/-! ### what is wanted behind an answer -/
structure Pm where
  K : PySem.W.Frag
  E : XK
  cl : Str → Addr
  fr : Bool
def OutG {α β : Type} (C : Pm) (Rel : Hp → Hp → β → α → Prop) (Hf H : Hp) (r : R α) (Q : β → Hp → Prop) : Prop := match r with
  | .ok a => ∀ b Hf' H', Grow Hf H Hf' H' → Rel Hf' H' b a → Q b H'
  | .exc c => ∀ Hf' H', Grow Hf H Hf' H' → C.E (.ref (C.cl c)) none H'
  | .bad => False
def tG {α β : Type} (C : Pm) (Rel : Hp → Hp → β → α → Prop) (f : Env → R α) : L2.St → Hp → (β → Hp → Prop) → Prop := fun σ H Q =>
  ∃ (Hf0 H0 Hf : Hp) (ρ : Env), EnvR C.K Hf0 H0 Hf H σ ρ ∧ OutG C Rel Hf H (f ρ) Q
abbrev RelE (C : Pm) : Hp → Hp → V → D → Prop := fun Hf _ v d => Rp C.K Hf v d
abbrev RelP (C : Pm) : Hp → Hp → V → D → Prop := fun Hf H v d => Rp1 C.K Hf H v d
abbrev RelA (C : Pm) : Hp → Hp → List V → List D → Prop := fun Hf _ vs ds => RpL C.K Hf vs ds
abbrev RelT : Hp → Hp → Bool → Bool → Prop := fun _ _ b c => b = c
abbrev tE (C : Pm) (f : Env → R D) : TE := tG C (RelE C) f
abbrev tP (C : Pm) (f : Env → R D) : TE := tG C (RelP C) f
abbrev tA (C : Pm) (f : Env → R (List D)) : TA := tG C (RelA C) f
abbrev tT (C : Pm) (f : Env → R Bool) : TT := tG C RelT f
section
variable {α β γ δ : Type} {C : Pm} {Rel1 : Hp → Hp → β → α → Prop} {Rel2 : Hp → Hp → δ → γ → Prop} {Hf H Hf' H' : Hp}
theorem OutG.more {r : R α} {Q : β → Hp → Prop} (h : OutG C Rel1 Hf H r Q) (g : Grow Hf H Hf' H') : OutG C Rel1 Hf' H' r Q := by
  cases r with
  | ok a => exact fun b Hf2 H2 g2 q => h b Hf2 H2 (g.trans g2) q
  | exc c => exact fun Hf2 H2 g2 => h Hf2 H2 (g.trans g2)
  | bad => exact h.elim
theorem OutG.bind {r : R α} {k : α → R γ} {Q1 : β → Hp → Prop} {Q : δ → Hp → Prop} (h : OutG C Rel2 Hf H (r >>= k) Q)
    (hk : ∀ a b Hf1 H1, r = .ok a → Grow Hf H Hf1 H1 → Rel1 Hf1 H1 b a → OutG C Rel2 Hf1 H1 (k a) Q → Q1 b H1) : OutG C Rel1 Hf H r Q1 := by
  cases r with
  | ok a => exact fun b Hf1 H1 g q => hk a b Hf1 H1 rfl g q (OutG.more (show OutG C Rel2 Hf H (k a) Q from h) g)
  | exc c => exact h
  | bad => exact h.elim
theorem OutG.here {a : α} {Q : β → Hp → Prop} {b : β} (h : OutG C Rel1 Hf H (.ok a) Q) (s : Same Hf H) (q : Rel1 Hf H b a) : Q b H := h b Hf H (Grow.refl s) q
end
theorem PE.imp {X : Cx} {e : Expr} {t u : TE} (h : PE X e t) (q : ∀ σ H Q, u σ H Q → t σ H Q) : PE X e u := ⟨fun pins s σ H Q I hu => h.run pins s σ H Q I (q σ H Q hu)⟩
theorem PT.imp {X : Cx} {e : Expr} {t u : TT} (h : PT X e t) (q : ∀ σ H Q, u σ H Q → t σ H Q) : PT X e u := ⟨fun pins s σ H Q I hu => h.run pins s σ H Q I (q σ H Q hu)⟩
theorem PW.imp {X : Cx} {e : Expr} {t u : TT} (h : PW X e t) (q : ∀ σ H Q, u σ H Q → t σ H Q) : PW X e u := ⟨fun wh pins s σ H Q I hu => h.run wh pins s σ H Q I (q σ H Q hu)⟩
theorem PA.imp {X : Cx} {es : List Expr} {t u : TA} (h : PA X es t) (q : ∀ σ H Q, u σ H Q → t σ H Q) : PA X es u := ⟨fun pos pins s σ H Q I hu => h.run pos pins s σ H Q I (q σ H Q hu)⟩
theorem PS.imp {X : Cx} {e : Stmt} {t u : TS} (h : PS X e t) (q : ∀ Dn σ H, u Dn σ H → t Dn σ H) : PS X e u := ⟨fun pins s σ H Q I hu => h.run pins s σ H Q I (q Q σ H hu)⟩
theorem PSs.imp {X : Cx} {e : List Stmt} {t u : TS} (h : PSs X e t) (q : ∀ Dn σ H, u Dn σ H → t Dn σ H) : PSs X e u := ⟨fun pins s σ H Q I hu => h.run pins s σ H Q I (q Q σ H hu)⟩
theorem PI.imp {X : Cx} {tg e : Expr} {t u : TI} (h : PI X tg e t) (q : ∀ σ H Q, u σ H Q → t σ H Q) : PI X tg e u := ⟨fun pins s σ H Q I hu => h.run pins s σ H Q I (q σ H Q hu)⟩
theorem PG.imp {X : Cx} {e : Expr} {t u : TG} (h : PG X e t) (q : ∀ v σ H Q, u v σ H Q → t v σ H Q) : PG X e u := ⟨fun pins s σ H v u' Q I r hu => h.run pins s σ H v u' Q I r (q v σ H Q hu)⟩
/-- nothing is asked of what is bad -/
theorem pe_bad {X : Cx} {e : Expr} {C : Pm} {Rel : Hp → Hp → V → D → Prop} : PE X e (tG C Rel fun _ => .bad) := ⟨fun _ _ _ _ _ _ ⟨_, _, _, _, _, h⟩ => h.elim⟩
theorem pt_bad {X : Cx} {e : Expr} {C : Pm} : PT X e (tT C fun _ => .bad) := ⟨fun _ _ _ _ _ _ ⟨_, _, _, _, _, h⟩ => h.elim⟩
theorem pw_bad {X : Cx} {e : Expr} {C : Pm} : PW X e (tT C fun _ => .bad) := ⟨fun _ _ _ _ _ _ _ ⟨_, _, _, _, _, h⟩ => h.elim⟩
theorem pa_bad {X : Cx} {es : List Expr} {C : Pm} {Rel : Hp → Hp → List V → List D → Prop} : PA X es (tG C Rel fun _ => .bad) := ⟨fun _ _ _ _ _ _ _ ⟨_, _, _, _, _, h⟩ => h.elim⟩
end DL
/-! The data layer: dicts whose keys are ints and texts. -/
namespace DL
open PySem PySem.Spec PyProof.Rows L2
def keyEqB : D → D → Bool
  | .int i, .int j => decide (i = j)
  | .str a, .str b => decide (a = b)
  | _, _ => false
def lookD (kds : List (D × D)) (k : D) : Option D := (kds.find? fun kv => keyEqB kv.1 k).map (·.2)
def putD (kds : List (D × D)) (k d : D) : List (D × D) := if (kds.any fun kv => keyEqB kv.1 k) = true then kds.map (fun kv => if keyEqB kv.1 k = true then (kv.1, d) else kv) else kds ++ [(k, d)]
def keyOfD : D → Option Key
  | .int i => some (.inl i)
  | .str x => some (.inr x)
  | _ => none
theorem keyOf_ok {d : D} {k : Key} (h : keyOfD d = some k) : d = keyD k := by
  unfold keyOfD at h
  split at h <;> cases h <;> rfl
theorem keyEq_ok (a b : Key) : keyEqB (keyD a) (keyD b) = decide (a = b) := by
  cases a <;> cases b <;> simp [keyD, keyEqB]
section
variable {K : PySem.W.Frag} {H : Hp}
theorem RpK.look {k : Key} : ∀ {kvs : List (Key × V)} {kds : List (D × D)} {d : D}, RpK K H kvs kds → lookD kds (keyD k) = some d → ∃ v, valV kvs k = some v ∧ Rp K H v d
  | _, _, d, .nil, h => by simp [lookD] at h
  | _, _, d, @RpK.cons _ _ k' v kvs d' kds h1 h2, h => by
    by_cases e : k' = k
    · subst e
      have : lookD ((keyD k', d') :: kds) (keyD k') = some d' := by simp [lookD, List.find?_cons, keyEq_ok]
      rw [this] at h
      cases h
      exact ⟨v, valV_pos rfl, h1⟩
    · have e1 : lookD ((keyD k', d') :: kds) (keyD k) = lookD kds (keyD k) := by simp [lookD, List.find?_cons, keyEq_ok, e]
      rw [e1] at h
      obtain ⟨w, q1, q2⟩ := RpK.look h2 h
      refine ⟨w, ?_, q2⟩
      rw [← q1]
      simp [valV, List.find?_cons, e]
theorem RpK.any {k : Key} : ∀ {kvs : List (Key × V)} {kds : List (D × D)}, RpK K H kvs kds → (kvs.any fun kv => decide (kv.1 = k)) = kds.any fun kv => keyEqB kv.1 (keyD k)
  | _, _, .nil => rfl
  | _, _, .cons h1 h2 => by simp only [List.any_cons, RpK.any h2, keyEq_ok]
theorem RpK.upd_ {k : Key} {v : V} {d : D} (hv : Rp K H v d) : ∀ {kvs : List (Key × V)} {kds : List (D × D)}, RpK K H kvs kds → RpK K H (kvs.map fun kv => if kv.1 = k then (kv.1, v) else kv) (kds.map fun kv => if keyEqB kv.1 (keyD k) = true then (kv.1, d) else kv)
  | _, _, .nil => .nil
  | _, _, @RpK.cons _ _ k' v' kvs d' kds h1 h2 => by
    have ih := RpK.upd_ (k := k) hv h2
    simp only [List.map_cons, keyEq_ok, decide_eq_true_eq]
    by_cases e : k' = k
    · simp only [e, if_true]
      exact .cons hv ih
    · simp only [e, if_false]
      exact .cons h1 ih
theorem RpK.app {k : Key} {v : V} {d : D} (hv : Rp K H v d) : ∀ {kvs : List (Key × V)} {kds : List (D × D)}, RpK K H kvs kds → RpK K H (kvs ++ [(k, v)]) (kds ++ [(keyD k, d)])
  | _, _, .nil => .cons hv .nil
  | _, _, .cons h1 h2 => .cons h1 (RpK.app hv h2)
theorem RpK.put {k : Key} {v : V} {d : D} (hv : Rp K H v d) {kvs : List (Key × V)} {kds : List (D × D)} (h : RpK K H kvs kds) : RpK K H (putK kvs k v) (putD kds (keyD k) d) := by
  unfold putK putD
  rw [h.any]
  split
  · exact h.upd_ hv
  · exact h.app hv
def mergeD (kds : List (D × D)) (more : List (Key × D)) : List (D × D) := more.foldl (fun acc kv => putD acc (keyD kv.1) kv.2) kds
theorem RpK.merge : ∀ {more : List (Key × V)} {md : List (Key × D)}, Paired (fun (a : Key × V) (b : Key × D) => a.1 = b.1 ∧ Rp K H a.2 b.2) more md → ∀ {kvs : List (Key × V)} {kds : List (D × D)}, RpK K H kvs kds → RpK K H (mergeK kvs more) (mergeD kds md)
  | _, _, .nil, _, _, h => h
  | _, _, @Paired.cons _ _ _ a b as bs r t, kvs, kds, h => by
    obtain ⟨e, hv⟩ := r
    show RpK K H (mergeK (putK kvs a.1 a.2) as) (mergeD (putD kds (keyD b.1) b.2) bs)
    rw [← e]
    exact RpK.merge t (h.put hv)
/-- pairs (key, value) -/
def pairsD : List D → Option (List (Key × D))
  | [] => some []
  | .tuple [k, d] :: r => (match keyOfD k, pairsD r with | some k', some r' => some ((k', d) :: r') | _, _ => none)
  | _ :: _ => none
theorem pairs_rp : ∀ {ds : List D} {md : List (Key × D)} {xs : List V}, pairsD ds = some md → RpL K H xs ds → ∃ (ps : List Addr) (kvs : List (Key × V)), xs = ps.map V.ref ∧ Paired (fun p kv => H p = some (.tup [kV kv.1, kv.2])) ps kvs ∧ Paired (fun (a : Key × V) (b : Key × D) => a.1 = b.1 ∧ Rp K H a.2 b.2) kvs md
  | [], md, xs, h, r => by
    cases h
    cases r
    exact ⟨[], [], rfl, .nil, .nil⟩
  | d :: ds, md, xs, h, r => by
    unfold pairsD at h
    split at h
    · cases ‹d :: ds = []›
    · rename_i k d' r' e
      cases e
      split at h
      · rename_i k' md' hk hr
        cases h
        cases r with
        | cons h1 h2 =>
          obtain ⟨ps, kvs, rfl, p1, p2⟩ := pairs_rp hr h2
          cases h1 with
          | tup q1 q2 q3 =>
            cases q3 with
            | cons y1 y2 =>
              cases y2 with
              | cons z1 z2 =>
                cases z2
                rename_i a v1 v2
                have hkv : v1 = kV k' := by
                  have := keyOf_ok hk
                  subst this
                  cases k' <;> cases y1 <;> rfl
                subst hkv
                exact ⟨a :: ps, (k', v2) :: kvs, rfl, .cons q1 p1, .cons ⟨rfl, z1⟩ p2⟩
      · cases h
    · cases h
end
theorem Rp1.dict_ {K : PySem.W.Frag} {Hf H : Hp} {v : V} {kds : List (D × D)} {k : Key} {d : D} (s : Same Hf H) (h : Rp1 K Hf H v (.dict kds)) (hl : lookD kds (keyD k) = some d) : ∃ a kvs, v = .ref a ∧ Rd H a (.dK kvs) ∧ kvs.length ≤ sizeLine ∧ RpK K Hf kvs kds := by
  rcases h with h | ⟨a, e, h⟩
  · generalize e : (PyData.dict kds : D) = z at h
    cases h with
    | scr h1 h2 =>
      cases e
      cases k <;> simp [lookD, List.find?_cons, keyD, keyEqB] at hl
    | dic h1 h2 h3 =>
      cases e
      exact ⟨_, _, rfl, .inr ⟨_, s _ _ h1⟩, h2, h3⟩
    | _ => cases e
  · obtain ⟨kvs, h1, h2, h3, h4⟩ := h
    exact ⟨a, kvs, e, .inl h2, h3, h4⟩
/-- the keys are ints and texts -/
def dkB (kds : List (D × D)) : Bool := kds.all fun kv => (keyOfD kv.1).isSome
theorem Rp1.dic_ {K : PySem.W.Frag} {Hf H : Hp} {v : V} {kds : List (D × D)} (s : Same Hf H) (h : Rp1 K Hf H v (.dict kds)) (hk : dkB kds = true) : ∃ a kvs, v = .ref a ∧ Rd H a (.dK kvs) ∧ kvs.length ≤ sizeLine ∧ RpK K Hf kvs kds := by
  rcases h with h | ⟨a, e, h⟩
  · generalize e : (PyData.dict kds : D) = z at h
    cases h with
    | scr h1 h2 =>
      cases e
      simp [dkB, keyOfD] at hk
    | dic h1 h2 h3 =>
      cases e
      exact ⟨_, _, rfl, .inr ⟨_, s _ _ h1⟩, h2, h3⟩
    | _ => cases e
  · obtain ⟨kvs, h1, h2, h3, h4⟩ := h
    exact ⟨a, kvs, e, .inl h2, h3, h4⟩
theorem Rp1.key_ {K : PySem.W.Frag} {Hf H : Hp} {v : V} {k : Key} (h : Rp1 K Hf H v (keyD k)) : v = kV k := by
  rcases h with h | ⟨a, e, h⟩
  · cases k <;> (cases h; rfl)
  · cases k <;> exact h.elim
theorem RpK.none {K : PySem.W.Frag} {H : Hp} {k : Key} : ∀ {kvs : List (Key × V)} {kds : List (D × D)}, RpK K H kvs kds → lookD kds (keyD k) = none → valV kvs k = none
  | _, _, .nil, _ => rfl
  | _, _, @RpK.cons _ _ k' v kvs d' kds h1 h2, h => by
    by_cases e : k' = k
    · subst e
      simp [lookD, List.find?_cons, keyEq_ok] at h
    · have e1 : lookD ((keyD k', d') :: kds) (keyD k) = lookD kds (keyD k) := by simp [lookD, List.find?_cons, keyEq_ok, e]
      rw [e1] at h
      have := RpK.none h2 h
      rw [← this]
      simp [valV, List.find?_cons, e]
theorem RpK.isSome {K : PySem.W.Frag} {H : Hp} {k : Key} {kvs : List (Key × V)} {kds : List (D × D)} (h : RpK K H kvs kds) : (valV kvs k).isSome = (lookD kds (keyD k)).isSome := by
  cases e : lookD kds (keyD k) with
  | none => rw [h.none e]; rfl
  | some d =>
    obtain ⟨v, q, _⟩ := h.look e
    rw [q]
    rfl
theorem RpK.get {K : PySem.W.Frag} {H : Hp} : ∀ {kvs : List (Key × V)} {kds : List (D × D)} {i : Nat} {kd : D × D}, RpK K H kvs kds → kds[i]? = some kd → ∃ k v, kvs[i]? = some (k, v) ∧ kd.1 = keyD k ∧ Rp K H v kd.2
  | _, _, _, _, .nil, h => by simp at h
  | _, _, 0, kd, .cons h1 h2, h => by
    simp at h
    subst h
    exact ⟨_, _, rfl, rfl, h1⟩
  | _, _, i + 1, kd, .cons h1 h2, h => by
    simp only [List.getElem?_cons_succ] at h ⊢
    exact RpK.get h2 h
end DL
/-! Further rules over the hand layer: tuples backwards, a tuple once, a text several times, a text's signs as a list, three comparisons. -/
namespace DL
open PySem PySem.Spec PyProof.Rows L2 HT
/-- items from a place downwards -/
def downFrom {α : Type} (xs : List α) (lo : Option Int) : List α :=
  (List.range (Builtin.Slice.slicePlaces (Builtin.Slice.sliceAdjust lo none (-1) xs.length).1 (Builtin.Slice.sliceAdjust lo none (-1) xs.length).2 (-1))).filterMap fun (k : Nat) => xs[((Builtin.Slice.sliceAdjust lo none (-1) xs.length).1 + (k : Int) * (-1)).toNat]?
section
variable {prog : Program} {w : World} {A : Around} {E : Value → Shared → Prop} {s : Shared}
theorem sliceApplied_down {sl : Addr} {vl vu vs : Value} {lo hi : Option Int} {n : Nat} {Q : Int × Int × Nat → Shared → Prop} (hs : s.heap.IsSliceOf sl vl vu vs) (pl : IsPart vl lo) (pu : IsPart vu hi) (ps : IsPart vs (some (-1)))
    (h : Q ((Builtin.Slice.sliceAdjust lo hi (-1) (n : Int)).1, -1, Builtin.Slice.slicePlaces (Builtin.Slice.sliceAdjust lo hi (-1) (n : Int)).1 (Builtin.Slice.sliceAdjust lo hi (-1) (n : Int)).2 (-1)) s) : wpAny (model prog w) A (Builtin.Slice.sliceApplied (.ref sl) (pure (n : Int))) Q E s := by
  obtain ⟨os, hos, hcs, hds⟩ := id hs
  unfold Builtin.Slice.sliceApplied Builtin.Slice.sliceFields
  refine wpAny_bind (wpAny_bind (wpAny_field hos hds (x := vl) rfl (wpAny_bind (wpAny_field hos hds (x := vu) rfl (wpAny_bind (wpAny_field hos hds (x := vs) rfl (wpAny_pure ?_)))))))
  refine wpAny_bind (slicePart_ ps ?_)
  show wpAny _ _ (if ((-1 : Int) == 0) = true then _ else _) _ _ s
  rw [if_neg (by decide)]
  refine wpAny_bind (slicePart_ pl (wpAny_bind (slicePart_ pu (wpAny_bind (wpAny_pure ?_)))))
  exact wpAny_pure h
theorem getItem_tuple_down {t sl : Addr} {items : Array Value} {vl vs : Value} {lo : Option Int} {Q : Value → Shared → Prop} (ht : IsTup s.heap t items) (hs : s.heap.IsSliceOf sl vl .none vs) (pl : IsPart vl lo) (ps : IsPart vs (some (-1)))
    (h : Q (.ref s.heap.objs.size) { s with heap := s.heap.push { cls := .type "tuple", data := .seq (downFrom items.toList lo).toArray } })
    (hsz : (downFrom items.toList lo).length ≤ sizeLine) : wpAny (model prog w) A (getItem (.ref t) (.ref sl)) Q E s := by
  obtain ⟨os, hos, hcs, hds⟩ := id hs
  have hTs : s.TypeIs (.ref sl) "slice" := ⟨os, hos, hcs⟩
  have htake : sizeOk (.seq (downFrom items.toList lo).toArray) := by
    show (downFrom items.toList lo).toArray.size ≤ sizeLine
    rw [List.size_toArray]
    exact hsz
  unfold getItem
  try with_reducible refine wpAny_holding ?_
  first | refine wpAny_bind (wpAny_pure ?_) | skip
  refine wpAny_bind (wpAny_sequenceKey ht.typeIs (by decide) ?_)
  refine wpAny_bind (wpAny_callSpecial?_slot (name := Str.ofString "__getitem__") ht.typeIs PyProof.Rows.slot_tuple_getitem
    (wpAny_call_entry PyProof.Rows.slot_tuple_getitem ht.typeIs entry_tuple_getitem ?_ (args_tuple_getitem _ _)))
  show wpAny _ _ (Builtin.Tuple.tupleItemsOf (.ref t) >>= _) _ _ s
  refine wpAny_bind (tupleItemsOf_ ht ?_)
  refine wpAny_bind (wpAny_typeOf hTs ?_)
  rw [if_pos (by decide)]
  refine wpAny_bind (sliceApplied_down hs pl .none ps ?_)
  have hno : ¬ (((Builtin.Slice.sliceAdjust lo none (-1) (items.size : Int)).1 == 0 && (-1 : Int) == 1 && Builtin.Slice.slicePlaces (Builtin.Slice.sliceAdjust lo none (-1) (items.size : Int)).1 (Builtin.Slice.sliceAdjust lo none (-1) (items.size : Int)).2 (-1) == items.size) = true) := by
    have e : ((-1 : Int) == 1) = false := rfl
    rw [e, Bool.and_false, Bool.false_and]
    exact Bool.false_ne_true
  show wpAny _ _ (if ((Builtin.Slice.sliceAdjust lo none (-1) (items.size : Int)).1 == 0 && (-1 : Int) == 1 && Builtin.Slice.slicePlaces (Builtin.Slice.sliceAdjust lo none (-1) (items.size : Int)).1 (Builtin.Slice.sliceAdjust lo none (-1) (items.size : Int)).2 (-1) == items.size) = true then _ else _) _ _ s
  rw [if_neg hno]
  have ed : ((List.range (Builtin.Slice.slicePlaces (Builtin.Slice.sliceAdjust lo none (-1) (items.size : Int)).1 (Builtin.Slice.sliceAdjust lo none (-1) (items.size : Int)).2 (-1))).filterMap fun (k : Nat) => items[((Builtin.Slice.sliceAdjust lo none (-1) (items.size : Int)).1 + (k : Int) * (-1)).toNat]?).toArray = (downFrom items.toList lo).toArray := by
    unfold downFrom
    simp
  rw [ed]
  first
    | exact wpAny_bind (m := Builtin.Tuple.tupleExact _) (wpAny_newObj_type (wpAny_pure ⟨_, rfl, wpAny_pure h⟩) htake)
    | exact wpAny_bind (m := Builtin.Tuple.tupleExact _) (wpAny_newObj_type (wpAny_bind (wpAny_pure (wpAny_pure ⟨_, rfl, wpAny_pure h⟩))) htake)
    | exact wpAny_bind (wpAny_bind (m := Builtin.Tuple.tupleExact _) (wpAny_newObj_type (wpAny_pure (wpAny_pure ⟨_, rfl, wpAny_pure h⟩)) htake))
    | exact wpAny_bind (wpAny_bind (m := Builtin.Tuple.tupleExact _) (wpAny_newObj_type (wpAny_pure ⟨_, rfl, wpAny_pure h⟩) htake))
end
theorem places_le {lo : Option Int} {n : Nat} : Builtin.Slice.slicePlaces (Builtin.Slice.sliceAdjust lo none (-1) (n : Int)).1 (Builtin.Slice.sliceAdjust lo none (-1) (n : Int)).2 (-1) ≤ n := by
  unfold Builtin.Slice.slicePlaces Builtin.Slice.sliceAdjust
  simp only [show ((-1 : Int) > 0) = False from by simp, if_false, show ((-1 : Int) < 0) = True from by simp, if_true]
  have e : -(-1 : Int) = 1 := rfl
  rw [e]
  cases lo with
  | none => simp only [Int.ediv_one]; split <;> omega
  | some v =>
    simp only [Int.ediv_one]
    split <;> split <;> omega
theorem downFrom_len {α : Type} (xs : List α) (lo : Option Int) : (downFrom xs lo).length ≤ xs.length := by
  unfold downFrom
  refine Nat.le_trans (List.length_filterMap_le _ _) ?_
  rw [List.length_range]
  exact places_le
theorem Vals.down {xs : List V} {us : List Value} (r : Vals xs us) (lo : Option Int) : Vals (downFrom xs lo) (downFrom us lo) := by
  unfold downFrom
  rw [r.length]
  generalize List.range _ = ks
  induction ks with
  | nil => exact .nil
  | cons k ks ih =>
    rw [List.filterMap_cons, List.filterMap_cons]
    cases q : xs[((Builtin.Slice.sliceAdjust lo none (-1) us.length).1 + (k : Int) * (-1)).toNat]? with
    | none => rw [r.none_of q]; exact ih
    | some x =>
      obtain ⟨u, h1, h2⟩ := r.get q
      rw [h1]
      exact .cons h2 ih
section
variable {X : Cx}
def tDownT (K : PySem.W.Frag) (te : TE) (tl : TO) : TE := fun σ H Q => te σ H fun x H1 => tl σ H1 fun l H2 => ∃ a xs, x = .ref a ∧ SqT K H2 a xs ∧ ∀ p, H2 p = none → Q (.ref p) (upd H2 p (.tup (downFrom xs l)))
theorem pe_downT {e : Expr} {lo : Option Expr} {te : TE} {tl : TO} {k : Nat} {p1 p2 p3 pos : Pos} (he : PE X e te) (hl : PO X lo tl) : PE X (.Subscript e (.Slice lo none (some (.UnaryOp .USub (.Constant (.int 1) k p1) p2)) p3) pos) (tDownT X.K te tl) := by
  refine ⟨fun pins s σ H Q I h => ?_⟩
  refine Subscript_ (thn (he.run pins s σ H _ I h) fun v s1 ⟨x, H1, I1, r1, q1⟩ => ?_)
  have hst : PO X (some (.UnaryOp .USub (.Constant (.int 1) k p1) p2)) (tPart (tUn (rU fun i => .int (-i)) (tC (.int 1)))) := po_some (pe_un un_neg pe_int)
  refine wpAny_Slice (thn (hl.run pins s1 σ H1 _ I1 q1) fun vl s2 ⟨l, H2, I2, pl, a, xs, ex, hx, q⟩ => ?_)
  subst ex
  cases r1
  refine thn (po_none.run pins s2 σ H2 (fun o H3 => o = none ∧ H3 = H2) I2 ⟨rfl, rfl⟩) fun vu s3 ⟨u, H3, I3, pu, eu, e3⟩ => ?_
  subst eu e3
  refine thn (hst.run pins s3 σ H3 (fun o H4 => o = some (-1) ∧ H4 = H3) I3 ⟨1, rfl, -1, rfl, rfl, rfl⟩) fun vs s4 ⟨o, H4, I4, ps, eo, e4⟩ => ?_
  subst eo e4
  have I5 : L2.Inv X pins σ H4 { s4 with heap := s4.heap.push { cls := .type "slice", data := .fields #[vl, vu, vs] } } := I4.kept (t' := s4.toks) fun b ob q => Heap.get?_push_of_some _ q
  obtain ⟨its, r, ht, hz⟩ := I5.tuple hx
  have hlen := r.length
  cases pu
  show wpAny (model X.prog X.w) X.A (subscriptTail e (.Slice lo none (some (.UnaryOp .USub (.Constant (.int 1) k p1) p2)) p3) (.ref a) (.ref s4.heap.objs.size)) (EP X pins σ Q) X.xe { s4 with heap := s4.heap.push { cls := .type "slice", data := .fields #[vl, .none, vs] } }
  refine tail_any (ops := [.ref a, .ref s4.heap.objs.size]) ht.typeIs (PyProof.Rows.slot_tuple_getitem.lookup) ?_ (by with_unfolding_all rfl)
  have dl := downFrom_len its l
  refine getItem_tuple_down ht (Heap.IsSliceOf.new _ vl .none vs) pl ps ?_ (by simpa using (by omega : (downFrom its l).length ≤ sizeLine))
  refine ⟨.ref _, _, I5.laid (t' := s4.toks) (o := .tup (downFrom xs l)) (fun b ob q => Heap.get?_push_of_some _ q) (Nat.le_refl _) ?_, rfl, q _ (I5.hok.fresh (Nat.le_refl _))⟩
  have dx := downFrom_len xs l
  exact ⟨by omega, _, Vals.down r l, IsTup.new _ _⟩
/-! a tuple once -/
theorem tuple_mul1 (l : Addr) (items : Array Value) (n : Nat) (dd : Option Addr) (sl : Array (Option Value)) (u : Tok) :
    Meets (Builtin.«tuple.__mul__» ⟨[.ref l, .int 1 u], []⟩) (fun _ R s => s.heap.get? l = some { cls := .type "tuple", dict := dd, data := .seq items n, slots := sl } ∧ R (.ok (.ret (Value.ref l))) s) :=
  .of_wp fun prog w A R s h => by
    obtain ⟨hp, g, d, tk, os⟩ := s
    obtain ⟨hl, h⟩ := h
    have f1 := AutoSeq1.idx_int
    have c1 : (items.isEmpty || (1 : Int) == 1) = true := by simp
    wp_walk using wpAny_loadPart' hl
    exact ⟨_, rfl, h⟩
theorem op_rep1 : OpR X (binaryOp .Mult) (fun x y H Q => ∃ l xs, x = .ref l ∧ y = .int 1 ∧ SqT X.K H l xs ∧ Q (.ref l) H) := by
  intro pins s σ H x y v u Q I rx ry h
  obtain ⟨l, xs, rfl, rfl, hT, q⟩ := h
  cases rx
  obtain ⟨t, rfl⟩ := ry
  obtain ⟨its, r, ⟨⟨cls, dd, data, sl⟩, ho, hc, n, hd⟩, hs⟩ := I.tuple hT
  simp only at hc hd
  subst hc hd
  exact wpAny_binaryOp_repeat_ref (T := "tuple") (U := "int") (by decide) ⟨_, ho, rfl⟩ (fun s' => typeIs_int s' 1 t) noFill_tuple_mul F.fills_int_mul F.slot_int_rmul repeat_tuple F.slot_int_index.lookup
    (call_meets F.slot_int_rmul (typeIs_int s 1 t) F.entry_int_rmul (F.args_int_rmul_2 _ _) (int_rmul_tuple 1 t l its.toArray n dd sl)
      ⟨ho, rfl, ⟨_, ho, rfl⟩, call_meets F.slot_tuple_mul ⟨_, ho, rfl⟩ F.entry_tuple_mul (F.args_tuple_mul_2 _ _) (tuple_mul1 l its.toArray n dd sl t) ⟨ho, .ref l, H, I, rfl, q⟩⟩)
/-! a text several times -/
theorem op_repS : OpR X (binaryOp .Mult) (fun x y H Q => ∃ z k, x = .str z ∧ y = .int k ∧ 2 ≤ k ∧ k ≤ 1000 ∧ z.length ≤ 1000 ∧ z.length ≠ 0 ∧ Q (.str ⟨(List.replicate k.toNat z.cps).foldl (· ++ ·) #[]⟩) H) := by
  intro pins s σ H x y v u Q I rx ry h
  obtain ⟨z, k, rfl, rfl, h1, h2, h3, h4, q⟩ := h
  obtain ⟨t, rfl⟩ := rx
  obtain ⟨t', rfl⟩ := ry
  have e1 : ¬ k < 1 := by omega
  have e2 : (k == 1 || z.length == 0) = false := by
    rw [show (k == 1) = false from beq_eq_false_iff_ne.mpr (by omega), show (z.length == 0) = false from beq_eq_false_iff_ne.mpr h4]
    rfl
  refine PySem.P.mul_str (by rw [decide_eq_false (by omega), decide_eq_false (by omega)]; rfl) (fun _ _ => ?_) (fun _ _ => ?_) ?_
  · have a1 : (1000 : Int) ≤ (2 ^ 63 - 1) / k := by
      rw [Int.le_ediv_iff_mul_le (by omega)]
      omega
    omega
  · unfold Builtin.Str.tooLong
    refine decide_eq_false ?_
    have a1 : z.length * k.toNat ≤ 1000 * 1000 := Nat.mul_le_mul h3 (by omega)
    rw [sizeLine_eq]
    omega
  · rw [if_neg e1, e2]
    refine ⟨?_, .str _, H, I.tok _, ⟨_, rfl⟩, q⟩
    show ((List.replicate k.toNat z.cps).foldl (· ++ ·) #[]).size ≤ sizeLine
    have f0 : ∀ (m : Nat) (acc : Array Nat), ((List.replicate m z.cps).foldl (· ++ ·) acc).size = acc.size + m * z.cps.size := fun m => by
      induction m with
      | zero => intro acc; simp
      | succ m ih => intro acc; rw [List.replicate_succ, List.foldl_cons, ih, Array.size_append, Nat.succ_mul]; omega
    rw [f0]
    have a1 : k.toNat * z.cps.size ≤ 1000 * 1000 := Nat.mul_le_mul (by omega) h3
    rw [sizeLine_eq]
    simp
    omega
/-! list(text) -/
theorem valsSigns : ∀ (cs : List Nat) (vs : List Value), (cs.map fun c => V.str ⟨#[c]⟩).length = vs.length → (∀ (j : Nat) (v : Value), vs[j]? = some v → ∃ c u, cs[j]? = some c ∧ v = Value.str ⟨#[c]⟩ u) → Vals (cs.map fun c => V.str ⟨#[c]⟩) vs
  | [], [], _, _ => .nil
  | [], _ :: _, hl, _ => by simp at hl
  | _ :: _, [], hl, _ => by simp at hl
  | c :: cs, v :: vs, hl, hg => by
    obtain ⟨c', u, h1, h2⟩ := hg 0 v rfl
    simp at h1
    subst h1
    exact .cons ⟨u, h2⟩ (valsSigns cs vs (by simpa using hl) fun j v hv => by simpa using hg (j + 1) v (by simpa using hv))
theorem call_listS (hc : X.calm = true) : CallR X (.type "list") (fun xs H Q => ∃ z : Str, xs = [.str z] ∧ z.length ≤ sizeLine ∧ ∀ p, H p = none → Q (.ref p) (upd H p (.lst (z.cps.toList.map fun c => V.str ⟨#[c]⟩)))) := by
  intro pins s σ H xs us Q I r h
  obtain ⟨z, rfl, hz, q⟩ := h
  cases r with
  | cons r1 r2 =>
    cases r2
    obtain ⟨t, rfl⟩ := r1
    refine call_list_str (I.ok.hd hc) z t (hn := hz) fun h' tk acc' c' hk hS' hacc => ?_
    have np : H s.heap.objs.size = none := I.hok.fresh (Nat.le_refl _)
    have rv : Vals (z.cps.toList.map fun c => V.str ⟨#[c]⟩) acc'.toList := by
      have hl : (z.cps.toList.map fun c => V.str ⟨#[c]⟩).length = acc'.toList.length := by simp [hacc.1]
      have hg : ∀ (j : Nat) (v : Value), acc'.toList[j]? = some v → ∃ c u, z.cps.toList[j]? = some c ∧ v = Value.str ⟨#[c]⟩ u := fun j v hv => by
        obtain ⟨c, u, h1, h2⟩ := hacc.2 j v (by simpa using hv)
        exact ⟨c, u, by simpa using h1, h2⟩
      exact valsSigns _ _ hl hg
    have hlen : (z.cps.toList.map fun c => V.str ⟨#[c]⟩).length ≤ sizeLine := by rw [List.length_map, Array.length_toList]; exact hz
    exact ⟨.ref _, _, I.laid (t' := tk) (o := .lst (z.cps.toList.map fun c => V.str ⟨#[c]⟩)) hk (Nat.le_refl _) ⟨hlen, acc'.toList, c', rv, by simpa using hS'⟩, rfl, q _ np⟩
/-! a < b < c < d, as a value -/
variable {a b c d : Expr} {ta tb tc td : TE} {pos : Pos}
def tChain3 (r r' r2 : R2) (ta tb tc td : TE) : TE := fun σ H Q => ta σ H fun x H1 => tb σ H1 fun y H2 => r x y H2 fun z H3 => ∃ k, z = .bl k ∧
  (if k = true then tc σ H3 fun w' H4 => r' y w' H4 fun z2 H5 => ∃ k2, z2 = .bl k2 ∧ (if k2 = true then td σ H5 fun u' H6 => r2 w' u' H6 Q else Q (.bl false) H5) else Q (.bl false) H3)
theorem pe_chain3 {op op' op2 : CmpOp} {r r' r2 : R2} (ho : OpR X (compareOp op) r) (ho' : OpR X (compareOp op') r') (ho2 : OpR X (compareOp op2) r2) (ha : PE X a ta) (hb : PE X b tb) (hc : PE X c tc) (hd : PE X d td)
    (hm : lastMarks [op, op', op2] [b, c, d] = false) : PE X (.Compare a [op, op', op2] [b, c, d] pos) (tChain3 r r' r2 ta tb tc td) := by
  refine ⟨fun pins s σ H Q I h => ?_⟩
  refine Compare_chain (thn (ha.run pins s σ H _ I h) fun v s1 ⟨x, H1, I1, r1, q1⟩ => chain_link (thn (hb.run pins s1 σ H1 _ I1 q1) fun u s2 ⟨y, H2, I2, r2', q2⟩ =>
    thn (ho pins s2 σ H2 x y v u _ I2 r1 r2' q2) fun d s3 ⟨z, H3, I3, r3, k, e, q3⟩ => ?_)) hm
  subst e
  cases r3
  refine wpAny_truthy_bool ?_
  cases k with
  | false => exact ite_ff ⟨.bl false, H3, I3, rfl, q3⟩
  | true =>
    refine ite_tt (chain_link (thn (hc.run pins s3 σ H3 _ I3 q3) fun w' s4 ⟨z', H4, I4, r4, q4⟩ => thn (ho' pins s4 σ H4 y z' u w' _ I4 r2' r4 q4) fun d s5 ⟨z2, H5, I5, r5, k2, e2, q5⟩ => ?_))
    subst e2
    cases r5
    refine wpAny_truthy_bool ?_
    cases k2 with
    | false => exact ite_ff ⟨.bl false, H5, I5, rfl, q5⟩
    | true => exact ite_tt (chain_last (thn (hd.run pins s5 σ H5 _ I5 q5) fun w2 s6 ⟨z3, H6, I6, r6, q6⟩ => ho2 pins s6 σ H6 z' z3 w' w2 Q I6 r4 r6 q6))
end
end DL
/-! Sets of nested tuples (whole numbers, None, such tuples): set(xs), sorted(set(xs)). -/
namespace NS
open PySem PySem.Spec PyProof.Rows L2
mutual
/-- no text inside -/
def noText : NestedKey → Bool
  | .none => true
  | .num _ => true
  | .text _ => false
  | .tup ks => noTexts ks
def noTexts : List NestedKey → Bool
  | [] => true
  | k :: ks => noText k && noTexts ks
end
/-- the tuple at b is the key k -/
structure KeyAt (h : Heap) (k : NestedKey) (b : Addr) : Prop where
  nk : NestedIs h k (.ref b)
  dp : k.depth ≤ 8
  nt : noText k = true
section
variable {P : Program} {w : World}
def ClsAt (P : Program) (w : World) (n : Nat) (s : Shared) (v : Value) : Prop := ∀ (A : Around) (E : Value → Shared → Prop) (Q : Bool → Shared → Prop), Q false s → wpAny (model P w) A (ofAClassStatement n v) Q E s
def HshAt (P : Program) (w : World) (n : Nat) (s : Shared) (v : Value) : Prop := ∀ (A : Around) (E : Value → Shared → Prop) (Q : Bool → Shared → Prop), Q true s → wpAny (model P w) A (hashByValue n v) Q E s
theorem ClsAt.tuple {n : Nat} {s : Shared} {b : Addr} {ob : Obj} {us : Array Value} {m : Nat} (g1 : s.heap.get? b = some ob) (g2 : ob.cls = .type "tuple") (g3 : ob.data = .seq us m) (g4 : ∀ u ∈ us.toList, ClsAt P w n s u) : ClsAt P w (n + 1) s (.ref b) := fun A E Q q => by
  unfold ofAClassStatement
  refine wpAny_bind (wpAny_typeOf ⟨ob, g1, g2⟩ ?_)
  dsimp only
  simp only [show (("tuple" : String) == "tuple") = true from by decide, if_true, Bool.not_true, Bool.false_eq_true, if_false]
  try refine wpAny_bind (wpAny_pure ?_)
  try simp only [Bool.not_true, Bool.false_eq_true, if_false]
  show wpAny _ _ (seqItems? (.ref b) >>= _) _ _ s
  refine wpAny_bind (wpAny_seqItems g1 g3 ?_)
  dsimp only
  refine wpAny_bind ?_
  show wpAny _ _ (forIn us _ _) _ _ s
  rw [← Array.forIn_toList]
  refine wpAny_forIn_list _ (fun l x s1 => x.1 = none ∧ s1 = s ∧ ∀ u ∈ l, ClsAt P w n s u) _ ?_ ?_ _ _ ⟨rfl, rfl, g4⟩
  · rintro u l x s1 ⟨_, rfl, hl⟩
    refine wpAny_bind (hl u (List.mem_cons_self) _ _ _ ?_)
    simp only [Bool.false_eq_true, if_false]
    exact wpAny_pure ⟨rfl, rfl, fun z hz => hl z (.tail _ hz)⟩
  · rintro ⟨x1, x2⟩ s1 ⟨hx, rfl, _⟩
    simp only at hx
    subst hx
    exact wpAny_pure q
theorem HshAt.tuple {n : Nat} {s : Shared} {b : Addr} {ob : Obj} {us : Array Value} {m : Nat} (g1 : s.heap.get? b = some ob) (g2 : ob.cls = .type "tuple") (g3 : ob.data = .seq us m) (g4 : ∀ u ∈ us.toList, HshAt P w n s u) : HshAt P w (n + 1) s (.ref b) := fun A E Q q => by
  have ty : s.TypeIs (.ref b) "tuple" := ⟨ob, g1, g2⟩
  unfold hashByValue
  refine wpAny_bind (wpAny_specialOf ty F.slot_tuple_hash.lookup ?_)
  show wpAny _ _ (seqItems? (.ref b) >>= _) _ _ s
  refine wpAny_bind (wpAny_seqItems g1 g3 ?_)
  refine wpAny_bind ?_
  show wpAny _ _ (forIn us _ _) _ _ s
  rw [← Array.forIn_toList]
  refine wpAny_forIn_list _ (fun l x s1 => x.1 = none ∧ s1 = s ∧ ∀ u ∈ l, HshAt P w n s u) _ ?_ ?_ _ _ ⟨rfl, rfl, g4⟩
  · rintro u l x s1 ⟨_, rfl, hl⟩
    refine wpAny_bind (hl u (List.mem_cons_self) _ _ _ ?_)
    simp only [Bool.not_true, Bool.false_eq_true, if_false]
    exact wpAny_pure ⟨rfl, rfl, fun z hz => hl z (.tail _ hz)⟩
  · rintro ⟨x1, x2⟩ s1 ⟨hx, rfl, _⟩
    simp only at hx
    subst hx
    exact wpAny_pure q
mutual
theorem cls_key : ∀ (k : NestedKey) (v : Value) (n : Nat) (s : Shared), NestedIs s.heap k v → k.depth ≤ n → ClsAt P w n s v
  | .none, _, n, s, x, _ => by cases x; intro A E Q q; cases n <;> exact wpAny_pure q
  | .num i, _, n, s, x, _ => by cases x <;> (intro A E Q q; cases n <;> exact wpAny_pure q)
  | .text y, _, n, s, x, _ => by cases x; intro A E Q q; cases n <;> exact wpAny_pure q
  | .tup ks, _, n, s, x, hn => by
    cases x with
    | tup g1 g2 g3 g4 =>
      simp only [NestedKey.depth] at hn
      match n, hn with
      | n + 1, hn => exact ClsAt.tuple g1 g2 g3 (cls_keys ks _ n s g4 (by omega))
theorem cls_keys : ∀ (ks : List NestedKey) (vs : List Value) (n : Nat) (s : Shared), NestedAll s.heap ks vs → NestedKey.depthAll ks ≤ n → ∀ v ∈ vs, ClsAt P w n s v
  | [], _, n, s, x, _, v, hv => by cases x; cases hv
  | k :: ks, _, n, s, x, hn, v, hv => by
    cases x with
    | cons x1 x2 =>
      simp only [NestedKey.depthAll] at hn
      rcases List.mem_cons.mp hv with z | z
      · rw [z]; exact cls_key k _ n s x1 (by omega)
      · exact cls_keys ks _ n s x2 (by omega) v z
end
mutual
theorem hsh_key : ∀ (k : NestedKey) (v : Value) (n : Nat) (s : Shared), NestedIs s.heap k v → noText k = true → k.depth ≤ n → HshAt P w n s v
  | .none, _, n, s, x, _, _ => by cases x; intro A E Q q; cases n <;> exact wpAny_pure q
  | .num i, _, n, s, x, _, _ => by cases x <;> (intro A E Q q; cases n <;> exact wpAny_pure q)
  | .text y, _, n, s, x, z, _ => by simp [noText] at z
  | .tup ks, _, n, s, x, z, hn => by
    cases x with
    | tup g1 g2 g3 g4 =>
      simp only [NestedKey.depth] at hn
      simp only [noText] at z
      match n, hn with
      | n + 1, hn => exact HshAt.tuple g1 g2 g3 (hsh_keys ks _ n s g4 z (by omega))
theorem hsh_keys : ∀ (ks : List NestedKey) (vs : List Value) (n : Nat) (s : Shared), NestedAll s.heap ks vs → noTexts ks = true → NestedKey.depthAll ks ≤ n → ∀ v ∈ vs, HshAt P w n s v
  | [], _, n, s, x, _, _, v, hv => by cases x; cases hv
  | k :: ks, _, n, s, x, y, hn, v, hv => by
    cases x with
    | cons x1 x2 =>
      simp only [NestedKey.depthAll] at hn
      simp only [noTexts, Bool.and_eq_true] at y
      rcases List.mem_cons.mp hv with z | z
      · rw [z]; exact hsh_key k _ n s x1 y.1 (by omega)
      · exact hsh_keys ks _ n s x2 y.2 (by omega) v z
end
variable {A : Around} {E : Value → Shared → Prop} {s : Shared}
theorem seenN {k : NestedKey} {b : Addr} {Q : Bool → Shared → Prop} (hk : KeyAt s.heap k b) {ys : List Value} (hy : ∀ y ∈ ys, ∃ k2 c, y = Value.ref c ∧ KeyAt s.heap k2 c) (q : Q false s) : wpAny (model P w) A (searchCouldBeSeen (.ref b) ys) Q E s := by
  unfold searchCouldBeSeen
  refine wpAny_bind ?_
  refine wpAny_forIn_list _ (fun l x s1 => x.1 = none ∧ s1 = s ∧ ∀ y ∈ l, ∃ k2 c, y = Value.ref c ∧ KeyAt s.heap k2 c) _ ?_ ?_ _ _ ⟨rfl, rfl, hy⟩
  · rintro u l x s1 ⟨_, rfl, hl⟩
    obtain ⟨k2, c, rfl, hc⟩ := hl u (List.mem_cons_self)
    have more : ∀ y ∈ l, ∃ k2 c, y = Value.ref c ∧ KeyAt s1.heap k2 c := fun z hz => hl z (.tail _ hz)
    dsimp only
    by_cases hv : (b == c || (carriedByValue (.ref b) && carriedByValue (.ref c))) = true
    · exact wp_if_pos hv (wpAny_pure ⟨rfl, rfl, more⟩)
    · refine wp_if_neg hv ?_
      refine wpAny_bind (quiet_key k _ 8 s1 hk.nk hk.dp _ _ _ ?_)
      simp only [Bool.not_true, Bool.false_eq_true, if_false]
      refine wpAny_bind (quiet_key k2 _ 8 s1 hc.nk hc.dp _ _ _ ?_)
      simp only [Bool.not_true, Bool.false_eq_true, if_false]
      refine wpAny_bind (cls_key k _ 8 s1 hk.nk hk.dp _ _ _ ?_)
      simp only [Bool.false_eq_true, if_false]
      refine wpAny_bind (cls_key k2 _ 8 s1 hc.nk hc.dp _ _ _ ?_)
      simp only [Bool.false_eq_true, if_false]
      exact wpAny_pure ⟨rfl, rfl, more⟩
  · rintro ⟨x1, x2⟩ s1 ⟨hx, rfl, _⟩
    simp only at hx
    subst hx
    exact wpAny_pure q
end
end NS
namespace NS
open PySem PySem.Spec PyProof.Rows L2
abbrev KA := Addr × NestedKey
section
variable {P : Program} {w : World}
def rowsN (w : World) (L : List KA) : List (Int × Value) := L.map fun q => (q.2.hash w, Value.ref q.1)
abbrev hsN (w : World) (L : List KA) : List Int := L.map fun q => q.2.hash w
structure SetN (w : World) (h : Heap) (a : Addr) (L : List KA) (es : Array (Int × Value)) (ep : Nat) (t : SetTable) : Prop where
  at_ : ∃ o, h.get? a = some o ∧ o.ExactSet ∧ o.data = .set es ep t
  rows : es.toList = rowsN w L
  tab : TabOk t (hsN w L)
  nd : (L.map (·.2)).Nodup
  keys : ∀ q ∈ L, KeyAt h q.2 q.1
  plain : t.plain = true
  led : w.params.followText "set-order" = true ∨ t.led = true
  room : L.length * 5 < t.mask * 3
  few : L.length < 64
variable {A : Around} {E : Value → Shared → Prop} {s : Shared} {a : Addr} {L : List KA} {es : Array (Int × Value)} {ep : Nat} {t : SetTable}
theorem rowsN_len (h : es.toList = rowsN w L) : es.size = L.length := by
  have q := congrArg List.length h
  simpa [rowsN] using q
theorem fits_of (h1 : t.place.size = es.size) (h2 : t.dummies = #[]) (h3 : es.size ≤ t.mask) : t.fits es.size = true := by
  simp only [SetTable.fits, SetTable.fill, h2, Bool.and_eq_true, beq_iff_eq, decide_eq_true_eq]
  exact ⟨h1, by simp; omega⟩
theorem SetN.fits {h : Heap} (R : SetN w h a L es ep t) : t.fits es.size = true := by
  have h1 := R.tab.sz
  have h2 := rowsN_len R.rows
  have h3 := R.room
  simp only [List.length_map] at h1
  exact fits_of (by omega) R.tab.dm (by omega)
theorem SetN.ent {h : Heap} (R : SetN w h a L es ep t) {i : Nat} {q : KA} (e : L[i]? = some q) : es[i]? = some (q.2.hash w, Value.ref q.1) := by
  rw [← Array.getElem?_toList, R.rows, rowsN, List.getElem?_map, e]
  rfl
theorem SetN.stays {h : Heap} (R : SetN w h a L es ep t) : ¬ t.gaveWay = true := by
  rw [SetTable.gaveWay, mask_odd R.tab.mok]
  decide
/-- the probe, c steps on -/
abbrev stepAt (m : Nat) (z : Int) (c : Nat) : SetTable.Probe := nth m (runAt m (SetTable.bits z % (m + 1)) (SetTable.bits z)) c
theorem stepAt_dm (m : Nat) (z : Int) (c : Nat) : (stepAt m z c).dummy = none := by
  have key : ∀ (n : Nat) (p : SetTable.Probe), p.dummy = none → (nth m p n).dummy = none := by
    intro n
    induction n with
    | zero => exact fun p e => e
    | succ n ih =>
      intro p e
      refine ih (adv m p) ?_
      unfold adv
      split <;> exact e
  exact key c _ rfl
theorem stepAt_add (m : Nat) (z : Int) (c d : Nat) : nth m (stepAt m z c) d = stepAt m z (c + d) := (nth_add m c _ d).symm
theorem srch (R : SetN w s.heap a L es ep t) {x : Addr} {k : NestedKey} (hx : KeyAt s.heap k x) (hu : A.units + 8 < cLine) {n : Nat} (hnf : n < 10 * SetTable.turns t.mask)
    (hn : way t.mask (k.hash w) n ∉ t.place.toList) (hb : ∀ c, c < n → way t.mask (k.hash w) c ∈ t.place.toList) {Q : SetFound → Shared → Prop}
    (yes : k ∈ L.map (·.2) → Q (.there none) s) (no : k ∉ L.map (·.2) → Q (.free (way t.mask (k.hash w) n) false) s) :
    ∀ (f c : Nat) (st : Option SetTable.Probe), st.getD (t.probeStart (k.hash w)) = stepAt t.mask (k.hash w) c → c ≤ n → n - c < f →
      (∀ (i : Nat) q, L[i]? = some q → q.2 = k → ∃ d, c ≤ d ∧ d < n ∧ t.place.toList[i]? = some (way t.mask (k.hash w) d)) →
      wpAny (model P w) A (setSearchFrom a (.ref x) (k.hash w) true f st) Q E s
  | 0, _, _, _, _, hf, _ => absurd hf (Nat.not_lt_zero _)
  | f + 1, c, st, hst, hc, hf, hre => by
    obtain ⟨o, g1, g2, g3⟩ := R.at_
    rw [setSearchFrom_succ]
    refine wpAny_bind (wpAny_setState_of g1 g3 (SetN.fits R) ?_)
    dsimp only
    refine wp_if_neg (SetN.stays R) ?_
    try refine wpAny_bind (wpAny_pure ?_)
    have w1 : ∀ d, (nth t.mask (stepAt t.mask (k.hash w) c) d).j = way t.mask (k.hash w) (c + d) := fun d => congrArg SetTable.Probe.j (stepAt_add t.mask (k.hash w) c d)
    have hs1 : ∀ (i : Nat) q, L[i]? = some q → (fun i => (es[i]?.map (·.1)).getD 0) i = q.2.hash w := fun i q e => by
      show (es[i]?.map (·.1)).getD 0 = _
      rw [SetN.ent R e]
      rfl
    rcases go_spec t R.tab.ris R.tab.dm (fun i => (es[i]?.map (·.1)).getD 0) (k.hash w) (10 * SetTable.turns t.mask) (n - c) _ (stepAt_dm t.mask (k.hash w) c) (by omega) (fun d hd => by rw [w1]; exact hb _ (by omega)) (by rw [w1, show c + (n - c) = n by omega]; exact hn) with
      ⟨d, i, hd, hi, hh, hno, hpr⟩ | ⟨hno, hpr⟩
    · have e1 : t.probe (fun i => (es[i]?.map (·.1)).getD 0) (k.hash w) (st.getD (t.probeStart (k.hash w))) = some (.candidate (way t.mask (k.hash w) (c + d)) i (stepAt t.mask (k.hash w) (c + (d + 1)))) := by
        rw [hst, ← w1, ← stepAt_add]
        exact hpr
      rw [e1]
      dsimp only
      rw [w1] at hi
      have hil : i < L.length := by
        have h1 := (List.getElem?_eq_some_iff.mp hi).1
        have h2 := R.tab.sz
        simp only [List.length_map, Array.length_toList] at h1 h2
        omega
      obtain ⟨q, hq⟩ : ∃ q, L[i]? = some q := ⟨_, List.getElem?_eq_getElem hil⟩
      have hm : q ∈ L := List.mem_of_getElem? hq
      have hqk := R.keys q hm
      have go : wpAny (model P w) A (searchRest a (.ref x) (k.hash w) true f es t (way t.mask (k.hash w) (c + d)) i (stepAt t.mask (k.hash w) (c + (d + 1)))) Q E s := by
        unfold searchRest
        rw [SetN.ent R hq]
        dsimp only
        have hdm : min q.2.depth k.depth ≤ 8 := Nat.le_trans (Nat.min_le_left _ _) hqk.dp
        refine wpAny_bind (wpAny_holding (eqAt_key q.2 k A s _ _ hqk.nk hx.nk (by omega) _ _ _ _ ?_))
        refine wpAny_bind (wpAny_setState_of g1 g3 (SetN.fits R) ?_)
        dsimp only
        rw [← NestedKey.decide_eq]
        by_cases same : q.2 = k
        · refine wp_if_pos (by simp [same]) ?_
          exact wpAny_pure (yes (List.mem_map.mpr ⟨q, hm, same⟩))
        · refine wp_if_neg (by simp [same]) ?_
          try refine wpAny_bind (wpAny_pure ?_)
          rw [sameMem]
          dsimp only
          have live : t.slot (way t.mask (k.hash w) (c + d)) = .live i := slot_live R.tab.ris hi
          simp only [if_true, live, SetN.ent R hq]
          refine wpAny_bind (wpAny_isSame_ref_self (wpAny_bind (wpAny_pure ?_)))
          simp only [if_true]
          refine wp_if_neg (by simp [same]) ?_
          refine srch R hx hu hnf hn hb yes no f (c + (d + 1)) _ rfl (by omega) (by omega) fun i0 q0 z0 z1 => ?_
          obtain ⟨c', y1, y2, y3⟩ := hre i0 q0 z0 z1
          refine ⟨c', ?_, y2, y3⟩
          by_cases lt : c' < c + d
          · exact absurd ((hs1 i0 q0 z0).trans (congrArg (NestedKey.hash w) z1)) (hno (c' - c) i0 (by omega) (by rw [w1, show c + (c' - c) = c' by omega]; exact y3))
          · by_cases gt : c + d < c'
            · omega
            · exfalso
              obtain rfl : c' = c + d := by omega
              have l2 := slot_live R.tab.ris y3
              rw [live] at l2
              injection l2 with l2
              rw [← l2, hq] at z0
              exact same ((congrArg Prod.snd (Option.some.inj z0)).trans z1)
      by_cases hl : t.led = true
      · refine wp_if_neg (by simp [hl]) ?_
        try refine wpAny_bind (wpAny_pure ?_)
        exact go
      · refine wp_if_pos (by simp [hl]) ?_
        refine wpAny_bind (seenN hx (fun y hy => ?_) ?_)
        · obtain ⟨e, he, ee⟩ := List.mem_map.mp hy
          have he2 : e ∈ es.toList := by
            have : e ∈ es ∧ e.1 = k.hash w := by simpa using he
            simpa using this.1
          rw [R.rows] at he2
          obtain ⟨q2, hq2, rfl⟩ := List.mem_map.mp he2
          exact ⟨q2.2, q2.1, ee.symm, R.keys q2 hq2⟩
        · refine wp_if_neg (by decide) ?_
          try refine wpAny_bind (wpAny_pure ?_)
          exact go
    · have e1 : t.probe (fun i => (es[i]?.map (·.1)).getD 0) (k.hash w) (st.getD (t.probeStart (k.hash w))) = some (.empty (way t.mask (k.hash w) n) none) := by
        have e2 := w1 (n - c)
        rw [show c + (n - c) = n by omega] at e2
        rw [hst, ← e2]
        exact hpr
      rw [e1]
      dsimp only
      refine wpAny_pure (no fun hm => ?_)
      obtain ⟨q0, z0, z1⟩ := List.mem_map.mp hm
      obtain ⟨i0, z2⟩ := List.getElem?_of_mem z0
      obtain ⟨c', y1, y2, y3⟩ := hre i0 q0 z2 z1
      exact absurd ((hs1 i0 q0 z2).trans (congrArg (NestedKey.hash w) z1)) (hno (c' - c) i0 (by omega) (by rw [w1, show c + (c' - c) = c' by omega]; exact y3))
theorem srch_all (R : SetN w s.heap a L es ep t) {x : Addr} {k : NestedKey} (hx : KeyAt s.heap k x) (hu : A.units + 8 < cLine) {Q : SetFound → Shared → Prop} (yes : k ∈ L.map (·.2) → Q (.there none) s)
    (no : ∀ n, k ∉ L.map (·.2) → way t.mask (k.hash w) n ∉ t.place.toList → (∀ c, c < n → way t.mask (k.hash w) c ∈ t.place.toList) → Q (.free (way t.mask (k.hash w) n) false) s) :
    wpAny (model P w) A (setSearch a (.ref x) (k.hash w) true) Q E s := by
  have rm := R.room
  obtain ⟨n, nf, n1, n2⟩ := R.tab.first (by simp only [List.length_map]; omega) (k.hash w)
  have big : n < 100000 := by
    have : SetTable.turns t.mask ≤ 142 := by
      unfold SetTable.turns
      rcases R.tab.mok with e | e | e <;> omega
    omega
  unfold setSearch
  refine srch R hx hu nf n1 n2 yes (fun z => no n z n1 n2) 100000 0 none rfl (Nat.zero_le _) (by omega) fun i q hq hk => ?_
  have h1 : (hsN w L)[i]? = some (k.hash w) := by rw [List.getElem?_map, hq, ← hk]; rfl
  have h2 : i < t.place.toList.length := by
    have y1 := (List.getElem?_eq_some_iff.mp hq).1
    have y2 := R.tab.sz
    simp only [List.length_map, Array.length_toList] at y1 y2 ⊢
    omega
  obtain ⟨c, y1, y2⟩ := R.tab.before n1 h1 (List.getElem?_eq_getElem h2)
  exact ⟨c, Nat.zero_le _, y1, by rw [List.getElem?_eq_getElem h2, y2]⟩
end
end NS
namespace NS
open PySem PySem.Spec PyProof.Rows L2
section
variable {P : Program} {w : World} {A : Around} {E : Value → Shared → Prop} {s : Shared} {a : Addr} {L : List KA} {es : Array (Int × Value)} {ep : Nat} {t : SetTable}
/-- keys stay while all else but the set stays -/
theorem key_but {h h' : Heap} {k : NestedKey} {b : Addr} {o : Obj} (x : KeyAt h k b) (g1 : h.get? a = some o) (g3 : o.data = .set es ep t) (hs : Heap.SameBut a h h') : KeyAt h' k b :=
  ⟨NestedIs.at (fun c oc vs n hc hd => (hs.2 c fun e => by
    subst e
    rw [g1] at hc
    cases hc
    rw [g3] at hd
    cases hd).trans hc) k _ x.nk, x.dp, x.nt⟩
theorem key_keep {h h' : Heap} {k : NestedKey} {b : Addr} (x : KeyAt h k b) (hk : ∀ c o, h.get? c = some o → h'.get? c = some o) : KeyAt h' k b :=
  ⟨NestedIs.at (fun c o _ _ hc _ => hk c o hc) k _ x.nk, x.dp, x.nt⟩
theorem order_some (L : List KA) (es : Array (Int × Value)) (hr : es.toList = rowsN w L) : ∀ l : List Nat, (∀ i ∈ l, i < L.length) →
    l.filterMap (fun i => es[i]?) = rowsN w (l.filterMap fun i => L[i]?) ∧ hsN w (l.filterMap fun i => L[i]?) = l.map fun i => (es.map (·.1)).getD i 0
  | [], _ => ⟨rfl, rfl⟩
  | i :: l, h => by
    have hi := h i (by simp)
    obtain ⟨e1, e2⟩ := order_some L es hr l fun j hj => h j (by simp [hj])
    have e3 : es[i]? = some (NestedKey.hash w (L[i]).2, Value.ref (L[i]).1) := by
      rw [← Array.getElem?_toList, hr, rowsN, List.getElem?_map, List.getElem?_eq_getElem hi]
      rfl
    have e4 : L[i]? = some L[i] := List.getElem?_eq_getElem hi
    constructor
    · rw [List.filterMap_cons_some e3, List.filterMap_cons_some e4, e1]
      rfl
    · rw [List.filterMap_cons_some e4, List.map_cons, ← e2]
      show NestedKey.hash w (L[i]).2 :: hsN w _ = _
      refine congrArg (· :: hsN w (l.filterMap fun i => L[i]?)) ?_
      have e5 : (es.map (·.1))[i]? = some (NestedKey.hash w (L[i]).2) := by rw [Array.getElem?_map, e3]; rfl
      simp [Array.getD_eq_getD_getElem?, e5]
theorem range_some {α : Type} : ∀ L : List α, (List.range L.length).filterMap (fun i => L[i]?) = L
  | [] => rfl
  | x :: L => by
    have ih := range_some L
    rw [List.length_cons, List.range_succ_eq_map]
    have e0 : (fun i => (x :: L)[i]?) 0 = some x := rfl
    rw [List.filterMap_cons_some e0, List.filterMap_map]
    exact congrArg (x :: ·) ih
theorem put_rows (L : List KA) (p : Nat) (x : Addr) (k : NestedKey) : rowsN w (L.take p ++ (x, k) :: L.drop p) = (rowsN w L).take p ++ (k.hash w, Value.ref x) :: (rowsN w L).drop p := by
  simp only [rowsN, List.map_append, List.map_cons, List.map_take, List.map_drop]
theorem put_hs (L : List KA) (p : Nat) (x : Addr) (k : NestedKey) : hsN w (L.take p ++ (x, k) :: L.drop p) = (hsN w L).take p ++ k.hash w :: (hsN w L).drop p := by
  simp only [hsN, List.map_append, List.map_cons, List.map_take, List.map_drop]
/-- the table laid out anew -/
theorem relayN {o : Obj} (g1 : s.heap.get? a = some o) (g2 : o.ExactSet) (g3 : o.data = .set es ep t) (hr : es.toList = rowsN w L) (hz : t.place.size = es.size) (hd : t.dummies = #[]) (hf : es.size ≤ t.mask)
    (nd : (L.map (·.2)).Nodup) (ky : ∀ q ∈ L, KeyAt s.heap q.2 q.1) (pl : t.plain = true) (ld : w.params.followText "set-order" = true ∨ t.led = true) (few : L.length < 64) {big M : Nat}
    (m1 : SetTable.sizeAbove big - 1 = M) (m2 : MaskOk M) (m3 : SetTable.sizeAbove big ≤ 128) (m4 : L.length * 5 < M * 3) {Q : Unit → Shared → Prop}
    (hQ : ∀ h2 L2 es2 ep2 t2, Heap.SameBut a s.heap h2 → SetN w h2 a L2 es2 ep2 t2 → L2.Perm L → Q () { s with heap := h2 }) : wpAny (model P w) A (setRelay a big) Q E s := by
  have sl := rowsN_len hr
  obtain ⟨t2, ord, e, pm, T, em, el, e5, ed⟩ := relaid_ok t (hs := es.map (·.1)) (wanted := big) m1 m2 (by rw [Array.size_map, sl]; omega)
  rw [Array.size_map, sl] at pm
  obtain ⟨r1, r2⟩ := order_some L es hr ord.toList fun i hi => List.mem_range.mp (pm.mem_iff.mp hi)
  have p2 : (ord.toList.filterMap fun i => L[i]?).Perm L := by
    have := pm.filterMap fun i => L[i]?
    rwa [range_some] at this
  generalize hL2 : (ord.toList.filterMap fun i => L[i]?) = L2 at r1 r2 p2
  rw [← r2] at T
  have r3 : (ord.filterMap (es[·]?)).toList = rowsN w L2 := by
    first
      | (rw [Array.toList_filterMap]; exact r1)
      | simpa using r1
  have s2 : (ord.filterMap (es[·]?)).size = es.size := by rw [rowsN_len r3, p2.length_eq, sl]
  rw [setRelay_eq]
  refine wpAny_bind (wpAny_setState_of g1 g3 (fits_of hz hd hf) ?_)
  dsimp only
  refine wp_if_neg (by rw [sizeLine_eq]; omega) ?_
  try refine wpAny_bind (wpAny_pure ?_)
  rw [e]
  dsimp only
  refine wpAny_bind ?_
  refine wp_if_neg (by rw [s2]; simp) ?_
  try refine wpAny_bind (wpAny_pure ?_)
  refine wpAny_pure ?_
  dsimp only
  refine wpAny_storeSet_of g1 g3 ?_ (by rw [s2, sl, sizeLine_eq]; omega)
  have sb : Heap.SameBut a s.heap (s.heap.update a (Obj.putSet (ord.filterMap (es[·]?)) t2)) := Heap.SameBut.update ..
  refine hQ _ L2 (ord.filterMap (es[·]?)) (ep + 1) t2 sb ⟨⟨_, store_at g1 g3, ⟨g2.1, g2.2.1, g2.2.2⟩, rfl⟩, r3, T, (p2.map (·.2)).nodup_iff.mpr nd, fun q hq => key_but (ky q (p2.mem_iff.mp hq)) g1 g3 sb, by rw [e5]; exact pl, by rw [el]; exact ld, by rw [p2.length_eq, em]; exact m4, by rw [p2.length_eq]; exact few⟩ p2
/-- one more -/
theorem addN (R : SetN w s.heap a L es ep t) {x : Addr} {k : NestedKey} (hx : KeyAt s.heap k x) (hu : A.units + 8 < cLine) (few : L.length + 1 < 64) {Q : Bool → Shared → Prop}
    (hQ : ∀ b h2 L2 es2 ep2 t2, Heap.SameBut a s.heap h2 → SetN w h2 a L2 es2 ep2 t2 → (k ∈ L.map (·.2) → L2 = L) → (k ∉ L.map (·.2) → L2.Perm ((x, k) :: L)) → Q b { s with heap := h2 }) :
    wpAny (model P w) A (setAddHashed a (.ref x) (k.hash w)) Q E s := by
  obtain ⟨o, g1, g2, g3⟩ := R.at_
  have sl := rowsN_len R.rows
  have rm := R.room
  unfold setAddHashed
  refine wpAny_holding ?_
  rw [show (100000 : Nat) = 99999 + 1 from rfl, setAddHashedIn_succ]
  refine wpAny_bind (wpAny_setState_of g1 g3 (SetN.fits R) ?_)
  dsimp only
  refine wp_if_neg (by simp [byScan, Value.scannable]) ?_
  try refine wpAny_bind (wpAny_pure ?_)
  refine wpAny_bind (srch_all R hx hu (fun z => ?_) fun n z n1 n2 => ?_)
  · dsimp only
    exact wpAny_pure (hQ false s.heap L es ep t (Heap.SameBut.refl a s.heap) R (fun _ => rfl) fun y => absurd z y)
  · dsimp only
    refine wpAny_bind (wpAny_setState_of g1 g3 (SetN.fits R) ?_)
    dsimp only
    obtain ⟨q1, q2, q3, q4, q5, q6, q7, q8, q9⟩ := R.tab.put n1 n2
    have pl1 : (t.put (way t.mask (k.hash w) n)).1.plain = true := by rw [q6]; exact R.plain
    generalize hpt : t.put (way t.mask (k.hash w) n) = pt at q1 q3 q4 q5 q6 q7 q8 q9 pl1 ⊢
    obtain ⟨t1, p⟩ := pt
    dsimp only at q1 q3 q4 q5 q6 q7 q8 q9 pl1 ⊢
    subst q1
    have hsh := hsh_key (P := P) (w := w) k (.ref x) 8 s hx.nk hx.nt hx.dp
    first
      | (refine wpAny_bind ?_; refine wp_if_pos pl1 ?_; refine hsh _ _ _ ?_)
      | refine wp_if_pos pl1 (wpAny_bind (hsh _ _ _ ?_))
    simp only [if_true]
    have hin : (SetTable.insertAt es (SetTable.below t.place (way t.mask (k.hash w) n)) (k.hash w, Value.ref x)).toList = rowsN w (L.take (SetTable.below t.place (way t.mask (k.hash w) n)) ++ (x, k) :: L.drop (SetTable.below t.place (way t.mask (k.hash w) n))) := by
      rw [SetTable.toList_insertAt, put_rows, R.rows]
    generalize hpp : SetTable.below t.place (way t.mask (k.hash w) n) = p at q2 q3 hin ⊢
    have pm := put_perm L p (x, k)
    have len1 : (L.take p ++ (x, k) :: L.drop p).length = L.length + 1 := pm.length_eq
    rw [← put_hs (x := x)] at q3
    have nd1 : ((L.take p ++ (x, k) :: L.drop p).map (·.2)).Nodup := by
      refine (pm.map (·.2)).nodup_iff.mpr ?_
      rw [List.map_cons]
      exact List.nodup_cons.mpr ⟨z, R.nd⟩
    have es1s : (SetTable.insertAt es p (k.hash w, Value.ref x)).size = L.length + 1 := by rw [rowsN_len hin, len1]
    generalize SetTable.insertAt es p (k.hash w, Value.ref x) = es1 at hin es1s ⊢
    generalize L.take p ++ (x, k) :: L.drop p = L1 at pm len1 q3 nd1 hin
    refine wpAny_bind (wpAny_storeSet_of g1 g3 ?_ (by rw [es1s, sizeLine_eq]; omega))
    have sb : Heap.SameBut a s.heap (s.heap.update a (Obj.putSet es1 t1)) := Heap.SameBut.update ..
    have g1' := store_at (es' := es1) (t' := t1) g1 g3
    generalize s.heap.update a (Obj.putSet es1 t1) = h1 at sb g1' ⊢
    have ky1 : ∀ q ∈ L1, KeyAt h1 q.2 q.1 := fun q hq => by
      rcases List.mem_cons.mp (pm.mem_iff.mp hq) with e | hq
      · rw [e]; exact key_but hx g1 g3 sb
      · exact key_but (R.keys q hq) g1 g3 sb
    have ld1 : w.params.followText "set-order" = true ∨ t1.led = true := by rw [q5]; exact R.led
    have tf : t1.tooFull = decide ((L.length + 1) * 5 ≥ t1.mask * 3) := by
      unfold SetTable.tooFull
      rw [q9, List.length_map]
    by_cases hf : t1.tooFull = true
    · first
        | (refine wpAny_bind ?_; refine wp_if_pos (by simp [hf]) ?_)
        | (refine wp_if_pos (by simp [hf]) ?_; refine wpAny_bind ?_)
      have full : (L.length + 1) * 5 ≥ t1.mask * 3 := by rw [tf] at hf; exact of_decide_eq_true hf
      rw [sl]
      have sz1 : t1.place.size = es1.size := by
        have y := q3.sz
        simp only [List.length_map] at y
        rw [y, len1, es1s]
      have two : (t.mask = 7 ∧ L.length = 4) ∨ (t.mask = 31 ∧ L.length = 18) := by
        rcases R.tab.mok with e | e | e
        · left; rw [q4, e] at full; rw [e] at rm; exact ⟨e, by omega⟩
        · right; rw [q4, e] at full; rw [e] at rm; exact ⟨e, by omega⟩
        · exfalso; rw [q4, e] at full; omega
      have go : ∀ M, SetTable.sizeAbove (SetTable.grown (L.length + 1)) - 1 = M → MaskOk M → SetTable.sizeAbove (SetTable.grown (L.length + 1)) ≤ 128 → (L.length + 1) * 5 < M * 3 →
          wpAny (model P w) A (setRelay a (SetTable.grown (L.length + 1))) (fun _ s2 => wpAny (model P w) A (pure true) Q E s2) E { s with heap := h1 } := fun M y1 y2 y3 y4 => by
        refine relayN (s := { s with heap := h1 }) g1' ⟨g2.1, g2.2.1, g2.2.2⟩ rfl hin sz1 q3.dm (by rw [es1s, q4]; rcases two with ⟨e, e2⟩ | ⟨e, e2⟩ <;> omega) nd1 ky1 pl1 ld1 (by rw [len1]; exact few) y1 y2 y3 (by rw [len1]; exact y4) ?_
        intro h2 L2 es2 ep2 t2 sb2 R2 pm2
        exact wpAny_pure (hQ true h2 L2 es2 ep2 t2 (sb.trans sb2) R2 (fun y => absurd y z) fun _ => pm2.trans pm)
      rcases two with ⟨_, e2⟩ | ⟨_, e2⟩
      · exact go 31 (by rw [e2, size_20]) (.inr (.inl rfl)) (by rw [e2, size_20]; decide) (by omega)
      · exact go 127 (by rw [e2, size_76]) (.inr (.inr rfl)) (by rw [e2, size_76]; decide) (by omega)
    · first
        | refine wp_if_neg (by simp [hf]) ?_
        | (refine wpAny_bind ?_; refine wp_if_neg (by simp [hf]) ?_; refine wpAny_pure ?_)
      refine wpAny_pure (hQ true h1 L1 es1 (ep + 1) t1 sb ⟨⟨_, g1', ⟨g2.1, g2.2.1, g2.2.2⟩, rfl⟩, hin, q3, nd1, ky1, pl1, ld1, ?_, by rw [len1]; exact few⟩ (fun y => absurd y z) fun _ => pm)
      rw [tf] at hf
      have hf : (L.length + 1) * 5 < t1.mask * 3 := by simpa using hf
      rw [len1]
      omega
end
end NS
namespace NS
open PySem PySem.Spec PyProof.Rows L2
/-- what came of the first i -/
structure Had (ks : List KA) (i : Nat) (L : List KA) : Prop where
  sub : ∀ q ∈ L, q ∈ ks.take i
  all : ∀ q ∈ ks.take i, q.2 ∈ L.map (·.2)
  len : L.length ≤ i
theorem Had.zero (ks : List KA) : Had ks 0 [] := ⟨fun q h => (nomatch h), fun q h => (by simp at h), Nat.le_refl _⟩
theorem Had.old {ks L : List KA} {i : Nat} {x : KA} (g : Had ks i L) (h : ks[i]? = some x) (hm : x.2 ∈ L.map (·.2)) : Had ks (i + 1) L := by
  have e := take_next h
  refine ⟨fun q hq => ?_, fun q hq => ?_, Nat.le_succ_of_le g.len⟩
  · rw [e]; exact List.mem_append_left _ (g.sub q hq)
  · rw [e] at hq
    rcases List.mem_append.mp hq with z | z
    · exact g.all q z
    · rw [List.mem_singleton.mp z]; exact hm
theorem Had.new {ks L L2 : List KA} {i : Nat} {x : KA} (g : Had ks i L) (h : ks[i]? = some x) (pm : L2.Perm (x :: L)) : Had ks (i + 1) L2 := by
  have e := take_next h
  refine ⟨fun q hq => ?_, fun q hq => ?_, by rw [pm.length_eq]; exact Nat.succ_le_succ g.len⟩
  · rw [e]
    rcases List.mem_cons.mp (pm.mem_iff.mp hq) with z | z
    · exact List.mem_append_right _ (by rw [z]; exact List.mem_singleton.mpr rfl)
    · exact List.mem_append_left _ (g.sub q z)
  · rw [(pm.map (·.2)).mem_iff, List.map_cons]
    rw [e] at hq
    rcases List.mem_append.mp hq with z | z
    · exact List.mem_cons_of_mem _ (g.all q z)
    · rw [List.mem_singleton.mp z]; exact List.mem_cons_self
section
variable {P : Program} {w : World} {A : Around} {E : Value → Shared → Prop} {s : Shared}
theorem SetN.keep {h h2 : Heap} {a : Addr} {L : List KA} {es : Array (Int × Value)} {ep : Nat} {t : SetTable} (R : SetN w h a L es ep t) (k1 : ∀ o, h.get? a = some o → h2.get? a = some o) (k2 : ∀ q ∈ L, KeyAt h2 q.2 q.1) : SetN w h2 a L es ep t := by
  obtain ⟨o, g, r⟩ := R.at_
  exact ⟨⟨o, k1 o g, r⟩, R.rows, R.tab, R.nd, k2, R.plain, R.led, R.room, R.few⟩
/-- the empty set's object -/
abbrev newSet (w : World) : Obj := { cls := .type "set", dict := none, data := .set #[] 0 (.fresh 0 0 (!w.params.followText "set-order")) }
theorem SetN.fresh {h : Heap} {a : Addr} (g : h.get? a = some (newSet w)) : SetN w h a [] #[] 0 (.fresh 0 0 (!w.params.followText "set-order")) where
  at_ := ⟨_, g, ⟨rfl, rfl, rfl⟩, rfl⟩
  rows := rfl
  tab := ⟨List.Pairwise.nil, rfl, rfl, .inl rfl, fun _ z => (nomatch z), fun i h j z => (by simp at z)⟩
  nd := List.nodup_nil
  keys := fun _ z => (nomatch z)
  plain := rfl
  led := by
    show _ ∨ (!w.params.followText "set-order") = true
    cases w.params.followText "set-order"
    · exact .inr rfl
    · exact .inl rfl
  room := (by decide : 0 * 5 < 7 * 3)
  few := (by decide : 0 < 64)
theorem updateN {I : Addr} {fp wr : List Addr} {G : Array GenState → Array GenState → Prop} {n : Nat} {Pv : Nat → Value → Prop} {St : Nat → Shared → Prop} {R : Result → Shared → Prop}
    (W : WalksS P w A.in1 I fp wr G n Pv St) (S : Addr) (nS : S ∉ fp) (ks : List KA) (hn : n = ks.length) (few : ks.length < 64) (hv : ∀ i v, Pv i v → ∃ q, ks[i]? = some q ∧ v = .ref q.1)
    (h0 : Heap) (hk : ∀ q ∈ ks, KeyAt h0 q.2 q.1) (z0 : h0.get? S = none) (zw : ∀ b ∈ wr, h0.get? b = none) (hu : A.in1.units + 8 < cLine) :
    ∀ (m i : Nat) (s : Shared), n - i = m → i ≤ n → St i s → (∀ b o, h0.get? b = some o → s.heap.get? b = some o) → (∃ L es ep t, SetN w s.heap S L es ep t ∧ Had ks i L) →
      (∀ s2 L es ep t, Moved (S :: wr) G s s2 → SetN w s2.heap S L es ep t → Had ks n L → (∀ b o, h0.get? b = some o → s2.heap.get? b = some o) → R (.ok (.ret .none)) s2) →
      codeAny (model P w) A (.builtin "set.update.loop" ⟨[.ref S, .ref I], []⟩) R s := by
  have nW : S ∉ wr := fun h => nS (W.sub _ h)
  have wide : ∀ b ∈ wr, b ∈ S :: wr := fun b hb => .tail _ hb
  have hold : ∀ {s1 s2 : Shared}, Moved wr G s1 s2 → (∀ b o, h0.get? b = some o → s1.heap.get? b = some o) → ∀ b o, h0.get? b = some o → s2.heap.get? b = some o := fun mv k b o e => mv.heap b o (fun hb => by rw [zw b hb] at e; cases e) (k b o e)
  intro m
  induction m with
  | zero =>
    intro i s e1 hi st kp ⟨L, es, ep, t, hS, g⟩ hR
    obtain rfl : i = n := by omega
    refine codeAny_builtin F.entry_set_update_loop ?_
    rw [Around.under_plainId F.plain_set_update_loop _]
    show wpAny _ A.in1 (pyNext (.ref I) >>= _) _ _ s
    refine wpAny_bind (W.done s _ _ st fun s2 mv => ?_)
    show wpAny _ A.in1 (ret Value.none) _ _ s2
    have kp2 := hold mv kp
    exact wpAny_pure (hR s2 L es ep t (mv.mono wide) (hS.keep (fun o e => mv.heap S o nW e) fun q hq => key_keep (hk q (List.mem_of_mem_take (g.sub q hq))) kp2) g kp2)
  | succ m ih =>
    intro i s e1 hi st kp ⟨L, es, ep, t, hS, g⟩ hR
    have lt : i < n := by omega
    refine codeAny_builtin F.entry_set_update_loop ?_
    rw [Around.under_plainId F.plain_set_update_loop _]
    show wpAny _ A.in1 (pyNext (.ref I) >>= _) _ _ s
    refine wpAny_bind (W.item i s _ _ lt st fun v s2 pv st2 mv => ?_)
    obtain ⟨q, hq, rfl⟩ := hv i v pv
    have kp2 := hold mv kp
    have hS2 : SetN w s2.heap S L es ep t := hS.keep (fun o e => mv.heap S o nW e) fun r hr => key_keep (hk r (List.mem_of_mem_take (g.sub r hr))) kp2
    have hx : KeyAt s2.heap q.2 q.1 := key_keep (hk q (List.mem_of_getElem? hq)) kp2
    show wpAny _ A.in1 (holding [Value.ref q.1] (setAdd S (.ref q.1)) >>= _) _ _ s2
    refine wpAny_bind (wpAny_holding ?_)
    unfold setAdd
    refine wpAny_holding ?_
    refine wpAny_bind (pyHash_key q.2 _ A.in1 s2 _ hx.nk (by have := hx.dp; omega) ?_)
    refine addN (s := { s2 with toks := s2.toks + q.2.draws }) hS2 hx hu (by have := g.len; omega) fun b h3 L3 es3 ep3 t3 sb hS3 c1 c2 => ?_
    have g3 : Had ks (i + 1) L3 := by
      by_cases c : q.2 ∈ L.map (·.2)
      · rw [c1 c]; exact g.old hq c
      · exact g.new hq (c2 c)
    have kp3 : ∀ b o, h0.get? b = some o → h3.get? b = some o := fun b o e => (sb.2 b (fun z => by rw [z, z0] at e; cases e)).trans (kp2 b o e)
    refine wpAny_pure ⟨plainId_quiet F.plain_set_update_loop _, ih (i + 1) _ (by omega) lt (W.frame _ s2 _ _ st2 (Nat.le_add_right _ _) fun b hb o e => ?_) kp3 ⟨L3, es3, ep3, t3, hS3, g3⟩ fun s4 L4 es4 ep4 t4 mv4 hS4 g4 kp4 => ?_⟩
    · rw [sb.2 b fun z => nS (by rw [← z]; exact hb)]; exact e
    · refine hR s4 L4 es4 ep4 t4 (Moved.trans W.gtrans ((mv.mono wide).then_heap (Nat.le_add_right _ _) fun b o hb e => ?_) mv4) hS4 g4 kp4
      rw [sb.2 b fun z => hb (by rw [z]; exact List.mem_cons_self)]; exact e
end
end NS
namespace NS
open PySem PySem.Spec PyProof.Rows L2
section
variable {P : Program} {w : World} {A : Around} {E : Value → Shared → Prop} {s : Shared}
/-- what set.__init__ leaves -/
abbrev Left (w : World) (s : Shared) (ks : List KA) (h2 : Heap) : Prop := ∃ L es ep t, SetN w h2 s.heap.objs.size L es ep t ∧ Had ks ks.length L ∧ ∀ b o, s.heap.get? b = some o → h2.get? b = some o
theorem none_from {h : Heap} {b : Addr} (hb : h.objs.size ≤ b) : h.get? b = none := by
  cases q : h.get? b with
  | none => rfl
  | some o => exact absurd (Nat.lt_of_lt_of_le (Heap.lt_size q) hb) (Nat.lt_irrefl _)
theorem initN {l : Addr} {items : Array Value} (ks : List KA) (hh : A.handled = none) (hl : s.heap.IsList l items) (hit : items.toList = ks.map fun q => Value.ref q.1) (hk : ∀ q ∈ ks, KeyAt s.heap q.2 q.1) (few : ks.length < 64) (hu : A.units + 11 < cLine)
    {R : PySem.Fin → Shared → Prop} (hR : ∀ h2 tk, Left w s ks h2 → R (.done (.ret .none)) { s with heap := h2, toks := tk }) :
    wpAny (model P w) A.in1.in1 (Builtin.«set.__init__» ⟨[.ref s.heap.objs.size, .ref l], []⟩) R E { s with heap := s.heap.push (newSet w) } := by
  have isz : items.size = ks.length := by
    have q := congrArg List.length hit
    simpa using q
  obtain ⟨ol, hol, hcl, nl, hdl⟩ := hl
  obtain ⟨ocls, odict, odata, oslots⟩ := ol
  simp only at hcl hdl
  subst hcl; subst hdl
  have hS : (s.heap.push (newSet w)).get? s.heap.objs.size = some (newSet w) := Heap.get?_push_size _ rfl
  have hol2 : (s.heap.push (newSet w)).get? l = some { cls := .type "list", dict := odict, data := .seq items nl, slots := oslots } := Heap.get?_push_of_some _ hol
  have a1 := F.sub_list_set
  have a2 := F.sub_list_frozenset
  have a3 : (Value.type "list" == Value.type "dict") = false := by decide
  have hl2 : (s.heap.push (newSet w)).IsList l items := ⟨_, hol2, rfl, nl, rfl⟩
  unfold Builtin.«set.__init__» noKeywords Builtin.Frozenset.updateFrom
  generalize hPI : pyIter = PI
  wp_walk
  subst hPI
  refine wpAny_pyIter_list hl2 ?_
  refine wpAny_bind (wpAny_runValue ?_)
  have lS : l < s.heap.objs.size := Heap.lt_size hol
  have hh3 : A.in1.in1.in1.handled = none := by simp [hh]
  have zp : (s.heap.push (newSet w)).objs.size = s.heap.objs.size + 1 := Heap.size_push ..
  have nl2 : l ≠ (s.heap.push (newSet w)).objs.size := by rw [zp]; exact Nat.ne_of_lt (Nat.lt_succ_of_lt lS)
  have nS : s.heap.objs.size ∉ [(s.heap.push (newSet w)).objs.size, l] := by
    rw [zp]
    simp only [List.mem_cons, List.not_mem_nil, or_false, not_or]
    exact ⟨Nat.ne_of_lt (Nat.lt_succ_self _), Nat.ne_of_gt lS⟩
  have hv : ∀ (i : Nat) (v : Value), items[i]? = some v → ∃ q, ks[i]? = some q ∧ v = .ref q.1 := fun i v e => by
    have q : items.toList[i]? = some v := by rw [Array.getElem?_toList]; exact e
    rw [hit, List.getElem?_map] at q
    cases e2 : ks[i]? with
    | none => rw [e2] at q; cases q
    | some r => rw [e2] at q; exact ⟨r, rfl, (Option.some.inj q).symm⟩
  refine updateN ((Walks.list hh3 _ l nl2 items).toS) s.heap.objs.size nS ks isz few hv s.heap hk (none_from (Nat.le_refl _)) (fun b hb => none_from (by
      rw [List.mem_singleton.mp hb, zp]
      exact Nat.le_succ _)) (by simp only [Around.in1_units]; omega) (items.size - 0) 0 _ (by omega) (Nat.zero_le _) ⟨⟨_, Heap.get?_push_size _ rfl, rfl, rfl⟩, hl2.push _⟩ (fun b o e => Heap.get?_push_of_some _ (Heap.get?_push_of_some _ e)) ⟨[], #[], 0, _, SetN.fresh (Heap.get?_push_of_some _ hS), Had.zero ks⟩ ?_
  intro s2 L es ep t mv hS2 g2 kp
  obtain ⟨h2, gn, dr, tk, osx⟩ := s2
  have eg : gn = s.gens := mv.gens
  have ed : dr = s.drawn := mv.drawn
  have eo : osx = s.os := mv.os
  subst eg; subst ed; subst eo
  show wpAny _ _ _ _ _ _
  refine wpAny_pure ?_
  show wpAny _ _ (ret Value.none) _ _ _
  rw [isz] at g2
  exact wpAny_pure (hR h2 tk ⟨L, es, ep, t, hS2, g2, kp⟩)
/-- set(xs) -/
theorem callSetN {l : Addr} {items : Array Value} (ks : List KA) {Q : Value → Shared → Prop} (hh : A.handled = none) (hl : s.heap.IsList l items) (hit : items.toList = ks.map fun q => Value.ref q.1) (hk : ∀ q ∈ ks, KeyAt s.heap q.2 q.1) (few : ks.length < 64) (hu : A.units + 11 < cLine)
    (h : ∀ h2 tk, Left w s ks h2 → Q (.ref s.heap.objs.size) { s with heap := h2, toks := tk }) : wpAny (model P w) A (call (.type "set") [.ref l]) Q E s := by
  obtain ⟨c, tl, hmro⟩ := F.called_set.mro
  have hmade := F.called_set.made
  have hsub := F.called_set.sub
  refine wpAny_call (codeAny_of_tree ?_)
  show wpAny _ _ (callAny (.type "set") _) _ _ _
  refine wpAny_pure ⟨Code.quiet_builtin _ (by decide +kernel), codeAny_builtin F.entry_type_call ?_⟩
  rw [Around.under_plain (weight_type_call_type "set" [.ref l] []) rfl]
  have n1 := F.called_set.notType
  have n2 := F.called_set.canCreate
  have n3 := F.typeCall_set_1 (.ref l)
  repeat (any_goals (first | assumption | wp_step))
  refine codeAny_mono (code_set_led1 (.ref l) (E := E) (Q₁ := fun v s1 => v = .ref s.heap.objs.size ∧ s1 = { s with heap := s.heap.push (newSet w) }) ⟨rfl, rfl⟩) fun r s1 hr => ?_
  cases r with
  | error e => exact hr
  | ok fl =>
    cases fl with
    | ret v =>
      obtain ⟨rfl, rfl⟩ := hr
      have hS : (s.heap.push (newSet w)).get? s.heap.objs.size = some (newSet w) := Heap.get?_push_size _ rfl
      have ty : Shared.TypeIs { s with heap := s.heap.push (newSet w) } (.ref s.heap.objs.size) "set" := ⟨_, hS, rfl⟩
      have i1 := F.called_set.init.lookup
      have i2 := F.called_set.init.bind (.ref s.heap.objs.size)
      repeat (any_goals (first | assumption | wp_step))
      refine codeAny_mono (codeAny_call_builtin (R := wants (fun r s2 => r = .none ∧ ∃ h2 tk, s2 = { s with heap := h2, toks := tk } ∧ Left w s ks h2) E) F.called_set.init.plain F.entry_set_init (check_set_init_1 ty (initN ks hh hl hit hk few hu fun h2 tk z => ⟨rfl, h2, tk, rfl, z⟩))) fun r2 s2 hr2 => ?_
      cases r2 with
      | error e => exact hr2
      | ok fl2 =>
        cases fl2 with
        | ret r =>
          obtain ⟨rfl, h2, tk, rfl, z⟩ := hr2
          repeat (any_goals (first | assumption | wp_step))
          exact h _ _ z
        | _ => exact hr2.elim
    | _ => exact hr.elim
end
end NS
/-! The data layer: operators. -/
namespace DL
open PySem PySem.Spec PyProof.Rows L2
/-! ### a plain answer -/
theorem OutG.val {C : Pm} {Hf H : Hp} {d : D} {v : V} {Q : VK} (h : OutG C (RelE C) Hf H (.ok d) Q) (s : Same Hf H) (r : Rp C.K Hf v d) : Q v H := h v Hf H (Grow.refl s) r
theorem OutG.made {C : Pm} {Hf H : Hp} {d : D} {Q : VK} {p : Addr} {o : HO} (h : OutG C (RelE C) Hf H (.ok d) Q) (s : Same Hf H) (np : H p = none) (r : Rp C.K (upd Hf p o) (.ref p) d) : Q (.ref p) (upd H p o) := h _ _ _ (Grow.push s np) r
theorem Rp.newL {K : PySem.W.Frag} {Hf : Hp} {p : Addr} {xs : List V} {ds : List D} (np : Hf p = none) (z : xs.length ≤ sizeLine) (r : RpL K Hf xs ds) : Rp K (upd Hf p (.lst xs)) (.ref p) (.list ds) := .lst upd_same z (r.mono (same_upd np))
theorem Rp.newT {K : PySem.W.Frag} {Hf : Hp} {p : Addr} {xs : List V} {ds : List D} (np : Hf p = none) (z : xs.length ≤ sizeLine) (r : RpL K Hf xs ds) : Rp K (upd Hf p (.tup xs)) (.ref p) (.tuple ds) := .tup upd_same z (r.mono (same_upd np))
/-! ### what a looked-at value is -/
section
variable {K : PySem.W.Frag} {Hf H : Hp} {v : V}
theorem Rp1.none_ (h : Rp1 K Hf H v .none) : v = .non := by
  rcases h with h | ⟨a, e, h⟩
  · cases h; rfl
  · exact h.elim
theorem Rp1.bool_ {b : Bool} (h : Rp1 K Hf H v (.bool b)) : v = .bl b := by
  rcases h with h | ⟨a, e, h⟩
  · cases h; rfl
  · exact h.elim
theorem Rp1.int_ {i : Int} (h : Rp1 K Hf H v (.int i)) : v = .int i := by
  rcases h with h | ⟨a, e, h⟩
  · cases h; rfl
  · exact h.elim
theorem Rp1.str_ {x : Str} (h : Rp1 K Hf H v (.str x)) : v = .str x := by
  rcases h with h | ⟨a, e, h⟩
  · cases h; rfl
  · exact h.elim
theorem Rp1.list_ {ds : List D} (s : Same Hf H) (h : Rp1 K Hf H v (.list ds)) : ∃ a xs, v = .ref a ∧ H a = some (.lst xs) ∧ xs.length ≤ sizeLine ∧ RpL K Hf xs ds := by
  rcases h with h | ⟨a, e, h⟩
  · cases h with
    | lst h1 h2 h3 => exact ⟨_, _, rfl, s _ _ h1, h2, h3⟩
  · obtain ⟨xs, h1, h2, h3, h4⟩ := h
    exact ⟨a, xs, e, h2, h3, h4⟩
theorem Rp1.tuple_ {ds : List D} (s : Same Hf H) (h : Rp1 K Hf H v (.tuple ds)) : ∃ a xs, v = .ref a ∧ Hf a = some (.tup xs) ∧ H a = some (.tup xs) ∧ xs.length ≤ sizeLine ∧ RpL K Hf xs ds := by
  rcases h with h | ⟨a, e, h⟩
  · cases h with
    | tup h1 h2 h3 => exact ⟨_, _, rfl, h1, s _ _ h1, h2, h3⟩
  · exact h.elim
theorem RpK.noScr {kvs : List (Key × V)} {d : D} {r : List (D × D)} (h : RpK K H kvs ((.none, d) :: r)) : False := by
  generalize e : ((PyData.none, d) :: r : List (D × D)) = l at h
  cases h with
  | nil => cases e
  | @cons k v kvs d' kds h1 h2 =>
    injection e with e1 _
    cases k with
    | inl i => cases e1
    | inr x => cases e1
theorem ints_inj : ∀ {ns ms : List Int}, ns.map PyData.int = ms.map PyData.int → ns = ms
  | [], [], _ => rfl
  | [], _ :: _, h => by cases h
  | _ :: _, [], h => by cases h
  | a :: as, b :: bs, h => by
    simp only [List.map_cons, List.cons.injEq, PyData.int.injEq] at h
    rw [h.1, ints_inj h.2]
theorem Rp1.scr_ {ds : List D} (s : Same Hf H) (h : Rp1 K Hf H v (.dict [(.none, .list ds)])) : ∃ (a : Addr) (ns : List Int), v = .ref a ∧ ds = ns.map PyData.int ∧ SqL K H a (ns.map V.int) ∧ ns.length ≤ sizeLine := by
  rcases h with h | ⟨a, e, h⟩
  · generalize e : PyData.dict [(.none, .list ds)] = d at h
    cases h with
    | @scr a ns h1 h2 =>
      unfold scr at e
      injection e with e
      injection e with e _
      have e2 := (Prod.mk.inj e).2
      injection e2 with e2
      exact ⟨_, _, rfl, e2, Same.seq s h1, h2⟩
    | dic h1 h2 h3 =>
      injection e with e
      subst e
      exact h3.noScr.elim
    | _ => cases e
  · obtain ⟨kvs, _, _, _, h4⟩ := h
    exact h4.noScr.elim
theorem RpL.ints : ∀ {xs : List V} {ns : List Int}, RpL K H xs (ns.map PyData.int) → xs = ns.map V.int
  | _, [], .nil => rfl
  | _, n :: ns, .cons h r => by
    cases h
    rw [RpL.ints r]
    rfl
theorem RpL.bools : ∀ {xs : List V} {bs : List Bool}, RpL K H xs (bs.map PyData.bool) → xs = bs.map V.bl
  | _, [], .nil => rfl
  | _, n :: ns, .cons h r => by
    cases h
    rw [RpL.bools r]
    rfl
theorem rpL_ints : ∀ (ns : List Int), RpL K H (ns.map V.int) (ns.map PyData.int)
  | [] => .nil
  | n :: ns => .cons (.int n) (rpL_ints ns)
theorem dpL_ints : ∀ (ns : List Int), DpAll K H (ns.map V.int) (ns.map PyData.int)
  | [] => .nil
  | n :: ns => .cons (.int n) (dpL_ints ns)
end
mutual
theorem noDict_of : ∀ {d : D}, d.canLay0 = true → noDict d = true
  | .none, _ => rfl
  | .bool _, _ => rfl
  | .int _, _ => rfl
  | .str _, _ => rfl
  | .list ds, h => noDictL_of (show PyData.canLayAll0 ds = true by simpa [PyData.canLay0] using h)
  | .tuple ds, h => noDictL_of (show PyData.canLayAll0 ds = true by simpa [PyData.canLay0] using h)
  | .dict _, h => by simp [PyData.canLay0] at h
theorem noDictL_of : ∀ {ds : List D}, PyData.canLayAll0 ds = true → noDictL ds = true
  | [], _ => rfl
  | d :: ds, h => by
    simp only [PyData.canLayAll0, Bool.and_eq_true] at h
    simp only [noDictL, Bool.and_eq_true]
    exact ⟨noDict_of h.1, noDictL_of h.2⟩
end
theorem Rp1.dp {K : PySem.W.Frag} {Hf H : Hp} {v : V} {d : D} (s : Same Hf H) (h : Rp1 K Hf H v d) (e : SeqAt.shaped d = true) : Dp K H v d := (h.rp s (fun k q => by rw [q] at e; simp [SeqAt.shaped, PyData.canLay0] at e)).dp (noDict_of (SeqAt.canLay_of_shaped e))
/-! ### two-place operations -/
def rD2 (C : Pm) (F : D → D → R D) : R2 := fun x y H Q => ∃ (Hf : Hp) (dx dy : D), Same Hf H ∧ Rp1 C.K Hf H x dx ∧ Rp1 C.K Hf H y dy ∧ OutG C (RelE C) Hf H (F dx dy) Q
section
variable {X : Cx} {C : Pm} {a b : Expr} {pos : Pos} {fa fb : Env → R D}
theorem e_bin {op : Operator} {F : D → D → R D} (ho : OpR X (binaryOp op) (rD2 C F)) (ha : PE X a (tP C fa)) (hb : PE X b (tP C fb)) :
    PE X (.BinOp a op b pos) (tE C fun ρ => fa ρ >>= fun x => fb ρ >>= fun y => F x y) :=
  PE.imp (pe_op ho ha hb) fun σ H Q ⟨Hf0, H0, Hf, ρ, env, h⟩ => ⟨Hf0, H0, Hf, ρ, env, h.bind fun dx vx Hf1 H1 _ g1 r1 h1 =>
    ⟨Hf0, H0, Hf1, ρ, env.more g1, h1.bind fun dy vy Hf2 H2 _ g2 r2 h2 => ⟨Hf2, dx, dy, g2.sub, r1.grow g2, r2, h2⟩⟩⟩
theorem e_cmp {op : CmpOp} {F : D → D → R D} (ho : OpR X (compareOp op) (rD2 C F)) (ha : PE X a (tP C fa)) (hb : PE X b (tP C fb)) (hm : behindInMarks op b = false) :
    PE X (.Compare a [op] [b] pos) (tE C fun ρ => fa ρ >>= fun x => fb ρ >>= fun y => F x y) :=
  PE.imp (pe_cmpR ho ha hb hm) fun σ H Q ⟨Hf0, H0, Hf, ρ, env, h⟩ => ⟨Hf0, H0, Hf, ρ, env, h.bind fun dx vx Hf1 H1 _ g1 r1 h1 =>
    ⟨Hf0, H0, Hf1, ρ, env.more g1, h1.bind fun dy vy Hf2 H2 _ g2 r2 h2 => ⟨Hf2, dx, dy, g2.sub, r1.grow g2, r2, h2⟩⟩⟩
end
/-! ### + - * // % ** -/
def smallI (i : Int) : Bool := decide (-(2 ^ 64) < i) && decide (i < 2 ^ 64)
def dBin (op : Operator) (x y : D) : R D := match op, x, y with
  | .Add, .int i, .int j => .ok (.int (i + j))
  | .Sub, .int i, .int j => .ok (.int (i - j))
  | .Mult, .int i, .int j => if smallI i || smallI j then .ok (.int (i * j)) else .bad
  | .FloorDiv, .int i, .int j => if decide (0 < j) && decide (j.natAbs.log2 < 9000) then .ok (.int (i / j)) else .bad
  | .Mod, .int i, .int j => if 0 < j then .ok (.int (i % j)) else .bad
  | .Pow, .int i, .int j => if decide (0 ≤ j) && decide (j ≤ 1000000) && decide (i.natAbs < 2 ^ 64) then .ok (.int (i ^ j.toNat)) else .bad
  | .Add, .str i, .str j => if i.length + j.length ≤ sizeLine then .ok (.str (i ++ j)) else .bad
  | .Add, .list i, .list j => if i.length + j.length ≤ sizeLine then .ok (.list (i ++ j)) else .bad
  | .Add, .tuple i, .tuple j => if i.length + j.length ≤ sizeLine then .ok (.tuple (i ++ j)) else .bad
  | .Mult, .list i, .int k => if decide (0 ≤ k) && decide (k ≤ 1000) && decide (i.length ≤ 1000) then .ok (.list (List.replicate k.toNat i).flatten) else .bad
  | .Mult, .str z, .int k => if decide (2 ≤ k) && decide (k ≤ 1000) && decide (z.length ≤ 1000) && decide (z.length ≠ 0) then .ok (.str ⟨(List.replicate k.toNat z.cps).foldl (· ++ ·) #[]⟩) else .bad
  | .Mult, .tuple i, .int 1 => .ok (.tuple i)
  | .Mult, .tuple i, .int k => if decide (2 ≤ k) && decide (k ≤ 1000) && decide (i.length ≤ 1000) && !i.isEmpty then .ok (.tuple (List.replicate k.toNat i).flatten) else .bad
  | _, _, _ => .bad
theorem RpL.rep {K : PySem.W.Frag} {H : Hp} {xs : List V} {ds : List D} (r : RpL K H xs ds) : ∀ n, RpL K H (List.replicate n xs).flatten (List.replicate n ds).flatten
  | 0 => .nil
  | n + 1 => by
    simp only [List.replicate_succ, List.flatten_cons]
    exact r.append (RpL.rep r n)
theorem len_rep {α : Type} (xs : List α) : ∀ n, (List.replicate n xs).flatten.length = n * xs.length
  | 0 => by simp
  | n + 1 => by simp [List.replicate_succ, len_rep xs n, Nat.succ_mul, Nat.add_comm]
section
variable {X : Cx} {C : Pm}
theorem op_bin (hK : C.K = X.K) (op : Operator) : OpR X (binaryOp op) (rD2 C (dBin op)) := by
  intro pins s σ H x y v u Q I rx ry ⟨Hf, dx, dy, sf, hx, hy, h⟩
  unfold dBin at h
  split at h
  · obtain rfl := hx.int_; obtain rfl := hy.int_
    exact op_add pins s σ H _ _ v u Q I rx ry ⟨_, _, rfl, rfl, h.val sf (.int _)⟩
  · obtain rfl := hx.int_; obtain rfl := hy.int_
    exact op_sub pins s σ H _ _ v u Q I rx ry ⟨_, _, rfl, rfl, h.val sf (.int _)⟩
  · rename_i i j
    split at h
    · rename_i hc
      obtain rfl := hx.int_; obtain rfl := hy.int_
      refine op_mul pins s σ H _ _ v u Q I rx ry ⟨_, _, rfl, rfl, ?_, h.val sf (.int _)⟩
      simp only [smallI, Bool.or_eq_true, Bool.and_eq_true, decide_eq_true_eq] at hc
      exact hc
    · exact h.elim
  · split at h
    · rename_i hc
      obtain rfl := hx.int_; obtain rfl := hy.int_
      simp only [Bool.and_eq_true, decide_eq_true_eq] at hc
      exact op_fdivW pins s σ H _ _ v u Q I rx ry ⟨_, _, rfl, rfl, hc, h.val sf (.int _)⟩
    · exact h.elim
  · split at h
    · rename_i hc
      obtain rfl := hx.int_; obtain rfl := hy.int_
      exact op_mod pins s σ H _ _ v u Q I rx ry ⟨_, _, rfl, rfl, hc, h.val sf (.int _)⟩
    · exact h.elim
  · split at h
    · rename_i hc
      obtain rfl := hx.int_; obtain rfl := hy.int_
      simp only [Bool.and_eq_true, decide_eq_true_eq] at hc
      exact op_pow pins s σ H _ _ v u Q I rx ry ⟨_, _, rfl, rfl, ⟨hc.1.1, hc.1.2, hc.2⟩, h.val sf (.int _)⟩
    · exact h.elim
  · split at h
    · rename_i hc
      obtain rfl := hx.str_; obtain rfl := hy.str_
      exact op_add_str pins s σ H _ _ v u Q I rx ry ⟨_, _, rfl, rfl, hc, h.val sf (.str _)⟩
    · exact h.elim
  · split at h
    · rename_i hc
      obtain ⟨a, xs, rfl, ha, za, ra⟩ := hx.list_ sf
      obtain ⟨b, ys, rfl, hb, zb, rb⟩ := hy.list_ sf
      have hl : xs.length + ys.length ≤ sizeLine := by rw [ra.length, rb.length]; exact hc
      refine op_cat pins s σ H _ _ v u Q I rx ry ⟨a, b, xs, ys, rfl, rfl, ha, hb, hl, fun p np => ?_⟩
      exact h.made sf np (.newL (Same.free sf np) (by rw [List.length_append]; exact hl) (ra.append rb))
    · exact h.elim
  · split at h
    · rename_i hc
      obtain ⟨a, xs, rfl, fa, ha, za, ra⟩ := hx.tuple_ sf
      obtain ⟨b, ys, rfl, fb, hb, zb, rb⟩ := hy.tuple_ sf
      have hl : xs.length + ys.length ≤ sizeLine := by rw [ra.length, rb.length]; exact hc
      refine op_catA pins s σ H _ _ v u Q I rx ry ⟨a, b, xs, ys, rfl, rfl, SqT.of ha, SqT.of hb, hl, fun e => ?_, fun _ e => ?_, fun _ _ p np => ?_⟩
      · subst e
        cases ra
        exact h.val sf (.tup fb zb rb)
      · subst e
        cases rb
        refine h.val sf ?_
        rw [List.append_nil]
        exact .tup fa za ra
      · exact h.made sf np (.newT (Same.free sf np) (by rw [List.length_append]; exact hl) (ra.append rb))
    · exact h.elim
  · rename_i i k
    split at h
    · rename_i hc
      simp only [Bool.and_eq_true, decide_eq_true_eq] at hc
      obtain ⟨⟨k0, k1⟩, k2⟩ := hc
      obtain ⟨a, xs, rfl, ha, za, ra⟩ := hx.list_ sf
      obtain rfl := hy.int_
      have e := ra.length
      have hl : k.toNat * xs.length ≤ sizeLine := by
        rw [sizeLine_eq]
        have a1 : k.toNat * xs.length ≤ 1000 * 1000 := Nat.mul_le_mul (by omega) (by omega)
        omega
      refine op_rep pins s σ H _ _ v u Q I rx ry ⟨a, k, xs, rfl, rfl, ha, by omega, by omega, by rw [Nat.mul_comm]; exact hl, fun p np => ?_⟩
      exact h.made sf np (.newL (Same.free sf np) (by rw [len_rep]; exact hl) (ra.rep _))
    · exact h.elim
  · split at h
    · rename_i hc
      simp only [Bool.and_eq_true, decide_eq_true_eq] at hc
      obtain ⟨⟨⟨k0, k1⟩, k2⟩, k3⟩ := hc
      obtain rfl := hx.str_; obtain rfl := hy.int_
      exact op_repS pins s σ H _ _ v u Q I rx ry ⟨_, _, rfl, rfl, k0, k1, k2, k3, h.val sf (.str _)⟩
    · exact h.elim
  · obtain ⟨a, xs, rfl, fa, ha, za, ra⟩ := hx.tuple_ sf
    obtain rfl := hy.int_
    exact op_rep1 pins s σ H _ _ v u Q I rx ry ⟨a, xs, rfl, rfl, SqT.of ha, h.val sf (.tup fa za ra)⟩
  · rename_i i k hk1
    split at h
    · rename_i hc
      simp only [Bool.and_eq_true, decide_eq_true_eq, Bool.not_eq_true', List.isEmpty_eq_false_iff] at hc
      obtain ⟨⟨⟨k0, k1⟩, k2⟩, k3⟩ := hc
      obtain ⟨a, xs, rfl, fa, ha, za, ra⟩ := hx.tuple_ sf
      obtain rfl := hy.int_
      have e := ra.length
      have hl : k.toNat * xs.length ≤ sizeLine := by
        rw [sizeLine_eq]
        have a1 : k.toNat * xs.length ≤ 1000 * 1000 := Nat.mul_le_mul (by omega) (by omega)
        omega
      have hne : xs ≠ [] := fun z => k3 (by
        rw [z] at e
        exact List.eq_nil_of_length_eq_zero e.symm)
      refine op_repT pins s σ H _ _ v u Q I rx ry ⟨a, k, xs, rfl, rfl, SqT.of ha, hne, k0, k1, by omega, fun p np => ?_⟩
      exact h.made sf np (.newT (Same.free sf np) (by rw [len_rep]; exact hl) (ra.rep _))
    · exact h.elim
  · exact h.elim
end
/-! ### comparisons -/
def isScr : D → Option (List D)
  | .dict [(.none, .list ds)] => some ds
  | _ => none
def dEq (x y : D) : R Bool := match x, y with
  | .dict [(.none, .list ds)], .list [] => .ok ds.isEmpty
  | x, y => if SeqAt.shaped x && SeqAt.shaped y then .ok (PyData.eqv x y) else .bad
def dLt (x y : D) : R Bool := match x, y with
  | .int i, .int j => .ok (decide (i < j))
  | .str i, .str j => .ok (decide (i.cps.toList < j.cps.toList))
  | .none, _ => .bad
  | x, y => if SeqAt.shaped x && SeqAt.shaped y && PySem.W.alike x y then .ok (PySem.W.dataLt x y) else .bad
def dIn (x y : D) : R Bool := match x, y with
  | .str ⟨⟨[c]⟩⟩, .str z => .ok (decide (c ∈ z.cps.toList))
  | x, .list ds => if SeqAt.shaped x && SeqAt.shaped (.list ds) then .ok (ds.any fun z => PyData.eqv z x) else .bad
  | x, .tuple ds => if SeqAt.shaped x && SeqAt.shaped (.tuple ds) then .ok (ds.any fun z => PyData.eqv z x) else .bad
  | x, .dict kds => if dkB kds && (keyOfD x).isSome then .ok (lookD kds x).isSome else .bad
  | _, _ => .bad
def isNon : D → Bool
  | .none => true
  | _ => false
def dIs (x y : D) : R Bool := match x, y with
  | x, .none => .ok (isNon x)
  | .bool a, .bool b => .ok (decide (a = b))
  | _, _ => .bad
def dCmp (op : CmpOp) (x y : D) : R Bool := match op with
  | .Eq => dEq x y
  | .NotEq => dEq x y >>= fun b => .ok (!b)
  | .Lt => dLt x y
  | .LtE => (match x, y with | .int i, .int j => .ok (decide (i ≤ j)) | _, _ => .bad)
  | .Gt => (match x, y with | .int i, .int j => .ok (decide (j < i)) | _, _ => .bad)
  | .GtE => (match x, y with | .int i, .int j => .ok (decide (j ≤ i)) | _, _ => .bad)
  | .In => dIn x y
  | .NotIn => dIn x y >>= fun b => .ok (!b)
  | .Is => dIs x y
  | .IsNot => dIs x y >>= fun b => .ok (!b)
def asBool (r : R Bool) : R D := r >>= fun b => .ok (.bool b)
section
variable {X : Cx} {C : Pm}
theorem val_bl {Hf H : Hp} {b : Bool} {Q : VK} (h : OutG C (RelE C) Hf H (.ok (.bool b)) Q) (s : Same Hf H) : Q (.bl b) H := h.val s (.bl b)
theorem shaped2 {x y : D} (h : (SeqAt.shaped x && SeqAt.shaped y) = true) : SeqAt.shaped x = true ∧ SeqAt.shaped y = true := Bool.and_eq_true_iff.mp h
theorem lay_ints : ∀ ns : List Int, PyData.canLayAll0 (ns.map PyData.int) = true
  | [] => rfl
  | n :: ns => by simp only [List.map_cons, PyData.canLayAll0, PyData.canLay0, lay_ints ns]; rfl
theorem shaped_ints (ns : List Int) : SeqAt.shaped (.list (ns.map PyData.int)) = true := by
  have z : PyData.depthAll (ns.map PyData.int) = 0 := PySem.W.depth_ints ns
  simp only [SeqAt.shaped, PyData.canLay0, lay_ints ns, PyData.depth, z]
  decide
theorem eq_any (hK : C.K = X.K) (hu : X.A.units + 65 < cLine) : OpR X (compareOp .Eq) (rD2 C fun x y => asBool (dEq x y)) := by
  intro pins s σ H x y v u Q I rx ry ⟨Hf, dx, dy, sf, hx, hy, h⟩
  unfold dEq at h
  dsimp only at h
  split at h
  · rename_i ds
    obtain ⟨a, ns, rfl, rfl, hs, hl⟩ := hx.scr_ sf
    obtain ⟨b, ys, rfl, hb, zb, rb⟩ := hy.list_ sf
    have sh := shaped_ints ns
    cases rb
    have hK' : SqL X.K H a (ns.map V.int) := by rw [← hK]; exact hs
    refine op_eqD (by omega) pins s σ H _ _ v u Q I rx ry ⟨_, .list [], .lst hK' (dpL_ints ns), .lst (SqL.of hb) .nil, sh, by decide, ?_⟩
    have e : PyData.eqv (.list (ns.map PyData.int)) (.list []) = (ns.map PyData.int).isEmpty := by cases ns <;> simp [PyData.eqv, PyData.eqvAll]
    rw [e]
    exact val_bl h sf
  · split at h
    · rename_i hc
      obtain ⟨c1, c2⟩ := shaped2 hc
      refine op_eqD (by omega) pins s σ H _ _ v u Q I rx ry ⟨dx, dy, ?_, ?_, c1, c2, val_bl h sf⟩
      · rw [← hK]; exact hx.dp sf c1
      · rw [← hK]; exact hy.dp sf c2
    · exact h.elim
theorem ne_any (hK : C.K = X.K) (hu : X.A.units + 65 < cLine) : OpR X (compareOp .NotEq) (rD2 C fun x y => asBool (dEq x y >>= fun b => .ok (!b))) := by
  intro pins s σ H x y v u Q I rx ry ⟨Hf, dx, dy, sf, hx, hy, h⟩
  unfold dEq at h
  dsimp only at h
  split at h
  · rename_i ds
    obtain ⟨a, ns, rfl, rfl, hs, hl⟩ := hx.scr_ sf
    obtain ⟨b, ys, rfl, hb, zb, rb⟩ := hy.list_ sf
    have sh := shaped_ints ns
    cases rb
    have hK' : SqL X.K H a (ns.map V.int) := by rw [← hK]; exact hs
    refine op_neD (by omega) pins s σ H _ _ v u Q I rx ry ⟨_, .list [], .lst hK' (dpL_ints ns), .lst (SqL.of hb) .nil, sh, by decide, ?_⟩
    have e : PyData.eqv (.list (ns.map PyData.int)) (.list []) = (ns.map PyData.int).isEmpty := by cases ns <;> simp [PyData.eqv, PyData.eqvAll]
    rw [e]
    exact val_bl h sf
  · split at h
    · rename_i hc
      obtain ⟨c1, c2⟩ := shaped2 hc
      refine op_neD (by omega) pins s σ H _ _ v u Q I rx ry ⟨dx, dy, ?_, ?_, c1, c2, val_bl h sf⟩
      · rw [← hK]; exact hx.dp sf c1
      · rw [← hK]; exact hy.dp sf c2
    · exact h.elim
theorem lt_any (hK : C.K = X.K) (hu : X.A.units + 65 < cLine) : OpR X (compareOp .Lt) (rD2 C fun x y => asBool (dLt x y)) := by
  intro pins s σ H x y v u Q I rx ry ⟨Hf, dx, dy, sf, hx, hy, h⟩
  unfold dLt at h
  dsimp only at h
  split at h
  · obtain rfl := hx.int_; obtain rfl := hy.int_
    exact op_lt pins s σ H _ _ v u Q I rx ry ⟨_, _, rfl, rfl, val_bl h sf⟩
  · obtain rfl := hx.str_; obtain rfl := hy.str_
    exact op_lt_str pins s σ H _ _ v u Q I rx ry ⟨_, _, rfl, rfl, val_bl h sf⟩
  · exact h.elim
  · rename_i hi hs hn
    split at h
    · rename_i hc
      simp only [Bool.and_eq_true] at hc
      obtain ⟨⟨c1, c2⟩, c3⟩ := hc
      obtain ⟨as, r1⟩ := Dp.reads I dx x v (by rw [← hK]; exact hx.dp sf c1) rx
      obtain ⟨bs, r2⟩ := Dp.reads I dy y u (by rw [← hK]; exact hy.dp sf c2) ry
      refine PySem.W.lt_data r1 r2 c3 (fun z => by subst z; simp_all) ?_ ⟨.bl _, H, I, rfl, val_bl h sf⟩
      have := SeqAt.room_of_shaped (A := X.A) (da := dx) (db := dy) c1 (by omega)
      exact this
    · exact h.elim
theorem in_tupD (hu : X.A.units + 65 < cLine) : OpR X (compareOp .In) (fun x y H Q => ∃ d ds, Dp X.K H x d ∧ Dp X.K H y (.tuple ds) ∧ SeqAt.shaped d = true ∧ SeqAt.shaped (.tuple ds) = true ∧ Q (.bl (ds.any fun z => PyData.eqv z d)) H) := by
  intro pins s σ H x y v u Q I rx ry h
  obtain ⟨d, ds, hd, he, sd, se, q⟩ := h
  obtain ⟨as, r1⟩ := Dp.reads I d x v hd rx
  obtain ⟨bs, r2⟩ := Dp.reads I (.tuple ds) y u he ry
  exact SeqAt.in_tuple_reads r2 r1 (SeqAt.canLay_of_shaped se) (SeqAt.canLay_of_shaped sd) (room_in_shaped sd hu) ⟨.bl _, H, I, rfl, q⟩
theorem notIn_tupD (hu : X.A.units + 65 < cLine) : OpR X (compareOp .NotIn) (fun x y H Q => ∃ d ds, Dp X.K H x d ∧ Dp X.K H y (.tuple ds) ∧ SeqAt.shaped d = true ∧ SeqAt.shaped (.tuple ds) = true ∧ Q (.bl (!ds.any fun z => PyData.eqv z d)) H) := by
  intro pins s σ H x y v u Q I rx ry h
  obtain ⟨d, ds, hd, he, sd, se, q⟩ := h
  obtain ⟨as, r1⟩ := Dp.reads I d x v hd rx
  obtain ⟨bs, r2⟩ := Dp.reads I (.tuple ds) y u he ry
  exact SeqAt.notIn_tuple_reads r2 r1 (SeqAt.canLay_of_shaped se) (SeqAt.canLay_of_shaped sd) (room_in_shaped sd hu) ⟨.bl _, H, I, rfl, q⟩
theorem in_any (hK : C.K = X.K) (hu : X.A.units + 65 < cLine) : OpR X (compareOp .In) (rD2 C fun x y => asBool (dIn x y)) := by
  intro pins s σ H x y v u Q I rx ry ⟨Hf, dx, dy, sf, hx, hy, h⟩
  unfold dIn at h
  dsimp only at h
  split at h
  · obtain rfl := hx.str_; obtain rfl := hy.str_
    exact op_in_sign pins s σ H _ _ v u Q I rx ry ⟨_, _, rfl, rfl, val_bl h sf⟩
  · split at h
    · rename_i hc
      obtain ⟨c1, c2⟩ := shaped2 hc
      refine op_inD hu pins s σ H _ _ v u Q I rx ry ⟨_, _, ?_, ?_, c1, c2, val_bl h sf⟩
      · rw [← hK]; exact hx.dp sf c1
      · rw [← hK]; exact hy.dp sf c2
    · exact h.elim
  · split at h
    · rename_i hc
      obtain ⟨c1, c2⟩ := shaped2 hc
      refine in_tupD hu pins s σ H _ _ v u Q I rx ry ⟨_, _, ?_, ?_, c1, c2, val_bl h sf⟩
      · rw [← hK]; exact hx.dp sf c1
      · rw [← hK]; exact hy.dp sf c2
    · exact h.elim
  · split at h
    · rename_i x kds hc
      simp only [Bool.and_eq_true] at hc
      obtain ⟨k, ek⟩ := Option.isSome_iff_exists.mp hc.2
      have e1 := keyOf_ok ek
      subst e1
      obtain rfl := hx.key_
      obtain ⟨a, kvs, rfl, rd, _, ra⟩ := hy.dic_ sf hc.1
      cases ry
      refine d_in (by omega) I (o := valV kvs k) (.inl ⟨kvs, k, rd, rfl, rfl⟩) rx fun s' I' => ⟨.bl _, H, I', rfl, ?_⟩
      rw [ra.isSome]
      exact val_bl h sf
    · exact h.elim
  · exact h.elim
theorem notIn_any (hK : C.K = X.K) (hu : X.A.units + 65 < cLine) : OpR X (compareOp .NotIn) (rD2 C fun x y => asBool (dIn x y >>= fun b => .ok (!b))) := by
  intro pins s σ H x y v u Q I rx ry ⟨Hf, dx, dy, sf, hx, hy, h⟩
  unfold dIn at h
  dsimp only at h
  split at h
  · obtain rfl := hx.str_; obtain rfl := hy.str_
    exact op_notIn_sign pins s σ H _ _ v u Q I rx ry ⟨_, _, rfl, rfl, val_bl h sf⟩
  · split at h
    · rename_i hc
      obtain ⟨c1, c2⟩ := shaped2 hc
      refine op_notInD hu pins s σ H _ _ v u Q I rx ry ⟨_, _, ?_, ?_, c1, c2, val_bl h sf⟩
      · rw [← hK]; exact hx.dp sf c1
      · rw [← hK]; exact hy.dp sf c2
    · exact h.elim
  · split at h
    · rename_i hc
      obtain ⟨c1, c2⟩ := shaped2 hc
      refine notIn_tupD hu pins s σ H _ _ v u Q I rx ry ⟨_, _, ?_, ?_, c1, c2, val_bl h sf⟩
      · rw [← hK]; exact hx.dp sf c1
      · rw [← hK]; exact hy.dp sf c2
    · exact h.elim
  · split at h
    · rename_i x kds hc
      simp only [Bool.and_eq_true] at hc
      obtain ⟨k, ek⟩ := Option.isSome_iff_exists.mp hc.2
      have e1 := keyOf_ok ek
      subst e1
      obtain rfl := hx.key_
      obtain ⟨a, kvs, rfl, rd, _, ra⟩ := hy.dic_ sf hc.1
      cases ry
      refine d_notIn (by omega) I (o := valV kvs k) (.inl ⟨kvs, k, rd, rfl, rfl⟩) rx fun s' I' => ⟨.bl _, H, I', rfl, ?_⟩
      rw [ra.isSome]
      exact val_bl h sf
    · exact h.elim
  · exact h.elim
theorem Rp1.isNone {K : PySem.W.Frag} {Hf H : Hp} {v : V} {d : D} (h : Rp1 K Hf H v d) : decide (v = .non) = isNon d := by
  rcases h with h | ⟨a, e, h⟩
  · cases h <;> rfl
  · subst e
    cases d <;> first | rfl | exact h.elim
theorem is_any : OpR X (compareOp .Is) (rD2 C fun x y => asBool (dIs x y)) := by
  intro pins s σ H x y v u Q I rx ry ⟨Hf, dx, dy, sf, hx, hy, h⟩
  unfold dIs at h
  dsimp only at h
  split at h
  · obtain rfl := hy.none_
    refine op_isN pins s σ H _ _ v u Q I rx ry ⟨rfl, ?_⟩
    rw [hx.isNone]
    exact val_bl h sf
  · obtain rfl := hx.bool_; obtain rfl := hy.bool_
    exact op_isBl pins s σ H _ _ v u Q I rx ry ⟨_, _, rfl, rfl, val_bl h sf⟩
  · exact h.elim
theorem isNot_any : OpR X (compareOp .IsNot) (rD2 C fun x y => asBool (dIs x y >>= fun b => .ok (!b))) := by
  intro pins s σ H x y v u Q I rx ry ⟨Hf, dx, dy, sf, hx, hy, h⟩
  unfold dIs at h
  dsimp only at h
  split at h
  · obtain rfl := hy.none_
    refine op_notN pins s σ H _ _ v u Q I rx ry ⟨rfl, ?_⟩
    rw [hx.isNone]
    exact val_bl h sf
  · obtain rfl := hx.bool_; obtain rfl := hy.bool_
    exact op_notBl pins s σ H _ _ v u Q I rx ry ⟨_, _, rfl, rfl, val_bl h sf⟩
  · exact h.elim
theorem op_cmp (hK : C.K = X.K) (hu : X.A.units + 65 < cLine) (op : CmpOp) : OpR X (compareOp op) (rD2 C fun x y => asBool (dCmp op x y)) := by
  cases op with
  | Eq => exact eq_any hK hu
  | NotEq => exact ne_any hK hu
  | Lt => exact lt_any hK hu
  | LtE =>
    intro pins s σ H x y v u Q I rx ry ⟨Hf, dx, dy, sf, hx, hy, h⟩
    unfold dCmp at h
    dsimp only at h
    split at h
    · obtain rfl := hx.int_; obtain rfl := hy.int_
      exact op_le pins s σ H _ _ v u Q I rx ry ⟨_, _, rfl, rfl, val_bl h sf⟩
    · exact h.elim
  | Gt =>
    intro pins s σ H x y v u Q I rx ry ⟨Hf, dx, dy, sf, hx, hy, h⟩
    unfold dCmp at h
    dsimp only at h
    split at h
    · obtain rfl := hx.int_; obtain rfl := hy.int_
      exact op_gt pins s σ H _ _ v u Q I rx ry ⟨_, _, rfl, rfl, val_bl h sf⟩
    · exact h.elim
  | GtE =>
    intro pins s σ H x y v u Q I rx ry ⟨Hf, dx, dy, sf, hx, hy, h⟩
    unfold dCmp at h
    dsimp only at h
    split at h
    · obtain rfl := hx.int_; obtain rfl := hy.int_
      exact op_ge pins s σ H _ _ v u Q I rx ry ⟨_, _, rfl, rfl, val_bl h sf⟩
    · exact h.elim
  | In => exact in_any hK hu
  | NotIn => exact notIn_any hK hu
  | Is => exact is_any
  | IsNot => exact isNot_any
end
end DL
/-! The data layer: names, constants, and, or, not, displays, subscripts. -/
namespace DL
open PySem PySem.Spec PyProof.Rows L2
/-! ### names and constants -/
def rdE (i : Nat) (ρ : Env) : R D := match ρ[i]? with
  | some (.va d) => .ok d
  | _ => .bad
def rdP (i : Nat) (ρ : Env) : R D := match ρ[i]? with
  | some (.va d) => .ok d
  | some (.ow d) => .ok d
  | _ => .bad
theorem slot_there {K : PySem.W.Frag} {Hf0 H0 Hf H : Hp} {σ : L2.St} {ρ : Env} {i : Nat} {s : Slot} (e : EnvR K Hf0 H0 Hf H σ ρ) (h : ρ[i]? = some s) : ∃ v, σ[i]? = some v ∧ SlotR K H0 Hf H v s := by
  have hi : i < ρ.length := (List.getElem?_eq_some_iff.mp h).1
  have hs : i < σ.length := by rw [e.len]; exact hi
  exact ⟨σ[i], List.getElem?_eq_getElem hs, e.slot i s _ h (List.getElem?_eq_getElem hs)⟩
section
variable {X : Cx} {C : Pm} {pos : Pos}
theorem PE.peek {e : Expr} {f : Env → R D} (h : PE X e (tE C f)) : PE X e (tP C f) := PE.imp h fun σ H Q ⟨Hf0, H0, Hf, ρ, env, q⟩ => ⟨Hf0, H0, Hf, ρ, env, by
  cases e1 : f ρ with
  | ok d => rw [e1] at q; exact fun v Hf' H' g r => q v Hf' H' g (.inl r)
  | exc c => rw [e1] at q; exact q
  | bad => rw [e1] at q; exact q.elim⟩
theorem e_varE {i : Nat} {x : Str} (hN : X.N[i]? = some x) (hv : Vis X.env.scope x) (hd : (x == ("__debug__" : Str)) = false) (hcd : (x == ("__classdict__" : Str)) = false) : PE X (.Name x pos) (tE C (rdE i)) :=
  PE.imp (pe_var hN hv hd hcd) fun σ H Q ⟨Hf0, H0, Hf, ρ, env, h⟩ => by
    unfold rdE at h
    split at h
    · rename_i d e1
      obtain ⟨v, h1, x, h2, r⟩ := slot_there env e1
      subst h2
      exact ⟨x, h1, h.val env.grow.sub r⟩
    · exact h.elim
theorem e_varP {i : Nat} {x : Str} (hN : X.N[i]? = some x) (hv : Vis X.env.scope x) (hd : (x == ("__debug__" : Str)) = false) (hcd : (x == ("__classdict__" : Str)) = false) : PE X (.Name x pos) (tP C (rdP i)) :=
  PE.imp (pe_var hN hv hd hcd) fun σ H Q ⟨Hf0, H0, Hf, ρ, env, h⟩ => by
    unfold rdP at h
    split at h
    · rename_i d e1
      obtain ⟨v, h1, x, h2, r⟩ := slot_there env e1
      subst h2
      exact ⟨x, h1, h x Hf H (Grow.refl env.grow.sub) (.inl r)⟩
    · rename_i d e1
      obtain ⟨v, h1, a, h2, r, _⟩ := slot_there env e1
      subst h2
      exact ⟨_, h1, h _ Hf H (Grow.refl env.grow.sub) (.inr ⟨a, rfl, r⟩)⟩
    · exact h.elim
def conD : Const → Option D
  | .none => some .none
  | .bool b => some (.bool b)
  | .int i => some (.int i)
  | .str x => some (.str x)
  | _ => none
theorem e_con {c : Const} {k : Nat} {d : D} (h : conD c = some d) : PE X (.Constant c k pos) (tE C fun _ => .ok d) := by
  cases c <;> simp only [conD, Option.some.injEq, reduceCtorEq] at h
  · subst h; exact PE.imp pe_non fun σ H Q ⟨Hf0, H0, Hf, ρ, env, h⟩ => h.val env.grow.sub .non
  · subst h; exact PE.imp pe_bl fun σ H Q ⟨Hf0, H0, Hf, ρ, env, h⟩ => h.val env.grow.sub (.bl _)
  · subst h; exact PE.imp pe_int fun σ H Q ⟨Hf0, H0, Hf, ρ, env, h⟩ => h.val env.grow.sub (.int _)
  · subst h; exact PE.imp pe_str fun σ H Q ⟨Hf0, H0, Hf, ρ, env, h⟩ => h.val env.grow.sub (.str _)
/-- a constant of the module -/
def FlatV (v : V) (d : D) : Prop := ∀ (K : PySem.W.Frag) (H : Hp), Rp K H v d
theorem e_glob {x : Str} {v : V} {u : Value} {d : D} (hg : Gl X x) (hm : X.mg x = some u) (r : RelV v u) (hv : FlatV v d) (hd : (x == ("__debug__" : Str)) = false) : PE X (.Name x pos) (tE C fun _ => .ok d) :=
  PE.imp (pe_glob hg hm r hd) fun σ H Q ⟨Hf0, H0, Hf, ρ, env, h⟩ => h.val env.grow.sub (hv _ _)
/-! ### not, -x -/
def dNot : D → R D
  | .bool b => .ok (.bool (!b))
  | _ => .bad
def dNeg : D → R D
  | .int i => .ok (.int (-i))
  | _ => .bad
variable {a b : Expr} {fa fb fc : Env → R D}
theorem e_not (ha : PE X a (tP C fa)) : PE X (.UnaryOp .Not a pos) (tE C fun ρ => fa ρ >>= dNot) :=
  PE.imp (pe_not ha) fun σ H Q ⟨Hf0, H0, Hf, ρ, env, h⟩ => ⟨Hf0, H0, Hf, ρ, env, h.bind fun dx vx Hf1 H1 _ g1 r1 h1 => by
    unfold dNot at h1
    split at h1
    · obtain rfl := r1.bool_
      exact ⟨_, rfl, val_bl h1 g1.sub⟩
    · exact h1.elim⟩
theorem e_neg (ha : PE X a (tP C fa)) : PE X (.UnaryOp .USub a pos) (tE C fun ρ => fa ρ >>= dNeg) :=
  PE.imp (pe_un un_neg ha) fun σ H Q ⟨Hf0, H0, Hf, ρ, env, h⟩ => ⟨Hf0, H0, Hf, ρ, env, h.bind fun dx vx Hf1 H1 _ g1 r1 h1 => by
    unfold dNeg at h1
    split at h1
    · obtain rfl := r1.int_
      exact ⟨_, rfl, h1.val g1.sub (.int _)⟩
    · exact h1.elim⟩
/-! ### and, or as values -/
def fAnd (fa fb : Env → R D) : Env → R D := fun ρ => fa ρ >>= fun x => match x with
  | .bool true => fb ρ
  | .bool false => .ok (.bool false)
  | _ => .bad
def fOr (fa fb : Env → R D) : Env → R D := fun ρ => fa ρ >>= fun x => match x with
  | .bool false => fb ρ
  | .bool true => .ok (.bool true)
  | _ => .bad
variable {rest : List Expr}
theorem e_and (ha : PE X a (tP C fa)) (hb : PE X (.BoolOp .And (b :: rest) pos) (tE C fb)) : PE X (.BoolOp .And (a :: b :: rest) pos) (tE C (fAnd fa fb)) :=
  PE.imp (pe_and ha hb) fun σ H Q ⟨Hf0, H0, Hf, ρ, env, h⟩ => ⟨Hf0, H0, Hf, ρ, env, OutG.bind (show OutG C (RelE C) Hf H (fAnd fa fb ρ) Q from h) fun dx vx Hf1 H1 _ g1 r1 h1 => by
    split at h1
    · obtain rfl := r1.bool_
      exact ⟨true, rfl, iteT ⟨Hf0, H0, Hf1, ρ, env.more g1, h1⟩⟩
    · obtain rfl := r1.bool_
      exact ⟨false, rfl, iteF (val_bl h1 g1.sub)⟩
    · exact h1.elim⟩
theorem e_or (ha : PE X a (tP C fa)) (hb : PE X (.BoolOp .Or (b :: rest) pos) (tE C fb)) : PE X (.BoolOp .Or (a :: b :: rest) pos) (tE C (fOr fa fb)) :=
  PE.imp (pe_or ha hb) fun σ H Q ⟨Hf0, H0, Hf, ρ, env, h⟩ => ⟨Hf0, H0, Hf, ρ, env, OutG.bind (show OutG C (RelE C) Hf H (fOr fa fb ρ) Q from h) fun dx vx Hf1 H1 _ g1 r1 h1 => by
    split at h1
    · obtain rfl := r1.bool_
      exact ⟨false, rfl, iteF ⟨Hf0, H0, Hf1, ρ, env.more g1, h1⟩⟩
    · obtain rfl := r1.bool_
      exact ⟨true, rfl, iteT (val_bl h1 g1.sub)⟩
    · exact h1.elim⟩
/-! ### tests -/
def dTru : D → R Bool
  | .bool b => .ok b
  | _ => .bad
def tstAnd (ta tb : Env → R Bool) : Env → R Bool := fun ρ => ta ρ >>= fun x => if x then tb ρ else .ok false
def tstOr (ta tb : Env → R Bool) : Env → R Bool := fun ρ => ta ρ >>= fun x => if x then .ok true else tb ρ
def tstNot (ta : Env → R Bool) : Env → R Bool := fun ρ => ta ρ >>= fun x => .ok (!x)
variable {ta tb : Env → R Bool}
theorem OutG.tru {Hf H : Hp} {b : Bool} {Q : Bool → Hp → Prop} (h : OutG C RelT Hf H (.ok b) Q) (s : Same Hf H) : Q b H := h b Hf H (Grow.refl s) rfl
theorem t_val {e : Expr} (h : PE X e (tP C fa)) (he : ∀ whole, isTrue e X.env whole = (do let v ← whole; standAt e.pos; holding [v] (truthy v))) : PT X e (tT C fun ρ => fa ρ >>= dTru) :=
  PT.imp (pt_val h he) fun σ H Q ⟨Hf0, H0, Hf, ρ, env, h⟩ => ⟨Hf0, H0, Hf, ρ, env, h.bind fun dx vx Hf1 H1 _ g1 r1 h1 => by
    unfold dTru at h1
    split at h1
    · obtain rfl := r1.bool_
      exact ⟨_, rfl, h1.tru g1.sub⟩
    · exact h1.elim⟩
theorem w_and1 (ha : PT X a (tT C ta)) : PW X (.BoolOp .And [a] pos) (tT C ta) := pw_and1 ha
theorem w_or1 (ha : PT X a (tT C ta)) : PW X (.BoolOp .Or [a] pos) (tT C ta) := pw_or1 ha
theorem w_and (ha : PT X a (tT C ta)) (hb : PW X (.BoolOp .And (b :: rest) pos) (tT C tb)) : PW X (.BoolOp .And (a :: b :: rest) pos) (tT C (tstAnd ta tb)) :=
  PW.imp (pw_and ha hb) fun σ H Q ⟨Hf0, H0, Hf, ρ, env, h⟩ => ⟨Hf0, H0, Hf, ρ, env, OutG.bind (show OutG C RelT Hf H (tstAnd ta tb ρ) Q from h) fun x vx Hf1 H1 _ g1 r1 h1 => by
    subst r1
    cases vx with
    | true => exact iteT ⟨Hf0, H0, Hf1, ρ, env.more g1, h1⟩
    | false => exact iteF (OutG.tru (show OutG C RelT Hf1 H1 (.ok false) Q from h1) g1.sub)⟩
theorem w_or (ha : PT X a (tT C ta)) (hb : PW X (.BoolOp .Or (b :: rest) pos) (tT C tb)) : PW X (.BoolOp .Or (a :: b :: rest) pos) (tT C (tstOr ta tb)) :=
  PW.imp (pw_or ha hb) fun σ H Q ⟨Hf0, H0, Hf, ρ, env, h⟩ => ⟨Hf0, H0, Hf, ρ, env, OutG.bind (show OutG C RelT Hf H (tstOr ta tb ρ) Q from h) fun x vx Hf1 H1 _ g1 r1 h1 => by
    subst r1
    cases vx with
    | true => exact iteT (OutG.tru (show OutG C RelT Hf1 H1 (.ok true) Q from h1) g1.sub)
    | false => exact iteF ⟨Hf0, H0, Hf1, ρ, env.more g1, h1⟩⟩
theorem t_not (ha : PT X a (tT C ta)) : PT X (.UnaryOp .Not a pos) (tT C (tstNot ta)) :=
  PT.imp (pt_not ha) fun σ H Q ⟨Hf0, H0, Hf, ρ, env, h⟩ => ⟨Hf0, H0, Hf, ρ, env, OutG.bind (show OutG C RelT Hf H (tstNot ta ρ) Q from h) fun x vx Hf1 H1 _ g1 r1 h1 => by
    subst r1
    exact OutG.tru (show OutG C RelT Hf1 H1 (.ok (!vx)) Q from h1) g1.sub⟩
theorem asBool_out {Hf H : Hp} {r : R Bool} {Q : Bool → Hp → Prop} (h : OutG C RelT Hf H r Q) : OutG C (RelE C) Hf H (asBool r) (fun x H' => ∃ k, x = .bl k ∧ Q k H') := by
  cases r with
  | ok b =>
    intro v Hf3 H3 g3 r3
    cases r3
    exact ⟨b, rfl, h b Hf3 H3 g3 rfl⟩
  | exc c => exact h
  | bad => exact h.elim
theorem out_asBool {Hf H : Hp} {r : R Bool} {Q : VK} (h : OutG C (RelE C) Hf H (asBool r) Q) : OutG C RelT Hf H r (fun k H' => Q (.bl k) H') := by
  cases r with
  | ok b =>
    intro k Hf3 H3 g3 r3
    subst r3
    exact h _ Hf3 H3 g3 (.bl k)
  | exc c => exact h
  | bad => exact h.elim
theorem bool_out {Hf H : Hp} {r : R Bool} {Q : VK} (h : OutG C RelT Hf H r (fun k H' => Q (.bl k) H')) : OutG C (RelE C) Hf H (asBool r) Q := by
  cases r with
  | ok b =>
    intro v Hf3 H3 g3 r3
    cases r3
    exact h b Hf3 H3 g3 rfl
  | exc c => exact h
  | bad => exact h.elim
theorem t_cmp {op : CmpOp} {F : D → D → R Bool} (ho : OpR X (compareOp op) (rD2 C fun x y => asBool (F x y))) (ha : PE X a (tP C fa)) (hb : PE X b (tP C fb)) (hm : behindInMarks op b = false) :
    PT X (.Compare a [op] [b] pos) (tT C fun ρ => fa ρ >>= fun x => fb ρ >>= fun y => F x y) :=
  PT.imp (pt_cmpR ho ha hb hm) fun σ H Q ⟨Hf0, H0, Hf, ρ, env, h⟩ => ⟨Hf0, H0, Hf, ρ, env, h.bind fun dx vx Hf1 H1 _ g1 r1 h1 =>
    ⟨Hf0, H0, Hf1, ρ, env.more g1, h1.bind fun dy vy Hf2 H2 _ g2 r2 h2 => ⟨Hf2, dx, dy, g2.sub, r1.grow g2, r2, asBool_out h2⟩⟩⟩
/-! ### a < b < c -/
def fChain (F G : D → D → R Bool) (fa fb fc : Env → R D) : Env → R Bool := fun ρ => fa ρ >>= fun x => fb ρ >>= fun y => F x y >>= fun k => if k then fc ρ >>= fun z => G y z else .ok false
variable {c : Expr} {op op' : CmpOp} {F G : D → D → R Bool}
theorem chain_in (ho : OpR X (compareOp op) (rD2 C fun x y => asBool (F x y))) (ho' : OpR X (compareOp op') (rD2 C fun x y => asBool (G x y))) {σ : L2.St} {H : Hp} {Q : VK}
    (h : tE C (fun ρ => asBool (fChain F G fa fb fc ρ)) σ H Q) : tChain (rD2 C fun x y => asBool (F x y)) (rD2 C fun x y => asBool (G x y)) (tP C fa) (tP C fb) (tP C fc) σ H Q := by
  obtain ⟨Hf0, H0, Hf, ρ, env, h⟩ := h
  have h := out_asBool h
  refine ⟨Hf0, H0, Hf, ρ, env, OutG.bind (show OutG C RelT Hf H (fChain F G fa fb fc ρ) _ from h) fun dx vx Hf1 H1 _ g1 r1 h1 => ⟨Hf0, H0, Hf1, ρ, env.more g1, h1.bind fun dy vy Hf2 H2 _ g2 r2 h2 => ⟨Hf2, dx, dy, g2.sub, r1.grow g2, r2, ?_⟩⟩⟩
  refine asBool_out (Q := fun k H' => if k = true then _ else _) (OutG.bind (Rel1 := RelT) h2 fun k k' Hf3 H3 _ g3 r3 h3 => ?_)
  subst r3
  cases k' with
  | true =>
    refine iteT ⟨Hf0, H0, Hf3, ρ, ((env.more g1).more g2).more g3, OutG.bind (k := fun z => G dy z) (show OutG C RelT Hf3 H3 (fc ρ >>= fun z => G dy z) _ from h3) fun dz vz Hf4 H4 _ g4 r4 h4 => ⟨Hf4, dy, dz, g4.sub, (r2.grow g3).grow g4, r4, bool_out h4⟩⟩
  | false => exact iteF (OutG.tru (show OutG C RelT Hf3 H3 (.ok false) _ from h3) g3.sub)
theorem e_chain (ho : OpR X (compareOp op) (rD2 C fun x y => asBool (F x y))) (ho' : OpR X (compareOp op') (rD2 C fun x y => asBool (G x y))) (ha : PE X a (tP C fa)) (hb : PE X b (tP C fb)) (hc : PE X c (tP C fc)) (hm : lastMarks [op, op'] [b, c] = false) :
    PE X (.Compare a [op, op'] [b, c] pos) (tE C fun ρ => asBool (fChain F G fa fb fc ρ)) := PE.imp (pe_chain ho ho' ha hb hc hm) fun σ H Q h => chain_in ho ho' h
theorem t_chain (ho : OpR X (compareOp op) (rD2 C fun x y => asBool (F x y))) (ho' : OpR X (compareOp op') (rD2 C fun x y => asBool (G x y))) (ha : PE X a (tP C fa)) (hb : PE X b (tP C fb)) (hc : PE X c (tP C fc)) (hm : lastMarks [op, op'] [b, c] = false) :
    PT X (.Compare a [op, op'] [b, c] pos) (tT C (fChain F G fa fb fc)) := PT.imp (pt_chain ho ho' ha hb hc hm) fun σ H Q ⟨Hf0, H0, Hf, ρ, env, h⟩ => chain_in ho ho' ⟨Hf0, H0, Hf, ρ, env, asBool_out h⟩
/-! a < b < c < d -/
def fChain3 (F G G2 : D → D → R Bool) (fa fb fc fd : Env → R D) : Env → R Bool := fun ρ => fa ρ >>= fun x => fb ρ >>= fun y => F x y >>= fun k => if k then fc ρ >>= fun z => G y z >>= fun k2 => if k2 then fd ρ >>= fun u => G2 z u else .ok false else .ok false
variable {d : Expr} {op2 : CmpOp} {G2 : D → D → R Bool} {fd : Env → R D}
theorem e_chain3 (ho : OpR X (compareOp op) (rD2 C fun x y => asBool (F x y))) (ho' : OpR X (compareOp op') (rD2 C fun x y => asBool (G x y))) (ho2 : OpR X (compareOp op2) (rD2 C fun x y => asBool (G2 x y))) (ha : PE X a (tP C fa)) (hb : PE X b (tP C fb)) (hc : PE X c (tP C fc)) (hd : PE X d (tP C fd))
    (hm : lastMarks [op, op', op2] [b, c, d] = false) : PE X (.Compare a [op, op', op2] [b, c, d] pos) (tE C fun ρ => asBool (fChain3 F G G2 fa fb fc fd ρ)) := by
  refine PE.imp (pe_chain3 ho ho' ho2 ha hb hc hd hm) fun σ H Q h => ?_
  obtain ⟨Hf0, H0, Hf, ρ, env, h⟩ := h
  have h := out_asBool h
  refine ⟨Hf0, H0, Hf, ρ, env, OutG.bind (show OutG C RelT Hf H (fChain3 F G G2 fa fb fc fd ρ) _ from h) fun dx vx Hf1 H1 _ g1 r1 h1 => ⟨Hf0, H0, Hf1, ρ, env.more g1, h1.bind fun dy vy Hf2 H2 _ g2 r2 h2 => ⟨Hf2, dx, dy, g2.sub, r1.grow g2, r2, ?_⟩⟩⟩
  refine asBool_out (Q := fun k H' => if k = true then _ else _) (OutG.bind (Rel1 := RelT) h2 fun k k' Hf3 H3 _ g3 r3 h3 => ?_)
  subst r3
  have e3 := ((env.more g1).more g2).more g3
  cases k' with
  | false => exact iteF (OutG.tru (show OutG C RelT Hf3 H3 (.ok false) _ from h3) g3.sub)
  | true =>
    refine iteT ⟨Hf0, H0, Hf3, ρ, e3, OutG.bind (k := fun z => G dy z >>= fun k2 => if k2 then fd ρ >>= fun u => G2 z u else .ok false) (show OutG C RelT Hf3 H3 (fc ρ >>= fun z => G dy z >>= fun k2 => if k2 then fd ρ >>= fun u => G2 z u else .ok false) _ from h3) fun dz vz Hf4 H4 _ g4 r4 h4 => ⟨Hf4, dy, dz, g4.sub, (r2.grow g3).grow g4, r4, ?_⟩⟩
    refine asBool_out (Q := fun k H' => if k = true then _ else _) (OutG.bind (Rel1 := RelT) h4 fun k k' Hf5 H5 _ g5 r5 h5 => ?_)
    subst r5
    cases k' with
    | false => exact iteF (OutG.tru (show OutG C RelT Hf5 H5 (.ok false) _ from h5) g5.sub)
    | true =>
      exact iteT ⟨Hf0, H0, Hf5, ρ, (e3.more g4).more g5, OutG.bind (k := fun u => G2 dz u) (show OutG C RelT Hf5 H5 (fd ρ >>= fun u => G2 dz u) _ from h5) fun du vu Hf6 H6 _ g6 r6 h6 => ⟨Hf6, dz, du, g6.sub, (r4.grow g5).grow g6, r6, bool_out h6⟩⟩
/-! ### a if t else b -/
def fIf (t : Env → R Bool) (fa fb : Env → R D) : Env → R D := fun ρ => t ρ >>= fun k => if k then fa ρ else fb ρ
theorem e_if (hc : PT X c (tT C ta)) (ha : PE X a (tE C fa)) (hb : PE X b (tE C fb)) : PE X (.IfExp c a b pos) (tE C (fIf ta fa fb)) :=
  PE.imp (pe_ifExp hc ha hb) fun σ H Q ⟨Hf0, H0, Hf, ρ, env, h⟩ => ⟨Hf0, H0, Hf, ρ, env, OutG.bind (show OutG C (RelE C) Hf H (fIf ta fa fb ρ) Q from h) fun x vx Hf1 H1 _ g1 r1 h1 => by
    subst r1
    cases vx with
    | true => exact iteT ⟨Hf0, H0, Hf1, ρ, env.more g1, h1⟩
    | false => exact iteF ⟨Hf0, H0, Hf1, ρ, env.more g1, h1⟩⟩
/-! ### argument lists -/
inductive Rp1L (K : PySem.W.Frag) (Hf H : Hp) : List V → List D → Prop
  | nil : Rp1L K Hf H [] []
  | cons {v : V} {vs : List V} {d : D} {ds : List D} : Rp1 K Hf H v d → Rp1L K Hf H vs ds → Rp1L K Hf H (v :: vs) (d :: ds)
abbrev RelPA (C : Pm) : Hp → Hp → List V → List D → Prop := fun Hf H vs ds => Rp1L C.K Hf H vs ds
abbrev tPA (C : Pm) (f : Env → R (List D)) : TA := tG C (RelPA C) f
def fCons (fa : Env → R D) (fr : Env → R (List D)) : Env → R (List D) := fun ρ => fa ρ >>= fun x => fr ρ >>= fun xs => .ok (x :: xs)
def isStar : Expr → Bool
  | .Starred .. => true
  | _ => false
theorem star_cons {e : Expr} {es : List Expr} {env : PySem.Env} (h : isStar e = false) : starEach (e :: es) env = (false, eval e env) :: starEach es env := by
  cases e <;> first | rfl | simp [isStar] at h
variable {e : Expr} {es : List Expr} {fr : Env → R (List D)}
theorem a_nil : PA X [] (tA C fun _ => .ok []) := PA.imp pa_nil fun σ H Q ⟨Hf0, H0, Hf, ρ, env, h⟩ => h _ Hf H (Grow.refl env.grow.sub) .nil
theorem a_nilP : PA X [] (tPA C fun _ => .ok []) := PA.imp pa_nil fun σ H Q ⟨Hf0, H0, Hf, ρ, env, h⟩ => h _ Hf H (Grow.refl env.grow.sub) .nil
theorem a_cons (hs : isStar e = false) (ha : PE X e (tE C fa)) (hr : PA X es (tA C fr)) : PA X (e :: es) (tA C (fCons fa fr)) :=
  PA.imp (pa_cons ha hr (star_cons hs)) fun σ H Q ⟨Hf0, H0, Hf, ρ, env, h⟩ => ⟨Hf0, H0, Hf, ρ, env, OutG.bind (show OutG C (RelA C) Hf H (fCons fa fr ρ) Q from h) fun dx vx Hf1 H1 _ g1 r1 h1 =>
    ⟨Hf0, H0, Hf1, ρ, env.more g1, h1.bind fun ds vs Hf2 H2 _ g2 r2 h2 => h2 _ Hf2 H2 (Grow.refl g2.sub) (.cons (r1.mono g2.f) r2)⟩⟩
theorem a_consP (hs : isStar e = false) (ha : PE X e (tP C fa)) (hr : PA X es (tPA C fr)) : PA X (e :: es) (tPA C (fCons fa fr)) :=
  PA.imp (pa_cons ha hr (star_cons hs)) fun σ H Q ⟨Hf0, H0, Hf, ρ, env, h⟩ => ⟨Hf0, H0, Hf, ρ, env, OutG.bind (show OutG C (RelPA C) Hf H (fCons fa fr ρ) Q from h) fun dx vx Hf1 H1 _ g1 r1 h1 =>
    ⟨Hf0, H0, Hf1, ρ, env.more g1, h1.bind fun ds vs Hf2 H2 _ g2 r2 h2 => h2 _ Hf2 H2 (Grow.refl g2.sub) (.cons (r1.grow g2) r2)⟩⟩
/-! ### displays; a fresh object of one's own -/
abbrev RelF (C : Pm) (Hp0 : Hp) : Hp → Hp → V → D → Prop := fun Hf H v d => ∃ a, v = .ref a ∧ Hp0 a = none ∧ OwnAt C.K Hf H a d
def tF (C : Pm) (f : Env → R D) : TE := fun σ H Q => ∃ (Hf0 H0 Hf : Hp) (ρ : Env), EnvR C.K Hf0 H0 Hf H σ ρ ∧ OutG C (RelF C H) Hf H (f ρ) Q
/-- it is given away -/
theorem OwnAt.give {K : PySem.W.Frag} {Hf H Hf' H' : Hp} {a : Addr} {ds : List D} (g : Grow Hf H Hf' H') (na : H a = none) (h : OwnAt K Hf' H' a (.list ds)) : ∃ Hf2, Grow Hf H Hf2 H' ∧ Rp K Hf2 (.ref a) (.list ds) := by
  have mk : ∀ o, Hf' a = none → H' a = some o → Grow Hf H (upd Hf' a o) H' := fun o h1 h2 => by
    refine ⟨g.f.trans (same_upd h1), g.h, fun b x e => ?_, fun b x e => ?_⟩
    · by_cases q : b = a
      · subst q; exact .inr na
      · rw [upd_ne q] at e; exact g.new b x e
    · by_cases q : b = a
      · subst q; rw [upd_same] at e; cases e; exact h2
      · rw [upd_ne q] at e; exact g.sub b x e
  obtain ⟨xs, h1, h2, h3, h4⟩ := h
  exact ⟨_, mk _ h1 h2, .newL h1 h3 h4⟩
/-- a dict is given away: it is locked from here on -/
theorem Grow.lockd {Hf H Hf' H' : Hp} {a : Addr} {o : HO} (g : Grow Hf H Hf' H') (na : H a = none) (nf : Hf' a = none) : Grow Hf H (upd Hf' a o) (upd H' a o) := by
  refine ⟨g.f.trans (same_upd nf), fun b x e => ?_, fun b x e => ?_, fun b x e => ?_⟩
  · rw [upd_ne (ne_of_none e na)]
    exact g.h _ _ e
  · by_cases q : b = a
    · subst q; exact .inr na
    · rw [upd_ne q] at e; exact g.new b x e
  · by_cases q : b = a
    · subst q; rw [upd_same] at e ⊢; exact e
    · rw [upd_ne q] at e ⊢; exact g.sub b x e
theorem e_fresh {f : Env → R D} (h : PE X e (tF C f)) : PE X e (tE C f) := by
  refine ⟨fun pins s σ H Q I hq => ?_⟩
  obtain ⟨Hf0, H0, Hf, ρ, env, hq⟩ := hq
  cases e1 : f ρ with
  | bad => rw [e1] at hq; exact hq.elim
  | exc c => exact h.run pins s σ H Q I ⟨Hf0, H0, Hf, ρ, env, by rw [e1] at hq ⊢; exact hq⟩
  | ok d =>
    rw [e1] at hq
    refine thn (h.run pins s σ H (fun v H' => ∃ Hf', Grow Hf H Hf' H' ∧ ∃ a, v = .ref a ∧ H a = none ∧ OwnAt C.K Hf' H' a d) I ⟨Hf0, H0, Hf, ρ, env, by rw [e1]; exact fun v Hf' H' g ⟨a, e, na, o⟩ => ⟨Hf', g, a, e, na, o⟩⟩) fun u s1 ⟨v, H1, I1, rv, Hf', g, a, ev, na, o⟩ => ?_
    subst ev
    cases d with
    | list ds =>
      obtain ⟨Hf2, g2, r⟩ := o.give g na
      exact ⟨.ref a, H1, I1, rv, hq _ Hf2 H1 g2 r⟩
    | dict kds =>
      obtain ⟨kvs, h1, h2, h3, h4⟩ := o
      obtain ⟨od, I2⟩ := I1.lock h2 trivial
      exact ⟨.ref a, _, I2, rv, hq _ (upd Hf' a (.frz od (.dK kvs))) _ (g.lockd na h1) (.dic upd_same h3 (h4.mono (same_upd h1)))⟩
    | _ => exact o.elim
def okLen (ds : List D) (f : List D → D) : R D := if ds.length ≤ 1000 then .ok (f ds) else .bad
theorem le_line {n : Nat} (h : n ≤ 1000) : n ≤ sizeLine := by rw [sizeLine_eq]; omega
theorem e_tup {k : Nat} (h : PA X es (tA C fr)) : PE X (.Tuple es k pos) (tE C fun ρ => fr ρ >>= fun ds => okLen ds .tuple) :=
  PE.imp (pe_tup h) fun σ H Q ⟨Hf0, H0, Hf, ρ, env, h⟩ => ⟨Hf0, H0, Hf, ρ, env, h.bind fun ds vs Hf1 H1 _ g1 r1 h1 => by
    unfold okLen at h1
    split at h1
    · rename_i hl
      have e := r1.length
      exact ⟨le_line (by omega), fun p np => h1.made g1.sub np (.newT (Same.free g1.sub np) (le_line (by omega)) r1)⟩
    · exact h1.elim⟩
theorem f_lst (h : PA X es (tA C fr)) : PE X (.List es pos) (tF C fun ρ => fr ρ >>= fun ds => okLen ds .list) :=
  PE.imp (pe_lst h) fun σ H Q ⟨Hf0, H0, Hf, ρ, env, h⟩ => ⟨Hf0, H0, Hf, ρ, env, h.bind fun ds vs Hf1 H1 _ g1 r1 h1 => by
    unfold okLen at h1
    split at h1
    · rename_i hl
      have e := r1.length
      refine ⟨le_line (by omega), fun p np => h1 _ Hf1 _ (Grow.side g1.sub np) ⟨p, rfl, Same.free g1.h np, ?_⟩⟩
      exact ⟨vs, Same.free g1.sub np, upd_same, le_line (by omega), r1⟩
    · exact h1.elim⟩
end
end DL
/-! The data layer: subscripts, slices, calls. -/
namespace DL
open PySem PySem.Spec PyProof.Rows L2
/-! ### subscripts -/
theorem RpL.atI {K : PySem.W.Frag} {H : Hp} {xs : List V} {ds : List D} {i : Int} {d : D} (r : RpL K H xs ds) (h : L2.atI ds i = some d) : ∃ v, L2.atI xs i = some v ∧ Rp K H v d := by
  unfold L2.atI at h ⊢
  rw [r.length]
  cases e : ixN ds.length i with
  | none => rw [e] at h; cases h
  | some j =>
    rw [e] at h
    exact r.get h
def dIx (x y : D) : R D := match x, y with
  | .list ds, .int i => (match L2.atI ds i with | some d => .ok d | none => .bad)
  | .tuple ds, .int i => (match L2.atI ds i with | some d => .ok d | none => .bad)
  | .str z, .int i => if z.length ≤ sizeLine then (match L2.atI z.cps.toList i with | some c => .ok (.str ⟨#[c]⟩) | none => .bad) else .bad
  | .dict [(.none, .list ds)], .int i => (match L2.atI ds i with | some d => .ok d | none => .bad)
  | .dict kds, .str z => (match lookD kds (.str z) with | some d => .ok d | none => .bad)
  | .dict kds, .int z => (match lookD kds (.int z) with | some d => .ok d | none => .bad)
  | _, _ => .bad
theorem plainIx_of : ∀ {b : Expr}, (match b with | .Slice .. => false | _ => true) = true → PlainIx b := by
  intro b h o i
  cases b <;> first | rfl | simp at h
section
variable {X : Cx} {C : Pm} {pos p : Pos} {a b e : Expr} {es : List Expr} {fa fb : Env → R D} {fr : Env → R (List D)}
theorem ix_any (hu : X.A.units + 65 < cLine) (hK : C.K = X.K) : IxR X (rD2 C dIx) := by
  intro value slice pins s σ H x y v u Q I rx ry ⟨Hf, dx, dy, sf, hx, hy, h⟩ hs
  unfold dIx at h
  split at h
  · obtain ⟨a, xs, rfl, ha, za, ra⟩ := hx.list_ sf
    obtain rfl := hy.int_
    split at h
    · rename_i d e1
      obtain ⟨w, h1, h2⟩ := ra.atI e1
      exact ix_list value slice pins s σ H _ _ v u Q I rx ry ⟨a, xs, _, w, rfl, rfl, SqL.of ha, h1, h.val sf h2⟩ hs
    · exact h.elim
  · obtain ⟨a, xs, rfl, fa, ha, za, ra⟩ := hx.tuple_ sf
    obtain rfl := hy.int_
    split at h
    · rename_i d e1
      obtain ⟨w, h1, h2⟩ := ra.atI e1
      exact ix_tup value slice pins s σ H _ _ v u Q I rx ry ⟨a, xs, _, w, rfl, rfl, SqT.of ha, h1, h.val sf h2⟩ hs
    · exact h.elim
  · split at h
    · rename_i hz
      obtain rfl := hx.str_
      obtain rfl := hy.int_
      split at h
      · rename_i c e1
        exact ix_str value slice pins s σ H _ _ v u Q I rx ry ⟨_, _, c, rfl, rfl, hz, e1, h.val sf (.str _)⟩ hs
      · exact h.elim
    · exact h.elim
  · obtain ⟨a, ns, rfl, rfl, hq, hl⟩ := hx.scr_ sf
    obtain rfl := hy.int_
    split at h
    · rename_i d e1
      obtain ⟨w, h1, h2⟩ := (rpL_ints (K := C.K) (H := Hf) ns).atI e1
      exact ix_list value slice pins s σ H _ _ v u Q I rx ry ⟨a, _, _, w, rfl, rfl, by rw [← hK]; exact hq, h1, h.val sf h2⟩ hs
    · exact h.elim
  · rename_i kds z
    split at h
    · rename_i d e1
      obtain ⟨a, kvs, rfl, ha, za, ra⟩ := hx.dict_ (k := .inr z) sf e1
      obtain rfl := hy.str_
      obtain ⟨w, h1, h2⟩ := ra.look (k := .inr z) e1
      cases rx
      have g : DGet H a (.str z) (some w) := by rw [← h1]; exact .inl ⟨kvs, .inr z, ha, rfl, rfl⟩
      exact tail_any (dict_typeIs I g) PySem.F.slot_dict_getitem.lookup (d_getItem (by omega) I g ry fun w' s3 I3 rw' => ⟨w, H, I3, rw', h.val sf h2⟩) hs
    · exact h.elim
  · rename_i kds z hn
    split at h
    · rename_i d e1
      obtain ⟨a, kvs, rfl, ha, za, ra⟩ := hx.dict_ (k := .inl z) sf e1
      obtain rfl := hy.int_
      obtain ⟨w, h1, h2⟩ := ra.look (k := .inl z) e1
      cases rx
      have g : DGet H a (.int z) (some w) := by rw [← h1]; exact .inl ⟨kvs, .inl z, ha, rfl, rfl⟩
      exact tail_any (dict_typeIs I g) PySem.F.slot_dict_getitem.lookup (d_getItem (by omega) I g ry fun w' s3 I3 rw' => ⟨w, H, I3, rw', h.val sf h2⟩) hs
    · exact h.elim
  · exact h.elim
theorem e_ix (hu : X.A.units + 65 < cLine) (hK : C.K = X.K) (ha : PE X a (tP C fa)) (hb : PE X b (tP C fb)) (hs : PlainIx b) : PE X (.Subscript a b pos) (tE C fun ρ => fa ρ >>= fun x => fb ρ >>= fun y => dIx x y) :=
  PE.imp (pe_ix (ix_any hu hK) ha hb hs) fun σ H Q ⟨Hf0, H0, Hf, ρ, env, h⟩ => ⟨Hf0, H0, Hf, ρ, env, h.bind fun dx vx Hf1 H1 _ g1 r1 h1 =>
    ⟨Hf0, H0, Hf1, ρ, env.more g1, h1.bind fun dy vy Hf2 H2 _ g2 r2 h2 => ⟨Hf2, dx, dy, g2.sub, r1.grow g2, r2, h2⟩⟩⟩
/-! ### slices -/
def cutD {α : Type} (xs : List α) (lo hi : Option Int) : List α := (xs.drop (HT.sIx xs.length 0 lo)).take (HT.sIx xs.length xs.length hi - HT.sIx xs.length 0 lo)
theorem RpL.cut {K : PySem.W.Frag} {H : Hp} {xs : List V} {ds : List D} {lo hi : Option Int} (r : RpL K H xs ds) : RpL K H (cutV xs lo hi) (cutD ds lo hi) := by
  unfold cutV cutD
  rw [r.length]
  exact (r.drop _).take _
def dSl (x : D) (lo hi : Option Int) : R D := match x with
  | .list ds => .ok (.list (cutD ds lo hi))
  | .tuple ds => .ok (.tuple (cutD ds lo hi))
  | .str z => if z.length ≤ sizeLine then .ok (.str (cutS z lo hi)) else .bad
  | _ => .bad
def dPart : D → R (Option Int)
  | .int i => .ok (some i)
  | _ => .bad
abbrev RelO : Hp → Hp → Option Int → Option Int → Prop := fun _ _ a b => a = b
abbrev tO (C : Pm) (f : Env → R (Option Int)) : TO := tG C RelO f
theorem PO.imp {o : Option Expr} {t u : TO} (h : PO X o t) (q : ∀ σ H Q, u σ H Q → t σ H Q) : PO X o u := ⟨fun pins s σ H Q I hu => h.run pins s σ H Q I (q σ H Q hu)⟩
theorem o_none : PO X none (tO C fun _ => .ok none) := PO.imp po_none fun σ H Q ⟨Hf0, H0, Hf, ρ, env, h⟩ => h none Hf H (Grow.refl env.grow.sub) rfl
theorem o_some (ha : PE X a (tP C fa)) : PO X (some a) (tO C fun ρ => fa ρ >>= dPart) := PO.imp (po_some ha) fun σ H Q ⟨Hf0, H0, Hf, ρ, env, h⟩ => ⟨Hf0, H0, Hf, ρ, env, h.bind fun dx vx Hf1 H1 _ g1 r1 h1 => by
  unfold dPart at h1
  split at h1
  · obtain rfl := r1.int_
    exact ⟨_, rfl, h1 _ Hf1 H1 (Grow.refl g1.sub) rfl⟩
  · exact h1.elim⟩
theorem cutV_whole {xs : List V} {lo hi : Option Int} (h : HT.sIx xs.length 0 lo = 0 ∧ HT.sIx xs.length xs.length hi = xs.length) : cutV xs lo hi = xs := by
  unfold cutV
  rw [h.1, h.2]
  simp
theorem sl_any (hK : C.K = X.K) : SlR X (fun x lo hi H Q => ∃ (Hf : Hp) (d : D), Same Hf H ∧ Rp1 C.K Hf H x d ∧ OutG C (RelE C) Hf H (dSl d lo hi) Q) := by
  intro pins s σ H x v vl vu lo hi sl Q I rx hs pl pu ⟨Hf, d, sf, hx, h⟩
  unfold dSl at h
  split at h
  · obtain ⟨a, xs, rfl, ha, za, ra⟩ := hx.list_ sf
    refine sl_list pins s σ H _ v vl vu lo hi sl Q I rx hs pl pu ⟨a, xs, rfl, SqL.of ha, fun p np => ?_⟩
    exact h.made sf np (.newL (Same.free sf np) (Nat.le_trans (cutV_length xs lo hi) za) ra.cut)
  · obtain ⟨a, xs, rfl, fa, ha, za, ra⟩ := hx.tuple_ sf
    refine sl_tupA pins s σ H _ v vl vu lo hi sl Q I rx hs pl pu ⟨a, xs, rfl, SqT.of ha, fun w => ?_, fun _ p np => ?_⟩
    · refine h.val sf (.tup fa za ?_)
      have := ra.cut (lo := lo) (hi := hi)
      rw [cutV_whole w] at this
      exact this
    · exact h.made sf np (.newT (Same.free sf np) (Nat.le_trans (cutV_length xs lo hi) za) ra.cut)
  · split at h
    · rename_i hz
      obtain rfl := hx.str_
      exact sl_str pins s σ H _ v vl vu lo hi sl Q I rx hs pl pu ⟨_, rfl, hz, h.val sf (.str _)⟩
    · exact h.elim
  · exact h.elim
theorem e_sl {lo hi : Option Expr} {fl fh : Env → R (Option Int)} {p2 : Pos} (hK : C.K = X.K) (ha : PE X a (tP C fa)) (hl : PO X lo (tO C fl)) (hh : PO X hi (tO C fh)) :
    PE X (.Subscript a (.Slice lo hi none p2) pos) (tE C fun ρ => fa ρ >>= fun x => fl ρ >>= fun l => fh ρ >>= fun u => dSl x l u) :=
  PE.imp (pe_slice (sl_any hK) ha hl hh) fun σ H Q ⟨Hf0, H0, Hf, ρ, env, h⟩ => ⟨Hf0, H0, Hf, ρ, env, h.bind fun dx vx Hf1 H1 _ g1 r1 h1 =>
    ⟨Hf0, H0, Hf1, ρ, env.more g1, h1.bind fun l vl Hf2 H2 _ g2 r2 h2 => ⟨Hf0, H0, Hf2, ρ, (env.more g1).more g2, h2.bind fun u vu Hf3 H3 _ g3 r3 h3 => by
      subst r2 r3
      exact ⟨Hf3, dx, g3.sub, (r1.grow g2).grow g3, h3⟩⟩⟩⟩
/-- xs[::-1] of a list, t[a::-1] of a tuple -/
theorem RpL.down {K : PySem.W.Frag} {H : Hp} {xs : List V} {ds : List D} {lo : Option Int} (r : RpL K H xs ds) : RpL K H (downFrom xs lo) (downFrom ds lo) := by
  unfold downFrom
  rw [r.length]
  generalize List.range _ = ks
  induction ks with
  | nil => exact .nil
  | cons k ks ih =>
    rw [List.filterMap_cons, List.filterMap_cons]
    cases q : ds[((Builtin.Slice.sliceAdjust lo none (-1) ds.length).1 + (k : Int) * (-1)).toNat]? with
    | none =>
      have q2 : xs[((Builtin.Slice.sliceAdjust lo none (-1) ds.length).1 + (k : Int) * (-1)).toNat]? = none := by
        rw [List.getElem?_eq_none_iff] at q ⊢
        rw [r.length]
        exact q
      rw [q2]; exact ih
    | some x =>
      obtain ⟨u, h1, h2⟩ := r.get q
      rw [h1]
      exact .cons h2 ih
def dRev (x : D) (lo : Option Int) : R D := match x, lo with
  | .list ds, none => .ok (.list ds.reverse)
  | .tuple ds, lo => .ok (.tuple (downFrom ds lo))
  | _, _ => .bad
theorem PE.or {t u : TE} (h : PE X e t) (h' : PE X e u) : PE X e (fun σ H Q => t σ H Q ∨ u σ H Q) := ⟨fun pins s σ H R I hw => hw.elim (h.run pins s σ H R I) (h'.run pins s σ H R I)⟩
theorem down_in {lo : Option Expr} {fl : Env → R (Option Int)} (hK : C.K = X.K) {σ : L2.St} {H : Hp} {Q : VK} {Hf0 H0 Hf : Hp} {ρ : Env} (env : EnvR C.K Hf0 H0 Hf H σ ρ) {ds : List D} (e1 : fa ρ = .ok (.tuple ds)) (h : OutG C (RelE C) Hf H (fa ρ >>= fun x => fl ρ >>= fun l => dRev x l) Q) :
    tDownT X.K (tP C fa) (tO C fl) σ H Q :=
  ⟨Hf0, H0, Hf, ρ, env, h.bind fun dx vx Hf1 H1 ex g1 r1 h1 => ⟨Hf0, H0, Hf1, ρ, env.more g1, h1.bind fun l vl Hf2 H2 _ g2 r2 h2 => by
    subst r2
    rw [e1] at ex
    cases ex
    obtain ⟨a, xs, rfl, fa, ha, za, ra⟩ := (r1.grow g2).tuple_ g2.sub
    have dl := downFrom_len xs vl
    refine ⟨a, xs, rfl, SqT.of ha, fun p np => ?_⟩
    cases vl with
    | none => exact OutG.made (show OutG C (RelE C) Hf2 H2 (.ok (.tuple (downFrom ds none))) Q from h2) g2.sub np (.newT (Same.free g2.sub np) (by omega) ra.down)
    | some z => exact OutG.made (show OutG C (RelE C) Hf2 H2 (.ok (.tuple (downFrom ds (some z)))) Q from h2) g2.sub np (.newT (Same.free g2.sub np) (by omega) ra.down)⟩⟩
theorem e_rev0 {k : Nat} {p1 p2 p3 : Pos} (hK : C.K = X.K) (ha : PE X a (tP C fa)) : PE X (.Subscript a (.Slice none none (some (.UnaryOp .USub (.Constant (.int 1) k p1) p2)) p3) pos) (tE C fun ρ => fa ρ >>= fun x => (R.ok none : R (Option Int)) >>= fun l => dRev x l) := by
  refine PE.imp (PE.or (pe_revL ha) (pe_downT ha (o_none (C := C)))) fun σ H Q ⟨Hf0, H0, Hf, ρ, env, h⟩ => ?_
  have h : OutG C (RelE C) Hf H (fa ρ >>= fun x => (R.ok none : R (Option Int)) >>= fun l => dRev x l) Q := h
  cases e1 : fa ρ with
  | bad => rw [e1] at h; exact h.elim
  | exc c => rw [e1] at h; exact .inl ⟨Hf0, H0, Hf, ρ, env, by rw [e1]; exact h⟩
  | ok d =>
    cases d with
    | tuple ds => exact .inr (down_in (lo := none) (fl := fun _ => .ok none) hK env e1 h)
    | list ds =>
      refine .inl ⟨Hf0, H0, Hf, ρ, env, h.bind fun dx vx Hf1 H1 ex g1 r1 h1 => ?_⟩
      rw [e1] at ex
      cases ex
      obtain ⟨a, xs, rfl, ha, za, ra⟩ := r1.list_ g1.sub
      exact ⟨a, xs, rfl, SqL.of ha, fun p np => OutG.made (show OutG C (RelE C) Hf1 H1 (.ok (.list ds.reverse)) Q from h1) g1.sub np (.newL (Same.free g1.sub np) (by rw [List.length_reverse]; exact za) ra.rev)⟩
    | _ => rw [e1] at h; exact h.elim
theorem e_rev1 {lo : Expr} {fl : Env → R (Option Int)} {k : Nat} {p1 p2 p3 : Pos} (hK : C.K = X.K) (ha : PE X a (tP C fa)) (hl : PO X (some lo) (tO C fl)) :
    PE X (.Subscript a (.Slice (some lo) none (some (.UnaryOp .USub (.Constant (.int 1) k p1) p2)) p3) pos) (tE C fun ρ => fa ρ >>= fun x => match x with | .tuple _ => fl ρ >>= fun l => dRev x l | _ => .bad) := by
  refine PE.imp (pe_downT ha hl) fun σ H Q ⟨Hf0, H0, Hf, ρ, env, h⟩ => ?_
  have h : OutG C (RelE C) Hf H (fa ρ >>= fun x => match x with | .tuple _ => fl ρ >>= fun l => dRev x l | _ => .bad) Q := h
  cases e1 : fa ρ with
  | bad => rw [e1] at h; exact h.elim
  | exc c => rw [e1] at h; exact ⟨Hf0, H0, Hf, ρ, env, by rw [e1]; exact h⟩
  | ok d =>
    cases d with
    | tuple ds => exact down_in (lo := some lo) hK env e1 (by rw [e1] at h ⊢; exact h)
    | _ => rw [e1] at h; exact h.elim
/-! ### calls of built-ins -/
def rDN (C : Pm) (F : List D → R D) : List V → Hp → VK → Prop := fun vs H Q => ∃ (Hf : Hp) (ds : List D), Same Hf H ∧ Rp1L C.K Hf H vs ds ∧ OutG C (RelE C) Hf H (F ds) Q
def rDNF (C : Pm) (F : List D → R D) : List V → Hp → VK → Prop := fun vs H Q => ∃ (Hf : Hp) (ds : List D), Same Hf H ∧ Rp1L C.K Hf H vs ds ∧ OutG C (RelF C H) Hf H (F ds) Q
theorem noStar_any {es : List Expr} {env : PySem.Env} {pos : Pos} (h : es.all (fun e => !isStar e) = true) : (backTo pos (starEach es env)).any (·.1) = false := by
  induction es with
  | nil => rfl
  | cons e es ih =>
    simp only [List.all_cons, Bool.and_eq_true, Bool.not_eq_true'] at h
    rw [star_cons h.1]
    have e1 := ih h.2
    show ((false, _) :: backTo pos (starEach es env)).any (·.1) = false
    rw [List.any_cons, e1]
    rfl
variable {x : Str} {id T : String} {F : List D → R D}
theorem e_callB (hc : CallR X (.builtin id) (rDN C F)) (hg : Gl X x) (hm : X.mg x = none) (hv : bootBuiltins x = some (.builtin id)) (ha : PA X (e :: es) (tPA C fr)) (hs : (e :: es).all (fun e => !isStar e) = true) (hn : x ≠ "__name__") (hdb : (x == ("__debug__" : Str)) = false) :
    PE X (.Call (.Name x p) (e :: es) [] pos) (tE C fun ρ => fr ρ >>= F) := by
  have hs' := hs
  simp only [List.all_cons, Bool.and_eq_true, Bool.not_eq_true'] at hs'
  exact PE.imp (pe_callB hc hg hm hv ha hn hdb (star_cons hs'.1) (noStar_any (by simpa using hs'.2))) fun σ H Q ⟨Hf0, H0, Hf, ρ, env, h⟩ => ⟨Hf0, H0, Hf, ρ, env, h.bind fun ds vs Hf1 H1 _ g1 r1 h1 => ⟨Hf1, ds, g1.sub, r1, h1⟩⟩
theorem e_callTy (hc : CallR X (.type T) (rDN C F)) (hg : Gl X x) (hm : X.mg x = none) (hv : bootBuiltins x = some (.type T)) (ha : PA X (e :: es) (tPA C fr)) (hs : (e :: es).all (fun e => !isStar e) = true) (hn : x ≠ "__name__") (hdb : (x == ("__debug__" : Str)) = false) :
    PE X (.Call (.Name x p) (e :: es) [] pos) (tE C fun ρ => fr ρ >>= F) := by
  have hs' := hs
  simp only [List.all_cons, Bool.and_eq_true, Bool.not_eq_true'] at hs'
  exact PE.imp (pe_callTy hc hg hm hv ha hn hdb (star_cons hs'.1) (noStar_any (by simpa using hs'.2))) fun σ H Q ⟨Hf0, H0, Hf, ρ, env, h⟩ => ⟨Hf0, H0, Hf, ρ, env, h.bind fun ds vs Hf1 H1 _ g1 r1 h1 => ⟨Hf1, ds, g1.sub, r1, h1⟩⟩
theorem relF_of {Hf H Hf1 H1 : Hp} {d : D} {Q : VK} {r : R D} (g : Grow Hf H Hf1 H1) (h : OutG C (RelF C H) Hf1 H1 r Q) : OutG C (RelF C H1) Hf1 H1 r Q := by
  cases r with
  | ok d =>
    rintro v Hf2 H2 g2 ⟨a, e1, na, o⟩
    exact h v Hf2 H2 g2 ⟨a, e1, Same.free g.h na, o⟩
  | exc c => exact h
  | bad => exact h.elim
theorem f_callB (hc : CallR X (.builtin id) (rDNF C F)) (hg : Gl X x) (hm : X.mg x = none) (hv : bootBuiltins x = some (.builtin id)) (ha : PA X (e :: es) (tPA C fr)) (hs : (e :: es).all (fun e => !isStar e) = true) (hn : x ≠ "__name__") (hdb : (x == ("__debug__" : Str)) = false) :
    PE X (.Call (.Name x p) (e :: es) [] pos) (tF C fun ρ => fr ρ >>= F) := by
  have hs' := hs
  simp only [List.all_cons, Bool.and_eq_true, Bool.not_eq_true'] at hs'
  exact PE.imp (pe_callB hc hg hm hv ha hn hdb (star_cons hs'.1) (noStar_any (by simpa using hs'.2))) fun σ H Q ⟨Hf0, H0, Hf, ρ, env, h⟩ => ⟨Hf0, H0, Hf, ρ, env, h.bind fun ds vs Hf1 H1 _ g1 r1 h1 => ⟨Hf1, ds, g1.sub, r1, relF_of (d := .none) g1 h1⟩⟩
theorem f_callTy (hc : CallR X (.type T) (rDNF C F)) (hg : Gl X x) (hm : X.mg x = none) (hv : bootBuiltins x = some (.type T)) (ha : PA X (e :: es) (tPA C fr)) (hs : (e :: es).all (fun e => !isStar e) = true) (hn : x ≠ "__name__") (hdb : (x == ("__debug__" : Str)) = false) :
    PE X (.Call (.Name x p) (e :: es) [] pos) (tF C fun ρ => fr ρ >>= F) := by
  have hs' := hs
  simp only [List.all_cons, Bool.and_eq_true, Bool.not_eq_true'] at hs'
  exact PE.imp (pe_callTy hc hg hm hv ha hn hdb (star_cons hs'.1) (noStar_any (by simpa using hs'.2))) fun σ H Q ⟨Hf0, H0, Hf, ρ, env, h⟩ => ⟨Hf0, H0, Hf, ρ, env, h.bind fun ds vs Hf1 H1 _ g1 r1 h1 => ⟨Hf1, ds, g1.sub, r1, relF_of (d := .none) g1 h1⟩⟩
theorem Rp1L.one {K : PySem.W.Frag} {Hf H : Hp} {vs : List V} {d : D} (h : Rp1L K Hf H vs [d]) : ∃ v, vs = [v] ∧ Rp1 K Hf H v d := by
  cases h with
  | cons h r => cases r; exact ⟨_, rfl, h⟩
theorem Rp1L.two {K : PySem.W.Frag} {Hf H : Hp} {vs : List V} {d e : D} (h : Rp1L K Hf H vs [d, e]) : ∃ v w, vs = [v, w] ∧ Rp1 K Hf H v d ∧ Rp1 K Hf H w e := by
  cases h with
  | cons h r =>
    cases r with
    | cons h2 r => cases r; exact ⟨_, _, rfl, h, h2⟩
def dLen : List D → R D
  | [.list ds] => .ok (.int ds.length)
  | [.tuple ds] => .ok (.int ds.length)
  | [.str z] => if z.length ≤ sizeLine then .ok (.int z.length) else .bad
  | [.dict [(.none, .list ds)]] => .ok (.int ds.length)
  | _ => .bad
theorem c_len (hK : C.K = X.K) : CallR X (.builtin "len") (rDN C dLen) := by
  intro pins s σ H xs us Q I r ⟨Hf, ds, sf, hx, h⟩
  unfold dLen at h
  split at h
  · obtain ⟨v, rfl, hv⟩ := hx.one
    obtain ⟨a, xs, rfl, ha, za, ra⟩ := hv.list_ sf
    refine call_len pins s σ H _ us Q I r ⟨_, xs.length, rfl, .inl ⟨xs, SqL.of ha, rfl⟩, ?_⟩
    rw [ra.length]
    exact h.val sf (.int _)
  · obtain ⟨v, rfl, hv⟩ := hx.one
    obtain ⟨a, xs, rfl, fa, ha, za, ra⟩ := hv.tuple_ sf
    refine call_len pins s σ H _ us Q I r ⟨_, xs.length, rfl, .inr ⟨xs, SqT.of ha, rfl⟩, ?_⟩
    rw [ra.length]
    exact h.val sf (.int _)
  · split at h
    · rename_i hz
      obtain ⟨v, rfl, hv⟩ := hx.one
      obtain rfl := hv.str_
      exact call_len pins s σ H _ us Q I r ⟨_, _, rfl, ⟨hz, rfl⟩, h.val sf (.int _)⟩
    · exact h.elim
  · obtain ⟨v, rfl, hv⟩ := hx.one
    obtain ⟨a, ns, rfl, rfl, hq, hl⟩ := hv.scr_ sf
    refine call_len pins s σ H _ us Q I r ⟨_, (ns.map V.int).length, rfl, .inl ⟨_, by rw [← hK]; exact hq, rfl⟩, ?_⟩
    rw [List.length_map]
    rw [List.length_map] at h
    exact h.val sf (.int _)
  · exact h.elim
def bools : List D → Option (List Bool)
  | [] => some []
  | .bool b :: ds => (bools ds).map (b :: ·)
  | _ :: _ => none
theorem bools_eq : ∀ {ds : List D} {bs : List Bool}, bools ds = some bs → ds = bs.map PyData.bool
  | [], bs, h => by
    unfold bools at h
    cases h
    rfl
  | d :: ds, bs, h => by
    unfold bools at h
    split at h
    · rename_i e; cases e
    · rename_i b ds' e
      cases e
      cases e2 : bools ds with
      | none => rw [e2] at h; cases h
      | some cs =>
        rw [e2] at h
        cases h
        rw [List.map_cons, ← bools_eq e2]
    · cases h
def dAll : List D → R D
  | [.list ds] => (match bools ds with | some bs => .ok (.bool (bs.all fun b => b)) | none => .bad)
  | _ => .bad
def dAny : List D → R D
  | [.list ds] => (match bools ds with | some bs => .ok (.bool (bs.any fun b => b)) | none => .bad)
  | _ => .bad
theorem c_all (hc : X.calm = true) : CallR X (.builtin "all") (rDN C dAll) := by
  intro pins s σ H xs us Q I r ⟨Hf, ds, sf, hx, h⟩
  unfold dAll at h
  split at h
  · split at h
    · rename_i bs e
      obtain ⟨v, rfl, hv⟩ := hx.one
      obtain ⟨a, xs, rfl, ha, za, ra⟩ := hv.list_ sf
      rw [bools_eq e] at ra
      have e2 := ra.bools
      subst e2
      exact cr_all hc pins s σ H _ us Q I r ⟨a, bs, rfl, SqL.of ha, val_bl h sf⟩
    · exact h.elim
  · exact h.elim
theorem c_any (hc : X.calm = true) : CallR X (.builtin "any") (rDN C dAny) := by
  intro pins s σ H xs us Q I r ⟨Hf, ds, sf, hx, h⟩
  unfold dAny at h
  split at h
  · split at h
    · rename_i bs e
      obtain ⟨v, rfl, hv⟩ := hx.one
      obtain ⟨a, xs, rfl, ha, za, ra⟩ := hv.list_ sf
      rw [bools_eq e] at ra
      have e2 := ra.bools
      subst e2
      exact cr_any hc pins s σ H _ us Q I r ⟨a, bs, rfl, SqL.of ha, val_bl h sf⟩
    · exact h.elim
  · exact h.elim
def dAbs : List D → R D
  | [.int i] => .ok (.int (if i < 0 then -i else i))
  | _ => .bad
theorem c_abs : CallR X (.builtin "abs") (rDN C dAbs) := by
  intro pins s σ H xs us Q I r ⟨Hf, ds, sf, hx, h⟩
  unfold dAbs at h
  split at h
  · obtain ⟨v, rfl, hv⟩ := hx.one
    obtain rfl := hv.int_
    exact call_abs pins s σ H _ us Q I r ⟨_, rfl, h.val sf (.int _)⟩
  · exact h.elim
end
/-! ### max, min, sorted over data -/
def alikeAllB (ds : List D) : Bool := (ds.all fun d => ds.all fun e => PySem.W.alike d e) && ds.all fun d => !isNon d
def ordOk (ds : List D) : Bool := alikeAllB ds && PyData.canLayAll0 ds && decide (PyData.depthAll ds ≤ 60)
theorem alikeAllB_of {ds : List D} (h : alikeAllB ds = true) : PySem.W.AlikeAll ds := by
  simp only [alikeAllB, Bool.and_eq_true, List.all_eq_true, Bool.not_eq_true'] at h
  exact ⟨fun x hx y hy => h.1 x hx y hy, fun x hx e => by
    have := h.2 x hx
    rw [e] at this
    cases this⟩
def dMax : List D → R D
  | [.int i, .int j] => .ok (.int (if j > i then j else i))
  | [.list (d :: ds)] => if ordOk (d :: ds) then .ok (PySem.W.maxD d ds) else .bad
  | [.tuple (d :: ds)] => if ordOk (d :: ds) then .ok (PySem.W.maxD d ds) else .bad
  | _ => .bad
def dMin : List D → R D
  | [.int i, .int j] => .ok (.int (if j < i then j else i))
  | [.list (d :: ds)] => if ordOk (d :: ds) then .ok (PySem.W.minD d ds) else .bad
  | [.tuple (d :: ds)] => if ordOk (d :: ds) then .ok (PySem.W.minD d ds) else .bad
  | _ => .bad
theorem minD_mem (x : D) : ∀ xs : List D, PySem.W.minD x xs ∈ x :: xs := by
  intro xs
  unfold PySem.W.minD
  induction xs generalizing x with
  | nil => simp
  | cons y ys ih =>
    simp only [List.foldl_cons]
    by_cases q : PySem.W.dataLt y x = true
    · rw [if_pos q]; exact List.mem_cons_of_mem _ (ih y)
    · rw [if_neg q]
      rcases List.mem_cons.mp (ih x) with z | z
      · rw [z]; exact List.mem_cons_self
      · exact List.mem_cons_of_mem _ (List.mem_cons_of_mem _ z)
theorem maxD_mem (x : D) : ∀ xs : List D, PySem.W.maxD x xs ∈ x :: xs := by
  intro xs
  unfold PySem.W.maxD
  induction xs generalizing x with
  | nil => simp
  | cons y ys ih =>
    simp only [List.foldl_cons]
    by_cases q : PySem.W.dataLt x y = true
    · rw [if_pos q]; exact List.mem_cons_of_mem _ (ih y)
    · rw [if_neg q]
      rcases List.mem_cons.mp (ih x) with z | z
      · rw [z]; exact List.mem_cons_self
      · exact List.mem_cons_of_mem _ (List.mem_cons_of_mem _ z)
theorem canLay_mem : ∀ {ds : List D} {d : D}, PyData.canLayAll0 ds = true → d ∈ ds → d.canLay0 = true
  | _ :: _, _, h, .head _ => by
    simp only [PyData.canLayAll0, Bool.and_eq_true] at h
    exact h.1
  | _ :: _, _, h, .tail _ m => by
    simp only [PyData.canLayAll0, Bool.and_eq_true] at h
    exact canLay_mem h.2 m
theorem reads_at {h : Heap} : ∀ {vs : List Value} {ds : List D} {as : List Addr} {i : Nat} {v : Value} {d : D}, ReadsAll h vs ds as → vs[i]? = some v → ds[i]? = some d → ∃ cs, Reads h v d cs
  | _, _, _, _, _, _, .nil, hi, _ => by simp at hi
  | _, _, _, 0, _, _, .cons q _, hi, h1 => by
    simp at hi h1
    subst hi h1
    exact ⟨_, q⟩
  | _, _, _, i + 1, _, _, .cons _ r, hi, h1 => reads_at (i := i) r (by simpa using hi) (by simpa using h1)
/-- the value that reads so stands for it -/
theorem rp_of_reads {X : Cx} {pins : List (Addr × Obj)} {σ : L2.St} {H Hf : Hp} {s : Shared} {xs : List V} {its : List Value} {ds : List D} {d : D} {i : Nat} {v : Value} {h' : Heap} {as bs : List Addr} (r : RpL X.K Hf xs ds) (rv : Vals xs its)
    (hr : ReadsAll s.heap its ds as) (hi : its[i]? = some v) (hd : Reads h' v d bs) (hk : ∀ b o, s.heap.get? b = some o → h'.get? b = some o) (hc : PyData.canLayAll0 ds = true) (hm : d ∈ ds) : ∃ x, RelV x v ∧ Rp X.K Hf x d := by
  have e1 := SeqAt.readsAll_map ds its as hc hr
  have hl : i < its.length := (List.getElem?_eq_some_iff.mp hi).1
  have hl2 : i < xs.length := by rw [rv.length]; exact hl
  obtain ⟨dd, h1, h2⟩ := r.get' (List.getElem?_eq_getElem hl2)
  obtain ⟨u, h3, h4⟩ := rv.get (List.getElem?_eq_getElem hl2)
  rw [hi] at h3
  cases h3
  refine ⟨_, h4, ?_⟩
  obtain ⟨cs, r3⟩ := reads_at hr hi h1
  have e3 : dd = d := by
    have hdd : dd.canLay0 = true := canLay_mem hc (List.mem_of_getElem? h1)
    have r4 : Reads h' v dd cs := PyProof.Rows.Reads.keeps hk r3
    rw [← SeqAt.readOf_eq hdd r4, SeqAt.readOf_eq (canLay_mem hc hm) hd]
  rw [← e3]
  exact h2
section
variable {X : Cx} {C : Pm}
theorem ordOk_of {ds : List D} (h : ordOk ds = true) : PySem.W.AlikeAll ds ∧ PyData.canLayAll0 ds = true ∧ PyData.depthAll ds ≤ 60 := by
  simp only [ordOk, Bool.and_eq_true, decide_eq_true_eq] at h
  exact ⟨alikeAllB_of h.1.1, h.1.2, h.2⟩
theorem c_max (hK : C.K = X.K) (hc : X.calm = true) (hu : X.A.units + 65 < cLine) : CallR X (.builtin "max") (rDN C dMax) := by
  intro pins s σ H xs us Q I r ⟨Hf, ds, sf, hx, h⟩
  unfold dMax at h
  split at h
  · obtain ⟨v, w, rfl, hv, hw⟩ := hx.two
    obtain rfl := hv.int_; obtain rfl := hw.int_
    exact call_max2 hc pins s σ H _ us Q I r ⟨_, _, rfl, h.val sf (.int _)⟩
  · rename_i d ds
    split at h
    · rename_i ho
      obtain ⟨o1, o2, o3⟩ := ordOk_of ho
      obtain ⟨v, rfl, hv⟩ := hx.one
      obtain ⟨a, xs, rfl, ha, za, ra⟩ := hv.list_ sf
      rw [Vals.ref1 r]
      obtain ⟨its, rv, hl, _⟩ := I.list (SqL.of ha)
      obtain ⟨as, hr⟩ := Dp.readsAll I (d :: ds) xs its (by rw [← hK]; exact (ra.mono sf).dp (noDictL_of o2)) rv
      refine PySem.W.max_list_data (I.ok.hd hc) hl.isList (by simpa using hr) o1 (by omega) fun i v h' tk bs hi rd hk => ?_
      obtain ⟨y, r1, r2⟩ := rp_of_reads (X := X) (pins := pins) (σ := σ) (H := H) (s := s) (by rw [← hK]; exact ra) rv hr (by simpa using hi) rd hk o2 (maxD_mem d ds)
      exact ⟨y, H, I.kept (t' := tk) hk, r1, h.val sf (by rw [hK]; exact r2)⟩
    · exact h.elim
  · rename_i d ds
    split at h
    · rename_i ho
      obtain ⟨o1, o2, o3⟩ := ordOk_of ho
      obtain ⟨v, rfl, hv⟩ := hx.one
      obtain ⟨a, xs, rfl, fa, ha, za, ra⟩ := hv.tuple_ sf
      rw [Vals.ref1 r]
      obtain ⟨its, rv, hl, _⟩ := I.tuple (SqT.of ha)
      obtain ⟨as, hr⟩ := Dp.readsAll I (d :: ds) xs its (by rw [← hK]; exact (ra.mono sf).dp (noDictL_of o2)) rv
      refine PySem.W.max_tuple_data (I.ok.hd hc) (show s.heap.IsTuple a its.toArray from hl) (by simpa using hr) o1 (by omega) fun i v h' tk bs hi rd hk => ?_
      obtain ⟨y, r1, r2⟩ := rp_of_reads (X := X) (pins := pins) (σ := σ) (H := H) (s := s) (by rw [← hK]; exact ra) rv hr (by simpa using hi) rd hk o2 (maxD_mem d ds)
      exact ⟨y, H, I.kept (t' := tk) hk, r1, h.val sf (by rw [hK]; exact r2)⟩
    · exact h.elim
  · exact h.elim
theorem c_min (hK : C.K = X.K) (hc : X.calm = true) (hu : X.A.units + 65 < cLine) : CallR X (.builtin "min") (rDN C dMin) := by
  intro pins s σ H xs us Q I r ⟨Hf, ds, sf, hx, h⟩
  unfold dMin at h
  split at h
  · obtain ⟨v, w, rfl, hv, hw⟩ := hx.two
    obtain rfl := hv.int_; obtain rfl := hw.int_
    exact call_min2 hc pins s σ H _ us Q I r ⟨_, _, rfl, h.val sf (.int _)⟩
  · rename_i d ds
    split at h
    · rename_i ho
      obtain ⟨o1, o2, o3⟩ := ordOk_of ho
      obtain ⟨v, rfl, hv⟩ := hx.one
      obtain ⟨a, xs, rfl, ha, za, ra⟩ := hv.list_ sf
      rw [Vals.ref1 r]
      obtain ⟨its, rv, hl, _⟩ := I.list (SqL.of ha)
      obtain ⟨as, hr⟩ := Dp.readsAll I (d :: ds) xs its (by rw [← hK]; exact (ra.mono sf).dp (noDictL_of o2)) rv
      refine PySem.W.min_list_data (I.ok.hd hc) hl.isList (by simpa using hr) o1 (by omega) fun i v h' tk bs hi rd hk => ?_
      obtain ⟨y, r1, r2⟩ := rp_of_reads (X := X) (pins := pins) (σ := σ) (H := H) (s := s) (by rw [← hK]; exact ra) rv hr (by simpa using hi) rd hk o2 (minD_mem d ds)
      exact ⟨y, H, I.kept (t' := tk) hk, r1, h.val sf (by rw [hK]; exact r2)⟩
    · exact h.elim
  · rename_i d ds
    split at h
    · rename_i ho
      obtain ⟨o1, o2, o3⟩ := ordOk_of ho
      obtain ⟨v, rfl, hv⟩ := hx.one
      obtain ⟨a, xs, rfl, fa, ha, za, ra⟩ := hv.tuple_ sf
      rw [Vals.ref1 r]
      obtain ⟨its, rv, hl, _⟩ := I.tuple (SqT.of ha)
      obtain ⟨as, hr⟩ := Dp.readsAll I (d :: ds) xs its (by rw [← hK]; exact (ra.mono sf).dp (noDictL_of o2)) rv
      refine PySem.W.min_tuple_data (I.ok.hd hc) (show s.heap.IsTuple a its.toArray from hl) (by simpa using hr) o1 (by omega) fun i v h' tk bs hi rd hk => ?_
      obtain ⟨y, r1, r2⟩ := rp_of_reads (X := X) (pins := pins) (σ := σ) (H := H) (s := s) (by rw [← hK]; exact ra) rv hr (by simpa using hi) rd hk o2 (minD_mem d ds)
      exact ⟨y, H, I.kept (t' := tk) hk, r1, h.val sf (by rw [hK]; exact r2)⟩
    · exact h.elim
  · exact h.elim
/-! tuple(x), list(x) -/
def dTuple : List D → R D
  | [.list ds] => .ok (.tuple ds)
  | [.tuple ds] => .ok (.tuple ds)
  | _ => .bad
theorem c_tuple (hK : C.K = X.K) : CallR X (.type "tuple") (rDN C dTuple) := by
  intro pins s σ H xs us Q I r ⟨Hf, ds, sf, hx, h⟩
  unfold dTuple at h
  split at h
  · obtain ⟨v, rfl, hv⟩ := hx.one
    obtain ⟨a, xs, rfl, ha, za, ra⟩ := hv.list_ sf
    exact call_tuple_of pins s σ H _ us Q I r ⟨a, xs, rfl, .inl ⟨SqL.of ha, fun p np => h.made sf np (.newT (Same.free sf np) za ra)⟩⟩
  · obtain ⟨v, rfl, hv⟩ := hx.one
    obtain ⟨a, xs, rfl, fa, ha, za, ra⟩ := hv.tuple_ sf
    exact call_tuple_of pins s σ H _ us Q I r ⟨a, xs, rfl, .inr ⟨SqT.of ha, h.val sf (.tup fa za ra)⟩⟩
  · exact h.elim
def dList : List D → R D
  | [.list ds] => .ok (.list ds)
  | [.tuple ds] => .ok (.list ds)
  | [.str z] => if z.length ≤ sizeLine then .ok (.list (z.cps.toList.map fun c => .str ⟨#[c]⟩)) else .bad
  | _ => .bad
theorem rpL_signs {K : PySem.W.Frag} {H : Hp} : ∀ cs : List Nat, RpL K H (cs.map fun c => V.str ⟨#[c]⟩) (cs.map fun c => PyData.str ⟨#[c]⟩)
  | [] => .nil
  | c :: cs => .cons (.str _) (rpL_signs cs)
theorem ownL {Hf H : Hp} {p : Addr} {xs : List V} {ds : List D} {K : PySem.W.Frag} (sf : Same Hf H) (np : H p = none) (z : xs.length ≤ sizeLine) (r : RpL K Hf xs ds) : OwnAt K Hf (upd H p (.lst xs)) p (.list ds) := ⟨xs, Same.free sf np, upd_same, z, r⟩
theorem c_list (hK : C.K = X.K) (hc : X.calm = true) : CallR X (.type "list") (rDNF C dList) := by
  intro pins s σ H xs us Q I r ⟨Hf, ds, sf, hx, h⟩
  unfold dList at h
  split at h
  · obtain ⟨v, rfl, hv⟩ := hx.one
    obtain ⟨a, xs, rfl, ha, za, ra⟩ := hv.list_ sf
    exact call_list_of pins s σ H _ us Q I r ⟨a, xs, rfl, .inl (SqL.of ha), fun p np => h _ Hf _ (Grow.side sf np) ⟨p, rfl, np, ownL sf np za ra⟩⟩
  · obtain ⟨v, rfl, hv⟩ := hx.one
    obtain ⟨a, xs, rfl, fa, ha, za, ra⟩ := hv.tuple_ sf
    exact call_list_of pins s σ H _ us Q I r ⟨a, xs, rfl, .inr (SqT.of ha), fun p np => h _ Hf _ (Grow.side sf np) ⟨p, rfl, np, ownL sf np za ra⟩⟩
  · split at h
    · rename_i hz
      obtain ⟨v, rfl, hv⟩ := hx.one
      obtain rfl := hv.str_
      exact call_listS hc pins s σ H _ us Q I r ⟨_, rfl, hz, fun p np => h _ Hf _ (Grow.side sf np) ⟨p, rfl, np, ownL sf np (by rw [List.length_map, Array.length_toList]; exact hz) (rpL_signs _)⟩⟩
    · exact h.elim
  · exact h.elim
/-! dict(xs) of a list of pairs -/
def dDict : List D → R D
  | [.list ds] => (match pairsD ds with | some md => .ok (.dict (mergeD [] md)) | none => .bad)
  | _ => .bad
theorem c_dict (hK : C.K = X.K) (hc : X.calm = true) : CallR X (.type "dict") (rDNF C dDict) := by
  intro pins s σ H xs us Q I r ⟨Hf, ds, sf, hx, h⟩
  unfold dDict at h
  split at h
  · split at h
    · rename_i md hm
      obtain ⟨v, rfl, hv⟩ := hx.one
      obtain ⟨a, xs, rfl, ha, za, ra⟩ := hv.list_ sf
      obtain ⟨ps, kvs, rfl, p1, p2⟩ := pairs_rp hm ra
      have hlen : kvs.length ≤ sizeLine := by
        have e1 := Paired.length p1
        rw [List.length_map] at za
        omega
      refine call_dictP hc pins s σ H _ us Q I r ⟨a, ps, kvs, rfl, SqL.of ha, L2.Paired.mapP p1 fun p kv q => SqT.of (sf _ _ q), fun p np => h _ Hf _ (Grow.side sf np) ⟨p, rfl, np, _, Same.free sf np, upd_same, ?_, RpK.merge p2 .nil⟩⟩
      have := length_mergeK kvs []
      simp at this
      omega
    · exact h.elim
  · exact h.elim
/-! sorted(xs) of a list -/
def sortOk (ds : List D) : Bool := ordOk ds && ((ds.all fun d => match d with | .tuple (_ :: _) => true | _ => false) || ds.all fun d => match d with | .none => false | .tuple _ => false | _ => true)
def sortD (ds : List D) : List D := ds.mergeSort fun a b => !PySem.W.dataLt b a
def dSorted : List D → R D
  | [.list ds] => if sortOk ds then .ok (.list (sortD ds)) else .bad
  | _ => .bad
theorem sortable_of {ds : List D} (h : ((ds.all fun d => match d with | .tuple (_ :: _) => true | _ => false) || ds.all fun d => match d with | .none => false | .tuple _ => false | _ => true) = true) : PySem.W.Sortable ds := by
  simp only [Bool.or_eq_true, List.all_eq_true] at h
  rcases h with h | h
  · refine .inl fun d hd => ?_
    have := h d hd
    split at this
    · exact ⟨_, _, rfl⟩
    · cases this
  · refine .inr fun d hd => ?_
    have := h d hd
    constructor
    · rintro rfl; cases this
    · rintro xs rfl; cases this
theorem each_of {K : PySem.W.Frag} {Hf : Hp} : ∀ {xs : List V} {its : List Value} {ds : List D}, RpL K Hf xs ds → Vals xs its → PySem.W.EachIs (fun v d => ∃ x, RelV x v ∧ Rp K Hf x d) its ds
  | _, _, _, .nil, .nil => .nil
  | _, _, _, .cons h r, .cons q t => .cons ⟨_, q, h⟩ (each_of r t)
theorem each_back {K : PySem.W.Frag} {Hf : Hp} : ∀ {its : List Value} {ds : List D}, PySem.W.EachIs (fun v d => ∃ x, RelV x v ∧ Rp K Hf x d) its ds → ∃ xs, Vals xs its ∧ RpL K Hf xs ds
  | _, _, .nil => ⟨[], .nil, .nil⟩
  | _, _, .cons ⟨x, h1, h2⟩ r => by
    obtain ⟨xs, h3, h4⟩ := each_back r
    exact ⟨x :: xs, .cons h1 h3, .cons h2 h4⟩
theorem depth_mem : ∀ {ds : List D} {d : D}, d ∈ ds → d.depth ≤ PyData.depthAll ds
  | _ :: _, _, .head _ => by simp only [PyData.depthAll]; omega
  | _ :: _, _, .tail _ m => by have := depth_mem m; simp only [PyData.depthAll]; omega
theorem c_sorted (hK : C.K = X.K) (hu : X.A.units + 65 < cLine) : CallR X (.builtin "sorted") (rDNF C dSorted) := by
  intro pins s σ H xs us Q I r ⟨Hf, ds, sf, hx, h⟩
  unfold dSorted at h
  split at h
  · rename_i ds
    split at h
    · rename_i ho
      simp only [sortOk, Bool.and_eq_true] at ho
      obtain ⟨o1, o2, o3⟩ := ordOk_of ho.1
      obtain ⟨v, rfl, hv⟩ := hx.one
      obtain ⟨a, xs, rfl, ha, za, ra⟩ := hv.list_ sf
      rw [Vals.ref1 r]
      obtain ⟨its, rv, hl, _⟩ := I.list (SqL.of ha)
      obtain ⟨as, hr⟩ := Dp.readsAll I ds xs its (by rw [← hK]; exact (ra.mono sf).dp (noDictL_of o2)) rv
      have er : PySem.W.EachIs (fun v d => ∃ as, Reads s.heap v (id d) as) its ds := PySem.W.readsAll_each id (by simpa using hr)
      have hlen := ra.length
      refine PySem.W.sorted_data (vs := its) (bs := ds) (enc := id) hl.isList (each_of ra rv) er (by rw [List.map_id]; exact fun d hd e he => o1.1 d hd e he) (by simpa using sortable_of ho.2) (by omega) (fun b hb => by
        have := depth_mem hb
        show X.A.units + 2 + (id b).depth < cLine
        simp only [id]
        omega) fun out h1 h2 => ?_
      obtain ⟨ys, rv2, ry⟩ := each_back h2
      obtain ⟨ep, he'⟩ := PyProof.Rows.sortedAll_at s.heap its out.toArray
      have hl2 : ys.length ≤ sizeLine := by rw [rv2.length, h1]; omega
      have np : H (s.heap.objs.size + 1) = none := I.hok.fresh (Nat.le_succ _)
      refine ⟨.ref _, upd H (s.heap.objs.size + 1) (.lst ys), I.laid (t' := s.toks) (fun _ _ => PyProof.Rows.sortedAll_old) (Nat.le_succ _) ⟨hl2, out, ep, rv2, by simpa using he'⟩, rfl, ?_⟩
      exact h _ Hf _ (Grow.side sf np) ⟨_, rfl, np, ownL sf np hl2 ry⟩
    · exact h.elim
  · exact h.elim
end
end DL
namespace DL
open PySem PySem.Spec PyProof.Rows L2 NS
mutual
def keyOf : D → NestedKey
  | .none => .none
  | .int i => .num i
  | .str x => .text x
  | .tuple ds => .tup (keysOf ds)
  | _ => .none
def keysOf : List D → List NestedKey
  | [] => []
  | d :: ds => keyOf d :: keysOf ds
end
mutual
/-- whole numbers, None, tuples of such -/
def keyB : D → Bool
  | .none => true
  | .int _ => true
  | .tuple ds => keysB ds
  | _ => false
def keysB : List D → Bool
  | [] => true
  | d :: ds => keyB d && keysB ds
end
mutual
theorem key_reads {h : Heap} : ∀ (d : D) (v : Value) (as : List Addr), Reads h v d as → keyB d = true → NestedIs h (keyOf d) v
  | .none, _, _, r, _ => by cases r; exact .none
  | .int i, _, _, r, _ => by cases r; exact .int _ _
  | .tuple ds, _, _, r, k => by
    cases r with
    | tuple g1 g2 g3 g4 =>
      simp only [keyB] at k
      simp only [keyOf]
      exact .tup g1 g2 g3 (keys_reads ds _ _ g4 k)
  | .bool _, _, _, _, k => by simp [keyB] at k
  | .str _, _, _, _, k => by simp [keyB] at k
  | .list _, _, _, _, k => by simp [keyB] at k
  | .dict _, _, _, _, k => by simp [keyB] at k
theorem keys_reads {h : Heap} : ∀ (ds : List D) (vs : List Value) (as : List Addr), ReadsAll h vs ds as → keysB ds = true → NestedAll h (keysOf ds) vs
  | [], _, _, r, _ => by cases r; exact .nil
  | d :: ds, _, _, r, k => by
    cases r with
    | cons r1 r2 =>
      simp only [keysB, Bool.and_eq_true] at k
      simp only [keysOf]
      exact .cons (key_reads d _ _ r1 k.1) (keys_reads ds _ _ r2 k.2)
end
mutual
theorem key_inj : ∀ (d e : D), keyB d = true → keyB e = true → keyOf d = keyOf e → d = e
  | .none, e, _, k, h => by cases e <;> simp [keyB, keyOf] at k h ⊢
  | .int i, e, _, k, h => by cases e <;> simp [keyB, keyOf] at k h ⊢; exact h
  | .tuple ds, e, k1, k, h => by
    cases e with
    | tuple es =>
      simp only [keyB] at k1 k
      simp only [keyOf, NestedKey.tup.injEq] at h
      rw [keys_inj ds es k1 k h]
    | _ => simp [keyB, keyOf] at k h
  | .bool _, _, k, _, _ => by simp [keyB] at k
  | .str _, _, k, _, _ => by simp [keyB] at k
  | .list _, _, k, _, _ => by simp [keyB] at k
  | .dict _, _, k, _, _ => by simp [keyB] at k
theorem keys_inj : ∀ (ds es : List D), keysB ds = true → keysB es = true → keysOf ds = keysOf es → ds = es
  | [], [], _, _, _ => rfl
  | [], _ :: _, _, _, h => by simp [keysOf] at h
  | _ :: _, [], _, _, h => by simp [keysOf] at h
  | d :: ds, e :: es, k1, k2, h => by
    simp only [keysB, Bool.and_eq_true] at k1 k2
    simp only [keysOf, List.cons.injEq] at h
    rw [key_inj d e k1.1 k2.1 h.1, keys_inj ds es k1.2 k2.2 h.2]
end
mutual
theorem key_depth : ∀ d : D, (keyOf d).depth ≤ d.depth
  | .none => Nat.le_refl _
  | .int _ => Nat.le_refl _
  | .bool _ => Nat.le_refl _
  | .str _ => Nat.le_refl _
  | .list _ => by simp [keyOf, NestedKey.depth]
  | .dict _ => by simp [keyOf, NestedKey.depth]
  | .tuple ds => by
    have := keys_depth ds
    simp only [keyOf, NestedKey.depth, PyData.depth]
    omega
theorem keys_depth : ∀ ds : List D, NestedKey.depthAll (keysOf ds) ≤ PyData.depthAll ds
  | [] => Nat.le_refl _
  | d :: ds => by
    have h1 := key_depth d
    have h2 := keys_depth ds
    simp only [keysOf, NestedKey.depthAll, PyData.depthAll]
    omega
end
mutual
theorem key_noText : ∀ d : D, keyB d = true → noText (keyOf d) = true
  | .none, _ => rfl
  | .int _, _ => rfl
  | .tuple ds, k => by simp only [keyB] at k; simp only [keyOf, noText]; exact keys_noText ds k
  | .bool _, k => by simp [keyB] at k
  | .str _, k => by simp [keyB] at k
  | .list _, k => by simp [keyB] at k
  | .dict _, k => by simp [keyB] at k
theorem keys_noText : ∀ ds : List D, keysB ds = true → noTexts (keysOf ds) = true
  | [], _ => rfl
  | d :: ds, k => by
    simp only [keysB, Bool.and_eq_true] at k
    simp only [keysOf, noTexts, key_noText d k.1, keys_noText ds k.2, Bool.and_self]
end
/-- an element that a set takes -/
def memB (d : D) : Bool := keyB d && decide (d.depth ≤ 8) && match d with | .tuple (_ :: _) => true | _ => false
theorem key_at {h : Heap} {d : D} {b : Addr} {as : List Addr} (r : Reads h (.ref b) d as) (k : memB d = true) : KeyAt h (keyOf d) b := by
  simp only [memB, Bool.and_eq_true, decide_eq_true_eq] at k
  exact ⟨key_reads d _ _ r k.1.1, Nat.le_trans (key_depth d) k.1.2, key_noText d k.1.1⟩
/-- each once -/
def nubD : List D → List D
  | [] => []
  | d :: ds => if ds.any (fun e => decide (keyOf e = keyOf d)) then nubD ds else d :: nubD ds
def dSortSet : List D → R D
  | [.list ds] => if decide (ds.length < 64) && (ds.all memB && ordOk ds) then .ok (.list (sortD (nubD ds))) else .bad
  | _ => .bad
theorem nub_sub : ∀ {ds : List D} {d : D}, d ∈ nubD ds → d ∈ ds
  | [], _, h => h
  | e :: ds, d, h => by
    unfold nubD at h
    split at h
    · exact .tail _ (nub_sub h)
    · rcases List.mem_cons.mp h with rfl | h
      · exact .head _
      · exact .tail _ (nub_sub h)
theorem nub_all : ∀ {ds : List D} {d : D}, d ∈ ds → keyOf d ∈ (nubD ds).map keyOf
  | e :: ds, d, h => by
    unfold nubD
    split
    · rename_i c
      rcases List.mem_cons.mp h with rfl | h
      · simp only [List.any_eq_true, decide_eq_true_eq] at c
        obtain ⟨x, hx, e⟩ := c
        rw [← e]
        exact nub_all hx
      · exact nub_all h
    · rcases List.mem_cons.mp h with rfl | h
      · exact .head _
      · exact .tail _ (nub_all h)
theorem nub_nodup : ∀ ds : List D, ((nubD ds).map keyOf).Nodup
  | [] => List.nodup_nil
  | d :: ds => by
    unfold nubD
    split
    · exact nub_nodup ds
    · rename_i c
      refine List.nodup_cons.mpr ⟨fun h => c ?_, nub_nodup ds⟩
      obtain ⟨e, he, q⟩ := List.mem_map.mp h
      simp only [List.any_eq_true, decide_eq_true_eq]
      exact ⟨e, nub_sub he, q⟩
end DL
namespace DL
open PySem PySem.Spec PyProof.Rows L2 NS
/-! ### sorting -/
theorem sortD_eq {xs ys : List D} (hp : ys.Perm xs) (hs : ys.Pairwise fun a b => PySem.W.dataLt b a = false) (hi : ∀ a ∈ xs, ∀ b ∈ xs, PySem.W.keyToks a = PySem.W.keyToks b → a = b) : sortD xs = ys := by
  refine List.Perm.eq_of_pairwise (le := fun a b => (!PySem.W.dataLt b a) = true) (fun a b ha hb h1 h2 => ?_) ?_ ?_ ((List.mergeSort_perm _ _).trans hp.symm)
  · simp only [Bool.not_eq_true'] at h1 h2
    have ha : a ∈ xs := (List.mergeSort_perm _ _).mem_iff.mp ha
    exact hi a ha b (hp.mem_iff.mp hb) (lex_total (O := itemOrd) _ _ h2 h1)
  · refine List.pairwise_mergeSort (fun a b c h1 h2 => ?_) (fun a b => ?_) xs
    · simp only [Bool.not_eq_true'] at h1 h2 ⊢
      cases e : PySem.W.dataLt c a with
      | false => rfl
      | true =>
        rcases lex_negTrans (O := itemOrd) _ (PySem.W.keyToks b) _ e with h | h
        · have h2 : PyProof.Rows.lexLt itemOrd (PySem.W.keyToks c) (PySem.W.keyToks b) = false := h2
          rw [h2] at h; cases h
        · have h1 : PyProof.Rows.lexLt itemOrd (PySem.W.keyToks b) (PySem.W.keyToks a) = false := h1
          rw [h1] at h; cases h
    · cases e : PySem.W.dataLt b a with
      | false => rfl
      | true =>
        have : PySem.W.dataLt a b = false := by
          cases e2 : PySem.W.dataLt a b with
          | false => rfl
          | true =>
            have := lex_trans (O := itemOrd) _ _ _ e e2
            rw [lex_irrefl] at this
            cases this
        simp [this]
  · exact hs.imp fun h => by simp [h]
theorem sortD_sorted (xs : List D) : (sortD xs).Pairwise fun a b => PySem.W.dataLt b a = false := by
  have := List.pairwise_mergeSort (le := fun a b => !PySem.W.dataLt b a) (fun a b c h1 h2 => ?_) (fun a b => ?_) xs
  · exact this.imp fun h => by simpa using h
  · simp only [Bool.not_eq_true'] at h1 h2 ⊢
    cases e : PySem.W.dataLt c a with
    | false => rfl
    | true =>
      rcases lex_negTrans (O := itemOrd) _ (PySem.W.keyToks b) _ e with h | h
      · have h2 : PyProof.Rows.lexLt itemOrd (PySem.W.keyToks c) (PySem.W.keyToks b) = false := h2
        rw [h2] at h; cases h
      · have h1 : PyProof.Rows.lexLt itemOrd (PySem.W.keyToks b) (PySem.W.keyToks a) = false := h1
        rw [h1] at h; cases h
  · cases e : PySem.W.dataLt b a with
    | false => rfl
    | true =>
      have : PySem.W.dataLt a b = false := by
        cases e2 : PySem.W.dataLt a b with
        | false => rfl
        | true =>
          have := lex_trans (O := itemOrd) _ _ _ e e2
          rw [lex_irrefl] at this
          cases this
      simp [this]
theorem sortD_perm (xs : List D) : (sortD xs).Perm xs := List.mergeSort_perm _ _
/-- the order in which they come is nothing to the sorted list -/
theorem sortD_of_perm {xs ys : List D} (hp : xs.Perm ys) (hi : ∀ a ∈ xs, ∀ b ∈ xs, PySem.W.keyToks a = PySem.W.keyToks b → a = b) : sortD xs = sortD ys :=
  sortD_eq ((sortD_perm ys).trans hp.symm) (sortD_sorted ys) hi
mutual
theorem eqv_key : ∀ (x y : D), keyB x = true → keyB y = true → PyData.eqv x y = true → x = y
  | .none, y, _, k, h => by cases y <;> simp [keyB, PyData.eqv] at k h ⊢
  | .int i, y, _, k, h => by cases y <;> simp [keyB, PyData.eqv] at k h ⊢; exact h
  | .tuple xs, y, k1, k, h => by
    cases y with
    | tuple ys =>
      simp only [keyB] at k1 k
      simp only [PyData.eqv] at h
      rw [eqvAll_key xs ys k1 k h]
    | _ => simp [keyB, PyData.eqv] at k h
  | .bool _, _, k, _, _ => by simp [keyB] at k
  | .str _, _, k, _, _ => by simp [keyB] at k
  | .list _, _, k, _, _ => by simp [keyB] at k
  | .dict _, _, k, _, _ => by simp [keyB] at k
theorem eqvAll_key : ∀ (xs ys : List D), keysB xs = true → keysB ys = true → PyData.eqvAll xs ys = true → xs = ys
  | [], [], _, _, _ => rfl
  | [], _ :: _, _, _, h => by simp [PyData.eqvAll] at h
  | _ :: _, [], _, _, h => by simp [PyData.eqvAll] at h
  | x :: xs, y :: ys, k1, k2, h => by
    simp only [keysB, Bool.and_eq_true] at k1 k2
    simp only [PyData.eqvAll, Bool.and_eq_true] at h
    rw [eqv_key x y k1.1 k2.1 h.1, eqvAll_key xs ys k1.2 k2.2 h.2]
end
theorem toks_key {x y : D} (ha : PySem.W.alike x y = true) (k1 : keyB x = true) (k2 : keyB y = true) (h : PySem.W.keyToks x = PySem.W.keyToks y) : x = y := by
  cases e : PyData.eqv x y with
  | true => exact eqv_key x y k1 k2 e
  | false =>
    have q := (PySem.W.toks_eqv x y ha).2 e [.inl 0] [.inl 1]
    rw [h, PySem.W.lex_pre, lex_irrefl] at q
    exact absurd q (by decide)
/-! ### the set over the layer -/
structure Set0 (w : World) (h : Heap) (a : Addr) (L : List KA) : Prop where
  ex : ∃ (es : Array (Int × Value)) (ep : Nat) (t : SetTable), (∃ o, h.get? a = some o ∧ o.ExactSet ∧ o.data = .set es ep t) ∧ es.toList = rowsN w L ∧ TabOk t (hsN w L) ∧ (L.map (·.2)).Nodup ∧ t.plain = true ∧ (w.params.followText "set-order" = true ∨ t.led = true) ∧ L.length * 5 < t.mask * 3 ∧ L.length < 64
def NO (w : World) (a : Addr) (L : List KA) : HO := .ext fun h => Set0 w h a L
theorem set0_of {w : World} {h : Heap} {a : Addr} {L : List KA} {es : Array (Int × Value)} {ep : Nat} {t : SetTable} (R : SetN w h a L es ep t) : Set0 w h a L := ⟨es, ep, t, R.at_, R.rows, R.tab, R.nd, R.plain, R.led, R.room, R.few⟩
theorem Set0.back {w : World} {h : Heap} {a : Addr} {L : List KA} (R : Set0 w h a L) (hk : ∀ q ∈ L, KeyAt h q.2 q.1) : ∃ es ep t, SetN w h a L es ep t := by
  obtain ⟨es, ep, t, h1, h2, h3, h4, h5, h6, h7, h8⟩ := R.ex
  exact ⟨es, ep, t, h1, h2, h3, h4, hk, h5, h6, h7, h8⟩
theorem no_new {P : Program} {w : World} {H : Hp} {h : Heap} {a : Addr} {L : List KA} (R : Set0 w h a L) : ObjOk P w H h a (NO w a L) := by
  have ⟨es, ep, t, ⟨o, ho, r⟩, q⟩ := R.ex
  refine ⟨R, ⟨o, ho⟩, fun h1 h2 p k => ?_⟩
  have ⟨es2, ep2, t2, ⟨o2, ho2, r2⟩, q2⟩ := Set0.ex p
  exact ⟨es2, ep2, t2, ⟨o2, k o2 ho2, r2⟩, q2⟩
section
variable {X : Cx} {C : Pm}
def rSetN (C : Pm) (w : World) : List V → Hp → VK → Prop := fun vs H Q => ∃ (Hf : Hp) (l : Addr) (xs : List V) (ds : List D), Same Hf H ∧ vs = [V.ref l] ∧ H l = some (.lst xs) ∧ RpL C.K Hf xs ds ∧ ds.all memB = true ∧ PyData.canLayAll0 ds = true ∧ ds.length < 64 ∧
  ∀ a (L : List KA), H a = none → (∀ q ∈ L, ∃ d ∈ ds, q.2 = keyOf d ∧ Rp C.K Hf (.ref q.1) d) → (∀ d ∈ ds, keyOf d ∈ L.map (·.2)) → Q (.ref a) (upd H a (NO w a L))
theorem refs_of {K : PySem.W.Frag} {Hf : Hp} : ∀ {xs : List V} {ds : List D}, RpL K Hf xs ds → ds.all memB = true → ∃ bs : List Addr, xs = bs.map V.ref ∧ bs.length = ds.length
  | _, _, .nil, _ => ⟨[], rfl, rfl⟩
  | _, _, .cons (v := v) (d := d) h r, k => by
    simp only [List.all_cons, Bool.and_eq_true] at k
    obtain ⟨bs, e1, e2⟩ := refs_of r k.2
    cases d with
    | tuple es =>
      cases h with
      | tup _ _ _ => exact ⟨_ :: bs, by rw [e1]; rfl, by simp [e2]⟩
    | _ => simp [memB] at k
end
end DL
namespace DL
open PySem PySem.Spec PyProof.Rows L2 NS
theorem vals_refs : ∀ {bs : List Addr} {us : List Value}, Vals (bs.map V.ref) us → us = bs.map Value.ref
  | [], _, .nil => rfl
  | _ :: bs, _, .cons r t => by
    cases r
    rw [vals_refs t]
    rfl
theorem keys_at {h : Heap} : ∀ {bs : List Addr} {ds : List D} {as : List Addr}, ReadsAll h (bs.map Value.ref) ds as → ds.all memB = true → ∀ q ∈ bs.zip (ds.map keyOf), KeyAt h q.2 q.1
  | [], _, _, _, _, q, hq => by simp at hq
  | b :: bs, _, _, .cons (d := d) (ds := ds) r t, k, q, hq => by
    simp only [List.all_cons, Bool.and_eq_true] at k
    simp only [List.map_cons, List.zip_cons_cons] at hq
    rcases List.mem_cons.mp hq with rfl | hq
    · exact key_at r k.1
    · exact keys_at t k.2 q hq
theorem rp_at {K : PySem.W.Frag} {Hf : Hp} : ∀ {bs : List Addr} {ds : List D}, RpL K Hf (bs.map V.ref) ds → ∀ q ∈ bs.zip (ds.map keyOf), ∃ d ∈ ds, q.2 = keyOf d ∧ Rp K Hf (.ref q.1) d
  | [], _, _, q, hq => by simp at hq
  | b :: bs, _, .cons (d := d) (ds := ds) r t, q, hq => by
    simp only [List.map_cons, List.zip_cons_cons] at hq
    rcases List.mem_cons.mp hq with rfl | hq
    · exact ⟨d, .head _, rfl, r⟩
    · obtain ⟨e, he, h⟩ := rp_at t q hq
      exact ⟨e, .tail _ he, h⟩
section
variable {X : Cx} {C : Pm}
theorem c_setN (hK : C.K = X.K) (hc : X.calm = true) (hu : X.A.units + 65 < cLine) : CallR X (.type "set") (rSetN C X.w) := by
  intro pins s σ H vs us Q I r ⟨Hf, l, xs, ds, sf, e, hl, rx, hm, hcan, few, q⟩
  subst e
  rw [Vals.ref1 r]
  obtain ⟨its, rv, pl, hz⟩ := I.list (SqL.of hl)
  obtain ⟨as, hr⟩ := Dp.readsAll I ds xs its (by rw [← hK]; exact (rx.mono sf).dp (noDictL_of hcan)) rv
  obtain ⟨bs, rfl, lb⟩ := refs_of rx hm
  have ei := vals_refs rv
  subst ei
  have hn : H s.heap.objs.size = none := I.hok.fresh (Nat.le_refl _)
  have hz1 : (bs.zip (ds.map keyOf)).map Prod.fst = bs := List.map_fst_zip (by simp [lb])
  have hz2 : (bs.zip (ds.map keyOf)).map Prod.snd = ds.map keyOf := List.map_snd_zip (by simp [lb])
  have hz3 : (bs.zip (ds.map keyOf)).length = ds.length := by simp [lb]
  refine callSetN (P := X.prog) (w := X.w) (bs.zip (ds.map keyOf)) (I.ok.hd hc) pl.isList (by
    have : (bs.zip (ds.map keyOf)).map (fun q => Value.ref q.1) = ((bs.zip (ds.map keyOf)).map Prod.fst).map Value.ref := by rw [List.map_map]; rfl
    rw [this, hz1]) (keys_at hr hm) (by rw [hz3]; exact few) (by omega) fun h2 tk ⟨L, es, ep, t, R, g, k⟩ => ?_
  refine ⟨.ref s.heap.objs.size, upd H s.heap.objs.size (NO X.w s.heap.objs.size L), I.laid (t' := tk) k (Nat.le_refl _) (no_new (set0_of R)), rfl, q _ L hn (fun p hp => rp_at rx p (List.mem_of_mem_take (g.sub p hp))) fun d hd => ?_⟩
  have : keyOf d ∈ (bs.zip (ds.map keyOf)).map Prod.snd := by rw [hz2]; exact List.mem_map_of_mem hd
  obtain ⟨p, hp, e⟩ := List.mem_map.mp this
  rw [← e]
  exact g.all p (by rw [List.take_length]; exact hp)
mutual
theorem key_data : ∀ d : D, keyB d = true → (keyOf d).data = d
  | .none, _ => rfl
  | .int _, _ => rfl
  | .tuple ds, k => by simp only [keyB] at k; simp only [keyOf, NestedKey.data, keys_data ds k]
  | .bool _, k => by simp [keyB] at k
  | .str _, k => by simp [keyB] at k
  | .list _, k => by simp [keyB] at k
  | .dict _, k => by simp [keyB] at k
theorem keys_data : ∀ ds : List D, keysB ds = true → NestedKey.datas (keysOf ds) = ds
  | [], _ => rfl
  | d :: ds, k => by
    simp only [keysB, Bool.and_eq_true] at k
    simp only [keysOf, NestedKey.datas, key_data d k.1, keys_data ds k.2]
end
mutual
theorem key_noAddr {h : Heap} : ∀ (d : D) (v : Value) (as : List Addr), Reads h v d as → keyB d = true → as = []
  | .none, _, _, r, _ => by cases r; rfl
  | .int _, _, _, r, _ => by cases r; rfl
  | .tuple ds, _, _, r, k => by
    cases r with
    | tuple g1 g2 g3 g4 =>
      simp only [keyB] at k
      exact keys_noAddr ds _ _ g4 k
  | .bool _, _, _, _, k => by simp [keyB] at k
  | .str _, _, _, _, k => by simp [keyB] at k
  | .list _, _, _, _, k => by simp [keyB] at k
  | .dict _, _, _, _, k => by simp [keyB] at k
theorem keys_noAddr {h : Heap} : ∀ (ds : List D) (vs : List Value) (as : List Addr), ReadsAll h vs ds as → keysB ds = true → as = []
  | [], _, _, r, _ => by cases r; rfl
  | d :: ds, _, _, r, k => by
    cases r with
    | cons r1 r2 =>
      simp only [keysB, Bool.and_eq_true] at k
      rw [key_noAddr d _ _ r1 k.1, keys_noAddr ds _ _ r2 k.2]
      rfl
end
theorem each_mk {α β : Type} {R : α → β → Prop} {f : α → β} : ∀ {xs : List α}, (∀ x ∈ xs, R x (f x)) → PySem.W.EachIs R xs (xs.map f)
  | [], _ => .nil
  | x :: xs, h => .cons (h x (.head _)) (each_mk fun y hy => h y (.tail _ hy))
mutual
theorem key_noDict : ∀ d : D, keyB d = true → noDict d = true
  | .none, _ => rfl
  | .int _, _ => rfl
  | .tuple ds, k => by simp only [keyB] at k; exact keys_noDict ds k
  | .bool _, k => by simp [keyB] at k
  | .str _, k => by simp [keyB] at k
  | .list _, k => by simp [keyB] at k
  | .dict _, k => by simp [keyB] at k
theorem keys_noDict : ∀ ds : List D, keysB ds = true → noDictL ds = true
  | [], _ => rfl
  | d :: ds, k => by
    simp only [keysB, Bool.and_eq_true] at k
    simp only [noDictL, key_noDict d k.1, keys_noDict ds k.2, Bool.and_self]
end
/-- the elements' data, each once, are those of the list -/
theorem nub_perm {ds : List D} {L : List KA} (hm : ds.all memB = true) (nd : (L.map (·.2)).Nodup) (h1 : ∀ q ∈ L, ∃ d ∈ ds, q.2 = keyOf d) (h2 : ∀ d ∈ ds, keyOf d ∈ L.map (·.2)) : (L.map fun q => q.2.data).Perm (nubD ds) := by
  have hk : ∀ d ∈ ds, keyB d = true := fun d hd => by
    have := List.all_eq_true.mp hm d hd
    simp only [memB, Bool.and_eq_true] at this
    exact this.1.1
  have e1 : (L.map fun q => q.2.data) = (L.map (·.2)).map NestedKey.data := by rw [List.map_map]; rfl
  have e2 : nubD ds = ((nubD ds).map keyOf).map NestedKey.data := by
    rw [List.map_map]
    refine Eq.symm (Eq.trans (List.map_congr_left fun d hd => ?_) (List.map_id _))
    exact key_data d (hk d (nub_sub hd))
  rw [e1, e2]
  refine List.Perm.map _ ((List.perm_ext_iff_of_nodup nd (nub_nodup ds)).mpr fun k => ⟨fun h => ?_, fun h => ?_⟩)
  · obtain ⟨q, hq, rfl⟩ := List.mem_map.mp h
    obtain ⟨d, hd, e⟩ := h1 q hq
    rw [e]
    exact nub_all hd
  · obtain ⟨d, hd, rfl⟩ := List.mem_map.mp h
    exact h2 d (nub_sub hd)
def rSortN (C : Pm) (w : World) : List V → Hp → VK → Prop := fun vs H Q => ∃ (Hf : Hp) (a : Addr) (L : List KA) (ds : List D), Same Hf H ∧ vs = [V.ref a] ∧ H a = some (NO w a L) ∧ (∀ q ∈ L, ∃ d ∈ ds, q.2 = keyOf d ∧ Rp C.K Hf (.ref q.1) d) ∧ (∀ d ∈ ds, keyOf d ∈ L.map (·.2)) ∧ ds.all memB = true ∧ ordOk ds = true ∧
  ∀ (p : Addr) (ys : List V), H p = none → ys.length ≤ sizeLine → RpL C.K Hf ys (sortD (nubD ds)) → Q (.ref p) (upd H p (.lst ys))
theorem c_sortN (hK : C.K = X.K) (hc : X.calm = true) (hu : X.A.units + 65 < cLine) : CallR X (.builtin "sorted") (rSortN C X.w) := by
  intro pins s σ H vs us Q I r ⟨Hf, a, L, ds, sf, e, ha, hq, hall, hm, ho, q⟩
  subst e
  rw [Vals.ref1 r]
  obtain ⟨o1, o2, o3⟩ := ordOk_of ho
  have hmem : ∀ d ∈ ds, memB d = true := fun d hd => List.all_eq_true.mp hm d hd
  have hkb : ∀ d ∈ ds, keyB d = true ∧ d.depth ≤ 8 := fun d hd => by
    have := hmem d hd
    simp only [memB, Bool.and_eq_true, decide_eq_true_eq] at this
    exact this.1
  have hrd : ∀ q ∈ L, ∃ as, Reads s.heap (.ref q.1) q.2.data as ∧ q.2.data ∈ ds ∧ q.2 = keyOf q.2.data ∧ Rp C.K Hf (.ref q.1) q.2.data := fun p hp => by
    obtain ⟨d, hd, e1, rp⟩ := hq p hp
    have ed : p.2.data = d := by rw [e1]; exact key_data d (hkb d hd).1
    obtain ⟨as, rd⟩ := Dp.reads I d (.ref p.1) (.ref p.1) (by rw [← hK]; exact (rp.mono sf).dp (key_noDict d (hkb d hd).1)) rfl
    rw [ed]
    exact ⟨as, rd, hd, e1, rp⟩
  have hky : ∀ q ∈ L, KeyAt s.heap q.2 q.1 := fun p hp => by
    obtain ⟨as, rd, hd, e1, _⟩ := hrd p hp
    rw [e1]
    exact key_at rd (hmem _ hd)
  have R0 : Set0 X.w s.heap a L := (I.hok a _ ha).1
  obtain ⟨es, ep, t, R⟩ := R0.back hky
  obtain ⟨o, g1, g2, g3⟩ := R.at_
  have hfew := R.few
  have hsz := rowsN_len R.rows
  refine Calls.call_function_entry kind_sorted plain_sorted entry_sorted (args_sorted1 _) ?_
  unfold Builtin.«sorted»
  refine wpAny_bind (m := checkCount "sorted" 1 1 _) (wpAny_pure ?_)
  refine wpAny_bind (collect_set (A := X.A.in1) (I.ok.hd hc) ⟨o, g1, g2.1, g3⟩ (SetN.fits R) (by unfold scanBound; omega) R.tab.ris R.led fun s1 vs k1 z1 gn1 os1 pm => ?_)
  have er : es.toList.map (·.2) = L.map fun q => Value.ref q.1 := by
    rw [R.rows, rowsN, List.map_map]
    rfl
  rw [er] at pm
  -- a value's data
  let φ : Value → D := fun v => match L.find? (fun q => decide (v = .ref q.1)) with
    | some q => q.2.data
    | none => .none
  have hφ : ∀ q ∈ L, φ (.ref q.1) = q.2.data := fun p hp => by
    have : (L.find? fun q => decide (Value.ref p.1 = .ref q.1)).isSome = true := by
      rw [List.find?_isSome]
      exact ⟨p, hp, by simp⟩
    obtain ⟨p2, e2⟩ := Option.isSome_iff_exists.mp this
    have e3 : p.1 = p2.1 := by simpa using List.find?_some e2
    have e4 : p2 ∈ L := List.mem_of_find?_eq_some e2
    have e5 : p.2 = p2.2 := by
      have y1 := (hky p hp).nk
      rw [e3] at y1
      exact NestedIs.inj _ _ _ y1 (hky p2 e4).nk
    show (match L.find? (fun q => decide (Value.ref p.1 = .ref q.1)) with | some q => q.2.data | none => .none) = _
    rw [e2, e5]
  have hvs : ∀ v ∈ vs, ∃ q ∈ L, v = .ref q.1 := fun v hv => by
    obtain ⟨p, hp, e⟩ := List.mem_map.mp (pm.mem_iff.mp hv)
    exact ⟨p, hp, e.symm⟩
  have pb : (vs.map φ).Perm (nubD ds) := by
    have y1 := pm.map φ
    have y2 : (L.map fun q => Value.ref q.1).map φ = L.map fun q => q.2.data := by
      rw [List.map_map]
      exact List.map_congr_left fun p hp => hφ p hp
    rw [y2] at y1
    exact y1.trans (nub_perm hm R.nd (fun p hp => by obtain ⟨d, hd, e1, _⟩ := hq p hp; exact ⟨d, hd, e1⟩) hall)
  have hin : ∀ b ∈ vs.map φ, b ∈ ds := fun b hb => nub_sub (pb.mem_iff.mp hb)
  have hvl : vs.length < 64 := by rw [pm.length_eq, List.length_map]; exact hfew
  refine wpAny_bind (wpAny_newList ?_ (by rw [sizeLine_eq]; omega))
  have hoL : (s1.heap.push (seqObj "list" vs.toArray 0)).get? s1.heap.objs.size = some (seqObj "list" vs.toArray 0) := Heap.get?_push_size _ rfl
  have keep : ∀ b u, s.heap.get? b = some u → (s1.heap.push (seqObj "list" vs.toArray 0)).get? b = some u := fun b u e => Heap.get?_push_of_some _ (k1 b u e)
  refine wpAny_bind (wpAny_holding (PySem.W.list_sort_data (s := { s1 with heap := s1.heap.push (seqObj "list" vs.toArray 0) }) (bs := vs.map φ) (enc := id) (R := fun v d => ∃ x, RelV x v ∧ Rp C.K Hf x d) hoL
    (each_mk fun v hv => by
      obtain ⟨p, hp, rfl⟩ := hvs v hv
      obtain ⟨as, rd, hd, e1, rp⟩ := hrd p hp
      exact ⟨.ref p.1, rfl, by rw [hφ p hp]; exact rp⟩)
    (each_mk fun v hv => by
      obtain ⟨p, hp, rfl⟩ := hvs v hv
      obtain ⟨as, rd, hd, e1, rp⟩ := hrd p hp
      have e0 := key_noAddr _ _ _ rd (hkb _ hd).1
      subst e0
      exact ⟨[], by simp only [id]; rw [hφ p hp]; exact PyProof.Rows.Reads.keeps keep rd, by simp⟩)
    (by rw [List.map_id]; exact fun d hd e he => o1.1 d (hin d hd) e (hin e he))
    (by
      rw [List.map_id]
      refine .inl fun d hd => ?_
      have y := hmem d (hin d hd)
      simp only [memB, Bool.and_eq_true] at y
      have y2 := y.2
      split at y2
      · exact ⟨_, _, rfl⟩
      · cases y2)
    (by rw [List.length_map, sizeLine_eq]; omega)
    (fun b hb => by
      have := (hkb b (hin b hb)).2
      simp only [id, Around.in1_units]
      omega) fun out l1 l2 => ?_))
  obtain ⟨c, hcx⟩ := sortedHeap_at (vs := vs) (out := out.toArray) hoL
  obtain ⟨ys, rv2, ry⟩ := each_back l2
  have es2 : sortD (vs.map φ) = sortD (nubD ds) := sortD_of_perm pb fun x hx y hy e => toks_key (o1.1 x (hin x hx) y (hin y hy)) (hkb x (hin x hx)).1 (hkb y (hin y hy)).1 e
  have ry2 : RpL C.K Hf ys (sortD (nubD ds)) := by rw [← es2]; exact ry
  have hyl : ys.length ≤ sizeLine := by rw [rv2.length, l1, List.length_map, sizeLine_eq]; omega
  have kp : ∀ b u, s.heap.get? b = some u → (sortedHeap (s1.heap.push (seqObj "list" vs.toArray 0)) s1.heap.objs.size vs out.toArray).get? b = some u := fun b u e => by
    have y := k1 b u e
    have lt := Heap.lt_size y
    rw [sortedHeap_old (Nat.ne_of_lt lt) (by rw [size_push']; exact Nat.lt_succ_of_lt lt)]
    exact Heap.get?_push_of_some _ y
  have np : H s1.heap.objs.size = none := I.hok.fresh z1
  refine wpAny_pure ⟨_, rfl, ?_⟩
  have hg : (sortedHeap (s1.heap.push (seqObj "list" vs.toArray 0)) s1.heap.objs.size vs out.toArray).get? s1.heap.objs.size = some (seqObj "list" out.toArray c) := hcx
  have J : Inv X pins σ (upd H s1.heap.objs.size (.lst ys)) { s with heap := sortedHeap (s1.heap.push (seqObj "list" vs.toArray 0)) s1.heap.objs.size vs out.toArray, gens := s1.gens, drawn := s1.drawn, toks := s1.toks } :=
    I.call (ch := []) (Un.laid kp z1 np) (I.hok.laid kp z1 ⟨hyl, out, c, rv2, hg⟩) (by rw [gn1]; exact I.bare) (fun _ z => nomatch z)
  have e : ({ s1 with heap := sortedHeap (s1.heap.push (seqObj "list" vs.toArray 0)) s1.heap.objs.size vs out.toArray } : Shared) = { s with heap := sortedHeap (s1.heap.push (seqObj "list" vs.toArray 0)) s1.heap.objs.size vs out.toArray, gens := s1.gens, drawn := s1.drawn, toks := s1.toks } := by
    cases s1
    cases s
    cases os1
    rfl
  show ∃ v H2, Inv X pins σ H2 ({ s1 with heap := sortedHeap (s1.heap.push (seqObj "list" vs.toArray 0)) s1.heap.objs.size vs out.toArray } : Shared) ∧ _
  rw [e]
  exact ⟨.ref s1.heap.objs.size, _, J, rfl, q _ ys np hyl ry2⟩
end
end DL
namespace DL
open PySem PySem.Spec PyProof.Rows L2 NS
section
variable {X : Cx} {C : Pm} {a : Expr} {p p2 q2 pos : Pos} {fr : Env → R (List D)}
theorem set_ty : bootBuiltins "set" = some (.type "set") := by decide +kernel
theorem sorted_bl : bootBuiltins "sorted" = some (.builtin "sorted") := by decide +kernel
theorem f_sortset (hK : C.K = X.K) (hc : X.calm = true) (hu : X.A.units + 65 < cLine) (g1 : Gl X "sorted") (m1 : X.mg "sorted" = none) (g2 : Gl X "set") (m2 : X.mg "set" = none) (ha : PA X [a] (tPA C fr)) (hs : isStar a = false) :
    PE X (.Call (.Name "sorted" p) [.Call (.Name "set" p2) [a] [] q2] [] pos) (tF C fun ρ => fr ρ >>= dSortSet) := by
  have h1 := pe_callTy (p := p2) (pos := q2) (c_setN hK hc hu) g2 m2 set_ty ha (by decide) (by decide) (star_cons hs) rfl
  have h2 := pe_callB (p := p) (pos := pos) (c_sortN hK hc hu) g1 m1 sorted_bl (pa_cons h1 pa_nil (star_cons (by rfl))) (by decide) (by decide) (star_cons (by rfl)) rfl
  refine PE.imp h2 fun σ H Q ⟨Hf0, H0, Hf, ρ, env, h⟩ => ⟨Hf0, H0, Hf, ρ, env, h.bind fun ds vs Hf1 H1 _ gr r1 h3 => ?_⟩
  have h3 : OutG C (RelF C H) Hf1 H1 (dSortSet ds) Q := h3
  unfold dSortSet at h3
  split at h3
  · rename_i es _ _
    split at h3
    · rename_i ok
      simp only [Bool.and_eq_true, decide_eq_true_eq] at ok
      obtain ⟨v, rfl, hv⟩ := r1.one
      obtain ⟨l, xs, rfl, hl, zl, rl⟩ := hv.list_ gr.sub
      have sf := gr.sub
      refine ⟨Hf1, l, xs, es, sf, rfl, hl, rl, ok.2.1, (ordOk_of ok.2.2).2.1, ok.1, fun b L nb k1 k2 => ?_⟩
      have gs := Grow.side (o := NO X.w b L) sf nb
      refine ⟨Hf1, b, L, es, gs.sub, rfl, upd_same, k1, k2, ok.2.1, ok.2.2, fun c ys nc zy ry => ?_⟩
      refine h3 _ Hf1 _ (gs.trans (Grow.side gs.sub nc)) ⟨c, rfl, ?_, ownL gs.sub nc zy ry⟩
      exact Same.free gr.h (Same.free gs.h nc)
    · exact h3.elim
  · exact h3.elim
end
end DL
/-! The data layer: isinstance, calls of defs, what is walked, targets, comprehensions. -/
namespace DL
open PySem PySem.Spec PyProof.Rows L2
/-! ### isinstance -/
def tyName : D → String
  | .none => "NoneType"
  | .bool _ => "bool"
  | .int _ => "int"
  | .str _ => "str"
  | .list _ => "list"
  | .tuple _ => "tuple"
  | .dict _ => "dict"
def isiTys : List String := ["int", "bool", "str", "tuple", "list", "dict"]
def isiB (t : String) : D → Bool
  | .none => false
  | .bool _ => t == "bool" || t == "int"
  | .int _ => t == "int"
  | .str _ => t == "str"
  | .list _ => t == "list"
  | .tuple _ => t == "tuple"
  | .dict _ => t == "dict"
theorem kitB_all : ∀ a ∈ ["NoneType", "bool", "int", "str", "list", "tuple", "dict"], ∀ t ∈ isiTys, kitB a t = some (t == a || (a == "bool" && t == "int")) := by decide +kernel
theorem isi_tbl (d : D) : ∀ t ∈ isiTys, kitB (tyName d) t = some (isiB t d) := by
  intro t ht
  have h := kitB_all (tyName d) (by cases d <;> simp [tyName]) t ht
  rw [h]
  have : ∀ t ∈ isiTys, (t == "NoneType") = false := by decide
  have h2 := this t ht
  cases d <;> simp_all [tyName, isiB]
theorem tyX_of {K : PySem.W.Frag} {Hf H : Hp} {v : V} {d : D} (s : Same Hf H) (h : Rp1 K Hf H v d) (hs : isScr d = none) : TyX K H v (.type (tyName d)) := by
  by_cases hd : ∃ kds a, d = .dict kds ∧ v = .ref a ∧ OwnAt K Hf H a (.dict kds)
  · obtain ⟨kds, a, rfl, rfl, kvs, _, h2, _, _⟩ := hd
    exact .base (.dK h2)
  have h : Rp K H v d := by
    rcases h with h | ⟨a, e, h⟩
    · exact h.mono s
    · subst e
      refine h.rp s fun k q => hd ⟨k, a, q, rfl, ?_⟩
      rw [← q]
      exact h
  cases h with
  | non => exact .base .non
  | bl b => exact .base (.bl b)
  | int i => exact .base (.int i)
  | str x => exact .base (.str x)
  | lst h1 _ _ => exact .base (.lst h1)
  | tup h1 _ _ => exact .base (.tup h1)
  | dic h1 _ _ => exact .fDict h1
  | scr _ _ => simp [scr, isScr] at hs
def dIsi (t : String) (d : D) : R D := match isScr d with
  | some _ => .bad
  | none => .ok (.bool (isiB t d))
section
variable {X : Cx} {C : Pm} {pos p p2 : Pos} {a e : Expr} {es : List Expr} {fa : Env → R D} {fr : Env → R (List D)}
theorem e_isi (hK : C.K = X.K) {t : String} (ht : t ∈ isiTys) (hg : Gl X "isinstance") (hm : X.mg "isinstance" = none) (hgt : Gl X (Str.ofString t)) (hmt : X.mg (Str.ofString t) = none) (hv : bootBuiltins (Str.ofString t) = some (.type t))
    (hn : (Str.ofString t) ≠ "__name__") (hdb : ((Str.ofString t) == ("__debug__" : Str)) = false) (ha : PE X a (tP C fa)) (hs : isStar a = false) :
    PE X (.Call (.Name "isinstance" p) [a, .Name (Str.ofString t) p2] [] pos) (tE C fun ρ => fa ρ >>= dIsi t) := by
  have h1 : PA X [a, .Name (Str.ofString t) p2] (tCons (tP C fa) (tCons (tC (.ty t)) tNil)) := pa_cons ha (pa_cons (pe_bltn (v := .ty t) hgt hmt hv rfl hn hdb) pa_nil) (star_cons hs)
  refine PE.imp (pe_callB call_isi hg hm (by decide +kernel) h1 (by decide) (by decide) (star_cons hs) (noStar_any (by rfl))) fun σ H Q ⟨Hf0, H0, Hf, ρ, env, h⟩ => ⟨Hf0, H0, Hf, ρ, env, h.bind fun dx vx Hf1 H1 _ g1 r1 h1 => ?_⟩
  unfold dIsi at h1
  split at h1
  · exact h1.elim
  · rename_i hn
    exact ⟨vx, .ty t, .type (tyName dx), .type t, isiB t dx, rfl, .ty t, by rw [← hK]; exact tyX_of g1.sub r1 hn, kit_ty (isi_tbl dx t ht), val_bl h1 g1.sub⟩
/-! ### a def's promise; its call -/
def spD (K : PySem.W.Frag) (cl : Str → Addr) (n : Nat) (F : List D → R D) : Sp := fun vs H Q E => ∃ (Hf : Hp) (ds : List D), Same Hf H ∧ RpL K Hf vs ds ∧ ds.length = n ∧ OutG ⟨K, E, cl, false⟩ (RelE ⟨K, E, cl, false⟩) Hf H (F ds) Q
def ari (n : Nat) (F : List D → R D) (ds : List D) : R D := if ds.length = n then F ds else .bad
theorem e_call {k n : Nat} {f : Addr} {fd : FuncData} {ps : List Str} {x : Str} {F : List D → R D} (hK : C.K = X.K) (FO : FnOk X.prog X.w X.K X.mg X.base (L2.CX X.prog X.w) k f fd ps (spD X.K C.cl n F)) (hr : Room k X.A) (hg : Gl X x) (hm : X.mg x = some (.ref f))
    (hk : PySem.W.keepIn X.K (.ref f) = true) (hb : Binds X.K fd ps []) (tk : Takes X fun cls d _ H => C.E cls d H) (ha : PA X (e :: es) (tA C fr)) (hs : (e :: es).all (fun e => !isStar e) = true) (hdb : (x == ("__debug__" : Str)) = false) :
    PE X (.Call (.Name x p) (e :: es) [] pos) (tE C fun ρ => fr ρ >>= ari n F) := by
  have hs' := hs
  simp only [List.all_cons, Bool.and_eq_true, Bool.not_eq_true'] at hs'
  refine PE.imp (pe_call FO hr hg hm hk hb .nil (passes_call tk fun _ _ _ _ h => h) ha hdb (star_cons hs'.1) (noStar_any (by simpa using hs'.2))) fun σ H Q ⟨Hf0, H0, Hf, ρ, env, h⟩ => ⟨Hf0, H0, Hf, ρ, env, h.bind fun ds vs Hf1 H1 _ g1 r1 h1 => ?_⟩
  unfold ari at h1
  split at h1
  · rename_i hl
    obtain ⟨CK, CE, Ccl, Cfr⟩ := C
    cases hK
    rw [List.append_nil]
    exact ⟨Hf1, ds, g1.sub, r1, hl, h1⟩
  · exact h1.elim
/-- a def that gives back a fresh object -/
def spF (K : PySem.W.Frag) (cl : Str → Addr) (n : Nat) (F : List D → R D) : Sp := fun vs H Q E => ∃ (Hf : Hp) (ds : List D), Same Hf H ∧ RpL K Hf vs ds ∧ ds.length = n ∧ OutG ⟨K, E, cl, true⟩ (RelF ⟨K, E, cl, true⟩ H) Hf H (F ds) Q
theorem f_call {k n : Nat} {f : Addr} {fd : FuncData} {ps : List Str} {x : Str} {F : List D → R D} (hK : C.K = X.K) (FO : FnOk X.prog X.w X.K X.mg X.base (L2.CX X.prog X.w) k f fd ps (spF X.K C.cl n F)) (hr : Room k X.A) (hg : Gl X x) (hm : X.mg x = some (.ref f))
    (hk : PySem.W.keepIn X.K (.ref f) = true) (hb : Binds X.K fd ps []) (tk : Takes X fun cls d _ H => C.E cls d H) (ha : PA X (e :: es) (tA C fr)) (hs : (e :: es).all (fun e => !isStar e) = true) (hdb : (x == ("__debug__" : Str)) = false) :
    PE X (.Call (.Name x p) (e :: es) [] pos) (tF C fun ρ => fr ρ >>= ari n F) := by
  have hs' := hs
  simp only [List.all_cons, Bool.and_eq_true, Bool.not_eq_true'] at hs'
  refine PE.imp (pe_call FO hr hg hm hk hb .nil (passes_call tk fun _ _ _ _ h => h) ha hdb (star_cons hs'.1) (noStar_any (by simpa using hs'.2))) fun σ H Q ⟨Hf0, H0, Hf, ρ, env, h⟩ => ⟨Hf0, H0, Hf, ρ, env, OutG.bind (show OutG C (RelF C H) Hf H (fr ρ >>= ari n F) Q from h) fun ds vs Hf1 H1 _ g1 r1 h1 => ?_⟩
  unfold ari at h1
  split at h1
  · rename_i hl
    obtain ⟨CK, CE, Ccl, Cfr⟩ := C
    cases hK
    rw [List.append_nil]
    refine ⟨Hf1, ds, g1.sub, r1, hl, ?_⟩
    cases q : F ds with
    | bad => rw [q] at h1; exact h1.elim
    | exc c => rw [q] at h1; exact h1
    | ok d =>
      rw [q] at h1
      intro v Hf2 H2 g2 ⟨a, e, na, o⟩
      exact h1 v Hf2 H2 g2 ⟨a, e, Same.free g1.h na, o⟩
  · exact h1.elim
/-! ### what is walked -/
structure WalkD (K : PySem.W.Frag) (Hf : Hp) (J : It) (ds : List D) : Prop where
  len : ds.length ≤ sizeLine
  goes : ∀ (i : Nat) (H : Hp), i < ds.length → Same Hf H → J.go i H
  stops : ∀ H, Same Hf H → J.stop ds.length H
  yields : ∀ (i : Nat) (Hg H H2 : Hp) (x : V) (d : D), ds[i]? = some d → Same Hf Hg → Same Hg H → J.yld i H x H2 → ∃ Hg2, Grow Hg H Hg2 H2 ∧ Rp K Hg2 x d
abbrev RelI (C : Pm) : Hp → Hp → It → List D → Prop := fun Hf _ J ds => WalkD C.K Hf J ds
abbrev tI (C : Pm) (f : Env → R (List D)) : TI := tG C (RelI C) f
variable {K : PySem.W.Frag} {Hf : Hp}
theorem walkL {a : Addr} {xs : List V} {ds : List D} (h : Hf a = some (.lst xs)) (z : xs.length ≤ sizeLine) (r : RpL K Hf xs ds) : WalkD K Hf (Itl K a) ds := by
  have hl := r.length
  refine ⟨by omega, fun i H hi s => ⟨xs, xs[i], SqL.of (s _ _ h), by simp [show i < xs.length by omega]⟩, fun H s => ⟨xs, SqL.of (s _ _ h), by omega⟩, fun i Hg H H2 x d hd s1 s2 y => ?_⟩
  obtain ⟨e, q⟩ := y
  subst e
  obtain ⟨v, h1, h2⟩ := r.get hd
  have e2 := q xs (SqL.of (s2 _ _ (s1 _ _ h)))
  rw [h1] at e2
  cases e2
  exact ⟨Hg, Grow.refl s2, h2.mono s1⟩
theorem walkT {a : Addr} {xs : List V} {ds : List D} (h : Hf a = some (.tup xs)) (z : xs.length ≤ sizeLine) (r : RpL K Hf xs ds) : WalkD K Hf (Itt K a) ds := by
  have hl := r.length
  refine ⟨by omega, fun i H hi s => ⟨xs, xs[i], SqT.of (s _ _ h), by simp [show i < xs.length by omega]⟩, fun H s => ⟨xs, SqT.of (s _ _ h), by omega⟩, fun i Hg H H2 x d hd s1 s2 y => ?_⟩
  obtain ⟨e, q⟩ := y
  subst e
  obtain ⟨v, h1, h2⟩ := r.get hd
  have e2 := q xs (SqT.of (s2 _ _ (s1 _ _ h)))
  rw [h1] at e2
  cases e2
  exact ⟨Hg, Grow.refl s2, h2.mono s1⟩
def signs (z : Str) : List D := z.cps.toList.map fun c => .str ⟨#[c]⟩
theorem walkS {z : Str} (hz : z.length ≤ sizeLine) : WalkD K Hf (Its z) (signs z) := by
  have hl : (signs z).length = z.cps.size := by simp [signs]
  refine ⟨by rw [hl]; exact hz, fun i H hi s => (by rw [hl] at hi; exact hi), fun H s => (by show z.cps.size ≤ _; rw [hl]; exact Nat.le_refl _), fun i Hg H H2 x d hd s1 s2 y => ?_⟩
  obtain ⟨e, c, h1, h2⟩ := y
  subst e h2
  refine ⟨Hg, Grow.refl s2, ?_⟩
  have e2 : (signs z)[i]? = some (.str ⟨#[c]⟩) := by simp [signs, h1]
  rw [hd] at e2
  cases e2
  exact .str _
def rngD (lo : Int) (n : Nat) : List D := (List.range n).map fun (i : Nat) => .int (lo + i)
theorem walkR {lo : Int} {n : Nat} (hn : n ≤ sizeLine) : WalkD K Hf (Itr lo n) (rngD lo n) := by
  have hl : (rngD lo n).length = n := by simp [rngD]
  refine ⟨by rw [hl]; exact hn, fun i H hi s => (by rw [hl] at hi; exact hi), fun H s => (by show n ≤ _; rw [hl]; exact Nat.le_refl _), fun i Hg H H2 x d hd s1 s2 y => ?_⟩
  obtain ⟨e, h2⟩ := y
  subst e h2
  refine ⟨Hg, Grow.refl s2, ?_⟩
  have hi : i < n := by rw [← hl]; exact (List.getElem?_eq_some_iff.mp hd).1
  have e2 : (rngD lo n)[i]? = some (.int (lo + (i : Nat))) := by simp [rngD, hi]
  rw [hd] at e2
  cases e2
  exact .int _
def pairs (xs ys : List D) : List D := (xs.zip ys).map fun p => .tuple [p.1, p.2]
theorem pairRp {Hg H H2 : Hp} {T : Addr} {x y : V} {d e : D} (s2 : Same Hg H) (nT : H T = none) (hx : Rp K Hg x d) (hy : Rp K Hg y e) : ∃ Hg2, Grow Hg H Hg2 (upd H T (.tup [x, y])) ∧ Rp K Hg2 (.ref T) (.tuple [d, e]) :=
  ⟨upd Hg T (.tup [x, y]), Grow.push s2 nT, .newT (Same.free s2 nT) (by show 2 ≤ sizeLine; decide) (.cons hx (.cons hy .nil))⟩
theorem pairs_get {xs ys : List D} {i : Nat} {d : D} (h : (pairs xs ys)[i]? = some d) : ∃ a b, xs[i]? = some a ∧ ys[i]? = some b ∧ d = .tuple [a, b] := by
  unfold pairs at h
  rw [List.getElem?_map] at h
  cases e : (xs.zip ys)[i]? with
  | none => rw [e] at h; cases h
  | some p =>
    rw [e] at h
    cases h
    obtain ⟨h1, h2⟩ := List.getElem?_zip_eq_some.mp e
    exact ⟨p.1, p.2, h1, h2, rfl⟩
theorem walkZL {a b : Addr} {xs ys : List V} {ds es : List D} (ha : Hf a = some (.lst xs)) (hb : Hf b = some (.lst ys)) (za : xs.length ≤ sizeLine) (ra : RpL K Hf xs ds) (rb : RpL K Hf ys es) : WalkD K Hf (Itz K a b) (pairs ds es) := by
  have e1 := ra.length
  have e2 := rb.length
  have hl : (pairs ds es).length = min ds.length es.length := by simp [pairs]
  refine ⟨by omega, fun i H hi s => ?_, fun H s => ⟨xs, ys, SqL.of (s _ _ ha), SqL.of (s _ _ hb), by omega⟩, fun i Hg H H2 x d hd s1 s2 y => ?_⟩
  · exact ⟨xs, ys, xs[i]'(by omega), ys[i]'(by omega), SqL.of (s _ _ ha), SqL.of (s _ _ hb), by simp, by simp⟩
  · obtain ⟨T, x1, y1, rfl, nT, rfl, q1, q2⟩ := y
    obtain ⟨d1, d2, h1, h2, rfl⟩ := pairs_get hd
    obtain ⟨v1, g1, r1⟩ := ra.get h1
    obtain ⟨v2, g2, r2⟩ := rb.get h2
    have f1 := q1 xs (SqL.of (s2 _ _ (s1 _ _ ha)))
    have f2 := q2 ys (SqL.of (s2 _ _ (s1 _ _ hb)))
    rw [g1] at f1
    rw [g2] at f2
    cases f1
    cases f2
    exact pairRp (H2 := H) s2 nT (r1.mono s1) (r2.mono s1)
theorem walkZT {a b : Addr} {xs ys : List V} {ds es : List D} (ha : Hf a = some (.tup xs)) (hb : Hf b = some (.tup ys)) (za : xs.length ≤ sizeLine) (ra : RpL K Hf xs ds) (rb : RpL K Hf ys es) : WalkD K Hf (RZ.ItzT K a b) (pairs ds es) := by
  have e1 := ra.length
  have e2 := rb.length
  have hl : (pairs ds es).length = min ds.length es.length := by simp [pairs]
  refine ⟨by omega, fun i H hi s => ?_, fun H s => ⟨xs, ys, SqT.of (s _ _ ha), SqT.of (s _ _ hb), by omega⟩, fun i Hg H H2 x d hd s1 s2 y => ?_⟩
  · exact ⟨xs, ys, xs[i]'(by omega), ys[i]'(by omega), SqT.of (s _ _ ha), SqT.of (s _ _ hb), by simp, by simp⟩
  · obtain ⟨T, x1, y1, rfl, nT, rfl, q1, q2⟩ := y
    obtain ⟨d1, d2, h1, h2, rfl⟩ := pairs_get hd
    obtain ⟨v1, g1, r1⟩ := ra.get h1
    obtain ⟨v2, g2, r2⟩ := rb.get h2
    have f1 := q1 xs (SqT.of (s2 _ _ (s1 _ _ ha)))
    have f2 := q2 ys (SqT.of (s2 _ _ (s1 _ _ hb)))
    rw [g1] at f1
    rw [g2] at f2
    cases f1
    cases f2
    exact pairRp (H2 := H) s2 nT (r1.mono s1) (r2.mono s1)
theorem walkE {a : Addr} {xs : List V} {ds : List D} (ha : Hf a = some (.lst xs)) (za : xs.length ≤ sizeLine) (ra : RpL K Hf xs ds) : WalkD K Hf (Ite K a) (pairs (rngD 0 ds.length) ds) := by
  have e1 := ra.length
  have hl : (pairs (rngD 0 ds.length) ds).length = ds.length := by simp [pairs, rngD]
  refine ⟨by omega, fun i H hi s => ?_, fun H s => ⟨xs, SqL.of (s _ _ ha), by omega⟩, fun i Hg H H2 x d hd s1 s2 y => ?_⟩
  · exact ⟨xs, xs[i]'(by omega), SqL.of (s _ _ ha), by simp⟩
  · obtain ⟨T, x1, rfl, nT, rfl, q1⟩ := y
    obtain ⟨d1, d2, h1, h2, rfl⟩ := pairs_get hd
    obtain ⟨v2, g2, r2⟩ := ra.get h2
    have f2 := q1 xs (SqL.of (s2 _ _ (s1 _ _ ha)))
    rw [g2] at f2
    cases f2
    have hi : i < ds.length := (List.getElem?_eq_some_iff.mp h2).1
    have e3 : (rngD 0 ds.length)[i]? = some (.int (i : Nat)) := by simp [rngD, hi]
    rw [h1] at e3
    cases e3
    exact pairRp (H2 := H) s2 nT (.int _) (r2.mono s1)
def dItems : D → R (List D)
  | .list ds => .ok ds
  | .tuple ds => .ok ds
  | .str z => if z.length ≤ sizeLine then .ok (signs z) else .bad
  | .dict kds => if dkB kds then .ok (kds.map (·.1)) else .bad
  | _ => .bad
theorem walkK {a : Addr} {ob : Obj} {kvs : List (Key × V)} {kds : List (D × D)} (h : Hf a = some (.frz ob (.dK kvs))) (z : kvs.length ≤ sizeLine) (r : RpK K Hf kvs kds) : WalkD K Hf (Itk a ob kvs) (kds.map (·.1)) := by
  have hl := r.length
  refine ⟨by rw [List.length_map]; omega, fun i H hi s => ⟨s _ _ h, by rw [List.length_map] at hi; omega⟩, fun H s => ⟨s _ _ h, by rw [List.length_map]; omega⟩, fun i Hg H H2 x d hd s1 s2 y => ?_⟩
  obtain ⟨e, k, v, q1, q2⟩ := y
  subst e
  rw [List.getElem?_map] at hd
  obtain ⟨kd, hkd, rfl⟩ := Option.map_eq_some_iff.mp hd
  obtain ⟨k', v', h1, h2, h3⟩ := r.get hkd
  rw [q1] at h1
  cases h1
  subst q2
  rw [h2]
  exact ⟨Hg, Grow.refl s2, by cases k <;> constructor⟩
theorem walkIt {a : Addr} {ob : Obj} {kvs : List (Key × V)} {kds : List (D × D)} (h : Hf a = some (.frz ob (.dK kvs))) (z : kvs.length ≤ sizeLine) (r : RpK K Hf kvs kds) : WalkD K Hf (Iti a ob kvs) (kds.map fun kv => .tuple [kv.1, kv.2]) := by
  have hl := r.length
  refine ⟨by rw [List.length_map]; omega, fun i H hi s => ⟨s _ _ h, by rw [List.length_map] at hi; omega⟩, fun H s => ⟨s _ _ h, by rw [List.length_map]; omega⟩, fun i Hg H H2 x d hd s1 s2 y => ?_⟩
  obtain ⟨T, k, v, q1, q2, q3, q4⟩ := y
  subst q2 q4
  rw [List.getElem?_map] at hd
  obtain ⟨kd, hkd, rfl⟩ := Option.map_eq_some_iff.mp hd
  obtain ⟨k', v', h1, h2, h3⟩ := r.get hkd
  rw [q1] at h1
  cases h1
  have nf : Hg T = none := Same.free s2 q3
  refine ⟨_, Grow.push s2 q3, .newT nf (by rw [sizeLine_eq]; simp) (.cons ?_ (.cons (h3.mono s1) .nil))⟩
  rw [h2]
  cases k <;> constructor
variable {tg : Expr}
theorem PI.or {t u : TI} (h : PI X tg e t) (h' : PI X tg e u) : PI X tg e (fun σ H R => t σ H R ∨ u σ H R) := ⟨fun pins s σ H R I hw => hw.elim (h.run pins s σ H R I) (h'.run pins s σ H R I)⟩
theorem i_any (hK : C.K = X.K) (ha : PE X a (tE C fa)) : PI X tg a (tI C fun ρ => fa ρ >>= dItems) := by
  refine PI.imp (PI.or (pi_list ha) (PI.or (pi_tup ha) (PI.or (pi_str ha) (pi_keys ha)))) fun σ H Rr ⟨Hf0, H0, Hf, ρ, env, h⟩ => ?_
  have h : OutG C (RelI C) Hf H (fa ρ >>= dItems) Rr := h
  cases e1 : fa ρ with
  | bad => rw [e1] at h; exact h.elim
  | exc c => rw [e1] at h; exact .inl ⟨Hf0, H0, Hf, ρ, env, by rw [e1]; exact h⟩
  | ok d =>
    rw [e1] at h
    cases d with
    | list ds =>
      refine .inl ⟨Hf0, H0, Hf, ρ, env, ?_⟩
      rw [e1]
      intro v Hf1 H1 g r
      cases r with
      | lst h1 h2 h3 => exact ⟨_, rfl, ⟨_, SqL.of (g.sub _ _ h1)⟩, by rw [← hK]; exact h _ Hf1 H1 g (walkL h1 h2 h3)⟩
    | tuple ds =>
      refine .inr (.inl ⟨Hf0, H0, Hf, ρ, env, ?_⟩)
      rw [e1]
      intro v Hf1 H1 g r
      cases r with
      | tup h1 h2 h3 => exact ⟨_, rfl, ⟨_, SqT.of (g.sub _ _ h1)⟩, by rw [← hK]; exact h _ Hf1 H1 g (walkT h1 h2 h3)⟩
    | dict kds =>
      refine .inr (.inr (.inr ⟨Hf0, H0, Hf, ρ, env, ?_⟩))
      rw [e1]
      intro v Hf1 H1 g r
      have h : OutG C (RelI C) Hf H (dItems (.dict kds)) Rr := h
      by_cases hk : dkB kds = true
      · have e2 : dItems (.dict kds) = .ok (kds.map (·.1)) := by simp only [dItems, hk, if_true]
        rw [e2] at h
        generalize e : (PyData.dict kds : D) = z at r
        cases r with
        | scr h1 h2 =>
          cases e
          simp [dkB, keyOfD] at hk
        | dic h1 h2 h3 =>
          cases e
          exact ⟨_, _, rfl, .inl ⟨_, g.sub _ _ h1, h _ Hf1 H1 g (walkK h1 h2 h3)⟩⟩
        | _ => cases e
      · have e2 : dItems (.dict kds) = .bad := by simp [dItems, hk]
        rw [e2] at h
        exact h.elim
    | str z =>
      refine .inr (.inr (.inl ⟨Hf0, H0, Hf, ρ, env, ?_⟩))
      rw [e1]
      intro v Hf1 H1 g r
      cases r
      by_cases hz : z.length ≤ sizeLine
      · have h' : OutG C (RelI C) Hf H (R.ok (signs z)) Rr := by
          have e2 : (R.ok (PyData.str z) >>= dItems : DL.R (List D)) = .ok (signs z) := by show dItems (.str z) = _; simp [dItems, hz]
          rw [← e2]; exact h
        exact ⟨z, rfl, h' _ Hf1 H1 g (walkS hz)⟩
      · have e2 : (R.ok (PyData.str z) >>= dItems : DL.R (List D)) = .bad := by show dItems (.str z) = _; simp [dItems, hz]
        exact (show OutG C (RelI C) Hf H R.bad Rr by rw [← e2]; exact h).elim
    | _ => exact h.elim
def dRng1 : List D → R (List D)
  | [.int j] => if j ≤ 1000000 && decide (-1000000 ≤ j) then .ok (rngD 0 j.toNat) else .bad
  | _ => .bad
def dRng2 : List D → R (List D)
  | [.int i, .int j] => if decide (j ≤ 1000000) && decide (-1000000 ≤ j) && decide (i ≤ 1000000) && decide (-1000000 ≤ i) then .ok (rngD i (j - i).toNat) else .bad
  | _ => .bad
variable {b : Expr}
theorem i_rng1 (hg : Gl X "range") (hm : X.mg "range" = none) (ha : PA X [a] (tPA C fr)) (hs : isStar a = false) : PI X tg (.Call (.Name "range" p) [a] [] pos) (tI C fun ρ => fr ρ >>= dRng1) :=
  PI.imp (pi_range1 hg hm ha (by rw [star_cons hs]; rfl)) fun σ H Rr ⟨Hf0, H0, Hf, ρ, env, h⟩ => ⟨Hf0, H0, Hf, ρ, env, h.bind fun ds vs Hf1 H1 _ g1 r1 h1 => by
    unfold dRng1 at h1
    split at h1
    · split at h1
      · rename_i hj
        simp only [Bool.and_eq_true, decide_eq_true_eq] at hj
        obtain ⟨v, rfl, hv⟩ := r1.one
        obtain rfl := hv.int_
        exact ⟨_, rfl, by omega, by omega, h1 _ Hf1 H1 (Grow.refl g1.sub) (walkR (by rw [sizeLine_eq]; omega))⟩
      · exact h1.elim
    · exact h1.elim⟩
theorem i_rng2 (hg : Gl X "range") (hm : X.mg "range" = none) (ha : PA X [a, b] (tPA C fr)) (hs : isStar a = false) (hs2 : isStar b = false) : PI X tg (.Call (.Name "range" p) [a, b] [] pos) (tI C fun ρ => fr ρ >>= dRng2) :=
  PI.imp (pi_range2 hg hm ha (by rw [star_cons hs, star_cons hs2]; rfl) (by rw [star_cons hs2]; rfl)) fun σ H Rr ⟨Hf0, H0, Hf, ρ, env, h⟩ => ⟨Hf0, H0, Hf, ρ, env, h.bind fun ds vs Hf1 H1 _ g1 r1 h1 => by
    unfold dRng2 at h1
    split at h1
    · split at h1
      · rename_i hj
        simp only [Bool.and_eq_true, decide_eq_true_eq] at hj
        obtain ⟨v, w, rfl, hv, hw⟩ := r1.two
        obtain rfl := hv.int_
        obtain rfl := hw.int_
        exact ⟨_, _, rfl, ⟨by omega, by omega, by omega, by omega⟩, h1 _ Hf1 H1 (Grow.refl g1.sub) (walkR (by rw [sizeLine_eq]; omega))⟩
      · exact h1.elim
    · exact h1.elim⟩
theorem RpL.two {K : PySem.W.Frag} {H : Hp} {vs : List V} {d e : D} (h : RpL K H vs [d, e]) : ∃ v w, vs = [v, w] ∧ Rp K H v d ∧ Rp K H w e := by
  cases h with
  | cons h r =>
    cases r with
    | cons h2 r => cases r; exact ⟨_, _, rfl, h, h2⟩
theorem RpL.one {K : PySem.W.Frag} {H : Hp} {vs : List V} {d : D} (h : RpL K H vs [d]) : ∃ v, vs = [v] ∧ Rp K H v d := by
  cases h with
  | cons h r => cases r; exact ⟨_, rfl, h⟩
def dZip : List D → R (List D)
  | [.list xs, .list ys] => .ok (pairs xs ys)
  | [.tuple xs, .tuple ys] => .ok (pairs xs ys)
  | _ => .bad
theorem i_zip {elts : List Expr} {kk : Nat} {tpos : Pos} (hK : C.K = X.K) (hg : Gl X "zip") (hm : X.mg "zip" = none) (ha : PA X [a, b] (tA C fr)) (hs : isStar a = false) (hs2 : isStar b = false) : PI X (.Tuple elts kk tpos) (.Call (.Name "zip" p) [a, b] [] pos) (tI C fun ρ => fr ρ >>= dZip) :=
  PI.imp (RZ.pi_zipA hg hm ha (star_cons hs) (noStar_any (by simp [hs2]))) fun σ H Rr ⟨Hf0, H0, Hf, ρ, env, h⟩ => ⟨Hf0, H0, Hf, ρ, env, h.bind fun ds vs Hf1 H1 _ g1 r1 h1 => by
    unfold dZip at h1
    split at h1
    · obtain ⟨v, w, rfl, hv, hw⟩ := r1.two
      cases hv with
      | lst a1 a2 a3 =>
        cases hw with
        | lst b1 b2 b3 => exact ⟨_, _, _, _, rfl, .inl ⟨SqL.of (g1.sub _ _ a1), SqL.of (g1.sub _ _ b1), by rw [← hK]; exact h1 _ Hf1 H1 (Grow.refl g1.sub) (walkZL a1 b1 a2 a3 b3)⟩⟩
    · obtain ⟨v, w, rfl, hv, hw⟩ := r1.two
      cases hv with
      | tup a1 a2 a3 =>
        cases hw with
        | tup b1 b2 b3 => exact ⟨_, _, _, _, rfl, .inr ⟨SqT.of (g1.sub _ _ a1), SqT.of (g1.sub _ _ b1), by rw [← hK]; exact h1 _ Hf1 H1 (Grow.refl g1.sub) (walkZT a1 b1 a2 a3 b3)⟩⟩
    · exact h1.elim⟩
def dEnum : List D → R (List D)
  | [.list xs] => .ok (pairs (rngD 0 xs.length) xs)
  | _ => .bad
theorem i_enum {elts : List Expr} {kk : Nat} {tpos : Pos} (hK : C.K = X.K) (hg : Gl X "enumerate") (hm : X.mg "enumerate" = none) (ha : PA X [a] (tA C fr)) (hs : isStar a = false) : PI X (.Tuple elts kk tpos) (.Call (.Name "enumerate" p) [a] [] pos) (tI C fun ρ => fr ρ >>= dEnum) :=
  PI.imp (pi_enum hg hm ha (by rw [star_cons hs]; rfl)) fun σ H Rr ⟨Hf0, H0, Hf, ρ, env, h⟩ => ⟨Hf0, H0, Hf, ρ, env, h.bind fun ds vs Hf1 H1 _ g1 r1 h1 => by
    unfold dEnum at h1
    split at h1
    · obtain ⟨v, rfl, hv⟩ := r1.one
      cases hv with
      | lst a1 a2 a3 => exact ⟨_, _, rfl, SqL.of (g1.sub _ _ a1), by rw [← hK]; exact h1 _ Hf1 H1 (Grow.refl g1.sub) (walkE a1 a2 a3)⟩
    · exact h1.elim⟩
end
end DL
/-! The data layer: targets, comprehensions. -/
namespace DL
open PySem PySem.Spec PyProof.Rows L2
/-! ### slots stored -/
theorem EnvR.put {K : PySem.W.Frag} {Hf0 H0 Hf H : Hp} {σ : L2.St} {ρ : Env} {i : Nat} {v : V} {d : D} (e : EnvR K Hf0 H0 Hf H σ ρ) (r : Rp K Hf v d) : EnvR K Hf0 H0 Hf H (σ.set i (some v)) (ρ.set i (.va d)) := by
  refine ⟨e.grow, by rw [List.length_set, List.length_set]; exact e.len, fun j s w h1 h2 => ?_, fun j k d1 d2 a h1 h2 h3 h4 => ?_⟩
  · by_cases q : i = j
    · subst q
      have l1 : i < ρ.length := by simpa using (List.getElem?_eq_some_iff.mp h1).1
      have l2 : i < σ.length := by simpa using (List.getElem?_eq_some_iff.mp h2).1
      rw [List.getElem?_set_self l1] at h1
      rw [List.getElem?_set_self l2] at h2
      cases h1
      cases h2
      exact ⟨v, rfl, r⟩
    · rw [List.getElem?_set_ne q] at h1 h2
      exact e.slot j s w h1 h2
  · have nj : i ≠ j := fun q => by
      subst q
      have l1 : i < ρ.length := by simpa using (List.getElem?_eq_some_iff.mp h1).1
      rw [List.getElem?_set_self l1] at h1
      cases h1
    have nk : i ≠ k := fun q => by
      subst q
      have l1 : i < ρ.length := by simpa using (List.getElem?_eq_some_iff.mp h2).1
      rw [List.getElem?_set_self l1] at h2
      cases h2
    rw [List.getElem?_set_ne nj] at h1 h3
    rw [List.getElem?_set_ne nk] at h2 h4
    exact e.dis j k d1 d2 a h1 h2 h3 h4
/-- an own object stored -/
theorem EnvR.putOwn {K : PySem.W.Frag} {Hf0 H0 Hf H : Hp} {σ : L2.St} {ρ : Env} {i : Nat} {a : Addr} {d : D} (e : EnvR K Hf0 H0 Hf H σ ρ) (o : OwnAt K Hf H a d) (n0 : H0 a = none)
    (nw : ∀ (j : Nat) (e : D), ρ[j]? = some (.ow e) → σ[j]? ≠ some (some (.ref a))) : EnvR K Hf0 H0 Hf H (σ.set i (some (.ref a))) (ρ.set i (.ow d)) := by
  refine ⟨e.grow, by rw [List.length_set, List.length_set]; exact e.len, fun j s w h1 h2 => ?_, fun j k d1 d2 b h1 h2 h3 h4 => ?_⟩
  · by_cases q : i = j
    · subst q
      have l1 : i < ρ.length := by simpa using (List.getElem?_eq_some_iff.mp h1).1
      have l2 : i < σ.length := by simpa using (List.getElem?_eq_some_iff.mp h2).1
      rw [List.getElem?_set_self l1] at h1
      rw [List.getElem?_set_self l2] at h2
      cases h1
      cases h2
      exact ⟨a, rfl, o, n0⟩
    · rw [List.getElem?_set_ne q] at h1 h2
      exact e.slot j s w h1 h2
  · by_cases qj : i = j
    · by_cases qk : i = k
      · omega
      · exfalso
        subst qj
        rw [List.getElem?_set_ne qk] at h2 h4
        have l2 : i < σ.length := by simpa using (List.getElem?_eq_some_iff.mp h3).1
        rw [List.getElem?_set_self l2] at h3
        cases h3
        exact nw k d2 h2 h4
    · by_cases qk : i = k
      · exfalso
        subst qk
        rw [List.getElem?_set_ne qj] at h1 h3
        have l2 : i < σ.length := by simpa using (List.getElem?_eq_some_iff.mp h4).1
        rw [List.getElem?_set_self l2] at h4
        cases h4
        exact nw j d1 h1 h3
      · rw [List.getElem?_set_ne qj] at h1 h3
        rw [List.getElem?_set_ne qk] at h2 h4
        exact e.dis j k d1 d2 b h1 h2 h3 h4
/-- an own object is nobody else's, if it is new -/
theorem EnvR.notOwn {K : PySem.W.Frag} {Hf0 H0 Hf H : Hp} {σ : L2.St} {ρ : Env} {a : Addr} (e : EnvR K Hf0 H0 Hf H σ ρ) (na : H a = none) : ∀ (j : Nat) (d : D), ρ[j]? = some (.ow d) → σ[j]? ≠ some (some (.ref a)) := by
  intro j d h1 h2
  obtain ⟨b, h3, h4, _⟩ := e.slot j _ _ h1 h2
  cases h3
  cases d with
  | list ds => obtain ⟨xs, _, q, _⟩ := h4; rw [na] at q; cases q
  | dict ds => obtain ⟨xs, _, q, _⟩ := h4; rw [na] at q; cases q
  | _ => exact h4.elim
theorem EnvR.un {K : PySem.W.Frag} {Hf0 H0 Hf H : Hp} {σ : L2.St} {ρ : Env} {i : Nat} {v : Option V} (e : EnvR K Hf0 H0 Hf H σ ρ) : EnvR K Hf0 H0 Hf H (σ.set i v) (ρ.set i .un) := by
  refine ⟨e.grow, by rw [List.length_set, List.length_set]; exact e.len, fun j s w h1 h2 => ?_, fun j k d1 d2 b h1 h2 h3 h4 => ?_⟩
  · by_cases q : i = j
    · subst q
      have l1 : i < ρ.length := by simpa using (List.getElem?_eq_some_iff.mp h1).1
      rw [List.getElem?_set_self l1] at h1
      cases h1
      trivial
    · rw [List.getElem?_set_ne q] at h1 h2
      exact e.slot j s w h1 h2
  · have nj : i ≠ j := fun q => by
      subst q
      have l1 : i < ρ.length := by simpa using (List.getElem?_eq_some_iff.mp h1).1
      rw [List.getElem?_set_self l1] at h1
      cases h1
    have nk : i ≠ k := fun q => by
      subst q
      have l1 : i < ρ.length := by simpa using (List.getElem?_eq_some_iff.mp h2).1
      rw [List.getElem?_set_self l1] at h2
      cases h2
    rw [List.getElem?_set_ne nj] at h1 h3
    rw [List.getElem?_set_ne nk] at h2 h4
    exact e.dis j k d1 d2 b h1 h2 h3 h4
def wipeR (ρ : Env) : List Nat → Env
  | [] => ρ
  | v :: vs => (wipeR ρ vs).set v .un
theorem EnvR.wipe {K : PySem.W.Frag} {Hf0 H0 Hf H : Hp} {σ : L2.St} {ρ : Env} (e : EnvR K Hf0 H0 Hf H σ ρ) : ∀ vs, EnvR K Hf0 H0 Hf H (L2.wipe σ vs) (wipeR ρ vs)
  | [] => e
  | v :: vs => (EnvR.wipe e vs).un
theorem wipe_get (σ : L2.St) (j : Nat) : ∀ vs, (L2.wipe σ vs)[j]? = if j ∈ vs then (σ[j]?).map (fun _ => none) else σ[j]?
  | [] => by simp [L2.wipe]
  | v :: vs => by
    unfold L2.wipe
    by_cases q : v = j
    · subst q
      rw [List.getElem?_set]
      simp only [if_pos rfl, L2.wipe_length, List.mem_cons_self, if_true]
      by_cases hl : v < σ.length
      · simp [hl, List.getElem?_eq_getElem hl]
      · simp [hl, List.getElem?_eq_none (by omega : σ.length ≤ v)]
    · rw [List.getElem?_set_ne q, wipe_get σ j vs]
      have : (j ∈ v :: vs) ↔ j ∈ vs := by simp [show j ≠ v from fun e => q e.symm]
      simp [this]
theorem wipe_set {σ : L2.St} {i : Nat} {x : Option V} {vs : List Nat} (h : i ∈ vs) : L2.wipe (σ.set i x) vs = L2.wipe σ vs := by
  refine List.ext_getElem? fun j => ?_
  rw [wipe_get, wipe_get]
  by_cases q : i = j
  · subst q
    rw [if_pos h, if_pos h, List.getElem?_set]
    by_cases hl : i < σ.length
    · simp [hl, List.getElem?_eq_getElem hl]
    · simp [hl, List.getElem?_eq_none (by omega : σ.length ≤ i)]
  · rw [List.getElem?_set_ne q]
/-! ### targets -/
inductive Tg where
  | one (i : Nat)
  | many (is : List Nat)
def Tg.ixs : Tg → List Nat
  | .one i => [i]
  | .many is => is
def setMany : List Nat → List D → Env → Env
  | i :: is, d :: ds, ρ => setMany is ds (ρ.set i (.va d))
  | _, _, ρ => ρ
def fTg : Tg → D → Env → R Env
  | .one i, d, ρ => .ok (ρ.set i (.va d))
  | .many is, .tuple ds, ρ => if ds.length = is.length then .ok (setMany is ds ρ) else .bad
  | .many is, .list ds, ρ => if ds.length = is.length then .ok (setMany is ds ρ) else .bad
  | .many _, _, _ => .bad
def tGt (C : Pm) (t : Tg) : TG := fun v σ H Q => ∃ (Hf0 H0 Hf : Hp) (ρ : Env) (d : D), EnvR C.K Hf0 H0 Hf H σ ρ ∧ Rp C.K Hf v d ∧ ∃ ρ', fTg t d ρ = .ok ρ' ∧
  ∀ σ', EnvR C.K Hf0 H0 Hf H σ' ρ' → (∀ vs, (∀ i ∈ t.ixs, i ∈ vs) → L2.wipe σ' vs = L2.wipe σ vs) → Q σ' H
def tGts (C : Pm) (is : List Nat) : TGs := fun xs σ H Q => ∃ (Hf0 H0 Hf : Hp) (ρ : Env) (ds : List D), EnvR C.K Hf0 H0 Hf H σ ρ ∧ RpL C.K Hf xs ds ∧ ds.length = is.length ∧
  ∀ σ', EnvR C.K Hf0 H0 Hf H σ' (setMany is ds ρ) → (∀ vs, (∀ i ∈ is, i ∈ vs) → L2.wipe σ' vs = L2.wipe σ vs) → Q σ' H
/-- a name that may be stored -/
def StoreOk (X : Cx) (i : Nat) (x : Str) : Prop := X.N[i]? = some x ∧ Loc X.env.scope x ∧ (X.fn x = true ∨ X.env.scope.names.lookup x = some .local)
theorem PGs.imp {X : Cx} {es : List Expr} {t u : TGs} (h : PGs X es t) (q : ∀ v σ H Q, u v σ H Q → t v σ H Q) : PGs X es u := ⟨fun pins s σ H v u' Q I r hu => h.run pins s σ H v u' Q I r (q v σ H Q hu)⟩
section
variable {X : Cx} {C : Pm} {pos : Pos}
theorem g_one {i : Nat} {x : Str} (hN : X.N.Nodup) (h : StoreOk X i x) : PG X (.Name x pos) (tGt C (.one i)) :=
  PG.imp (pg_name hN h.1 h.2.1 h.2.2) fun v σ H Q ⟨Hf0, H0, Hf, ρ, d, env, r, ρ', e, q⟩ => by
    cases e
    exact q _ (env.put r) fun vs hv => wipe_set (hv i (by simp [Tg.ixs]))
theorem assignEach_name {x : Str} {es : List Expr} {env : PySem.Env} : (assignEach (.Name x pos :: es) env).map (·.2) = assign (.Name x pos) env :: (assignEach es env).map (·.2) := rfl
theorem g_nil : PGs X [] (tGts C []) := PGs.imp pgs_nil fun v σ H Q ⟨Hf0, H0, Hf, ρ, ds, env, r, hl, q⟩ => by
  cases ds with
  | nil =>
    cases r
    exact ⟨rfl, q σ env fun _ _ => rfl⟩
  | cons _ _ => cases hl
theorem g_cons {i : Nat} {x : Str} {es : List Expr} {is : List Nat} (hN : X.N.Nodup) (h : StoreOk X i x) (hr : PGs X es (tGts C is)) : PGs X (.Name x pos :: es) (tGts C (i :: is)) :=
  PGs.imp (pgs_cons (pg_name hN h.1 h.2.1 h.2.2) hr assignEach_name) fun v σ H Q ⟨Hf0, H0, Hf, ρ, ds, env, r, hl, q⟩ => by
    cases ds with
    | nil => cases hl
    | cons d ds =>
      cases r with
      | cons r1 r2 =>
        refine ⟨_, _, rfl, Hf0, H0, Hf, ρ.set i (.va d), ds, env.put r1, r2, by simpa using hl, fun σ' e' w' => q σ' e' fun vs hv => ?_⟩
        rw [w' vs fun j hj => hv j (List.mem_cons_of_mem _ hj)]
        exact wipe_set (hv i List.mem_cons_self)
/-- names and their places -/
inductive Nms (X : Cx) : List Expr → List Nat → Prop
  | nil : Nms X [] []
  | cons {i : Nat} {x : Str} {pos : Pos} {es : List Expr} {is : List Nat} : StoreOk X i x → Nms X es is → Nms X (.Name x pos :: es) (i :: is)
theorem g_all {es : List Expr} {is : List Nat} (hN : X.N.Nodup) (h : Nms X es is) : PGs X es (tGts C is) := by
  induction h with
  | nil => exact g_nil
  | cons h _ ih => exact g_cons hN h ih
theorem nms_len {es : List Expr} {is : List Nat} (h : Nms X es is) (env : PySem.Env) : (assignEach es env).length = is.length := by
  induction h with
  | nil => rfl
  | cons h _ ih =>
    show (assignEach _ env).length + 1 = _
    rw [ih]
    rfl
theorem nms_star {es : List Expr} {is : List Nat} (h : Nms X es is) (env : PySem.Env) : (assignEach es env).findIdx? (·.1) = none := by
  induction h with
  | nil => rfl
  | @cons i x pos es is h _ ih =>
    have e : assignEach (.Name x pos :: es) env = (false, assign (.Name x pos) env) :: assignEach es env := rfl
    rw [e, List.findIdx?_cons]
    simp [ih]
theorem PG.or {e : Expr} {t u : TG} (h : PG X e t) (h' : PG X e u) : PG X e (fun v σ H Q => t v σ H Q ∨ u v σ H Q) := ⟨fun pins s σ H v u' Q I r hw => hw.elim (h.run pins s σ H v u' Q I r) (h'.run pins s σ H v u' Q I r)⟩
theorem g_many {es : List Expr} {is : List Nat} {k : Nat} (hK : C.K = X.K) (hc : X.calm = true) (hN : X.N.Nodup) (h : Nms X es is) : PG X (.Tuple es k pos) (tGt C (.many is)) :=
  PG.imp (PG.or (pg_tup (n := is.length) hc (g_all (C := C) hN h) (nms_len h _) (nms_star h _)) (pg_lst (n := is.length) hc (g_all (C := C) hN h) (nms_len h _) (nms_star h _))) fun v σ H Q ⟨Hf0, H0, Hf, ρ, d, env, r, ρ', e, q⟩ => by
    unfold fTg at e
    split at e
    · rename_i e1; cases e1
    · rename_i e1
      cases e1
      split at e
      · rename_i hl
        cases e
        cases r with
        | tup h1 h2 h3 => exact .inl ⟨_, _, rfl, SqT.of (env.grow.sub _ _ h1), h3.length.trans hl, Hf0, H0, Hf, _, _, env, h3, hl, q⟩
      · cases e
    · rename_i e1
      cases e1
      split at e
      · rename_i hl
        cases e
        cases r with
        | lst h1 h2 h3 => exact .inr ⟨_, _, rfl, SqL.of (env.grow.sub _ _ h1), h3.length.trans hl, Hf0, H0, Hf, _, _, env, h3, hl, q⟩
      · cases e
    · cases e
end
/-! ### comprehensions -/
def lcLoop (tg : Tg) (ft : Env → R Bool) (fe : Env → R D) (ρ : Env) : List D → R (List D)
  | [] => .ok []
  | d :: ds => fTg tg d ρ >>= fun ρ1 => ft ρ1 >>= fun b => if b then fe ρ1 >>= fun y => lcLoop tg ft fe ρ ds >>= fun ys => .ok (y :: ys) else lcLoop tg ft fe ρ ds
def fLc (fi : Env → R (List D)) (tg : Tg) (ft : Env → R Bool) (fe : Env → R D) (own : List Nat) : Env → R D := fun ρ => fi ρ >>= fun ds => (lcLoop tg ft fe (wipeR ρ own) ds).calm >>= fun ys => .ok (.list ys)
abbrev Pm.calm (C : Pm) : Pm := ⟨C.K, E0, C.cl, false⟩
theorem bind_ok {α β : Type} {r : R α} {k : α → R β} {b : β} (h : (r >>= k) = .ok b) : ∃ a, r = .ok a ∧ k a = .ok b := by
  cases r with
  | ok a => exact ⟨a, rfl, h⟩
  | exc c => cases h
  | bad => cases h
section
variable {X : Cx} {C : Pm}
theorem lc_data {fi : Env → R (List D)} {tg : Tg} {ft : Env → R Bool} {fe : Env → R D} {own : List Nat} (hown : ∀ i ∈ tg.ixs, i ∈ own) {σ : L2.St} {H : Hp} {Q : VK} (h : tF C (fLc fi tg ft fe own) σ H Q) :
    tLc (tI C fi) (tGt C.calm tg) (tT C.calm ft) (tE C.calm fe) own σ H Q := by
  obtain ⟨Hf0, H0, Hf, ρ, env, h⟩ := h
  refine ⟨Hf0, H0, Hf, ρ, env, OutG.bind (show OutG C (RelF C H) Hf H (fLc fi tg ft fe own ρ) Q from h) fun ds J Hf1 H1 _ g1 w h1 => fun Da nD => ?_⟩
  cases e1 : lcLoop tg ft fe (wipeR ρ own) ds with
  | exc c => rw [e1] at h1; exact h1.elim
  | bad => rw [e1] at h1; exact h1.elim
  | ok tot =>
    rw [e1] at h1
    have h1 : OutG C (RelF C H) Hf1 H1 (.ok (.list tot)) Q := h1
    have ew : EnvR C.K Hf0 H0 Hf1 H1 (L2.wipe σ own) (wipeR ρ own) := (env.more g1).wipe own
    have nD0 : H Da = none := Same.free g1.h nD
    have nDf : Hf1 Da = none := Same.free g1.sub nD
    refine ⟨fun i m H2 => m = ds.length - i ∧ i ≤ ds.length ∧ ∃ (Hf2 : Hp) (acc : List V) (accD ys : List D), Grow Hf1 H1 Hf2 H2 ∧ Hf2 Da = none ∧ H2 Da = some (.lst acc) ∧ acc.length ≤ i ∧ RpL C.K Hf2 acc accD ∧ lcLoop tg ft fe (wipeR ρ own) (ds.drop i) = .ok ys ∧ accD ++ ys = tot,
      ⟨ds.length, by simp, Nat.zero_le _, Hf1, [], [], tot, Grow.side g1.sub nD, nDf, upd_same, Nat.le_refl _, .nil, e1, rfl⟩, ?_⟩
    rintro i m H2 ⟨rfl, hi, Hf2, acc, accD, ys, g2, n2, hD, hl, ra, el, et⟩
    have s12 : Same Hf1 H2 := g2.f.trans g2.sub
    by_cases hlt : i < ds.length
    · refine .inr ⟨w.goes i H2 hlt s12, fun H3 => (ds.length - (i + 1) = ds.length - (i + 1)) ∧ i + 1 ≤ ds.length ∧ ∃ (Hf3 : Hp) (acc : List V) (accD ys : List D), Grow Hf1 H1 Hf3 H3 ∧ Hf3 Da = none ∧ H3 Da = some (.lst acc) ∧ acc.length ≤ i + 1 ∧ RpL C.K Hf3 acc accD ∧ lcLoop tg ft fe (wipeR ρ own) (ds.drop (i + 1)) = .ok ys ∧ accD ++ ys = tot,
        fun H3 p => ⟨ds.length - (i + 1), by omega, p⟩, fun x H3 y => ?_⟩
      have hd : ds[i]? = some ds[i] := List.getElem?_eq_getElem hlt
      obtain ⟨Hg, g3, rx⟩ := w.yields i Hf2 H2 H3 x ds[i] hd g2.f g2.sub y
      rw [List.drop_eq_getElem_cons hlt] at el
      unfold lcLoop at el
      obtain ⟨ρ1, b1, el⟩ := bind_ok el
      obtain ⟨b, b2, el⟩ := bind_ok el
      have e3 : EnvR C.K Hf0 H0 Hg H3 (L2.wipe σ own) (wipeR ρ own) := ew.more (g2.trans g3)
      refine ⟨Hf0, H0, Hg, wipeR ρ own, ds[i], e3, rx, ρ1, b1, fun σ2 e4 hw => ⟨?_, Hf0, H0, Hg, ρ1, e4, ?_⟩⟩
      · have z := hw own hown
        rw [z]
        refine List.ext_getElem? fun j => ?_
        rw [wipe_get, wipe_get]
        split
        · cases σ[j]? <;> rfl
        · rfl
      rw [b2]
      intro b' Hf4 H4 g4 eb
      subst eb
      cases b' with
      | true =>
        refine iteT ⟨Hf0, H0, Hf4, ρ1, e4.more g4, ?_⟩
        have el : (fe ρ1 >>= fun y => lcLoop tg ft fe (wipeR ρ own) (ds.drop (i + 1)) >>= fun ys => .ok (y :: ys)) = .ok ys := el
        obtain ⟨yd, b3, el⟩ := bind_ok el
        obtain ⟨zs, b4, el⟩ := bind_ok el
        rw [b3]
        intro yv Hf5 H5 g5 ry
        have gg : Grow Hf2 H2 Hf5 H5 := (g3.trans g4).trans g5
        have n5 : Hf5 Da = none := by
          cases q : Hf5 Da with
          | none => rfl
          | some o =>
            rcases gg.new Da o q with z | z
            · rw [n2] at z; cases z
            · rw [hD] at z; cases z
        have hD5 : H5 Da = some (.lst acc) := gg.h _ _ hD
        refine ⟨acc, hD5, by have := w.len; omega, rfl, hlt, Hf5, acc ++ [yv], accD ++ [yd], zs, ?_, n5, upd_same, by rw [List.length_append]; simp; omega, (ra.mono gg.f).append (.cons ry .nil), b4, ?_⟩
        · have gt := g2.trans gg
          refine ⟨gt.f, fun b o e => ?_, gt.new, fun b o e => ?_⟩
          · rw [upd_ne (ne_of_none e nD)]; exact gt.h _ _ e
          · have : b ≠ Da := fun z => by rw [z, n5] at e; cases e
            rw [upd_ne this]; exact gt.sub _ _ e
        · cases el
          rw [List.append_assoc]
          exact et
      | false =>
        have gg : Grow Hf2 H2 Hf4 H4 := g3.trans g4
        have n4 : Hf4 Da = none := by
          cases q : Hf4 Da with
          | none => rfl
          | some o =>
            rcases gg.new Da o q with z | z
            · rw [n2] at z; cases z
            · rw [hD] at z; cases z
        exact iteF ⟨rfl, hlt, Hf4, acc, accD, ys, g2.trans gg, n4, gg.h _ _ hD, by omega, ra.mono gg.f, el, et⟩
    · have ei : i = ds.length := by omega
      subst ei
      rw [List.drop_length] at el
      cases el
      rw [List.append_nil] at et
      subst et
      exact .inl ⟨w.stops H2 s12, h1 _ Hf2 H2 g2 ⟨Da, rfl, nD0, acc, n2, hD, Nat.le_trans hl w.len, ra⟩⟩
end
end DL
/-! The data layer: statements. -/
namespace DL
open PySem PySem.Spec PyProof.Rows L2
inductive Out where
  | nx (ρ : Env)
  | rt (d : D)
  | bk (ρ : Env)
  | ct (ρ : Env)
/-- what a def gives back: a value, or, where it is said so, a fresh object -/
def RtR (C : Pm) (H0 Hf H : Hp) (v : V) (d : D) : Prop := match C.fr with
  | false => Rp C.K Hf v d
  | true => ∃ a, v = .ref a ∧ H0 a = none ∧ OwnAt C.K Hf H a d
theorem RtR.val {C : Pm} {H0 Hf H : Hp} {v : V} {d : D} (h : C.fr = false) (r : Rp C.K Hf v d) : RtR C H0 Hf H v d := by unfold RtR; rw [h]; exact r
theorem RtR.own {C : Pm} {H0 Hf H : Hp} {a : Addr} {d : D} (h : C.fr = true) (n : H0 a = none) (r : OwnAt C.K Hf H a d) : RtR C H0 Hf H (.ref a) d := by unfold RtR; rw [h]; exact ⟨a, rfl, n, r⟩
def SOut (C : Pm) (Hf0 H0 Hf : Hp) (Dn : Ends) : R Out → Prop
  | .ok (.nx ρ') => ∀ Hf' H' σ', Same Hf Hf' → EnvR C.K Hf0 H0 Hf' H' σ' ρ' → Dn.nx σ' H'
  | .ok (.bk ρ') => ∀ Hf' H' σ', Same Hf Hf' → EnvR C.K Hf0 H0 Hf' H' σ' ρ' → Dn.bk σ' H'
  | .ok (.ct ρ') => ∀ Hf' H' σ', Same Hf Hf' → EnvR C.K Hf0 H0 Hf' H' σ' ρ' → Dn.ct σ' H'
  | .ok (.rt d) => ∀ v Hf' H', Grow Hf0 H0 Hf' H' → RtR C H0 Hf' H' v d → Dn.rt v H'
  | .exc c => ∀ Hf' H', Grow Hf0 H0 Hf' H' → C.E (.ref (C.cl c)) none H'
  | .bad => False
def tS (C : Pm) (F : Env → R Out) : TS := fun Dn σ H => ∃ (Hf0 H0 Hf : Hp) (ρ : Env), EnvR C.K Hf0 H0 Hf H σ ρ ∧ SOut C Hf0 H0 Hf Dn (F ρ)
theorem SOut.mono {C : Pm} {Hf0 H0 Hf Hf1 : Hp} {Dn : Ends} {r : R Out} (h : SOut C Hf0 H0 Hf Dn r) (s : Same Hf Hf1) : SOut C Hf0 H0 Hf1 Dn r := by
  cases r with
  | ok o =>
    cases o with
    | nx ρ => exact fun Hf' H' σ' q e => h Hf' H' σ' (s.trans q) e
    | bk ρ => exact fun Hf' H' σ' q e => h Hf' H' σ' (s.trans q) e
    | ct ρ => exact fun Hf' H' σ' q e => h Hf' H' σ' (s.trans q) e
    | rt d => exact h
  | exc c => exact h
  | bad => exact h
theorem ps_bad {X : Cx} {st : Stmt} {C : Pm} : PS X st (tS C fun _ => .bad) := ⟨fun _ _ _ _ _ _ ⟨_, _, _, _, _, h⟩ => h.elim⟩
theorem pss_bad {X : Cx} {st : List Stmt} {C : Pm} : PSs X st (tS C fun _ => .bad) := ⟨fun _ _ _ _ _ _ ⟨_, _, _, _, _, h⟩ => h.elim⟩
/-- an expression's exception is the statement's -/
theorem SOut.bind {α β : Type} {C : Pm} {Rel : Hp → Hp → β → α → Prop} {Hf0 H0 Hf H : Hp} {σ : L2.St} {ρ : Env} {Dn : Ends} {r : R α} {k : α → R Out} {Q : β → Hp → Prop} (env : EnvR C.K Hf0 H0 Hf H σ ρ) (h : SOut C Hf0 H0 Hf Dn (r >>= k))
    (hk : ∀ a b Hf1 H1, r = .ok a → Grow Hf H Hf1 H1 → Rel Hf1 H1 b a → SOut C Hf0 H0 Hf1 Dn (k a) → Q b H1) : OutG C Rel Hf H r Q := by
  cases r with
  | ok a => exact fun b Hf1 H1 g q => hk a b Hf1 H1 rfl g q (SOut.mono (show SOut C Hf0 H0 Hf Dn (k a) from h) g.f)
  | exc c => exact fun Hf1 H1 g => h Hf1 H1 (env.grow.trans g)
  | bad => exact h.elim
/-! ### giving own objects away -/
def relR1 (i : Nat) (ρ : Env) : Env := match ρ[i]? with
  | some (.ow d) => ρ.set i (.va d)
  | _ => ρ
def relR : List Nat → Env → Env
  | [], ρ => ρ
  | i :: is, ρ => relR is (relR1 i ρ)
theorem EnvR.rel1 {K : PySem.W.Frag} {Hf0 H0 Hf H : Hp} {σ : L2.St} {ρ : Env} (i : Nat) (e : EnvR K Hf0 H0 Hf H σ ρ) (nd : ∀ k, ρ[i]? ≠ some (.ow (.dict k))) : ∃ Hf', Same Hf Hf' ∧ EnvR K Hf0 H0 Hf' H σ (relR1 i ρ) := by
  unfold relR1
  split
  · rename_i d hd
    obtain ⟨v, hv, a, h2, o, n0⟩ := slot_there e hd
    subst h2
    have mk : ∀ u, Hf a = none → H a = some u → Rp K (upd Hf a u) (.ref a) d → ∃ Hf', Same Hf Hf' ∧ EnvR K Hf0 H0 Hf' H σ (ρ.set i (.va d)) := fun u nf ha rp => by
      have sm : Same Hf (upd Hf a u) := same_upd nf
      have gw : Grow Hf0 H0 (upd Hf a u) H := ⟨e.grow.f.trans sm, e.grow.h, fun b x q => by
        by_cases z : b = a
        · subst z; exact .inr n0
        · rw [upd_ne z] at q; exact e.grow.new b x q, fun b x q => by
        by_cases z : b = a
        · subst z; rw [upd_same] at q; cases q; exact ha
        · rw [upd_ne z] at q; exact e.grow.sub b x q⟩
      refine ⟨_, sm, gw, by rw [List.length_set]; exact e.len, fun j s w h1 h2 => ?_, fun j k d1 d2 b h1 h2 h3 h4 => ?_⟩
      · by_cases q : i = j
        · subst q
          have l1 : i < ρ.length := by simpa using (List.getElem?_eq_some_iff.mp h1).1
          rw [List.getElem?_set_self l1] at h1
          cases h1
          rw [hv] at h2
          cases h2
          exact ⟨_, rfl, rp⟩
        · rw [List.getElem?_set_ne q] at h1
          have z := e.slot j s w h1 h2
          cases s with
          | un => trivial
          | va d' => obtain ⟨x, q1, q2⟩ := z; exact ⟨x, q1, q2.mono sm⟩
          | ow d' =>
            obtain ⟨b, q1, q2, q3⟩ := z
            subst q1
            have nb : b ≠ a := fun z => by subst z; exact q (e.dis i j d d' b hd h1 hv h2)
            refine ⟨b, rfl, ?_, q3⟩
            cases d' with
            | list ds => obtain ⟨xs, p1, p2, p3, p4⟩ := q2; exact ⟨xs, by rw [upd_ne nb]; exact p1, p2, p3, p4.mono sm⟩
            | dict ds => obtain ⟨xs, p1, p2, p3, p4⟩ := q2; exact ⟨xs, by rw [upd_ne nb]; exact p1, p2, p3, p4.mono sm⟩
            | _ => exact q2.elim
      · have nj : i ≠ j := fun q => by
          subst q
          have l1 : i < ρ.length := by simpa using (List.getElem?_eq_some_iff.mp h1).1
          rw [List.getElem?_set_self l1] at h1
          cases h1
        have nk : i ≠ k := fun q => by
          subst q
          have l1 : i < ρ.length := by simpa using (List.getElem?_eq_some_iff.mp h2).1
          rw [List.getElem?_set_self l1] at h2
          cases h2
        rw [List.getElem?_set_ne nj] at h1
        rw [List.getElem?_set_ne nk] at h2
        exact e.dis j k d1 d2 b h1 h2 h3 h4
    cases d with
    | list ds =>
      obtain ⟨xs, p1, p2, p3, p4⟩ := o
      exact mk _ p1 p2 (.newL p1 p3 p4)
    | dict ds => exact absurd hd (nd ds)
    | _ => exact o.elim
  · exact ⟨Hf, Same.refl _, e⟩
/-- a dict that is given away is locked -/
theorem EnvR.rel1d {K : PySem.W.Frag} {Hf0 H0 Hf H : Hp} {σ : L2.St} {ρ : Env} {i : Nat} {kds : List (D × D)} (e : EnvR K Hf0 H0 Hf H σ ρ) (hd : ρ[i]? = some (.ow (.dict kds))) : ∃ a kvs, H a = some (.dK kvs) ∧ ∀ od : Obj, ∃ Hf', Same Hf Hf' ∧ EnvR K Hf0 H0 Hf' (upd H a (.frz od (.dK kvs))) σ (relR1 i ρ) := by
  obtain ⟨v, hv, a, h2, o, n0⟩ := slot_there e hd
  subst h2
  obtain ⟨kvs, p1, p2, p3, p4⟩ := o
  refine ⟨a, kvs, p2, fun od => ?_⟩
  have sm : Same Hf (upd Hf a (.frz od (.dK kvs))) := same_upd p1
  have er : relR1 i ρ = ρ.set i (.va (.dict kds)) := by unfold relR1; rw [hd]
  rw [er]
  refine ⟨upd Hf a (.frz od (.dK kvs)), sm, e.grow.lockd n0 p1, by rw [List.length_set]; exact e.len, fun j s w h1 h2 => ?_, fun j k d1 d2 b h1 h2 h3 h4 => ?_⟩
  · by_cases q : i = j
    · subst q
      have l1 : i < ρ.length := by simpa using (List.getElem?_eq_some_iff.mp h1).1
      rw [List.getElem?_set_self l1] at h1
      cases h1
      rw [hv] at h2
      cases h2
      exact ⟨_, rfl, .dic upd_same p3 (p4.mono sm)⟩
    · rw [List.getElem?_set_ne q] at h1
      have z := e.slot j s w h1 h2
      cases s with
      | un => trivial
      | va d' => obtain ⟨x, q1, q2⟩ := z; exact ⟨x, q1, q2.mono sm⟩
      | ow d' =>
        obtain ⟨b, q1, q2, q3⟩ := z
        subst q1
        have nb : b ≠ a := fun z => by subst z; exact q (e.dis i j (.dict kds) d' b hd h1 hv h2)
        refine ⟨b, rfl, ?_, q3⟩
        cases d' with
        | list ds => obtain ⟨xs, y1, y2, y3, y4⟩ := q2; exact ⟨xs, by rw [upd_ne nb]; exact y1, by rw [upd_ne nb]; exact y2, y3, y4.mono sm⟩
        | dict ds => obtain ⟨xs, y1, y2, y3, y4⟩ := q2; exact ⟨xs, by rw [upd_ne nb]; exact y1, by rw [upd_ne nb]; exact y2, y3, y4.mono sm⟩
        | _ => exact q2.elim
  · have nj : i ≠ j := fun q => by
      subst q
      have l1 : i < ρ.length := by simpa using (List.getElem?_eq_some_iff.mp h1).1
      rw [List.getElem?_set_self l1] at h1
      cases h1
    have nk : i ≠ k := fun q => by
      subst q
      have l1 : i < ρ.length := by simpa using (List.getElem?_eq_some_iff.mp h2).1
      rw [List.getElem?_set_self l1] at h2
      cases h2
    rw [List.getElem?_set_ne nj] at h1
    rw [List.getElem?_set_ne nk] at h2
    exact e.dis j k d1 d2 b h1 h2 h3 h4
section
variable {X : Cx} {C : Pm} {pos : Pos} {st : Stmt} {sts : List Stmt} {F G : Env → R Out} {e : Expr} {fe : Env → R D}
theorem s_rel1 (i : Nat) (h : PS X st (tS C F)) : PS X st (tS C fun ρ => F (relR1 i ρ)) := by
  refine ⟨fun pins s σ H D I hq => ?_⟩
  obtain ⟨Hf0, H0, Hf, ρ, env, q⟩ := hq
  by_cases hd : ∃ k, ρ[i]? = some (.ow (.dict k))
  · obtain ⟨k, hd⟩ := hd
    obtain ⟨a, kvs, ha, hh⟩ := env.rel1d hd
    obtain ⟨od, I2⟩ := I.lock ha trivial
    obtain ⟨Hf', s1, e1⟩ := hh od
    exact h.run pins s σ _ D I2 ⟨Hf0, H0, Hf', _, e1, q.mono s1⟩
  · obtain ⟨Hf', s1, e1⟩ := env.rel1 i fun k z => hd ⟨k, z⟩
    exact h.run pins s σ H D I ⟨Hf0, H0, Hf', _, e1, q.mono s1⟩
theorem s_rel : ∀ (is : List Nat) {F : Env → R Out}, PS X st (tS C F) → PS X st (tS C fun ρ => F (relR is ρ))
  | [], _, h => h
  | i :: is, F, h => s_rel1 i (F := fun ρ => F (relR is ρ)) (s_rel is h)
/-! ### blocks -/
def fSeq (F G : Env → R Out) : Env → R Out := fun ρ => F ρ >>= fun o => match o with
  | .nx ρ' => G ρ'
  | o => .ok o
theorem s_nil : PSs X [] (tS C fun ρ => .ok (.nx ρ)) := PSs.imp pss_nil fun Dn σ H ⟨Hf0, H0, Hf, ρ, env, h⟩ => h Hf H σ (Same.refl _) env
theorem s_cons (h1 : PS X st (tS C F)) (h2 : PSs X sts (tS C G)) : PSs X (st :: sts) (tS C (fSeq F G)) := PSs.imp (pss_cons h1 h2) fun Dn σ H ⟨Hf0, H0, Hf, ρ, env, h⟩ => ⟨Hf0, H0, Hf, ρ, env, by
  have h : SOut C Hf0 H0 Hf Dn (F ρ >>= fun o => match o with | .nx ρ' => G ρ' | o => .ok o) := h
  cases e1 : F ρ with
  | bad => rw [e1] at h; exact h.elim
  | exc c => rw [e1] at h; exact h
  | ok o =>
    rw [e1] at h
    cases o with
    | nx ρ' => exact fun Hf' H' σ' s1 env' => ⟨Hf0, H0, Hf', ρ', env', SOut.mono (show SOut C Hf0 H0 Hf Dn (G ρ') from h) s1⟩
    | rt d => exact h
    | bk ρ' => exact h
    | ct ρ' => exact h⟩
theorem s_pass : PS X (.Pass pos) (tS C fun ρ => .ok (.nx ρ)) := PS.imp ps_pass fun Dn σ H ⟨Hf0, H0, Hf, ρ, env, h⟩ => h Hf H σ (Same.refl _) env
theorem s_break : PS X (.Break pos) (tS C fun ρ => .ok (.bk ρ)) := PS.imp ps_break fun Dn σ H ⟨Hf0, H0, Hf, ρ, env, h⟩ => h Hf H σ (Same.refl _) env
theorem s_continue : PS X (.Continue pos) (tS C fun ρ => .ok (.ct ρ)) := PS.imp ps_continue fun Dn σ H ⟨Hf0, H0, Hf, ρ, env, h⟩ => h Hf H σ (Same.refl _) env
def isComp : Expr → Bool
  | .ListComp .. => true
  | .SetComp .. => true
  | .DictComp .. => true
  | _ => false
theorem sw_false {t : Option Expr} {l : Nat} {env : PySem.Env} (h : isComp e = false) : swapsWith e t l env = pure false := by
  cases e <;> first | rfl | simp [isComp] at h
theorem s_expr (he : PE X e (tE C fe)) (hs : isComp e = false) : PS X (.Expr e pos) (tS C fun ρ => fe ρ >>= fun _ => .ok (.nx ρ)) := PS.imp (ps_expr he (sw_false hs)) fun Dn σ H ⟨Hf0, H0, Hf, ρ, env, h⟩ => ⟨Hf0, H0, Hf, ρ, env,
  SOut.bind env h fun d v Hf1 H1 _ g r h1 => h1 Hf1 H1 σ (Same.refl _) (env.more g)⟩
theorem s_ret (hfr : C.fr = false) (he : PE X e (tE C fe)) : PS X (.Return (some e) pos) (tS C fun ρ => fe ρ >>= fun d => .ok (.rt d)) := PS.imp (ps_ret he) fun Dn σ H ⟨Hf0, H0, Hf, ρ, env, h⟩ => ⟨Hf0, H0, Hf, ρ, env,
  SOut.bind env h fun d v Hf1 H1 _ g r h1 => h1 v Hf1 H1 (env.grow.trans g) (.val hfr r)⟩
theorem s_retF (hfr : C.fr = true) (he : PE X e (tF C fe)) : PS X (.Return (some e) pos) (tS C fun ρ => fe ρ >>= fun d => .ok (.rt d)) := PS.imp (ps_ret he) fun Dn σ H ⟨Hf0, H0, Hf, ρ, env, h⟩ => ⟨Hf0, H0, Hf, ρ, env,
  SOut.bind (Rel := RelF C H) env h fun d v Hf1 H1 _ g r h1 => by
    obtain ⟨a, rfl, na, o⟩ := r
    exact h1 _ Hf1 H1 (env.grow.trans g) (.own hfr (Same.free env.grow.h na) o)⟩
def fRetO (i : Nat) : Env → R Out := fun ρ => match ρ[i]? with
  | some (.ow d) => .ok (.rt d)
  | _ => .bad
theorem s_retO {i : Nat} {x : Str} {p : Pos} (hfr : C.fr = true) (hN : X.N[i]? = some x) (hv : Vis X.env.scope x) (hd : (x == ("__debug__" : Str)) = false) (hcd : (x == ("__classdict__" : Str)) = false) : PS X (.Return (some (.Name x p)) pos) (tS C (fRetO i)) :=
  PS.imp (ps_ret (pe_var hN hv hd hcd)) fun Dn σ H ⟨Hf0, H0, Hf, ρ, env, h⟩ => by
    unfold fRetO at h
    split at h
    · rename_i d hi
      obtain ⟨v0, hσ, a, h2, o, n0⟩ := slot_there env hi
      subst h2
      exact ⟨_, hσ, h _ Hf H env.grow (.own hfr n0 o)⟩
    · exact h.elim
theorem s_retN (hfr : C.fr = false) : PS X (.Return none pos) (tS C fun _ => .ok (.rt .none)) := PS.imp ps_retN fun Dn σ H ⟨Hf0, H0, Hf, ρ, env, h⟩ => h _ Hf H env.grow (.val hfr .non)
def fIfS (t : Env → R Bool) (F G : Env → R Out) : Env → R Out := fun ρ => t ρ >>= fun b => if b then F ρ else G ρ
theorem s_if {c : Expr} {a b : List Stmt} {t : Env → R Bool} (hc : PT X c (tT C t)) (ha : PSs X a (tS C F)) (hb : PSs X b (tS C G)) : PS X (.If c a b pos) (tS C (fIfS t F G)) := PS.imp (ps_if hc ha hb) fun Dn σ H ⟨Hf0, H0, Hf, ρ, env, h⟩ => ⟨Hf0, H0, Hf, ρ, env,
  SOut.bind env (show SOut C Hf0 H0 Hf Dn (fIfS t F G ρ) from h) fun b b' Hf1 H1 _ g r h1 => by
    subst r
    cases b' with
    | true => exact iteT ⟨Hf0, H0, Hf1, ρ, env.more g, h1⟩
    | false => exact iteF ⟨Hf0, H0, Hf1, ρ, env.more g, h1⟩⟩
/-! ### x = e -/
theorem s_set {i : Nat} {x : Str} {pos' : Pos} (hN : X.N.Nodup) (hi : StoreOk X i x) (he : PE X e (tE C fe)) (hs : isComp e = false) : PS X (.Assign [.Name x pos'] e pos) (tS C fun ρ => fe ρ >>= fun d => .ok (.nx (ρ.set i (.va d)))) :=
  PS.imp (ps_set hN hi.1 hi.2.1 he (sw_false hs) hi.2.2) fun Dn σ H ⟨Hf0, H0, Hf, ρ, env, h⟩ => ⟨Hf0, H0, Hf, ρ, env, SOut.bind env h fun d v Hf1 H1 _ g r h1 => h1 Hf1 H1 _ (Same.refl _) ((env.more g).put r)⟩
theorem setF_in {i : Nat} {te : TE} {Dn : Ends} {σ : L2.St} {H : Hp} (ht : ∀ Q, tF C fe σ H Q → te σ H Q) (h : tS C (fun ρ => fe ρ >>= fun d => .ok (.nx (ρ.set i (.ow d)))) Dn σ H) : tAsg te (gName i) Dn σ H := by
  obtain ⟨Hf0, H0, Hf, ρ, env, h⟩ := h
  refine ht _ ⟨Hf0, H0, Hf, ρ, env, SOut.bind env h fun d v Hf1 H1 _ g r h1 => ?_⟩
  obtain ⟨a, rfl, na, o⟩ := r
  exact h1 Hf1 H1 _ (Same.refl _) ((env.more g).putOwn o (Same.free env.grow.h na) (env.notOwn na))
theorem s_setF {i : Nat} {x : Str} {pos' : Pos} (hN : X.N.Nodup) (hi : StoreOk X i x) (he : PE X e (tF C fe)) (hs : isComp e = false) : PS X (.Assign [.Name x pos'] e pos) (tS C fun ρ => fe ρ >>= fun d => .ok (.nx (ρ.set i (.ow d)))) :=
  PS.imp (ps_set hN hi.1 hi.2.1 he (sw_false hs) hi.2.2) fun Dn σ H h => setF_in (fun _ q => q) h
/-! ### target = value -/
def fSetT (tg : Tg) (fe : Env → R D) : Env → R Out := fun ρ => fe ρ >>= fun d => fTg tg d ρ >>= fun ρ' => .ok (.nx ρ')
theorem s_setT {tg : Expr} {t : Tg} (he : PE X e (tE C fe)) (hg : PG X tg (tGt C t)) (hs : swapsWithSole [tg] e pos.line X.env = pure false) (hw : swappedStores [tg] e X.env = pure none) (h1 : (assignEach [tg] X.env).map (·.2) = [assign tg X.env]) :
    PS X (.Assign [tg] e pos) (tS C (fSetT t fe)) :=
  PS.imp (ps_asg he hg hs hw h1) fun Dn σ H ⟨Hf0, H0, Hf, ρ, env, h⟩ => ⟨Hf0, H0, Hf, ρ, env, SOut.bind env (show SOut C Hf0 H0 Hf Dn (fSetT t fe ρ) from h) fun d v Hf1 H1 _ g r h1 => by
    cases e1 : fTg t d ρ with
    | bad => rw [e1] at h1; exact h1.elim
    | exc c =>
      exfalso
      unfold fTg at e1
      split at e1
      · cases e1
      · split at e1 <;> cases e1
      · split at e1 <;> cases e1
      · cases e1
    | ok ρ' =>
      rw [e1] at h1
      exact ⟨Hf0, H0, Hf1, ρ, d, env.more g, r, ρ', e1, fun σ' e' _ => h1 Hf1 H1 σ' (Same.refl _) e'⟩⟩
/-! ### for, while -/
def forLoop (tg : Tg) (fb : Env → R Out) : List D → Env → R Out
  | [], ρ => .ok (.nx ρ)
  | d :: ds, ρ => fTg tg d ρ >>= fun ρ1 => fb ρ1 >>= fun o => match o with
    | .nx ρ' => forLoop tg fb ds ρ'
    | .ct ρ' => forLoop tg fb ds ρ'
    | .bk ρ' => .ok (.nx ρ')
    | .rt v => .ok (.rt v)
def fFor (fi : Env → R (List D)) (tg : Tg) (fb : Env → R Out) : Env → R Out := fun ρ => fi ρ >>= fun ds => forLoop tg fb ds ρ
theorem s_for {tgE iter : Expr} {t : Tg} {fi : Env → R (List D)} {body : List Stmt} (hp : PassesOwn (model X.prog X.w) X.A X.env X.xe) (hc : X.calm = true) (hi : PI X tgE iter (tI C fi)) (hg : PG X tgE (tGt C t)) (hb : PSs X body (tS C F))
    (hs : ∀ x, foldedSetIterable iter X.env x = pure x) : PS X (.For tgE iter body [] pos) (tS C (fFor fi t F)) :=
  PS.imp (ps_for hp hc hi hg hb hs) fun Dn σ H ⟨Hf0, H0, Hf, ρ, env, h⟩ => ⟨Hf0, H0, Hf, ρ, env, SOut.bind env (show SOut C Hf0 H0 Hf Dn (fFor fi t F ρ) from h) fun ds J Hf1 H1 _ g1 w h1 => by
    refine ⟨fun i m σ2 H2 => m = ds.length - i ∧ i ≤ ds.length ∧ ∃ (Hf2 : Hp) (ρ2 : Env), Same Hf1 Hf2 ∧ EnvR C.K Hf0 H0 Hf2 H2 σ2 ρ2 ∧ SOut C Hf0 H0 Hf2 Dn (forLoop t F (ds.drop i) ρ2), ⟨ds.length, by simp, Nat.zero_le _, Hf1, ρ, Same.refl _, env.more g1, h1⟩, ?_⟩
    rintro i m σ2 H2 ⟨rfl, hi, Hf2, ρ2, s2, e2, h2⟩
    by_cases hlt : i < ds.length
    · refine .inr ⟨w.goes i H2 hlt (s2.trans e2.grow.sub), fun σ3 H3 => i + 1 ≤ ds.length ∧ ∃ (Hf3 : Hp) (ρ3 : Env), Same Hf1 Hf3 ∧ EnvR C.K Hf0 H0 Hf3 H3 σ3 ρ3 ∧ SOut C Hf0 H0 Hf3 Dn (forLoop t F (ds.drop (i + 1)) ρ3), fun σ3 H3 p => ⟨ds.length - (i + 1), by omega, rfl, p⟩, fun x H3 y => ?_⟩
      obtain ⟨Hg, g3, rx⟩ := w.yields i Hf2 H2 H3 x ds[i] (List.getElem?_eq_getElem hlt) s2 e2.grow.sub y
      rw [List.drop_eq_getElem_cons hlt] at h2
      unfold forLoop at h2
      cases e1 : fTg t ds[i] ρ2 with
      | bad => rw [e1] at h2; exact h2.elim
      | exc c =>
        exfalso
        unfold fTg at e1
        split at e1
        · cases e1
        · split at e1 <;> cases e1
        · split at e1 <;> cases e1
        · cases e1
      | ok ρ1 =>
        rw [e1] at h2
        have h2 : SOut C Hf0 H0 Hf2 Dn (F ρ1 >>= fun o => match o with | .nx ρ' => forLoop t F (ds.drop (i + 1)) ρ' | .ct ρ' => forLoop t F (ds.drop (i + 1)) ρ' | .bk ρ' => .ok (.nx ρ') | .rt v => .ok (.rt v)) := h2
        refine ⟨Hf0, H0, Hg, ρ2, ds[i], e2.more g3, rx, ρ1, e1, fun σ3 e3 _ => ⟨Hf0, H0, Hg, ρ1, e3, ?_⟩⟩
        have sg : Same Hf1 Hg := s2.trans g3.f
        cases eo : F ρ1 with
        | bad => rw [eo] at h2; exact h2.elim
        | exc c => rw [eo] at h2; exact h2
        | ok o =>
          rw [eo] at h2
          cases o with
          | nx ρ' => exact fun Hf' H' σ' s' e' => ⟨hlt, Hf', ρ', sg.trans s', e', SOut.mono (show SOut C Hf0 H0 Hf2 Dn (forLoop t F (ds.drop (i + 1)) ρ') from h2) (g3.f.trans s')⟩
          | ct ρ' => exact fun Hf' H' σ' s' e' => ⟨hlt, Hf', ρ', sg.trans s', e', SOut.mono (show SOut C Hf0 H0 Hf2 Dn (forLoop t F (ds.drop (i + 1)) ρ') from h2) (g3.f.trans s')⟩
          | bk ρ' => exact fun Hf' H' σ' s' e' => h2 Hf' H' σ' (g3.f.trans s') e'
          | rt v => exact h2
    · have ei : i = ds.length := by omega
      subst ei
      rw [List.drop_length] at h2
      exact .inl ⟨w.stops H2 (s2.trans e2.grow.sub), h2 Hf2 H2 σ2 (Same.refl _) e2⟩⟩
def whLoop (ft : Env → R Bool) (fb : Env → R Out) : Nat → Env → R Out
  | 0, _ => .bad
  | n + 1, ρ => ft ρ >>= fun b => if b then fb ρ >>= fun o => match o with
      | .nx ρ' => whLoop ft fb n ρ'
      | .ct ρ' => whLoop ft fb n ρ'
      | .bk ρ' => .ok (.nx ρ')
      | .rt v => .ok (.rt v)
    else .ok (.nx ρ)
theorem s_while {c : Expr} {t : Env → R Bool} {body : List Stmt} (n : Nat) (hp : PassesOwn (model X.prog X.w) X.A X.env X.xe) (hc : PT X c (tT C t)) (hb : PSs X body (tS C F)) : PS X (.While c body [] pos) (tS C (whLoop t F n)) :=
  PS.imp (ps_while hp hc hb) fun Dn σ H ⟨Hf0, H0, Hf, ρ, env, h⟩ => by
    refine ⟨fun m σ2 H2 => ∃ (Hf2 : Hp) (ρ2 : Env), EnvR C.K Hf0 H0 Hf2 H2 σ2 ρ2 ∧ SOut C Hf0 H0 Hf2 Dn (whLoop t F m ρ2), ⟨n, Hf, ρ, env, h⟩, ?_⟩
    rintro m σ2 H2 ⟨Hf2, ρ2, e2, h2⟩
    cases m with
    | zero => exact h2.elim
    | succ m =>
      unfold whLoop at h2
      refine ⟨Hf0, H0, Hf2, ρ2, e2, SOut.bind e2 h2 fun b b' Hf3 H3 _ g3 r3 h3 => ?_⟩
      subst r3
      cases b' with
      | false => exact iteF (h3 Hf3 H3 σ2 (Same.refl _) (e2.more g3))
      | true =>
        have h3 : SOut C Hf0 H0 Hf3 Dn (F ρ2 >>= fun o => match o with | .nx ρ' => whLoop t F m ρ' | .ct ρ' => whLoop t F m ρ' | .bk ρ' => .ok (.nx ρ') | .rt v => .ok (.rt v)) := h3
        refine iteT ⟨fun σ4 H4 => ∃ (Hf4 : Hp) (ρ4 : Env), EnvR C.K Hf0 H0 Hf4 H4 σ4 ρ4 ∧ SOut C Hf0 H0 Hf4 Dn (whLoop t F m ρ4), fun σ4 H4 p => ⟨m, by omega, p⟩, Hf0, H0, Hf3, ρ2, e2.more g3, ?_⟩
        cases eo : F ρ2 with
        | bad => rw [eo] at h3; exact h3.elim
        | exc c => rw [eo] at h3; exact h3
        | ok o =>
          rw [eo] at h3
          cases o with
          | nx ρ' => exact fun Hf' H' σ' s' e' => ⟨Hf', ρ', e', SOut.mono (show SOut C Hf0 H0 Hf3 Dn (whLoop t F m ρ') from h3) s'⟩
          | ct ρ' => exact fun Hf' H' σ' s' e' => ⟨Hf', ρ', e', SOut.mono (show SOut C Hf0 H0 Hf3 Dn (whLoop t F m ρ') from h3) s'⟩
          | bk ρ' => exact fun Hf' H' σ' s' e' => h3 Hf' H' σ' s' e'
          | rt v => exact h3
end
end DL
/-! The data layer: methods of own lists, several targets, raise, a list comprehension's list. -/
namespace DL
open PySem PySem.Spec PyProof.Rows L2
/-! ### an own object changed -/
theorem EnvR.turn {K : PySem.W.Frag} {Hf0 H0 Hf H : Hp} {σ : L2.St} {ρ : Env} {i : Nat} {d d' : D} {a : Addr} {o : HO} (e : EnvR K Hf0 H0 Hf H σ ρ) (hi : ρ[i]? = some (.ow d)) (ha : σ[i]? = some (some (.ref a))) (n0 : H0 a = none) (nf : Hf a = none)
    (ow : OwnAt K Hf (upd H a o) a d') : EnvR K Hf0 H0 Hf (upd H a o) σ (ρ.set i (.ow d')) := by
  refine ⟨⟨e.grow.f, fun b x q => ?_, e.grow.new, fun b x q => ?_⟩, by rw [List.length_set]; exact e.len, fun j s w h1 h2 => ?_, fun j k d1 d2 b h1 h2 h3 h4 => ?_⟩
  · rw [upd_ne (ne_of_none q n0)]; exact e.grow.h _ _ q
  · have : b ≠ a := fun z => by rw [z, nf] at q; cases q
    rw [upd_ne this]; exact e.grow.sub _ _ q
  · by_cases q : i = j
    · subst q
      have l1 : i < ρ.length := by simpa using (List.getElem?_eq_some_iff.mp h1).1
      rw [List.getElem?_set_self l1] at h1
      cases h1
      rw [ha] at h2
      cases h2
      exact ⟨a, rfl, ow, n0⟩
    · rw [List.getElem?_set_ne q] at h1
      have z := e.slot j s w h1 h2
      cases s with
      | un => trivial
      | va d' => exact z
      | ow d2 =>
        obtain ⟨b, q1, q2, q3⟩ := z
        subst q1
        have nb : b ≠ a := fun z => by subst z; exact q (e.dis i j d d2 b hi h1 ha h2)
        refine ⟨b, rfl, ?_, q3⟩
        cases d2 with
        | list ds => obtain ⟨xs, p1, p2, p3, p4⟩ := q2; exact ⟨xs, p1, by rw [upd_ne nb]; exact p2, p3, p4⟩
        | dict ds => obtain ⟨xs, p1, p2, p3, p4⟩ := q2; exact ⟨xs, p1, by rw [upd_ne nb]; exact p2, p3, p4⟩
        | _ => exact q2.elim
  · have keep : ∀ (j : Nat) (d1 : D), (ρ.set i (DL.Slot.ow d'))[j]? = some (DL.Slot.ow d1) → ∃ d3 : D, ρ[j]? = some (DL.Slot.ow d3) := fun j d1 h => by
      by_cases q : i = j
      · subst q; exact ⟨d, hi⟩
      · rw [List.getElem?_set_ne q] at h; exact ⟨d1, h⟩
    obtain ⟨d3, q1⟩ := keep j d1 h1
    obtain ⟨d4, q2⟩ := keep k d2 h2
    exact e.dis j k d3 d4 b q1 q2 h3 h4
section
variable {X : Cx} {C : Pm} {pos p1 apos cpos : Pos} {e : Expr} {fe : Env → R D} {i : Nat} {x : Str}
theorem few_one (hs : isStar e = false) : ((backTo cpos (starEach [e] X.env)).all (fun x => !x.1) && (backToKw cpos (keywordEach [] X.env)).all (fun x => x.1.isSome)
      && decide (([e] : List Expr).length + ([] : List Keyword).length + (if ([] : List Keyword).isEmpty then 0 else 1) < 30)) = true := by
  rw [star_cons hs]
  rfl
/-- x.append(e) -/
def fApp (i : Nat) (fe : Env → R D) : Env → R Out := fun ρ => match ρ[i]? with
  | some (.ow (.list ds)) => fe ρ >>= fun d => if ds.length < 1000000 then .ok (.nx (ρ.set i (.ow (.list (ds ++ [d]))))) else .bad
  | _ => .bad
theorem s_app (hN : X.N[i]? = some x) (hv : Vis X.env.scope x) (hd : (x == ("__debug__" : Str)) = false) (hcd : (x == ("__classdict__" : Str)) = false) (he : PE X e (tE C fe)) (hs : isStar e = false) (hl : (apos.endLine == cpos.line) = true) :
    PS X (.Expr (.Call (.Attribute (.Name x p1) "append" apos) [e] [] cpos) pos) (tS C (fApp i fe)) := by
  have hp : PE X (.Call (.Attribute (.Name x p1) "append" apos) [e] [] cpos) (tBM X.K "list" rAppend (tVar i) (tCons (tE C fe) tNil)) :=
    pe_bm PySem.F.plainAttrs_list PySem.F.slot_list_append PySem.F.type_list_append mt_append (pe_var hN hv hd hcd) (pa_cons he pa_nil (star_cons hs)) rfl (few_one hs) hl (star_cons hs) rfl
  refine PS.imp (ps_expr hp rfl) fun Dn σ H ⟨Hf0, H0, Hf, ρ, env, h⟩ => ?_
  unfold fApp at h
  split at h
  · rename_i ds hi
    obtain ⟨v, hσ, a, h2, ⟨xs, p1, p2, p3, p4⟩, n0⟩ := slot_there env hi
    subst h2
    refine ⟨.ref a, hσ, .inl ⟨rfl, xs, SqL.of p2⟩, Hf0, H0, Hf, ρ, env, SOut.bind env h fun d y Hf1 H1 _ g r h1 => ?_⟩
    split at h1
    · rename_i hlen
      have e1 := env.more g
      obtain ⟨v', hσ', a', h2', ⟨ys, q1, q2, q3, q4⟩, _⟩ := slot_there e1 hi
      rw [hσ] at hσ'
      cases hσ'
      cases h2'
      have q5 : H1 a = some (.lst xs) := g.h _ _ p2
      rw [q5] at q2
      cases q2
      have hl2 := q4.length
      refine ⟨a, xs, y, rfl, rfl, q5, by rw [sizeLine_eq]; omega, h1 Hf1 _ σ (Same.refl _) (e1.turn hi hσ n0 q1 ⟨_, q1, upd_same, ?_, q4.append (.cons r .nil)⟩)⟩
      rw [List.length_append, sizeLine_eq]
      simp
      omega
    · exact h1.elim
  · exact h.elim
/-- x.extend(e) -/
def fExt (i : Nat) (fe : Env → R D) : Env → R Out := fun ρ => match ρ[i]? with
  | some (.ow (.list ds)) => fe ρ >>= fun d => match d with
    | .list es => if ds.length + es.length < 1000000 then .ok (.nx (ρ.set i (.ow (.list (ds ++ es))))) else .bad
    | _ => .bad
  | _ => .bad
theorem s_ext (hN : X.N[i]? = some x) (hv : Vis X.env.scope x) (hd : (x == ("__debug__" : Str)) = false) (hcd : (x == ("__classdict__" : Str)) = false) (he : PE X e (tE C fe)) (hs : isStar e = false) (hl : (apos.endLine == cpos.line) = true) :
    PS X (.Expr (.Call (.Attribute (.Name x p1) "extend" apos) [e] [] cpos) pos) (tS C (fExt i fe)) := by
  have hp : PE X (.Call (.Attribute (.Name x p1) "extend" apos) [e] [] cpos) (tBM X.K "list" rExtend (tVar i) (tCons (tE C fe) tNil)) :=
    pe_bm PySem.F.plainAttrs_list PySem.F.slot_list_extend PySem.F.type_list_extend mt_extend (pe_var hN hv hd hcd) (pa_cons he pa_nil (star_cons hs)) rfl (few_one hs) hl (star_cons hs) rfl
  refine PS.imp (ps_expr hp rfl) fun Dn σ H ⟨Hf0, H0, Hf, ρ, env, h⟩ => ?_
  unfold fExt at h
  split at h
  · rename_i ds hi
    obtain ⟨v, hσ, a, h2, ⟨xs, p1, p2, p3, p4⟩, n0⟩ := slot_there env hi
    subst h2
    refine ⟨.ref a, hσ, .inl ⟨rfl, xs, SqL.of p2⟩, Hf0, H0, Hf, ρ, env, SOut.bind env h fun d y Hf1 H1 _ g r h1 => ?_⟩
    split at h1
    · split at h1
      · rename_i es hlen
        cases r with
        | @lst b zs _ b1 b2 b3 =>
          have e1 := env.more g
          obtain ⟨v', hσ', a', h2', ⟨ys, q1, q2, q3, q4⟩, _⟩ := slot_there e1 hi
          rw [hσ] at hσ'
          cases hσ'
          cases h2'
          have q5 : H1 a = some (.lst xs) := g.h _ _ p2
          rw [q5] at q2
          cases q2
          have hl2 := q4.length
          have hl3 := b3.length
          refine ⟨a, b, xs, zs, rfl, rfl, q5, g.sub _ _ b1, by rw [sizeLine_eq]; omega, h1 Hf1 _ σ (Same.refl _) (e1.turn hi hσ n0 q1 ⟨_, q1, upd_same, ?_, q4.append b3⟩)⟩
          rw [List.length_append, sizeLine_eq]
          omega
      · exact h1.elim
    · exact h1.elim
  · exact h.elim
/-! ### raise X("..") -/
structure ExcOk (X : Cx) (cl : Str → Addr) (x : Str) : Prop where
  q : PySem.W.excIn X.K (cl x) [.type "ValueError", .type "Exception", .type "BaseException", .type "object"] "ValueError.__new__" = true
  g : X.mg x = some (.ref (cl x))
  k : PySem.W.keepIn X.K (.ref (cl x)) = true
  r : Raises X (.ref (cl x))
theorem s_raise {m : Str} {j : Nat} {p p2 : Pos} (hc : X.calm = true) (tk : Takes X fun cls d _ H => C.E cls d H) (ok : ExcOk X C.cl x) (hg : Gl X x) (hdb : (x == ("__debug__" : Str)) = false) :
    PS X (.Raise (some (.Call (.Name x p) [.Constant (.str m) j p2] [] cpos)) none pos) (tS C fun _ => .exc x) :=
  PS.imp (ps_raise hc tk (pmk_own PySem.F.excBase_ValueError ok.q ok.g ok.k ok.r hg hdb)) fun Dn σ H ⟨Hf0, H0, Hf, ρ, env, h⟩ => h Hf H env.grow
/-! ### several fresh and other values -/
def owns : List Bool → List V → List Addr
  | true :: fl, .ref a :: vs => a :: owns fl vs
  | true :: fl, _ :: vs => owns fl vs
  | false :: fl, _ :: vs => owns fl vs
  | _, _ => []
inductive Mix (K : PySem.W.Frag) (Hp0 Hf H : Hp) : List Bool → List V → List D → Prop
  | nil : Mix K Hp0 Hf H [] [] []
  | va {v : V} {d : D} {fl : List Bool} {vs : List V} {ds : List D} : Rp K Hf v d → Mix K Hp0 Hf H fl vs ds → Mix K Hp0 Hf H (false :: fl) (v :: vs) (d :: ds)
  | ow {a : Addr} {d : D} {fl : List Bool} {vs : List V} {ds : List D} : Hp0 a = none → OwnAt K Hf H a d → a ∉ owns fl vs → Mix K Hp0 Hf H fl vs ds → Mix K Hp0 Hf H (true :: fl) (.ref a :: vs) (d :: ds)
theorem Mix.free {K : PySem.W.Frag} {Hp0 Hf H : Hp} {fl : List Bool} {vs : List V} {ds : List D} (m : Mix K Hp0 Hf H fl vs ds) : ∀ b ∈ owns fl vs, Hp0 b = none := by
  induction m with
  | nil => intro b hb; simp [owns] at hb
  | va _ _ ih => intro b hb; simp only [owns] at hb; exact ih b hb
  | ow h _ _ _ ih =>
    intro b hb
    simp only [owns, List.mem_cons] at hb
    rcases hb with z | z
    · subst z; exact h
    · exact ih b z
theorem Mix.back {K : PySem.W.Frag} {Hp0 Hp1 Hf H : Hp} {fl : List Bool} {vs : List V} {ds : List D} (s : Same Hp0 Hp1) (m : Mix K Hp1 Hf H fl vs ds) : Mix K Hp0 Hf H fl vs ds := by
  induction m with
  | nil => exact .nil
  | va h _ ih => exact .va h ih
  | ow h o n _ ih => exact .ow (Same.free s h) o n ih
theorem Mix.grow {K : PySem.W.Frag} {Hp0 Hf H Hf' H' : Hp} {fl : List Bool} {vs : List V} {ds : List D} (g : Grow Hf H Hf' H') (m : Mix K Hp0 Hf H fl vs ds) : Mix K Hp0 Hf' H' fl vs ds := by
  induction m with
  | nil => exact .nil
  | va h _ ih => exact .va (h.mono g.f) ih
  | ow h o n _ ih => exact .ow h (o.grow g) n ih
theorem Mix.len {K : PySem.W.Frag} {Hp0 Hf H : Hp} {fl : List Bool} {vs : List V} {ds : List D} (m : Mix K Hp0 Hf H fl vs ds) : vs.length = fl.length ∧ ds.length = fl.length := by
  induction m with
  | nil => exact ⟨rfl, rfl⟩
  | va _ _ ih => exact ⟨by simp [ih.1], by simp [ih.2]⟩
  | ow _ _ _ _ ih => exact ⟨by simp [ih.1], by simp [ih.2]⟩
abbrev RelM (C : Pm) (fl : List Bool) (Hp0 : Hp) : Hp → Hp → List V → List D → Prop := fun Hf H vs ds => Mix C.K Hp0 Hf H fl vs ds
def tM (C : Pm) (fl : List Bool) (f : Env → R (List D)) : TA := fun σ H Q => ∃ (Hf0 H0 Hf : Hp) (ρ : Env), EnvR C.K Hf0 H0 Hf H σ ρ ∧ OutG C (RelM C fl H) Hf H (f ρ) Q
variable {es : List Expr} {fl : List Bool} {fr : Env → R (List D)}
theorem m_nil : PA X [] (tM C [] fun _ => .ok []) := PA.imp pa_nil fun σ H Q ⟨Hf0, H0, Hf, ρ, env, h⟩ => h _ Hf H (Grow.refl env.grow.sub) .nil
theorem OwnAt.there {K : PySem.W.Frag} {Hf H : Hp} {a : Addr} {d : D} (h : OwnAt K Hf H a d) : ∃ u, H a = some u := by
  cases d with
  | list ds => obtain ⟨xs, _, q, _⟩ := h; exact ⟨_, q⟩
  | dict ds => obtain ⟨xs, _, q, _⟩ := h; exact ⟨_, q⟩
  | _ => exact h.elim
theorem m_va (hs : isStar e = false) (ha : PE X e (tE C fe)) (hr : PA X es (tM C fl fr)) : PA X (e :: es) (tM C (false :: fl) (fCons fe fr)) :=
  PA.imp (pa_cons ha hr (star_cons hs)) fun σ H Q ⟨Hf0, H0, Hf, ρ, env, h⟩ => ⟨Hf0, H0, Hf, ρ, env, OutG.bind (show OutG C (RelM C (false :: fl) H) Hf H (fCons fe fr ρ) Q from h) fun dx vx Hf1 H1 _ g1 r1 h1 =>
    ⟨Hf0, H0, Hf1, ρ, env.more g1, h1.bind fun ds vs Hf2 H2 _ g2 r2 h2 => h2 _ Hf2 H2 (Grow.refl g2.sub) (.va (r1.mono g2.f) (r2.back g1.h))⟩⟩
theorem m_ow (hs : isStar e = false) (ha : PE X e (tF C fe)) (hr : PA X es (tM C fl fr)) : PA X (e :: es) (tM C (true :: fl) (fCons fe fr)) :=
  PA.imp (pa_cons ha hr (star_cons hs)) fun σ H Q ⟨Hf0, H0, Hf, ρ, env, h⟩ => ⟨Hf0, H0, Hf, ρ, env, OutG.bind (show OutG C (RelM C (true :: fl) H) Hf H (fCons fe fr ρ) Q from h) fun dx vx Hf1 H1 _ g1 r1 h1 =>
    ⟨Hf0, H0, Hf1, ρ, env.more g1, h1.bind fun ds vs Hf2 H2 _ g2 r2 h2 => by
      obtain ⟨a, rfl, na, o⟩ := r1
      obtain ⟨u, hu⟩ := o.there
      refine h2 _ Hf2 H2 (Grow.refl g2.sub) (.ow na (o.grow g2) (fun z => ?_) (r2.back g1.h))
      have := r2.free a z
      rw [hu] at this
      cases this⟩⟩
def setV : List Nat → List V → L2.St → L2.St
  | i :: is, v :: vs, σ => setV is vs (σ.set i (some v))
  | _, _, σ => σ
def setFl : List Bool → List Nat → List D → Env → Env
  | true :: fl, i :: is, d :: ds, ρ => setFl fl is ds (ρ.set i (.ow d))
  | false :: fl, i :: is, d :: ds, ρ => setFl fl is ds (ρ.set i (.va d))
  | _, _, _, ρ => ρ
theorem EnvR.putMix {K : PySem.W.Frag} {Hf0 H0 Hf H Hp0 : Hp} (s0 : Same H0 Hp0) : ∀ {fl : List Bool} {vs : List V} {ds : List D}, Mix K Hp0 Hf H fl vs ds → ∀ {is : List Nat} {σ : L2.St} {ρ : Env}, EnvR K Hf0 H0 Hf H σ ρ →
    (∀ (j : Nat) (d : D) (a : Addr), ρ[j]? = some (DL.Slot.ow d) → σ[j]? = some (some (.ref a)) → a ∉ owns fl vs) → is.length = fl.length → EnvR K Hf0 H0 Hf H (setV is vs σ) (setFl fl is ds ρ)
  | _, _, _, .nil, [], σ, ρ, e, _, _ => e
  | _, _, _, .nil, _ :: _, _, _, _, _, hl => by simp at hl
  | _, _, _, .va _ _, [], _, _, _, _, hl => by simp at hl
  | _, _, _, .ow _ _ _ _, [], _, _, _, _, hl => by simp at hl
  | _, _, _, .va (v := v) (d := d) h m, i :: is, σ, ρ, e, hp, hl => by
    unfold setV setFl
    refine EnvR.putMix s0 m (e.put h) (fun j d1 a h1 h2 => ?_) (by simpa using hl)
    by_cases q : i = j
    · subst q
      have l1 : i < ρ.length := by simpa using (List.getElem?_eq_some_iff.mp h1).1
      rw [List.getElem?_set_self l1] at h1
      cases h1
    · rw [List.getElem?_set_ne q] at h1 h2
      have := hp j d1 a h1 h2
      simpa [owns] using this
  | _, _, _, .ow (a := b) (d := d) h o n m, i :: is, σ, ρ, e, hp, hl => by
    unfold setV setFl
    refine EnvR.putMix s0 m (e.putOwn o (Same.free s0 h) fun j d1 h1 h2 => ?_) (fun j d1 a h1 h2 => ?_) (by simpa using hl)
    · have := hp j d1 b h1 h2
      simp [owns] at this
    · by_cases q : i = j
      · subst q
        have l2 : i < σ.length := by simpa using (List.getElem?_eq_some_iff.mp h2).1
        rw [List.getElem?_set_self l2] at h2
        cases h2
        exact n
      · rw [List.getElem?_set_ne q] at h1 h2
        have := hp j d1 a h1 h2
        simp only [owns, List.mem_cons, not_or] at this
        exact this.2
def fPar (fl : List Bool) (is : List Nat) (fr : Env → R (List D)) : Env → R Out := fun ρ => fr ρ >>= fun ds => .ok (.nx (setFl fl is ds ρ))
theorem par_in {is : List Nat} (hl : is.length = fl.length) {Dn : Ends} {σ : L2.St} {H : Hp} {Q : List V → Hp → Prop} (h : tS C (fPar fl is fr) Dn σ H) (hq : ∀ vs H1, vs.length = is.length → (∀ H2, Same H1 H2 → Dn.nx (setV is vs σ) H2) → Q vs H1) : tM C fl fr σ H Q := by
  obtain ⟨Hf0, H0, Hf, ρ, env, h⟩ := h
  refine ⟨Hf0, H0, Hf, ρ, env, SOut.bind env (show SOut C Hf0 H0 Hf Dn (fPar fl is fr ρ) from h) fun ds vs Hf1 H1 _ g m h1 => hq vs H1 (by rw [m.len.1, hl]) fun H2 s2 => ?_⟩
  have g2 : Grow Hf1 H1 Hf1 H2 := ⟨Same.refl _, s2, fun _ _ q => .inl q, g.sub.trans s2⟩
  refine h1 Hf1 H2 _ (Same.refl _) (EnvR.putMix (Hp0 := H) env.grow.h (m.grow g2) ((env.more g).more g2) (fun j d a q1 q2 q3 => ?_) hl)
  have z := m.free a q3
  exact env.notOwn z j d q1 q2
def gNames (is : List Nat) : TGs := fun vs σ H Q => vs.length = is.length ∧ Q (setV is vs σ) H
theorem g_names {ts : List Expr} {is : List Nat} (hN : X.N.Nodup) (h : Nms X ts is) : PGs X ts (gNames is) := by
  induction h with
  | nil =>
    refine PGs.imp pgs_nil fun v σ H Q ⟨h1, h2⟩ => ?_
    have e : v = [] := List.eq_nil_of_length_eq_zero h1
    subst e
    exact ⟨rfl, h2⟩
  | cons h _ ih =>
    refine PGs.imp (pgs_cons (pg_name hN h.1 h.2.1 h.2.2) ih assignEach_name) fun v σ H Q ⟨h1, h2⟩ => ?_
    cases v with
    | nil => cases h1
    | cons v vs => exact ⟨v, vs, rfl, by simpa using h1, h2⟩
theorem len_sz {X : Cx} {vs : List V} {is : List Nat} (h : vs.length = is.length) (hs : is.length ≤ 1000) : vs.length ≤ sizeLine := le_line (by omega)
theorem s_parN {ts : List Expr} {is : List Nat} {k k2 : Nat} {pt pt2 : Pos} (hc : X.calm = true) (hN : X.N.Nodup) (hn : Nms X ts is) (hl : is.length = fl.length) (hsz : is.length ≤ 1000) (ha : PA X es (tM C fl fr))
    (hw : swappedStores [.Tuple ts k pt] (.Tuple es k2 pt2) X.env = pure none) : PS X (.Assign [.Tuple ts k pt] (.Tuple es k2 pt2) pos) (tS C (fPar fl is fr)) :=
  PS.imp (ps_asg (pe_tup ha) (pg_tup (n := is.length) hc (g_names hN hn) (nms_len hn _) (nms_star hn _)) rfl hw rfl) fun Dn σ H h => par_in hl h fun vs H1 e q =>
    ⟨len_sz (X := X) e hsz, fun p np => ⟨p, vs, rfl, SqT.of upd_same, e, e, q _ (same_upd np)⟩⟩
theorem s_par2 {i j : Nat} {x y : Str} {a b : Expr} {px py pt pt2 : Pos} {kt k2 : Nat} (hc : X.calm = true) (hN : X.N.Nodup) (hi : X.N[i]? = some x) (hj : X.N[j]? = some y) (hij : i ≠ j)
    (hx : X.env.scope.names.lookup x = some .local) (hy : X.env.scope.names.lookup y = some .local) (hl : fl.length = 2) (ha : PA X [a, b] (tM C fl fr))
    (hw : swappedStores [.Tuple [.Name x px, .Name y py] kt pt] (.Tuple [a, b] k2 pt2) X.env = pure (some [x, y])) :
    PS X (.Assign [.Tuple [.Name x px, .Name y py] kt pt] (.Tuple [a, b] k2 pt2) pos) (tS C (fPar fl [i, j] fr)) :=
  PS.imp (ps_par hc hN hi hj hij hx hy ha hw rfl) fun Dn σ H h => par_in (is := [i, j]) (by rw [hl]; rfl) h fun vs H1 e q => by
    match vs, e with
    | [v, w], _ => exact ⟨v, w, rfl, q _ (Same.refl _)⟩
theorem s_par3 {i j l : Nat} {x y z : Str} {a b c : Expr} {px py pz pt pt2 : Pos} {kt k2 : Nat} (hc : X.calm = true) (hN : X.N.Nodup) (hi : X.N[i]? = some x) (hj : X.N[j]? = some y) (hk : X.N[l]? = some z) (hij : i ≠ j) (hil : i ≠ l) (hjl : j ≠ l)
    (hx : X.env.scope.names.lookup x = some .local) (hy : X.env.scope.names.lookup y = some .local) (hz : X.env.scope.names.lookup z = some .local) (hl : fl.length = 3) (ha : PA X [a, b, c] (tM C fl fr))
    (hw : swappedStores [.Tuple [.Name x px, .Name y py, .Name z pz] kt pt] (.Tuple [a, b, c] k2 pt2) X.env = pure (some [x, y, z])) :
    PS X (.Assign [.Tuple [.Name x px, .Name y py, .Name z pz] kt pt] (.Tuple [a, b, c] k2 pt2) pos) (tS C (fPar fl [i, j, l] fr)) :=
  PS.imp (ps_par3 hc hN hi hj hk hij hil hjl hx hy hz ha hw rfl) fun Dn σ H h => par_in (is := [i, j, l]) (by rw [hl]; rfl) h fun vs H1 e q => by
    match vs, e with
    | [u, v, w], _ => exact ⟨u, v, w, rfl, q _ (Same.refl _)⟩
/-! which stores are swapped -/
def swNames (sc : Scope) (ts : List Expr) : List Str := ts.filterMap fun
  | .Name id pos => if sc.names.lookup id == some .local && pos.line == (ts.head?.map (·.pos.line)).getD 0 then some id else none
  | _ => none
def swap? (sc : Scope) (ts vs : List Expr) : Option (Option (List Str)) :=
  if (!(ts.length == 2 || ts.length == 3) || vs.length != ts.length) = true then some none
  else if (vs.any fun | .Starred .. => true | _ => false) = true then some none
  else if ((swNames sc ts).length != ts.length || (swNames sc ts).eraseDups.length != (swNames sc ts).length) = true then some none
  else if vs.all (foldedForSure 8) = true then some none
  else if vs.all (constantsAlone 8) = true then none
  else some (some (swNames sc ts))
theorem swap_ok {ts vs : List Expr} {k k2 : Nat} {pt pt2 : Pos} {env : PySem.Env} {o : Option (List Str)} (hk : env.scope.kind = .function) (h : swap? env.scope ts vs = some o) : swappedStores [.Tuple ts k pt] (.Tuple vs k2 pt2) env = pure o := by
  have hb : env.blockKind = .function := by unfold PySem.Env.blockKind; rw [hk]; rfl
  unfold swap? at h
  unfold swappedStores
  simp only [hb]
  split at h
  · rename_i c
    cases h
    have c2 : (!(ts.length == 2 || ts.length == 3) || vs.length != ts.length || ScopeKind.function != ScopeKind.function) = true := by rw [c]; rfl
    rw [if_pos c2]
  · rename_i c
    have c2 : ¬ (!(ts.length == 2 || ts.length == 3) || vs.length != ts.length || ScopeKind.function != ScopeKind.function) = true := by
      have z : (ScopeKind.function != ScopeKind.function) = false := rfl
      rw [z, Bool.or_false]
      exact c
    rw [if_neg c2]
    split at h
    · rename_i c
      cases h
      exact if_pos c
    · rename_i c
      split at h
      · rename_i c1
        cases h
        exact (if_neg c).trans (if_pos c1)
      · rename_i c1
        split at h
        · rename_i c3
          cases h
          exact (if_neg c).trans ((if_neg c1).trans (if_pos c3))
        · rename_i c3
          split at h
          · cases h
          · rename_i c4
            cases h
            exact (if_neg c).trans ((if_neg c1).trans ((if_neg c3).trans (if_neg c4)))
end
end DL
/-! The data layer: l.index(x), l.count(x). -/
namespace DL
open PySem PySem.Spec PyProof.Rows L2
def dIndex (ds : List D) (y : D) : R D := if SeqAt.shaped y && SeqAt.shaped (.list ds) then (match ds.findIdx? fun z => PyData.eqv z y with | some j => .ok (.int j) | none => .bad) else .bad
def dCount (ds : List D) (y : D) : R D := if SeqAt.shaped y && SeqAt.shaped (.list ds) then .ok (.int (ds.countP fun z => PyData.eqv z y : Nat)) else .bad
/-- o.m(e), o a list -/
def fMeth (F : List D → D → R D) (fo fe : Env → R D) : Env → R D := fun ρ => fo ρ >>= fun x => match x with | .list ds => fe ρ >>= F ds | _ => .bad
def baseOk : Expr → Bool
  | .Call (.Name _ _) [] [] _ => false
  | _ => true
theorem base_of {o : Expr} {m : Str} {env : PySem.Env} {w : Sem Value} (h : baseOk o = true) : attributeBase o m env w = w := by
  unfold attributeBase
  split
  · simp [baseOk] at h
  · rfl
section
variable {X : Cx} {C : Pm} {o e : Expr} {apos cpos : Pos} {fo fe : Env → R D}
def rCountD (K : PySem.W.Frag) : V → List V → Hp → VK → Prop := fun x xs H Q => ∃ (a : Addr) (y : V) (d : PyData) (ds : List PyData), x = V.ref a ∧ xs = [y] ∧ Dp K H (V.ref a) (.list ds) ∧ Dp K H y d ∧
  SeqAt.shaped (.list ds) = true ∧ SeqAt.shaped d = true ∧ Q (.int (ds.countP fun z => PyData.eqv z d : Nat)) H
theorem mt_countD (hu : X.A.units + 65 < cLine) : MtR X "list.count" (rCountD X.K) := by
  intro pins s σ H x xs v us Q I rx rxs h
  obtain ⟨a, y, d, ds, rfl, rfl, hl, hy, sl, sd, q⟩ := h
  cases rx
  cases rxs with
  | cons ry rt =>
    rename_i uy ut
    cases rt
    obtain ⟨bs, r1⟩ := Dp.reads I d y uy hy ry
    have hxs : PyData.canLayAll0 ds = true := SeqAt.canLay_of_shaped sl
    have hroom : X.A.units + 1 + min (PyData.depthAll ds) d.depth < cLine := room_in_shaped sd hu
    cases hl with
    | lst hs ha =>
      obtain ⟨its, rv, ⟨⟨cls, dd, data, sls⟩, n, ho, hc, hdn, hdt⟩, hlen⟩ := I.list hs
      simp only at hc hdt
      subst hc hdt
      obtain ⟨as, h4⟩ := Dp.readsAll I ds _ its ha rv
      have hmap : its.map (SeqAt.readOf s.heap) = ds := SeqAt.readsAll_map ds its as hxs h4
      refine call_meets PySem.F.slot_list_count ⟨_, ho, rfl⟩ PySem.F.entry_list_count (PySem.F.args_list_count_2 _ _)
        (SeqAt.list_countAt a its.toArray n dd sls uy (fun u => PyData.eqv (SeqAt.readOf s.heap u) d)) ⟨ho, SeqAt.items_eqAt (vs := its.toArray) (show ReadsAll s.heap its.toArray.toList ds as from h4) r1 hxs (SeqAt.canLay_of_shaped sd) hroom, ?_⟩
      have e : its.countP (fun u => PyData.eqv (SeqAt.readOf s.heap u) d) = ds.countP fun z => PyData.eqv z d := by
        rw [← hmap, List.countP_map]
        rfl
      refine ⟨.int (ds.countP fun z => PyData.eqv z d : Nat), H, I.tok _, ⟨s.toks, ?_⟩, q⟩
      rw [← e]
theorem e_meth {m : Str} {id : String} {F : List D → D → R D} {r : V → List V → Hp → VK → Prop} (slot : PySem.Slot "list" m id) (hty : typeOf (.builtin id) = pure (.type "method_descriptor")) (hm : MtR X id r)
    (hr : ∀ (Hf H : Hp) (a : Addr) (y : V) (ds : List D) (d : D) (Q : VK), Same Hf H → Rp1 C.K Hf H (.ref a) (.list ds) → Rp1 C.K Hf H y d → OutG C (RelE C) Hf H (F ds d) Q → r (.ref a) [y] H Q)
    (hK : C.K = X.K) (ho : PE X o (tP C fo)) (he : PE X e (tP C fe)) (hs : isStar e = false) (hb : baseOk o = true) (hl : (apos.endLine == cpos.line) = true) :
    PE X (.Call (.Attribute o m apos) [e] [] cpos) (tE C (fMeth F fo fe)) := by
  refine PE.imp (pe_bm PySem.F.plainAttrs_list slot hty hm ho (pa_cons he pa_nil (star_cons hs)) (base_of hb) (few_one hs) hl (star_cons hs) rfl) ?_
  intro σ H Q ⟨Hf0, H0, Hf, ρ, env, h⟩
  refine ⟨Hf0, H0, Hf, ρ, env, OutG.bind (show OutG C (RelE C) Hf H (fMeth F fo fe ρ) Q from h) fun dx vx Hf1 H1 _ g1 r1 h1 => ?_⟩
  cases dx with
  | list ds =>
    obtain ⟨a, xs, rfl, ha, _, _⟩ := Rp1.list_ g1.sub r1
    refine ⟨.inl ⟨rfl, xs, SqL.of ha⟩, Hf0, H0, Hf1, ρ, env.more g1, OutG.bind h1 fun dy vy Hf2 H2 _ g2 r2 h2 => ?_⟩
    exact hr Hf2 H2 a vy ds dy Q g2.sub (r1.grow g2) r2 h2
  | _ => exact h1.elim
theorem e_index (hu : X.A.units + 65 < cLine) (hK : C.K = X.K) (ho : PE X o (tP C fo)) (he : PE X e (tP C fe)) (hs : isStar e = false) (hb : baseOk o = true) (hl : (apos.endLine == cpos.line) = true) :
    PE X (.Call (.Attribute o "index" apos) [e] [] cpos) (tE C (fMeth dIndex fo fe)) := by
  refine e_meth PySem.F.slot_list_index PySem.F.type_list_index (mt_indexD hu) (fun Hf H a y ds d Q sf hx hy h => ?_) hK ho he hs hb hl
  unfold dIndex at h
  split at h
  · rename_i c
    simp only [Bool.and_eq_true] at c
    split at h
    · rename_i j hj
      obtain ⟨h1, h2, h3⟩ := List.findIdx?_eq_some_iff_getElem.mp hj
      refine ⟨a, y, d, ds, j, ds[j], rfl, rfl, ?_, ?_, c.2, c.1, List.getElem?_eq_getElem h1, h2, fun m z' hm hz => ?_, h.val sf (.int _)⟩
      · rw [← hK]; exact hx.dp sf c.2
      · rw [← hK]; exact hy.dp sf c.1
      · obtain ⟨q1, rfl⟩ := List.getElem?_eq_some_iff.mp hz
        have := h3 m hm
        simpa using this
    · exact h.elim
  · exact h.elim
theorem e_count (hu : X.A.units + 65 < cLine) (hK : C.K = X.K) (ho : PE X o (tP C fo)) (he : PE X e (tP C fe)) (hs : isStar e = false) (hb : baseOk o = true) (hl : (apos.endLine == cpos.line) = true) :
    PE X (.Call (.Attribute o "count" apos) [e] [] cpos) (tE C (fMeth dCount fo fe)) := by
  refine e_meth PySem.F.slot_list_count PySem.F.type_list_count (mt_countD hu) (fun Hf H a y ds d Q sf hx hy h => ?_) hK ho he hs hb hl
  unfold dCount at h
  split at h
  · rename_i c
    simp only [Bool.and_eq_true] at c
    refine ⟨a, y, d, ds, rfl, rfl, ?_, ?_, c.2, c.1, h.val sf (.int _)⟩
    · rw [← hK]; exact hx.dp sf c.2
    · rw [← hK]; exact hy.dp sf c.1
  · exact h.elim
end
end DL
/-! The data layer: {}, {k: v}, d.get(k, x), d[k] = v. -/
namespace DL
open PySem PySem.Spec PyProof.Rows L2
def dDict1 (k d : D) : R D := if (keyOfD k).isSome then .ok (.dict [(k, d)]) else .bad
section
variable {X : Cx} {C : Pm} {pos apos cpos : Pos} {o e g k v : Expr} {fo fe fg fk fv : Env → R D}
theorem f_dict0 : PE X (.Dict [] [] pos) (tF C fun _ => .ok (.dict [])) :=
  PE.imp pe_dnewK fun σ H Q ⟨Hf0, H0, Hf, ρ, env, h⟩ p np => h _ Hf _ (Grow.side env.grow.sub np) ⟨p, rfl, np, [], Same.free env.grow.sub np, upd_same, Nat.zero_le _, .nil⟩
theorem f_dict1 (hk : PE X k (tE C fk)) (hv : PE X v (tE C fv)) : PE X (.Dict [some k] [v] pos) (tF C fun ρ => fk ρ >>= fun dk => fv ρ >>= fun dv => dDict1 dk dv) := by
  refine PE.imp (pe_disp (pps_cons hk hv pps_nil) rfl rfl (by simp) (by simp)) fun σ H Q ⟨Hf0, H0, Hf, ρ, env, h⟩ p np => ?_
  have g0 : Grow Hf H Hf (upd H p (.dK [])) := Grow.side env.grow.sub np
  have nf : Hf p = none := Same.free env.grow.sub np
  have h : OutG C (RelF C H) Hf H (fk ρ >>= fun dk => fv ρ >>= fun dv => dDict1 dk dv) Q := h
  cases e1 : fk ρ with
  | bad => rw [e1] at h; exact h.elim
  | exc c => exact ⟨Hf0, H0, Hf, ρ, env.more g0, by rw [e1] at h ⊢; exact fun Hf' H' g => h Hf' H' (g0.trans g)⟩
  | ok dk =>
    rw [e1] at h
    refine ⟨Hf0, H0, Hf, ρ, env.more g0, ?_⟩
    rw [e1]
    intro x Hf1 H1 g1 r1
    refine ⟨Hf0, H0, Hf1, ρ, (env.more g0).more g1, ?_⟩
    have h : OutG C (RelF C H) Hf H (fv ρ >>= fun dv => dDict1 dk dv) Q := h
    cases e2 : fv ρ with
    | bad => rw [e2] at h; exact h.elim
    | exc c => rw [e2] at h; exact fun Hf' H' g => h Hf' H' ((g0.trans g1).trans g)
    | ok dv =>
      rw [e2] at h
      intro y Hf2 H2 g2 r2
      have h : OutG C (RelF C H) Hf H (dDict1 dk dv) Q := h
      unfold dDict1 at h
      split at h
      · rename_i hc
        obtain ⟨k', ek⟩ := Option.isSome_iff_exists.mp hc
        have e3 := keyOf_ok ek
        subst e3
        have hx : x = kV k' := Rp1.key_ (K := C.K) (Hf := Hf1) (H := H1) (.inl r1)
        subst hx
        have gg : Grow Hf H Hf2 H2 := (g0.trans g1).trans g2
        have hp : H2 p = some (.dK []) := g2.h _ _ (g1.h _ _ upd_same)
        have nf2 : Hf2 p = none := by
          cases q : Hf2 p with
          | none => rfl
          | some o =>
            rcases (g1.trans g2).new p o q with z | z
            · rw [nf] at z; cases z
            · rw [upd_same] at z; cases z
        refine ⟨hp, [(k', y)], rfl, by simp, ?_⟩
        have e4 : mergeK [] [(k', y)] = [(k', y)] := rfl
        rw [e4]
        refine h _ Hf2 _ ?_ ⟨p, rfl, np, [(k', y)], nf2, upd_same, by rw [sizeLine_eq]; simp, .cons r2 .nil⟩
        refine ⟨gg.f, fun b x e => ?_, gg.new, fun b x e => ?_⟩
        · rw [upd_ne (ne_of_none e np)]; exact gg.h _ _ e
        · by_cases q : b = p
          · subst q; rw [nf2] at e; cases e
          · rw [upd_ne q]; exact gg.sub _ _ e
      · exact h.elim
/-- d.get(k, x) -/
def dGet2 (kds : List (D × D)) (k z : D) : R D := if dkB kds && (keyOfD k).isSome then .ok ((lookD kds k).getD z) else .bad
def fGet (fo fe fg : Env → R D) : Env → R D := fun ρ => fo ρ >>= fun x => match x with | .dict kds => if dkB kds then fe ρ >>= fun k => fg ρ >>= fun z => dGet2 kds k z else .bad | _ => .bad
theorem e_get (hu : X.A.units + 65 < cLine) (ho : PE X o (tP C fo)) (he : PE X e (tP C fe)) (hg : PE X g (tE C fg)) (hs : isStar e = false) (hs2 : isStar g = false) (hb : attributeBase o "get" X.env (eval o X.env) = eval o X.env) (hl : (apos.endLine == cpos.line) = true) :
    PE X (.Call (.Attribute o "get" apos) [e, g] [] cpos) (tE C (fGet fo fe fg)) := by
  have m : M2 X o "get" apos e g cpos := ⟨hb, by rw [star_cons hs, star_cons hs2]; rfl, hl, by rw [star_cons hs, star_cons hs2]; rfl⟩
  refine PE.imp (pe_dget2 (by omega) ho he hg m) fun σ H Q ⟨Hf0, H0, Hf, ρ, env, h⟩ => ⟨Hf0, H0, Hf, ρ, env, OutG.bind (show OutG C (RelE C) Hf H (fGet fo fe fg ρ) Q from h) fun dx vx Hf1 H1 _ g1 r1 h1 => ?_⟩
  cases dx with
  | dict kds =>
    have h1 : OutG C (RelE C) Hf1 H1 (if dkB kds then fe ρ >>= fun k => fg ρ >>= fun z => dGet2 kds k z else .bad) Q := h1
    split at h1
    · rename_i hk
      obtain ⟨a, kvs, rfl, rd, zl, ra⟩ := r1.dic_ g1.sub hk
      refine ⟨a, rfl, .inl ⟨kvs, rd⟩, Hf0, H0, Hf1, ρ, env.more g1, h1.bind fun dk vk Hf2 H2 _ g2 r2 h2 => ⟨Hf0, H0, Hf2, ρ, (env.more g1).more g2, h2.bind fun dz vz Hf3 H3 _ g3 r3 h3 => ?_⟩⟩
      unfold dGet2 at h3
      split at h3
      · rename_i hc
        simp only [Bool.and_eq_true] at hc
        obtain ⟨k', ek⟩ := Option.isSome_iff_exists.mp hc.2
        have e3 := keyOf_ok ek
        subst e3
        obtain rfl := r2.key_
        obtain ⟨a', kvs', ea, rd', _, ra'⟩ := (r1.grow (g2.trans g3)).dic_ g3.sub hk
        cases ea
        refine ⟨valV kvs' k', .inl ⟨kvs', k', rd', rfl, rfl⟩, ?_⟩
        cases q : lookD kds (keyD k') with
        | none =>
          rw [q] at h3
          rw [ra'.none q]
          exact h3.val g3.sub r3
        | some d =>
          rw [q] at h3
          obtain ⟨w, w1, w2⟩ := ra'.look q
          rw [w1]
          exact h3.val g3.sub w2
      · exact h3.elim
    · exact h1.elim
  | _ => exact h1.elim
/-- d[k] = v, d a dict of one's own -/
def fPut (i : Nat) (fk fv : Env → R D) : Env → R Out := fun ρ => match ρ[i]? with
  | some (.ow (.dict kds)) => fv ρ >>= fun d => fk ρ >>= fun k => if (keyOfD k).isSome && decide (kds.length < 1000000) then .ok (.nx (ρ.set i (.ow (.dict (putD kds k d))))) else .bad
  | _ => .bad
theorem putK_len (kvs : List (Key × V)) (k : Key) (v : V) : (putK kvs k v).length ≤ kvs.length + 1 := by
  unfold putK
  split <;> simp
theorem s_put {i : Nat} {x : Str} {p1 pos' : Pos} (hu : X.A.units + 65 < cLine) (hN : X.N[i]? = some x) (hv : Vis X.env.scope x) (hd : (x == ("__debug__" : Str)) = false) (hcd : (x == ("__classdict__" : Str)) = false) (hk : PE X k (tP C fk)) (he : PE X v (tE C fv)) (hc : isComp v = false) :
    PS X (.Assign [.Subscript (.Name x p1) k pos'] v pos) (tS C (fPut i fk fv)) := by
  refine PS.imp (ps_dput (by omega) (pe_var hN hv hd hcd) hk he (sw_false hc)) fun Dn σ H ⟨Hf0, H0, Hf, ρ, env, h⟩ => ?_
  unfold fPut at h
  split at h
  · rename_i kds hi
    obtain ⟨v0, hσ, a, h2, ⟨kvs, p1, p2, p3, p4⟩, n0⟩ := slot_there env hi
    subst h2
    refine ⟨Hf0, H0, Hf, ρ, env, SOut.bind env h fun d y Hf1 H1 _ g r h1 => ⟨.ref a, hσ, Hf0, H0, Hf1, ρ, env.more g, SOut.bind (env.more g) h1 fun dk vk Hf2 H2 _ g2 r2 h2 => ?_⟩⟩
    split at h2
    · rename_i hc
      simp only [Bool.and_eq_true, decide_eq_true_eq] at hc
      obtain ⟨k', ek⟩ := Option.isSome_iff_exists.mp hc.1
      have e3 := keyOf_ok ek
      subst e3
      obtain rfl := Rp1.key_ r2
      have e2 := (env.more g).more g2
      obtain ⟨v', hσ', a', h2', ⟨kvs', q1, q2, q3, q4⟩, _⟩ := slot_there e2 hi
      rw [hσ] at hσ'
      cases hσ'
      cases h2'
      have hl := q4.length
      refine ⟨a, _, rfl, DPut.k q2 (by rw [sizeLine_eq]; omega), h2 Hf2 _ σ (Same.refl _) (e2.turn hi hσ n0 q1 ⟨_, q1, upd_same, ?_, q4.put (r.mono g2.f)⟩)⟩
      have := putK_len kvs' k' y
      rw [sizeLine_eq]
      omega
    · exact h2.elim
  · exact h.elim
/-- for .. in d.items() -/
def dPairs : D → R (List D)
  | .dict kds => if dkB kds then .ok (kds.map fun kv => .tuple [kv.1, kv.2]) else .bad
  | _ => .bad
theorem i_items {elts : List Expr} {kk : Nat} {tpos : Pos} (ho : PE X o (tE C fo)) (hb : attributeBase o "items" X.env (eval o X.env) = eval o X.env) (hl : (apos.endLine == cpos.line) = true) :
    PI X (.Tuple elts kk tpos) (.Call (.Attribute o "items" apos) [] [] cpos) (tI C fun ρ => fo ρ >>= dPairs) := by
  refine PI.imp (pi_items ho hb hl) fun σ H Rr ⟨Hf0, H0, Hf, ρ, env, h⟩ => ⟨Hf0, H0, Hf, ρ, env, OutG.bind (show OutG C (RelI C) Hf H (fo ρ >>= dPairs) Rr from h) fun d v Hf1 H1 _ g r h1 => ?_⟩
  cases d with
  | dict kds =>
    have h1 : OutG C (RelI C) Hf1 H1 (if dkB kds then .ok (kds.map fun kv => .tuple [kv.1, kv.2]) else .bad) Rr := h1
    split at h1
    · rename_i hk
      generalize e : (PyData.dict kds : D) = z at r
      cases r with
      | scr q1 q2 =>
        cases e
        simp [dkB, keyOfD] at hk
      | dic q1 q2 q3 =>
        cases e
        exact ⟨_, _, _, rfl, g.sub _ _ q1, h1 _ Hf1 H1 (Grow.refl g.sub) (walkIt q1 q2 q3)⟩
      | _ => cases e
    · exact h1.elim
  | _ => exact h1.elim
end
end DL
/-! The data layer: sorted(d.items()). -/
namespace DL
open PySem PySem.Spec PyProof.Rows L2 NS
def itmD (kds : List (D × D)) : List D := kds.map fun kv => .tuple [kv.1, kv.2]
def atomB : D → Bool
  | .list _ => false
  | .tuple _ => false
  | .dict _ => false
  | _ => true
def dSortItems : D → R D
  | .dict kds => if dkB kds && ((kds.all fun kv => atomB kv.2) && (sortOk (itmD kds) && decide (kds.length ≤ 100000))) then .ok (.list (sortD (itmD kds))) else .bad
  | _ => .bad
theorem canAll_mem : ∀ {ds : List D} {d : D}, PyData.canLayAll0 ds = true → d ∈ ds → d.canLay0 = true
  | [], _, _, h => nomatch h
  | x :: xs, d, hc, h => by
    simp only [PyData.canLayAll0, Bool.and_eq_true] at hc
    rcases List.mem_cons.mp h with rfl | h
    · exact hc.1
    · exact canAll_mem hc.2 h
theorem atom_noAddr {h : Heap} {v : Value} {d : D} {rs : List Addr} (a : atomB d = true) (r : Reads h v d rs) : rs = [] := by
  cases r <;> first | rfl | simp [atomB] at a
theorem readsAll2 {h : Heap} : ∀ {vs : List Value} {ds : List D} {rs : List Addr}, ReadsAll h vs ds rs → ds.all atomB = true → rs = []
  | _, _, _, .nil, _ => rfl
  | _, _, _, .cons r t, k => by
    simp only [List.all_cons, Bool.and_eq_true] at k
    rw [atom_noAddr k.1 r, readsAll2 t k.2]
    rfl
theorem pair_noAddr {h : Heap} {v : Value} {a b : D} {rs : List Addr} (ha : atomB a = true) (hb : atomB b = true) (r : Reads h v (.tuple [a, b]) rs) : rs = [] := by
  cases r with
  | tuple g1 g2 g3 g4 => exact readsAll2 g4 (by simp [ha, hb])
theorem nd_ix {α : Type} : ∀ {l : List α} {i j : Nat} {x : α}, l.Nodup → l[i]? = some x → l[j]? = some x → i = j
  | [], _, _, _, _, h, _ => by simp at h
  | a :: l, 0, 0, _, _, _, _ => rfl
  | a :: l, 0, j + 1, x, nd, h1, h2 => by
    simp at h1 h2
    subst h1
    exact absurd (List.mem_of_getElem? h2) (List.nodup_cons.mp nd).1
  | a :: l, i + 1, 0, x, nd, h1, h2 => by
    simp at h1 h2
    subst h2
    exact absurd (List.mem_of_getElem? h1) (List.nodup_cons.mp nd).1
  | a :: l, i + 1, j + 1, x, nd, h1, h2 => by
    simp at h1 h2
    rw [nd_ix (List.nodup_cons.mp nd).2 h1 h2]
section
variable {X : Cx} {C : Pm} {o : Expr} {apos cpos p pos : Pos} {fo : Env → R D} {te : TE}
theorem pe_itemsV (he : PE X o te) (hbase : attributeBase o "items" X.env (eval o X.env) = eval o X.env) (hline : (apos.endLine == cpos.line) = true) :
    PE X (.Call (.Attribute o "items" apos) [] [] cpos) (fun σ H Q => te σ H fun x H1 => ∃ d kvs, x = .ref d ∧ Rd H1 d (.dK kvs) ∧ ∀ p, H1 p = none → Q (.ref p) (upd H1 p (DX.itemsO p d))) := by
  refine ⟨fun pins s σ H Q I hq => ?_⟩
  refine wpAny_Call_method (T := "dict") (id := "dict.items") hbase rfl hline F.plainAttrs_dict F.slot_dict_items F.type_dict_items (thn (he.run pins s σ H _ I hq) fun u s1 ⟨x, H1, I1, rx, d, kvs, ex, rd, q⟩ => ?_)
  subst ex
  obtain rfl : u = Value.ref d := rx
  obtain ⟨hz, hs0, vs, kv, hdo⟩ := dk_rd I1.hok rd
  refine ⟨hdo.typeIs, hdo.mapOf.noDict, ?_⟩
  show wpAny _ _ (callWith cpos (.builtin "dict.items") [.ref d] [] []) _ X.xe s1
  refine method_meetsIn F.slot_dict_items F.entry_dict_items rfl (PySem.evalArgs_none ⟨rfl, hdo.typeIs, F.args_dict_items_1 _, _, meets_dict_items (mixKind X.prog X.w) d hs0, ⟨vs, hdo⟩, ?_⟩)
  exact ⟨.ref s1.heap.objs.size, upd H1 s1.heap.objs.size (DX.itemsO s1.heap.objs.size d), I1.laid (t' := s1.toks) (fun b u e => Heap.get?_push_of_some _ e) (Nat.le_refl _) (DX.itemsO_ok (Heap.get?_push_size _ rfl)), rfl, q _ (I1.hok.fresh (Nat.le_refl _))⟩
theorem ent_get {es : List DictEntry} {vs : List (Key × Value)} (h : Pairs (mixKind X.prog X.w) es vs) : ∀ {j : Nat} {e : DictEntry}, es[j]? = some e → ∃ kv, vs[j]? = some kv ∧ keyIs kv.1 e.key = true ∧ e.val = kv.2 := by
  induction h with
  | nil => intro j e h; simp at h
  | cons h1 h2 _ ih =>
    intro j e h
    cases j with
    | zero =>
      simp at h
      subst h
      exact ⟨_, rfl, h1, h2⟩
    | succ j => exact ih (by simpa using h)
theorem kv_at {kvs : List (Key × V)} {vs : List (Key × Value)} (h : KV kvs vs) : ∀ {j : Nat} {q : Key × Value}, vs[j]? = some q → ∃ v, kvs[j]? = some (q.1, v) ∧ RelV v q.2 := by
  induction h with
  | nil => intro j q h; simp at h
  | @cons a b as bs r t ih =>
    intro j q h
    cases j with
    | zero =>
      simp at h
      subst h
      obtain ⟨e, r⟩ := r
      exact ⟨a.2, by show some a = some (b.1, a.2); rw [← e], r⟩
    | succ j => exact ih (by simpa using h)
def rSortIK (C : Pm) : List V → Hp → VK → Prop := fun vs H Q => ∃ (Hf : Hp) (p d : Addr) (ob : Obj) (kvs : List (Key × V)) (kds : List (D × D)), Same Hf H ∧ vs = [V.ref p] ∧ H p = some (DX.itemsO p d) ∧ Hf d = some (.frz ob (.dK kvs)) ∧ RpK C.K Hf kvs kds ∧ (∀ kv ∈ kds, atomB kv.1 = true ∧ atomB kv.2 = true) ∧ sortOk (itmD kds) = true ∧ kds.length ≤ 100000 ∧
  ∀ (H' Hf' : Hp) (l : Addr) (ys : List V), Grow Hf H Hf' H' → H l = none → Hf' l = none → H' l = some (.lst ys) → ys.length ≤ sizeLine → RpL C.K Hf' ys (sortD (itmD kds)) → Q (.ref l) H'
theorem each_ix {α β : Type} {R : α → β → Prop} : ∀ {xs : List α} {ys : List β}, xs.length = ys.length → (∀ (j : Nat) (x : α) (y : β), xs[j]? = some x → ys[j]? = some y → R x y) → PySem.W.EachIs R xs ys
  | [], [], _, _ => .nil
  | [], _ :: _, h, _ => by simp at h
  | _ :: _, [], h, _ => by simp at h
  | x :: xs, y :: ys, h, k => .cons (k 0 x y rfl rfl) (each_ix (by simpa using h) fun j a b ha hb => k (j + 1) a b (by simpa using ha) (by simpa using hb))
theorem c_sortIK (hK : C.K = X.K) (hc : X.calm = true) (hu : X.A.units + 65 < cLine) : CallR X (.builtin "sorted") (rSortIK C) := by
  intro pins s σ H vs us Q I r ⟨Hf, p, d, ob, kvs, kds, sf, e, hp, hd, rk, hat, so, few, q⟩
  subst e
  rw [Vals.ref1 r]
  have view : s.heap.IsItemsView p d := (show ObjOk X.prog X.w H s.heap p (DX.itemsO p d) from I.hok p _ hp).1
  obtain ⟨hz, hd0, vs, kv, hdo⟩ := dk_rd I.hok (.inr ⟨ob, sf _ _ hd⟩)
  obtain ⟨od, es, ep, ho, hx, hdat, hkeys, hpairs, nd⟩ := hdo
  have lk : kvs.length = vs.length := Paired.length kv
  have le : es.size = vs.length := by rw [← Array.length_toList]; exact hpairs.length
  have lkd := rk.length
  have hso := so
  simp only [sortOk, Bool.and_eq_true] at hso
  obtain ⟨o1, o2, o3⟩ := ordOk_of hso.1
  refine DT.sortedI (es := es) (ep := ep) (I.ok.hd hc) view ⟨od, ho, hx, hdat⟩ (by rw [sizeLine_eq]; omega) fun h' tk as hk hlt hl hG => ?_
  have I1 : Inv X pins σ H { s with heap := h', toks := tk } := I.kept (t' := tk) hk
  have ndA : as.Nodup := List.Pairwise.imp (fun {a b} (h : a < b) => Nat.ne_of_lt h) hG.rise
  have fresh : ∀ a ∈ as, H a = none := fun a ha => I.hok.fresh (Nat.le_of_lt (hG.above a ha))
  -- the pairs
  have pr : ∀ (j : Nat) (b : Addr), as[j]? = some b → ∃ (k : Key) (v : V) (u w' : Value), kvs[j]? = some (k, v) ∧ RelV (kV k) u ∧ RelV v w' ∧ h'.get? b = some { cls := .type "tuple", data := .seq #[u, w'] } := fun j b hj => by
    obtain ⟨e, he, hg⟩ := hG.pairs j b hj
    obtain ⟨qv, g1, g2, g3⟩ := ent_get hpairs (j := j) (e := e) (by rw [← he]; exact (Array.getElem?_toList).symm ▸ rfl)
    obtain ⟨v, y1, y2⟩ := kv_at kv g1
    exact ⟨qv.1, v, e.key, e.val, y1, relV_key g2, by rw [g3]; exact y2, hg⟩
  obtain ⟨H2, I2, gr2, hT⟩ := DX.takeT (P := fun a vs => ∃ (j : Nat) (k : Key) (v : V), as[j]? = some a ∧ kvs[j]? = some (k, v) ∧ vs = [kV k, v]) I as H I1 ndA fun a ha => by
    obtain ⟨j, hj⟩ := List.mem_iff_getElem?.mp ha
    obtain ⟨k, v, u, w', y1, y2, y3, y4⟩ := pr j a hj
    exact ⟨Nat.le_of_lt (hG.above a ha), fresh a ha, [kV k, v], ⟨j, k, v, hj, y1, rfl⟩, fun H3 => ⟨by show 2 ≤ sizeLine; decide, [u, w'], .cons y2 (.cons y3 .nil), ⟨_, y4, rfl, _, rfl⟩⟩⟩
  classical
  let Hf2 : Hp := fun b => if b ∈ as then H2 b else Hf b
  have g2 : Grow Hf H Hf2 H2 := by
    refine ⟨fun b x e => ?_, gr2, fun b x e => ?_, fun b x e => ?_⟩
    · have : b ∉ as := fun z => by rw [Same.free sf (fresh b z)] at e; cases e
      simp only [Hf2, this, if_false]
      exact e
    · by_cases z : b ∈ as
      · exact .inr (fresh b z)
      · simp only [Hf2, z, if_false] at e
        exact .inl e
    · by_cases z : b ∈ as
      · simp only [Hf2, z, if_true] at e
        exact e
      · simp only [Hf2, z, if_false] at e
        exact gr2 _ _ (sf _ _ e)
  have rp2 : ∀ (j : Nat) (b : Addr) (dd : D), as[j]? = some b → (itmD kds)[j]? = some dd → Rp C.K Hf2 (.ref b) dd := fun j b dd hj hdd => by
    have hb : b ∈ as := List.mem_of_getElem? hj
    obtain ⟨ws, ⟨j', k, v, hj', hkv, rfl⟩, hH⟩ := hT b hb
    have ej : j' = j := by
      exact nd_ix ndA hj' hj
    subst ej
    unfold itmD at hdd
    rw [List.getElem?_map] at hdd
    obtain ⟨kd, hkd, rfl⟩ := Option.map_eq_some_iff.mp hdd
    obtain ⟨k2, v2, z1, z2, z3⟩ := rk.get hkd
    rw [hkv] at z1
    cases z1
    refine .tup (a := b) (xs := [kV k, v]) (by simp only [Hf2, hb, if_true]; exact hH) (by show 2 ≤ sizeLine; decide) (.cons ?_ (.cons (z3.mono g2.f) .nil))
    rw [z2]
    cases k <;> constructor
  have lasd : as.length = (itmD kds).length := by unfold itmD; rw [List.length_map]; omega
  have hoL : (h'.push (seqObj "list" (as.map Value.ref).toArray 0)).get? h'.objs.size = some (seqObj "list" (as.map Value.ref).toArray 0) := Heap.get?_push_size _ rfl
  have keep : ∀ b u, h'.get? b = some u → (h'.push (seqObj "list" (as.map Value.ref).toArray 0)).get? b = some u := fun b u e => Heap.get?_push_of_some _ e
  have hrd : ∀ (j : Nat) (v : Value) (dd : D), (as.map Value.ref)[j]? = some v → (itmD kds)[j]? = some dd → ∃ (b : Addr) (rs : List Addr), v = .ref b ∧ Rp C.K Hf2 (.ref b) dd ∧ Reads h' v dd rs := fun j v dd hj hdd => by
    rw [List.getElem?_map] at hj
    obtain ⟨b, hb, rfl⟩ := Option.map_eq_some_iff.mp hj
    have rp := rp2 j b dd hb hdd
    have hcan : noDict dd = true := noDict_of (canAll_mem o2 (List.mem_of_getElem? hdd))
    obtain ⟨rs, rd⟩ := Dp.reads I2 dd (.ref b) (.ref b) (by rw [← hK]; exact (rp.mono g2.sub).dp hcan) rfl
    exact ⟨b, rs, rfl, rp, rd⟩
  have hitm : ∀ dd ∈ itmD kds, ∃ a b, dd = .tuple [a, b] ∧ atomB a = true ∧ atomB b = true := fun dd hdd => by
    obtain ⟨kv, hkv, rfl⟩ := List.mem_map.mp hdd
    exact ⟨_, _, rfl, (hat kv hkv).1, (hat kv hkv).2⟩
  refine PySem.W.list_sort_data (s := { s with heap := h'.push (seqObj "list" (as.map Value.ref).toArray 0), toks := tk }) (bs := itmD kds) (enc := id) (R := fun v d => ∃ x, RelV x v ∧ Rp C.K Hf2 x d) hoL
    (each_ix (by rw [List.length_map]; exact lasd) fun j v dd hj hdd => by
      obtain ⟨b, rs, rfl, rp, rd⟩ := hrd j v dd hj hdd
      exact ⟨.ref b, rfl, rp⟩)
    (each_ix (by rw [List.length_map]; exact lasd) fun j v dd hj hdd => by
      obtain ⟨b, rs, rfl, rp, rd⟩ := hrd j v dd hj hdd
      obtain ⟨x, y, rfl, hx, hy⟩ := hitm dd (List.mem_of_getElem? hdd)
      have e0 := pair_noAddr hx hy rd
      subst e0
      exact ⟨[], PyProof.Rows.Reads.keeps keep rd, by simp⟩)
    (by rw [List.map_id]; exact fun d hd e he => o1.1 d hd e he)
    (by
      rw [List.map_id]
      refine .inl fun d hd => ?_
      obtain ⟨x, y, rfl, _, _⟩ := hitm d hd
      exact ⟨_, _, rfl⟩)
    (by unfold itmD; rw [List.length_map, sizeLine_eq]; omega)
    (fun b hb => by
      have := depth_mem hb
      simp only [id, Around.in1_units]
      omega) fun out l1 l2 => ?_
  obtain ⟨c, hcx⟩ := sortedHeap_at (vs := as.map Value.ref) (out := out.toArray) hoL
  obtain ⟨ys, rv2, ry⟩ := each_back l2
  have hyl : ys.length ≤ sizeLine := by
    rw [rv2.length, l1]
    unfold itmD
    rw [List.length_map, sizeLine_eq]
    omega
  have kp : ∀ b u, h'.get? b = some u → (sortedHeap (h'.push (seqObj "list" (as.map Value.ref).toArray 0)) h'.objs.size (as.map Value.ref) out.toArray).get? b = some u := fun b u e => by
    have lt := Heap.lt_size e
    rw [sortedHeap_old (Nat.ne_of_lt lt) (by rw [size_push']; exact Nat.lt_succ_of_lt lt)]
    exact Heap.get?_push_of_some _ e
  have np2 : H2 h'.objs.size = none := I2.hok.fresh (Nat.le_refl _)
  have np : H h'.objs.size = none := I.hok.fresh (Nat.le_of_lt hlt)
  have nf2 : Hf2 h'.objs.size = none := Same.free g2.sub np2
  refine ⟨.ref h'.objs.size, upd H2 h'.objs.size (.lst ys), I2.laid (t' := tk) kp (Nat.le_refl _) ⟨hyl, out, c, rv2, hcx⟩, rfl, q _ Hf2 _ ys ?_ np nf2 upd_same hyl ry⟩
  exact g2.trans (Grow.side g2.sub np2)
/-- sorted(o.items()) -/
theorem f_sortitems (hK : C.K = X.K) (hc : X.calm = true) (hu : X.A.units + 65 < cLine) (g1 : Gl X "sorted") (m1 : X.mg "sorted" = none) (ho : PE X o (tE C fo)) (hb : attributeBase o "items" X.env (eval o X.env) = eval o X.env) (hl : (apos.endLine == cpos.line) = true) :
    PE X (.Call (.Name "sorted" p) [.Call (.Attribute o "items" apos) [] [] cpos] [] pos) (tF C fun ρ => fo ρ >>= dSortItems) := by
  have h2 := pe_callB (p := p) (pos := pos) (c_sortIK hK hc hu) g1 m1 sorted_bl (pa_cons (pe_itemsV ho hb hl) pa_nil (star_cons (by rfl))) (by decide) (by decide) (star_cons (by rfl)) rfl
  refine PE.imp h2 fun σ H Q ⟨Hf0, H0, Hf, ρ, env, h⟩ => ⟨Hf0, H0, Hf, ρ, env, OutG.bind (show OutG C (RelF C H) Hf H (fo ρ >>= dSortItems) Q from h) fun d v Hf1 H1 _ gr r h3 => ?_⟩
  cases d with
  | dict kds =>
    have h3 : OutG C (RelF C H) Hf1 H1 (if dkB kds && ((kds.all fun kv => atomB kv.2) && (sortOk (itmD kds) && decide (kds.length ≤ 100000))) then .ok (.list (sortD (itmD kds))) else .bad) Q := h3
    split at h3
    · rename_i hk
      simp only [Bool.and_eq_true, decide_eq_true_eq, List.all_eq_true] at hk
      generalize e : (PyData.dict kds : D) = z at r
      cases r with
      | scr q1 q2 =>
        cases e
        simp [dkB, keyOfD] at hk
      | @dic a ob kvs _ q1 q2 q3 =>
        cases e
        refine ⟨a, kvs, rfl, .inr ⟨ob, gr.sub _ _ q1⟩, fun pv npv => ?_⟩
        have gs := Grow.side (o := DX.itemsO pv a) gr.sub npv
        refine ⟨Hf1, pv, a, ob, kvs, kds, gs.sub, rfl, upd_same, q1, q3, fun kv hkv => ⟨?_, hk.2.1 kv hkv⟩, hk.2.2.1, hk.2.2.2, fun H' Hf' l ys g' n1 n2 n3 n4 n5 => ?_⟩
        · have := List.all_eq_true.mp hk.1 kv hkv
          obtain ⟨k', ek⟩ := Option.isSome_iff_exists.mp this
          rw [keyOf_ok ek]
          cases k' <;> rfl
        · refine h3 _ Hf' H' (gs.trans g') ⟨l, rfl, ?_, ys, n2, n3, n4, n5⟩
          exact Same.free gr.h (Same.free gs.h n1)
      | _ => cases e
    · exact h3.elim
  | _ => exact h3.elim
end
end DL
/-! The data layer: try .. except FleetError as e: return [isinstance(e, C), ..].index(True). -/
namespace DL
open PySem PySem.Spec PyProof.Rows L2
/-- isinstance(n, C): the class's name -/
def isxOf (n : Str) : Expr → Option Str
  | .Call (.Name f _) [.Name m _, .Name c _] [] _ => if f == ("isinstance" : Str) && m == n then some c else none
  | _ => none
def isxs (n : Str) : List Expr → Option (List Str)
  | [] => some []
  | e :: es => (match isxOf n e, isxs n es with | some c, some cs => some (c :: cs) | _, _ => none)
def fTryIx (known : Str → Bool) (fb : Env → R Out) (cs : List Str) : Env → R Out := fun ρ => match fb ρ with
  | .exc c => if known c then (match cs.findIdx? fun k => k == c with | some j => .ok (.rt (.int j)) | none => .bad) else .bad
  | r => r
/-- what is known of the errors' classes -/
structure XcOk (X : Cx) (cl : Str → Addr) (known : Str → Bool) : Prop where
  glo : ∀ k, known k = true → X.mg k = some (.ref (cl k))
  exc : ∀ c, known c = true → ExcC X.K (cl c)
  exm : ∀ c, known c = true → PySem.W.exmOne X.K (.ref (cl c)) (.ref (cl "FleetError")) = some true
  kit : ∀ c k, known c = true → known k = true → k ≠ "FleetError" → PySem.W.kitOne X.K (.ref (cl c)) (.ref (cl k)) = some (decide (c = k))
section
variable {X : Cx} {cl : Str → Addr} {known : Str → Bool} {a : Addr} {oe : Obj} {pn : List (Addr × Obj)} {i : Nat} {n c : Str}
/-- what a name is to be seen as -/
structure NmOk (X : Cx) (k : Str) : Prop where
  gl : Gl X k
  db : (k == ("__debug__" : Str)) = false
theorem pe_isx {k : Str} {p p1 p2 pos : Pos} (x : XcOk X cl known) (hz : Zc (.ref (cl c)) none oe) (hf : ∃ vs, oe.data = .fields vs) (hc : known c = true) (hk : known k = true) (hne : k ≠ "FleetError") (hN : X.N[i]? = some n) (hv : Vis X.env.scope n)
    (hd : (n == ("__debug__" : Str)) = false) (hcd : (n == ("__classdict__" : Str)) = false) (hg : Gl X "isinstance") (hm : X.mg "isinstance" = none) (nk : NmOk X k) :
    PE (X.suite a ((a, oe) :: pn)) (.Call (.Name "isinstance" p) [.Name n p1, .Name k p2] [] pos) (fun σ H Q => σ[i]? = some (some (.ref a)) ∧ Q (.bl (decide (c = k))) H) := by
  have h1 : PA (X.suite a ((a, oe) :: pn)) [.Name n p1, .Name k p2] (tCons (tVar i) (tCons (tC (.ref (cl k))) tNil)) :=
    pa_cons (pe_var hN hv hd hcd) (pa_cons (pe_glob nk.gl (x.glo k hk) rfl nk.db) pa_nil)
  refine PE.imp (pe_callB (call_isE (x.exc c hc) hz hf) hg hm (by decide +kernel) h1) fun σ H Q ⟨hs, q⟩ => ?_
  exact ⟨.ref a, hs, .ref (cl k), .ref (cl k), decide (c = k), rfl, fun u r => r, x.kit c k hc hk hne, q⟩
theorem pa_isxs (x : XcOk X cl known) (hz : Zc (.ref (cl c)) none oe) (hf : ∃ vs, oe.data = .fields vs) (hc : known c = true) (hN : X.N[i]? = some n) (hv : Vis X.env.scope n)
    (hd : (n == ("__debug__" : Str)) = false) (hcd : (n == ("__classdict__" : Str)) = false) (hg : Gl X "isinstance") (hm : X.mg "isinstance" = none) :
    ∀ {es : List Expr} {cs : List Str}, isxs n es = some cs → (∀ k ∈ cs, known k = true ∧ k ≠ "FleetError" ∧ NmOk X k) → PA (X.suite a ((a, oe) :: pn)) es (fun σ H Q => σ[i]? = some (some (.ref a)) ∧ Q (cs.map fun k => .bl (decide (c = k))) H)
  | [], cs, h, _ => by
    cases h
    exact PA.imp pa_nil fun σ H Q ⟨_, q⟩ => q
  | e :: es, cs, h, hk => by
    unfold isxs at h
    split at h
    · rename_i k cs' h1 h2
      cases h
      unfold isxOf at h1
      split at h1
      · split at h1
        · rename_i q
          cases h1
          simp only [Bool.and_eq_true] at q
          have e1 := eq_of_beq q.1
          have e2 := eq_of_beq q.2
          rw [e1, e2]
          obtain ⟨k1, k2, k3⟩ := hk k (by simp)
          exact PA.imp (pa_cons (pe_isx x hz hf hc k1 k2 hN hv hd hcd hg hm k3) (pa_isxs x hz hf hc hN hv hd hcd hg hm h2 fun y hy => hk y (by simp [hy]))) fun σ H Q ⟨hs, q⟩ => ⟨hs, hs, q⟩
        · cases h1
      · cases h1
    · cases h
theorem dp_bools {K : PySem.W.Frag} {H : Hp} : ∀ bs : List Bool, DpAll K H (bs.map V.bl) (bs.map PyData.bool)
  | [] => .nil
  | b :: bs => .cons (.bl b) (dp_bools bs)
theorem shaped_bools (bs : List Bool) : SeqAt.shaped (.list (bs.map PyData.bool)) = true := by
  have h1 : PyData.canLayAll0 (bs.map PyData.bool) = true := by induction bs <;> simp_all [PyData.canLayAll0, PyData.canLay0]
  have h2 : PyData.depthAll (bs.map PyData.bool) = 0 := by
    clear h1
    induction bs <;> simp_all [PyData.depthAll, PyData.depth]
  show (PyData.canLay0 (.list (bs.map PyData.bool)) && decide (PyData.depth (.list (bs.map PyData.bool)) ≤ 64)) = true
  rw [Bool.and_eq_true]
  refine ⟨by simp only [PyData.canLay0]; exact h1, decide_eq_true ?_⟩
  simp only [PyData.depth, h2]
  decide
theorem ret_isx {es : List Expr} {cs : List Str} {j : Nat} {lp ap cp rp bp : Pos} {ck : Nat} (x : XcOk X cl known) (hz : Zc (.ref (cl c)) none oe) (hf : ∃ vs, oe.data = .fields vs) (hc : known c = true) (hN : X.N[i]? = some n) (hv : Vis X.env.scope n)
    (hd : (n == ("__debug__" : Str)) = false) (hcd : (n == ("__classdict__" : Str)) = false) (hg : Gl X "isinstance") (hm : X.mg "isinstance" = none) (hu : X.A.units + 65 < cLine) (hl : (ap.endLine == cp.line) = true)
    (he : isxs n es = some cs) (hk : ∀ k ∈ cs, known k = true ∧ k ≠ "FleetError" ∧ NmOk X k) (hj : cs.findIdx? (fun k => k == c) = some j) :
    PSs (X.suite a ((a, oe) :: pn)) [.Return (some (.Call (.Attribute (.List es lp) "index" ap) [.Constant (.bool true) ck bp] [] cp)) rp] (fun D σ H => σ[i]? = some (some (.ref a)) ∧ cs.length ≤ sizeLine ∧ ∀ l, H l = none → D.rt (.int j) (upd H l (.lst (cs.map fun k => .bl (decide (c = k)))))) := by
  have hu' : (X.suite a ((a, oe) :: pn)).A.units + 65 < cLine := hu
  have hp : PE (X.suite a ((a, oe) :: pn)) (.Call (.Attribute (.List es lp) "index" ap) [.Constant (.bool true) ck bp] [] cp) (tBM X.K "list" (rIndexD X.K) (tLst fun σ H Q => σ[i]? = some (some (.ref a)) ∧ Q (cs.map fun k => .bl (decide (c = k))) H) (tCons (tC (.bl true)) tNil)) :=
    pe_bm PySem.F.plainAttrs_list PySem.F.slot_list_index PySem.F.type_list_index (mt_indexD hu') (pe_lst (pa_isxs x hz hf hc hN hv hd hcd hg hm he hk)) (pa_cons pe_bl pa_nil) rfl rfl hl rfl rfl
  refine ⟨fun pins s σ H D I h => (pss_one (ps_ret hp)).run pins s σ H D I ?_⟩
  obtain ⟨hs, hlen, q⟩ := h
  refine ⟨hs, by simpa using hlen, fun l hl => ⟨.inl ⟨rfl, _, SqL.of upd_same⟩, ?_⟩⟩
  obtain ⟨q1, q2, q3⟩ := List.findIdx?_eq_some_iff_getElem.mp hj
  have e1 : (cs.map fun k => V.bl (decide (c = k))) = (cs.map fun k => decide (c = k)).map V.bl := by rw [List.map_map]; rfl
  refine ⟨l, .bl true, .bool true, (cs.map fun k => decide (c = k)).map PyData.bool, j, .bool true, rfl, rfl, ?_, .bl true, ?_, rfl, ?_, rfl, fun m z' hm hz' => ?_, q l hl⟩
  · rw [e1]
    exact .lst (SqL.of upd_same) (dp_bools _)
  · exact shaped_bools _
  · have : cs[j] = c := eq_of_beq q2
    simp [q1, this]
  · have hm' : m < cs.length := by omega
    have := q3 m hm
    simp [hm'] at hz'
    subst hz'
    have hne : ¬ c = cs[m] := fun e => this (by rw [← e]; exact beq_self_eq_true c)
    simp [PyData.eqv, hne]
/-- a try whose clause tells which error it was -/
theorem s_try {C : Pm} (hCfr : C.fr = false) {es : List Expr} {cs : List Str} {body : List Stmt} {fb : Env → R Out} {np lp ap cp rp bp hp pos : Pos} {ck : Nat} (x : XcOk X C.cl known) (hkF : known "FleetError" = true) (hK : C.K = X.K)
    (hs : X.stack = X.env :: X.outer) (hfr : X.env.frame = some X.env.locals) (nd : X.N.Nodup) (hN : X.N[i]? = some n) (hln : X.env.kindOf n = some .local)
    (hd : (n == ("__debug__" : Str)) = false) (hcd : (n == ("__classdict__" : Str)) = false) (hg : Gl X "isinstance") (hm : X.mg "isinstance" = none) (hu : X.A.units + 65 < cLine) (hl : (ap.endLine == cp.line) = true)
    (hgF : Gl X "FleetError") (tk : Takes X fun cls d _ H => C.E cls d H)
    (he : isxs n es = some cs) (hk : ∀ k ∈ cs, known k = true ∧ k ≠ "FleetError" ∧ NmOk X k) (hlen : cs.length ≤ 1000)
    (hb : ∀ (pn : List (Addr × Obj)) (xe : Value → Shared → Prop) (E : XK), Takes (X.tr pn xe) (fun cls d _ H => E cls d H) → PassesOwn (model X.prog X.w) X.A X.env xe → PSs (X.tr pn xe) body (tS { C with E := E } fb)) :
    PS X (.Try body [.ExceptHandler (some (.Name "FleetError" np)) (some n) [.Return (some (.Call (.Attribute (.List es lp) "index" ap) [.Constant (.bool true) ck bp] [] cp)) rp] hp] [] [] pos) (tS C (fTryIx known fb cs)) := by
  let ts : Addr → Value → Option Addr → TS := fun a cls d D σ H => d = none ∧ ∃ c j, known c = true ∧ cls = .ref (C.cl c) ∧ cs.findIdx? (fun k => k == c) = some j ∧ σ[i]? = some (some (.ref a)) ∧ cs.length ≤ sizeLine ∧ ∀ l, H l = none → D.rt (.int j) (upd H l (.lst (cs.map fun k => .bl (decide (c = k)))))
  refine PS.imp (ps_try_as (tb := fun W => tS { C with E := fun cls d H => ∀ σ : L2.St, σ.length = X.N.length → W cls d σ H } fb) (ts := ts) hs hfr nd hN hln ⟨hgF, by decide, .inl (x.glo _ hkF)⟩ tk (fun W pn xe tkW own => hb pn xe _ ?_ own) ?_) ?_
  · rintro u s' ⟨a, B, sI, pins, σ, H, cls, d, e, I, nb, up, sky, na, os, ag, w⟩
    exact tkW u s' ⟨a, B, sI, pins, σ, H, cls, d, e, I, nb, up, sky, na, os, ag, w σ I.len⟩
  · intro a oe cls d pn hz hf
    refine ⟨fun pins s σ H D I h => ?_⟩
    obtain ⟨rfl, c, j, hc, rfl, hj, h1, h2, h3⟩ := h
    exact (ret_isx x hz hf hc hN (.inl hln) hd hcd hg hm hu hl he hk hj).run pins s σ H D I ⟨h1, h2, h3⟩
  · intro D σ H ⟨Hf0, H0, Hf, ρ, env, h⟩
    refine ⟨Hf0, H0, Hf, ρ, env, ?_⟩
    unfold fTryIx at h
    cases e : fb ρ with
    | bad => rw [e] at h; exact h
    | ok o =>
      rw [e] at h
      cases o <;> exact h
    | exc c =>
      rw [e] at h
      dsimp only at h
      split at h
      · rename_i hc
        split at h
        · rename_i j hj
          intro Hf' H' g σ' hlen'
          refine ⟨true, x.exm c hc, fun _ a ha => ⟨rfl, c, j, hc, rfl, hj, ?_, by rw [sizeLine_eq]; omega, fun l hl => ?_⟩, fun z => nomatch z⟩
          · have : i < σ'.length := by
              rw [hlen']
              exact (List.getElem?_eq_some_iff.mp hN).1
            simp [this]
          · exact h (.int j) Hf' _ (g.trans (Grow.side g.sub hl)) (.val hCfr (.int _))
        · exact h.elim
      · exact h.elim
end
end DL
/-! The data layer: the evaluator of expressions, and that it is right. -/
namespace DL
open PySem PySem.Spec PyProof.Rows L2
structure Tbl where
  fn : Str → Option (Nat × (List D → R D))
  con : Str → Option D
  exc : Str → Bool
  fo : Str → Option (Nat × (List D → R D))
/-- where one stands: the scope, the names that may be stored -/
structure Sc where
  sc : Scope
  wr : List Str
  fr : Bool
def nIx (N : List Str) (x : Str) : Option Nat := N.findIdx? (· == x)
def okN (x : Str) : Bool := !(x == ("__debug__" : Str)) && !(x == ("__classdict__" : Str)) && !(x == ("__name__" : Str))
def isVis (sc : Scope) (x : Str) : Bool := match sc.names.lookup x with
  | some .local => true
  | some .cell => true
  | some .free => true
  | _ => false
def isLoc (sc : Scope) (x : Str) : Bool := match sc.names.lookup x with
  | some .local => true
  | some .cell => true
  | _ => false
def isGl (sc : Scope) (x : Str) : Bool := match sc.names.lookup x with
  | some .globalImplicit => true
  | _ => false
def relab (sc scope : Scope) : Scope := { scope with names := scope.names.map fun (n, k) => if (k == .free && sc.kind == .function && sc.names.lookup n == some .cell) then (n, .cell) else (n, k) }
def ownOf (N : List Str) (scope : Scope) : List (Str × Nat) := scope.names.filterMap fun y => match y.2 with
  | .local => (nIx N y.1).map fun i => (y.1, i)
  | .cell => (nIx N y.1).map fun i => (y.1, i)
  | _ => none
structure Ev where
  E : Sc → Expr → Env → R D
  P : Sc → Expr → Env → R D
  F : Sc → Expr → Option (Env → R D)
  B : Sc → Expr → Env → R Bool
  I : Sc → Expr → Expr → Env → R (List D)
def Ev.none : Ev := ⟨fun _ _ _ => .bad, fun _ _ _ => .bad, fun _ _ => Option.none, fun _ _ _ => .bad, fun _ _ _ _ => .bad⟩
def bad1 {α : Type} : Env → R α := fun _ => .bad
def argsE (v : Ev) (s : Sc) : List Expr → Env → R (List D)
  | [] => fun _ => .ok []
  | e :: es => if isStar e then bad1 else fCons (v.E s e) (argsE v s es)
def argsP (v : Ev) (s : Sc) : List Expr → Env → R (List D)
  | [] => fun _ => .ok []
  | e :: es => if isStar e then bad1 else fCons (v.P s e) (argsP v s es)
def andL (v : Ev) (s : Sc) : List Expr → Env → R D
  | [] => bad1
  | [a] => v.E s a
  | a :: b :: r => fAnd (v.P s a) (andL v s (b :: r))
def orL (v : Ev) (s : Sc) : List Expr → Env → R D
  | [] => bad1
  | [a] => v.E s a
  | a :: b :: r => fOr (v.P s a) (orL v s (b :: r))
def andT (v : Ev) (s : Sc) : List Expr → Env → R Bool
  | [] => bad1
  | [a] => v.B s a
  | a :: b :: r => tstAnd (v.B s a) (andT v s (b :: r))
def orT (v : Ev) (s : Sc) : List Expr → Env → R Bool
  | [] => bad1
  | [a] => v.B s a
  | a :: b :: r => tstOr (v.B s a) (orT v s (b :: r))
def partE (v : Ev) (s : Sc) : Option Expr → Env → R (Option Int)
  | none => fun _ => .ok none
  | some e => fun ρ => v.P s e ρ >>= dPart
section
variable (T : Tbl) (N : List Str)
/-- a name's place, if it may be stored -/
def stIx (s : Sc) (x : Str) : Option Nat := if isLoc s.sc x && s.wr.contains x then nIx N x else none
def nmsIx (s : Sc) : List Expr → Option (List Nat)
  | [] => some []
  | .Name x _ :: es => (stIx N s x).bind fun i => (nmsIx s es).map (i :: ·)
  | _ :: _ => none
def tgOf (s : Sc) : Expr → Option Tg
  | .Name x _ => (stIx N s x).map .one
  | .Tuple es _ _ => (nmsIx N s es).map .many
  | _ => none
def ifsT (v : Ev) (s : Sc) : List Expr → Option (Env → R Bool)
  | [] => some fun _ => .ok true
  | [c] => some (v.B s c)
  | _ => none
def isSetE : Expr → Bool
  | .Set .. => true
  | _ => false
def glF (s : Sc) (f : Str) : Bool := isGl s.sc f && okN f && (T.fn f).isNone
/-- what stands in set(..) -/
def setArg (s : Sc) : Expr → Option Expr
  | .Call (.Name g _) [b] [] _ => if glF T s g && g == ("set" : Str) && !isStar b then some b else none
  | _ => none
/-- what stands in o.items() -/
def itmArg : Expr → Option Expr
  | .Call (.Attribute o m ap) [] [] cp => if m == ("items" : Str) && baseOk o && (ap.endLine == cp.line) then some o else none
  | _ => none
def stepF (v : Ev) (s : Sc) : Expr → Option (Env → R D)
  | .Dict [] [] _ => some fun _ => .ok (.dict [])
  | .Dict [some k] [x] _ => some fun ρ => v.E s k ρ >>= fun dk => v.E s x ρ >>= fun dv => dDict1 dk dv
  | .List es _ => some fun ρ => argsE v s es ρ >>= fun ds => okLen ds .list
  | .ListComp elt [⟨tg, iter, ifs, asy⟩] scope _ =>
    if decide (asy = 0) && blkC N s.sc scope (ownOf N scope) && !isSetE iter then
      (tgOf N ⟨relab s.sc scope, (ownOf N scope).map (·.1), false⟩ tg).bind fun t => (ifsT v ⟨relab s.sc scope, (ownOf N scope).map (·.1), false⟩ ifs).bind fun ft =>
        if t.ixs.all (fun i => ((ownOf N scope).map (·.2)).contains i) then
          some (fLc (v.I s tg iter) t ft (v.E ⟨relab s.sc scope, (ownOf N scope).map (·.1), false⟩ elt) ((ownOf N scope).map (·.2)))
        else none
    else none
  | .Call (.Name f _) [a] [] _ =>
    if glF T s f && f == ("list" : Str) && !isStar a then some fun ρ => argsP v s [a] ρ >>= dList
    else if glF T s f && f == ("dict" : Str) && !isStar a then some fun ρ => argsP v s [a] ρ >>= dDict
    else if glF T s f && f == ("sorted" : Str) && !isStar a then (match setArg T s a with
      | some b => some fun ρ => argsP v s [b] ρ >>= dSortSet
      | none => (match itmArg a with
        | some o => some fun ρ => v.E s o ρ >>= dSortItems
        | none => some fun ρ => argsP v s [a] ρ >>= dSorted))
    else none
  | .Call (.Name f _) (e :: es) [] _ =>
    if isGl s.sc f && okN f then
      match T.fo f with
      | some (n, F) => if (e :: es).all (fun e => !isStar e) then some fun ρ => argsE v s (e :: es) ρ >>= ari n F else none
      | none => none
    else none
  | _ => none
def blt (f : Str) : Option (List D → R D) :=
  if f == ("len" : Str) then some dLen else if f == ("all" : Str) then some dAll else if f == ("any" : Str) then some dAny else if f == ("abs" : Str) then some dAbs
  else if f == ("max" : Str) then some dMax else if f == ("min" : Str) then some dMin else if f == ("tuple" : Str) then some dTuple else none
def isiOf (t : Str) : Option String := isiTys.find? fun n => t == Str.ofString n
def stepE0 (v : Ev) (s : Sc) : Expr → Env → R D
  | .Name x _ => if isVis s.sc x && okN x then (match nIx N x with | some i => rdE i | none => bad1) else if isGl s.sc x && okN x then (match T.con x with | some d => fun _ => .ok d | none => bad1) else bad1
  | .Constant c _ _ => (match conD c with | some d => fun _ => .ok d | none => bad1)
  | .BinOp a op b _ => fun ρ => v.P s a ρ >>= fun x => v.P s b ρ >>= fun y => dBin op x y
  | .UnaryOp .Not a _ => fun ρ => v.P s a ρ >>= dNot
  | .UnaryOp .USub a _ => fun ρ => v.P s a ρ >>= dNeg
  | .BoolOp .And es _ => andL v s es
  | .BoolOp .Or es _ => orL v s es
  | .Compare a [op] [b] _ => if behindInMarks op b then bad1 else fun ρ => v.P s a ρ >>= fun x => v.P s b ρ >>= fun y => asBool (dCmp op x y)
  | .Compare a [op, op'] [b, c] _ => if lastMarks [op, op'] [b, c] then bad1 else fun ρ => asBool (fChain (dCmp op) (dCmp op') (v.P s a) (v.P s b) (v.P s c) ρ)
  | .Compare a [op, op', op2] [b, c, d] _ => if lastMarks [op, op', op2] [b, c, d] then bad1 else fun ρ => asBool (fChain3 (dCmp op) (dCmp op') (dCmp op2) (v.P s a) (v.P s b) (v.P s c) (v.P s d) ρ)
  | .IfExp c a b _ => fIf (v.B s c) (v.E s a) (v.E s b)
  | .Tuple es _ _ => fun ρ => argsE v s es ρ >>= fun ds => okLen ds .tuple
  | .Subscript a (.Slice lo hi none _) _ => fun ρ => v.P s a ρ >>= fun x => partE v s lo ρ >>= fun l => partE v s hi ρ >>= fun u => dSl x l u
  | .Subscript a (.Slice none none (some (.UnaryOp .USub (.Constant (.int 1) _ _) _)) _) _ => fun ρ => v.P s a ρ >>= fun x => (R.ok none : R (Option Int)) >>= fun l => dRev x l
  | .Subscript a (.Slice (some lo) none (some (.UnaryOp .USub (.Constant (.int 1) _ _) _)) _) _ => fun ρ => v.P s a ρ >>= fun x => match x with | .tuple _ => partE v s (some lo) ρ >>= fun l => dRev x l | _ => .bad
  | .Subscript _ (.Slice ..) _ => bad1
  | .Subscript a b _ => fun ρ => v.P s a ρ >>= fun x => v.P s b ρ >>= fun y => dIx x y
  | .Call (.Name f _) (e :: es) [] _ =>
    if isGl s.sc f && okN f then
      match T.fn f with
      | some (n, F) => if (e :: es).all (fun e => !isStar e) then fun ρ => argsE v s (e :: es) ρ >>= ari n F else bad1
      | none =>
        if f == ("isinstance" : Str) then
          match es with
          | [.Name t _] => (match isiOf t with
            | some tn => if isGl s.sc t && (T.fn t).isNone && !isStar e then fun ρ => v.P s e ρ >>= dIsi tn else bad1
            | none => bad1)
          | _ => bad1
        else match blt f with
          | some F => if (e :: es).all (fun e => !isStar e) then fun ρ => argsP v s (e :: es) ρ >>= F else bad1
          | none => bad1
    else bad1
  | .Call (.Attribute o m ap) [e] [] cp =>
    if !isStar e && baseOk o && (ap.endLine == cp.line) then
      if m == ("index" : Str) then fMeth dIndex (v.P s o) (v.P s e) else if m == ("count" : Str) then fMeth dCount (v.P s o) (v.P s e) else bad1
    else bad1
  | .Call (.Attribute o m ap) [e, g] [] cp => if m == ("get" : Str) && !isStar e && !isStar g && baseOk o && (ap.endLine == cp.line) then fGet (v.P s o) (v.P s e) (v.E s g) else bad1
  | _ => bad1
def stepE (v : Ev) (s : Sc) (e : Expr) : Env → R D := match stepF T N v s e with
  | some f => f
  | none => stepE0 T N v s e
def stepP (v : Ev) (s : Sc) (e : Expr) : Env → R D := match e with
  | .Name x _ => if isVis s.sc x && okN x then (match nIx N x with | some i => rdP i | none => bad1) else stepE T N v s e
  | e => stepE T N v s e
def stepB (v : Ev) (s : Sc) : Expr → Env → R Bool
  | .UnaryOp .Not a _ => tstNot (v.B s a)
  | .BoolOp .And es _ => andT v s es
  | .BoolOp .Or es _ => orT v s es
  | .Compare a [op] [b] _ => if behindInMarks op b then bad1 else fun ρ => v.P s a ρ >>= fun x => v.P s b ρ >>= fun y => dCmp op x y
  | .Compare a [op, op'] [b, c] _ => if lastMarks [op, op'] [b, c] then bad1 else fChain (dCmp op) (dCmp op') (v.P s a) (v.P s b) (v.P s c)
  | .Name x p => fun ρ => v.P s (.Name x p) ρ >>= dTru
  | .Call f es ks p => fun ρ => v.P s (.Call f es ks p) ρ >>= dTru
  | .Constant c k p => fun ρ => v.P s (.Constant c k p) ρ >>= dTru
  | .Subscript a b p => fun ρ => v.P s (.Subscript a b p) ρ >>= dTru
  | _ => bad1
def stepI (v : Ev) (s : Sc) (tg : Expr) : Expr → Env → R (List D)
  | .Call (.Name f p) [a] [] q =>
    if glF T s f && f == ("range" : Str) && !isStar a then fun ρ => argsP v s [a] ρ >>= dRng1
    else if glF T s f && f == ("enumerate" : Str) && !isStar a then (match tg with
      | .Tuple .. => fun ρ => argsE v s [a] ρ >>= dEnum
      | _ => bad1)
    else fun ρ => v.E s (.Call (.Name f p) [a] [] q) ρ >>= dItems
  | .Call (.Name f p) [a, b] [] q =>
    if glF T s f && f == ("range" : Str) && !isStar a && !isStar b then fun ρ => argsP v s [a, b] ρ >>= dRng2
    else if glF T s f && f == ("zip" : Str) && !isStar a && !isStar b then (match tg with
      | .Tuple .. => fun ρ => argsE v s [a, b] ρ >>= dZip
      | _ => bad1)
    else fun ρ => v.E s (.Call (.Name f p) [a, b] [] q) ρ >>= dItems
  | .Call (.Attribute o m ap) [] [] cp => if m == ("items" : Str) && baseOk o && (ap.endLine == cp.line) then (match tg with
      | .Tuple .. => fun ρ => v.E s o ρ >>= dPairs
      | _ => bad1) else bad1
  | e => fun ρ => v.E s e ρ >>= dItems
def step (v : Ev) : Ev := ⟨stepE T N v, stepP T N v, stepF T N v, stepB v, stepI T v⟩
def ev : Nat → Ev
  | 0 => Ev.none
  | n + 1 => step T N (ev n)
end
/-! ### what the evaluator leans on -/
def blts : List Str := ["isinstance", "int", "bool", "str", "tuple", "list", "dict", "len", "all", "any", "abs", "max", "min", "sorted", "range", "zip", "enumerate", "set", "sum"]
structure CxOk (T : Tbl) (N : List Str) (X : Cx) (C : Pm) (s : Sc) : Prop where
  eK : C.K = X.K
  calm : X.calm = true
  eN : X.N = N
  nd : N.Nodup
  sc : X.env.scope = s.sc
  kind : s.sc.kind = .function
  wr : ∀ x ∈ s.wr, X.fn x = true ∨ s.sc.names.lookup x = some .local
  units : X.A.units + 65 < cLine
  tk : Takes X fun cls d _ H => C.E cls d H
  fn : ∀ (x : Str) (n : Nat) (F : List D → R D), T.fn x = some (n, F) → ∃ (k : Nat) (f : Addr) (fd : FuncData) (ps : List Str), FnOk X.prog X.w X.K X.mg X.base (L2.CX X.prog X.w) k f fd ps (spD X.K C.cl n F) ∧ Room k X.A ∧ X.mg x = some (.ref f) ∧ PySem.W.keepIn X.K (.ref f) = true ∧ Binds X.K fd ps []
  fo : ∀ (x : Str) (n : Nat) (F : List D → R D), T.fo x = some (n, F) → ∃ (k : Nat) (f : Addr) (fd : FuncData) (ps : List Str), FnOk X.prog X.w X.K X.mg X.base (L2.CX X.prog X.w) k f fd ps (spF X.K C.cl n F) ∧ Room k X.A ∧ X.mg x = some (.ref f) ∧ PySem.W.keepIn X.K (.ref f) = true ∧ Binds X.K fd ps []
  fr : s.fr = C.fr
  con : ∀ (x : Str) (d : D), T.con x = some d → ∃ (v : V) (u : Value), X.mg x = some u ∧ RelV v u ∧ FlatV v d
  free : ∀ x ∈ blts, T.fn x = none → X.mg x = none
  exc : ∀ x, T.exc x = true → ExcOk X C.cl x
  xc : T.exc "FleetError" = true → XcOk X C.cl T.exc
section
variable {T : Tbl} {N : List Str} {X : Cx} {C : Pm} {s : Sc}
theorem nIx_ok {x : Str} {i : Nat} (h : nIx N x = some i) : N[i]? = some x := by
  unfold nIx at h
  rw [List.findIdx?_eq_some_iff_getElem] at h
  obtain ⟨h1, h2, _⟩ := h
  rw [List.getElem?_eq_getElem h1]
  exact congrArg some (by simpa using h2)
theorem okN_of {x : Str} (h : okN x = true) : (x == ("__debug__" : Str)) = false ∧ (x == ("__classdict__" : Str)) = false ∧ x ≠ "__name__" := by
  simp only [okN, Bool.and_eq_true, Bool.not_eq_true'] at h
  exact ⟨h.1.1, h.1.2, fun e => by rw [e] at h; simp at h⟩
theorem CxOk.vis (o : CxOk T N X C s) {x : Str} (h : isVis s.sc x = true) : Vis X.env.scope x := by
  rw [o.sc]
  unfold isVis at h
  unfold Vis
  split at h
  · rename_i e; exact .inl e
  · rename_i e; exact .inr (.inl e)
  · rename_i e; exact .inr (.inr e)
  · cases h
theorem CxOk.gl (o : CxOk T N X C s) {x : Str} (h : isGl s.sc x = true) : Gl X x := by
  show X.env.scope.names.lookup x = _
  rw [o.sc]
  unfold isGl at h
  split at h
  · rename_i e; exact e
  · cases h
theorem CxOk.st (o : CxOk T N X C s) {x : Str} {i : Nat} (h : stIx N s x = some i) : StoreOk X i x := by
  unfold stIx at h
  split at h
  · rename_i c
    simp only [Bool.and_eq_true] at c
    refine ⟨by rw [o.eN]; exact nIx_ok h, ?_, ?_⟩
    · have c1 := c.1
      rw [o.sc]
      unfold isLoc at c1
      split at c1
      · rename_i e; exact .inl e
      · rename_i e; exact .inr e
      · cases c1
    · rw [o.sc]
      exact o.wr x (by simpa using c.2)
  · cases h
theorem CxOk.nms (o : CxOk T N X C s) : ∀ {es : List Expr} {is : List Nat}, nmsIx N s es = some is → Nms X es is
  | [], is, h => by
    unfold nmsIx at h
    cases h
    exact .nil
  | e :: es, is, h => by
    unfold nmsIx at h
    split at h
    · rename_i e1; cases e1
    · rename_i x p es' e1
      cases e1
      cases q : stIx N s x with
      | none => rw [q] at h; cases h
      | some i =>
        rw [q] at h
        cases q2 : nmsIx N s es with
        | none => rw [q2] at h; cases h
        | some js =>
          rw [q2] at h
          cases h
          exact .cons (o.st q) (CxOk.nms o q2)
    · cases h
theorem CxOk.ndX (o : CxOk T N X C s) : X.N.Nodup := by rw [o.eN]; exact o.nd
theorem CxOk.tg (o : CxOk T N X C s) {e : Expr} {t : Tg} (h : tgOf N s e = some t) : PG X e (tGt C t) := by
  unfold tgOf at h
  split at h
  · rename_i x p
    cases q : stIx N s x with
    | none => rw [q] at h; cases h
    | some i =>
      rw [q] at h
      cases h
      exact g_one o.ndX (o.st q)
  · rename_i es k p
    cases q : nmsIx N s es with
    | none => rw [q] at h; cases h
    | some is =>
      rw [q] at h
      cases h
      exact g_many o.eK o.calm o.ndX (o.nms q)
  · cases h
theorem relab_eq {scope : Scope} {env : PySem.Env} : relabel scope env = relab env.scope scope := rfl
theorem lookup_mem {names : List (Str × NameKind)} {x : Str} {k : NameKind} (h : (x, k) ∈ names) (u : ∀ y ∈ names, names.lookup y.1 = some y.2) : names.lookup x = some k := u (x, k) h
/-- a comprehension's block -/
theorem CxOk.blk (o : CxOk T N X C s) {scope : Scope} {h0 : Shared} {H : Hp} {Ca : Addr} {cl : List (Str × Addr)} {fp : List Addr} (ok : BlkOk N s.sc scope (ownOf N scope)) :
    CxOk T N (X.blk h0 H scope (compEnvC scope cl Ca X.env) fp) C.calm ⟨relab s.sc scope, (ownOf N scope).map (·.1), false⟩ where
  eK := o.eK
  calm := o.calm
  eN := o.eN
  nd := o.nd
  sc := by show relabel scope X.env = _; rw [relab_eq, o.sc]
  kind := ok.kind
  wr := fun x hx => by
    obtain ⟨⟨y, i⟩, hy, rfl⟩ := List.mem_map.mp hx
    unfold ownOf at hy
    obtain ⟨⟨z, k⟩, hz, e⟩ := List.mem_filterMap.mp hy
    have lk := ok.uniq (z, k) hz
    cases k with
    | «local» =>
      cases q : nIx N z with
      | none => simp [q] at e
      | some j =>
        simp [q] at e
        obtain ⟨rfl, rfl⟩ := e
        right
        show (relab s.sc scope).names.lookup z = _
        exact lookup_relabel_local (env := { X.env with scope := s.sc }) lk
    | cell =>
      cases q : nIx N z with
      | none => simp [q] at e
      | some j =>
        simp [q] at e
        obtain ⟨rfl, rfl⟩ := e
        left
        show (scope.names.lookup z == some .cell) = true
        rw [lk]
        rfl
    | _ => simp at e
  units := o.units
  tk := takes0
  fn := o.fn
  fo := o.fo
  fr := rfl
  con := o.con
  free := o.free
  exc := fun x hx => ⟨(o.exc x hx).q, (o.exc x hx).g, (o.exc x hx).k, (o.exc x hx).r⟩
  xc := fun hF => let e := o.xc hF; ⟨e.glo, e.exc, e.exm, e.kit⟩
/-! ### the evaluator is right -/
structure Snd (T : Tbl) (N : List Str) (v : Ev) : Prop where
  E : ∀ {X : Cx} {C : Pm} {s : Sc}, CxOk T N X C s → ∀ e, PE X e (tE C (v.E s e))
  P : ∀ {X : Cx} {C : Pm} {s : Sc}, CxOk T N X C s → ∀ e, PE X e (tP C (v.P s e))
  F : ∀ {X : Cx} {C : Pm} {s : Sc}, CxOk T N X C s → ∀ e f, isComp e = false → v.F s e = some f → PE X e (tF C f)
  B : ∀ {X : Cx} {C : Pm} {s : Sc}, CxOk T N X C s → ∀ e, PT X e (tT C (v.B s e))
  I : ∀ {X : Cx} {C : Pm} {s : Sc}, CxOk T N X C s → ∀ tg e, PI X tg e (tI C (v.I s tg e))
end
end DL
/-! The data layer: the evaluator of expressions is right. -/
namespace DL
open PySem PySem.Spec PyProof.Rows L2
section
variable {T : Tbl} {N : List Str} {X : Cx} {C : Pm} {s : Sc} {v : Ev}
theorem snd_argsE (h : Snd T N v) (o : CxOk T N X C s) : ∀ es, PA X es (tA C (argsE v s es))
  | [] => a_nil
  | e :: es => by
    unfold argsE
    split
    · exact pa_bad
    · rename_i c
      exact a_cons (by simpa using c) (h.E o e) (snd_argsE h o es)
theorem snd_argsP (h : Snd T N v) (o : CxOk T N X C s) : ∀ es, PA X es (tPA C (argsP v s es))
  | [] => a_nilP
  | e :: es => by
    unfold argsP
    split
    · exact pa_bad
    · rename_i c
      exact a_consP (by simpa using c) (h.P o e) (snd_argsP h o es)
theorem snd_andL (h : Snd T N v) (o : CxOk T N X C s) {pos : Pos} : ∀ es, PE X (.BoolOp .And es pos) (tE C (andL v s es))
  | [] => pe_bad
  | [a] => pe_one (h.E o a)
  | a :: b :: r => e_and (h.P o a) (snd_andL h o (b :: r))
theorem snd_orL (h : Snd T N v) (o : CxOk T N X C s) {pos : Pos} : ∀ es, PE X (.BoolOp .Or es pos) (tE C (orL v s es))
  | [] => pe_bad
  | [a] => pe_one (h.E o a)
  | a :: b :: r => e_or (h.P o a) (snd_orL h o (b :: r))
theorem snd_andT (h : Snd T N v) (o : CxOk T N X C s) {pos : Pos} : ∀ es, PW X (.BoolOp .And es pos) (tT C (andT v s es))
  | [] => pw_bad
  | [a] => w_and1 (h.B o a)
  | a :: b :: r => w_and (h.B o a) (snd_andT h o (b :: r))
theorem snd_orT (h : Snd T N v) (o : CxOk T N X C s) {pos : Pos} : ∀ es, PW X (.BoolOp .Or es pos) (tT C (orT v s es))
  | [] => pw_bad
  | [a] => w_or1 (h.B o a)
  | a :: b :: r => w_or (h.B o a) (snd_orT h o (b :: r))
theorem snd_part (h : Snd T N v) (o : CxOk T N X C s) : ∀ e, PO X e (tO C (partE v s e))
  | none => o_none
  | some e => o_some (h.P o e)
theorem snd_ifs (h : Snd T N v) (o : CxOk T N X C s) {es : List Expr} {f : Env → R Bool} (hf : ifsT v s es = some f) : PTs X es (tT C f) := by
  unfold ifsT at hf
  split at hf
  · cases hf
    exact ⟨fun pins s σ H Q I ⟨Hf0, H0, Hf, ρ, env, q⟩ => pts_nil.run pins s σ H Q I (q true Hf H (Grow.refl env.grow.sub) rfl)⟩
  · cases hf
    exact pts_one (h.B o _)
  · cases hf
theorem glF_of (o : CxOk T N X C s) {f : Str} (h : glF T s f = true) (hb : f ∈ blts) : Gl X f ∧ X.mg f = none ∧ f ≠ "__name__" ∧ (f == ("__debug__" : Str)) = false := by
  simp only [glF, Bool.and_eq_true] at h
  obtain ⟨h1, h2, h3⟩ := okN_of h.1.2
  refine ⟨o.gl h.1.1, o.free f hb (by simpa using h.2), h3, h1⟩
theorem list_ok : bootBuiltins "list" = some (.type "list") := by decide +kernel
theorem dict_ok : bootBuiltins "dict" = some (.type "dict") := by decide +kernel
theorem sorted_ok : bootBuiltins "sorted" = some (.builtin "sorted") := by decide +kernel
theorem fold_set {e : Expr} {env : PySem.Env} (h : isSetE e = false) (x : Value) : foldedSetIterable e env x = pure x := by
  cases e <;> first | rfl | simp [isSetE] at h
/-- a comprehension: what its reading asks -/
theorem snd_lc (h : Snd T N v) (o : CxOk T N X C s) {elt tg iter : Expr} {ifs : List Expr} {asy : Int} {scope : Scope} {pos : Pos} {f : Env → R D} (hf : stepF T N v s (.ListComp elt [⟨tg, iter, ifs, asy⟩] scope pos) = some f) :
    asy = 0 ∧ isSetE iter = false ∧ BlkOk N s.sc scope (ownOf N scope) ∧ ∃ (t : Tg) (ft : Env → R Bool), tgOf N ⟨relab s.sc scope, (ownOf N scope).map (·.1), false⟩ tg = some t ∧ ifsT v ⟨relab s.sc scope, (ownOf N scope).map (·.1), false⟩ ifs = some ft ∧ (∀ i ∈ t.ixs, i ∈ (ownOf N scope).map (·.2)) ∧
      f = fLc (v.I s tg iter) t ft (v.E ⟨relab s.sc scope, (ownOf N scope).map (·.1), false⟩ elt) ((ownOf N scope).map (·.2)) := by
  unfold stepF at hf
  simp only at hf
  split at hf
  · rename_i c
    simp only [Bool.and_eq_true, decide_eq_true_eq, Bool.not_eq_true'] at c
    obtain ⟨⟨c1, c2⟩, c3⟩ := c
    cases q : tgOf N ⟨relab s.sc scope, (ownOf N scope).map (·.1), false⟩ tg with
    | none => rw [q] at hf; cases hf
    | some t =>
      rw [q] at hf
      cases q2 : ifsT v ⟨relab s.sc scope, (ownOf N scope).map (·.1), false⟩ ifs with
      | none => rw [q2] at hf; cases hf
      | some ft =>
        rw [q2] at hf
        simp only [Option.bind_some] at hf
        split at hf
        · rename_i c4
          cases hf
          refine ⟨c1, c3, blkOk_by c2, t, ft, rfl, rfl, fun i hi => ?_, rfl⟩
          have := List.all_eq_true.mp c4 i hi
          simpa using this
        · cases hf
  · cases hf
theorem snd_F (h : Snd T N v) (o : CxOk T N X C s) (e : Expr) (f : Env → R D) (hf : stepF T N v s e = some f) : PE X e (tF C f) := by
  unfold stepF at hf
  split at hf
  · cases hf
    exact f_dict0
  · cases hf
    exact f_dict1 (h.E o _) (h.E o _)
  · cases hf
    exact f_lst (snd_argsE h o _)
  · rename_i elt tg iter ifs asy scope pos
    obtain ⟨rfl, hset, ok, t, ft, h1, h2, h3, rfl⟩ := snd_lc (pos := pos) h o (by unfold stepF; exact hf)
    have ok' : BlkOk X.N X.env.scope scope (ownOf N scope) := by rw [o.eN, o.sc]; exact ok
    refine PE.imp (pe_lc (own := ownOf N scope) (g := tGt C.calm t) (tt := tT C.calm ft) (te := tE C.calm (v.E ⟨relab s.sc scope, (ownOf N scope).map (·.1), false⟩ elt)) o.calm o.ndX (h.I o tg iter) ok' (fun _ _ _ _ _ => (o.blk ok).tg h1) (fun _ _ _ _ _ => snd_ifs h (o.blk ok) h2) (fun _ _ _ _ _ => h.E (o.blk ok) elt) (fold_set hset)) fun σ H Q q => lc_data h3 q
  · split at hf
    · rename_i c
      simp only [Bool.and_eq_true, Bool.not_eq_true'] at c
      obtain ⟨⟨c1, c2⟩, c3⟩ := c
      cases hf
      have e1 := eq_of_beq c2
      subst e1
      obtain ⟨g1, g2, g3, g4⟩ := glF_of o c1 (by decide)
      exact f_callTy (c_list o.eK o.calm) g1 g2 list_ok (snd_argsP h o _) (by simp [c3]) g3 g4
    · split at hf
      · rename_i c
        simp only [Bool.and_eq_true, Bool.not_eq_true'] at c
        obtain ⟨⟨c1, c2⟩, c3⟩ := c
        cases hf
        have e1 := eq_of_beq c2
        subst e1
        obtain ⟨g1, g2, g3, g4⟩ := glF_of o c1 (by decide)
        exact f_callTy (c_dict o.eK o.calm) g1 g2 dict_ok (snd_argsP h o _) (by simp [c3]) g3 g4
      · split at hf
        · rename_i c
          simp only [Bool.and_eq_true, Bool.not_eq_true'] at c
          obtain ⟨⟨c1, c2⟩, c3⟩ := c
          have e1 := eq_of_beq c2
          subst e1
          obtain ⟨g1, g2, g3, g4⟩ := glF_of o c1 (by decide)
          split at hf
          · rename_i b hb
            cases hf
            unfold setArg at hb
            split at hb
            · split at hb
              · rename_i k
                cases hb
                simp only [Bool.and_eq_true, Bool.not_eq_true'] at k
                obtain ⟨⟨k1, k2⟩, k3⟩ := k
                have e2 := eq_of_beq k2
                subst e2
                obtain ⟨y1, y2, y3, y4⟩ := glF_of o k1 (by decide)
                exact f_sortset o.eK o.calm o.units g1 g2 y1 y2 (snd_argsP h o _) k3
              · cases hb
            · cases hb
          · split at hf
            · rename_i ob hob
              cases hf
              unfold itmArg at hob
              split at hob
              · split at hob
                · rename_i k
                  cases hob
                  simp only [Bool.and_eq_true] at k
                  obtain ⟨⟨k1, k2⟩, k3⟩ := k
                  have e2 := eq_of_beq k1
                  subst e2
                  exact f_sortitems o.eK o.calm o.units g1 g2 (h.E o _) (base_of k2) k3
                · cases hob
              · cases hob
            · cases hf
              exact f_callB (c_sorted o.eK o.units) g1 g2 sorted_ok (snd_argsP h o _) (by simp [c3]) g3 g4
        · cases hf
  · split at hf
    · rename_i c
      simp only [Bool.and_eq_true] at c
      obtain ⟨k1, k2, k3⟩ := okN_of c.2
      split at hf
      · rename_i n F hF
        split at hf
        · rename_i c2
          cases hf
          obtain ⟨k, fa, fd, ps, q1, q2, q3, q4, q5⟩ := o.fo _ n F hF
          exact f_call o.eK q1 q2 (o.gl c.1) q3 q4 q5 o.tk (snd_argsE h o _) c2 k1
        · cases hf
      · cases hf
    · cases hf
  · cases hf
theorem blt_cases {f : Str} {F : List D → R D} (h : blt f = some F) : (f = "len" ∧ F = dLen) ∨ (f = "all" ∧ F = dAll) ∨ (f = "any" ∧ F = dAny) ∨ (f = "abs" ∧ F = dAbs) ∨ (f = "max" ∧ F = dMax) ∨ (f = "min" ∧ F = dMin) ∨ (f = "tuple" ∧ F = dTuple) := by
  unfold blt at h
  repeat (split at h; · rename_i c; cases h; have e := eq_of_beq c; simp [e])
  cases h
theorem isiOf_ok {t : Str} {n : String} (h : isiOf t = some n) : n ∈ isiTys ∧ t = Str.ofString n := by
  unfold isiOf at h
  exact ⟨List.mem_of_find?_eq_some h, by simpa using List.find?_some h⟩
theorem isi_boot : ∀ n ∈ isiTys, bootBuiltins (Str.ofString n) = some (.type n) ∧ Str.ofString n ∈ blts ∧ (Str.ofString n == ("__debug__" : Str)) = false ∧ Str.ofString n ≠ "__name__" := by decide +kernel
theorem snd_E0 (h : Snd T N v) (o : CxOk T N X C s) (e : Expr) : PE X e (tE C (stepE0 T N v s e)) := by
  unfold stepE0
  split
  · rename_i x pos
    split
    · rename_i c
      simp only [Bool.and_eq_true] at c
      split
      · rename_i i hi
        obtain ⟨h1, h2, _⟩ := okN_of c.2
        exact e_varE (by rw [o.eN]; exact nIx_ok hi) (o.vis c.1) h1 h2
      · exact pe_bad
    · split
      · rename_i c
        simp only [Bool.and_eq_true] at c
        split
        · rename_i d hd
          obtain ⟨w, u, h1, h2, h3⟩ := o.con x d hd
          exact e_glob (o.gl c.1) h1 h2 h3 (okN_of c.2).1
        · exact pe_bad
      · exact pe_bad
  · split
    · rename_i d hd
      exact e_con hd
    · exact pe_bad
  · exact e_bin (op_bin o.eK _) (h.P o _) (h.P o _)
  · exact e_not (h.P o _)
  · exact e_neg (h.P o _)
  · exact snd_andL h o _
  · exact snd_orL h o _
  · split
    · exact pe_bad
    · rename_i c
      exact e_cmp (F := fun x y => asBool (dCmp _ x y)) (op_cmp o.eK o.units _) (h.P o _) (h.P o _) (by simpa using c)
  · split
    · exact pe_bad
    · rename_i c
      exact e_chain (op_cmp o.eK o.units _) (op_cmp o.eK o.units _) (h.P o _) (h.P o _) (h.P o _) (by simpa using c)
  · split
    · exact pe_bad
    · rename_i c
      exact e_chain3 (op_cmp o.eK o.units _) (op_cmp o.eK o.units _) (op_cmp o.eK o.units _) (h.P o _) (h.P o _) (h.P o _) (h.P o _) (by simpa using c)
  · exact e_if (h.B o _) (h.E o _) (h.E o _)
  · exact e_tup (snd_argsE h o _)
  · exact e_sl o.eK (h.P o _) (snd_part h o _) (snd_part h o _)
  · exact e_rev0 o.eK (h.P o _)
  · exact e_rev1 o.eK (h.P o _) (snd_part h o _)
  · exact pe_bad
  · rename_i a b pos n1 n2 n3 n4
    refine e_ix o.units o.eK (h.P o _) (h.P o _) (plainIx_of ?_)
    cases b <;> first | rfl | exact (n4 _ _ _ _ rfl).elim
  · rename_i f p e es pos
    split
    · rename_i c
      simp only [Bool.and_eq_true] at c
      obtain ⟨k1, k2, k3⟩ := okN_of c.2
      split
      · rename_i n F hF
        split
        · rename_i c2
          obtain ⟨k, fa, fd, ps, q1, q2, q3, q4, q5⟩ := o.fn f n F hF
          exact e_call o.eK q1 q2 (o.gl c.1) q3 q4 q5 o.tk (snd_argsE h o _) c2 k1
        · exact pe_bad
      · rename_i hF
        split
        · rename_i c2
          have e1 := eq_of_beq c2
          subst e1
          split
          · rename_i t p2
            split
            · rename_i tn ht
              split
              · rename_i c3
                simp only [Bool.and_eq_true, Bool.not_eq_true'] at c3
                obtain ⟨⟨c4, c5⟩, c6⟩ := c3
                obtain ⟨m1, rfl⟩ := isiOf_ok ht
                obtain ⟨b1, b2, b3, b4⟩ := isi_boot tn m1
                exact e_isi o.eK m1 (o.gl c.1) (o.free _ (by decide) hF) (o.gl c4) (o.free _ b2 (by simpa using c5)) b1 b4 b3 (h.P o _) c6
              · exact pe_bad
            · exact pe_bad
          · exact pe_bad
        · split
          · rename_i F hb
            split
            · rename_i c2
              rcases blt_cases hb with ⟨rfl, rfl⟩ | ⟨rfl, rfl⟩ | ⟨rfl, rfl⟩ | ⟨rfl, rfl⟩ | ⟨rfl, rfl⟩ | ⟨rfl, rfl⟩ | ⟨rfl, rfl⟩
              · exact e_callB (c_len o.eK) (o.gl c.1) (o.free _ (by decide) hF) (by decide +kernel) (snd_argsP h o _) c2 k3 k1
              · exact e_callB (c_all o.calm) (o.gl c.1) (o.free _ (by decide) hF) (by decide +kernel) (snd_argsP h o _) c2 k3 k1
              · exact e_callB (c_any o.calm) (o.gl c.1) (o.free _ (by decide) hF) (by decide +kernel) (snd_argsP h o _) c2 k3 k1
              · exact e_callB c_abs (o.gl c.1) (o.free _ (by decide) hF) (by decide +kernel) (snd_argsP h o _) c2 k3 k1
              · exact e_callB (c_max o.eK o.calm o.units) (o.gl c.1) (o.free _ (by decide) hF) (by decide +kernel) (snd_argsP h o _) c2 k3 k1
              · exact e_callB (c_min o.eK o.calm o.units) (o.gl c.1) (o.free _ (by decide) hF) (by decide +kernel) (snd_argsP h o _) c2 k3 k1
              · exact e_callTy (c_tuple o.eK) (o.gl c.1) (o.free _ (by decide) hF) (by decide +kernel) (snd_argsP h o _) c2 k3 k1
            · exact pe_bad
          · exact pe_bad
    · exact pe_bad
  · split
    · rename_i c
      simp only [Bool.and_eq_true, Bool.not_eq_true'] at c
      obtain ⟨⟨c1, c2⟩, c3⟩ := c
      split
      · rename_i k
        have e1 := eq_of_beq k
        subst e1
        exact e_index o.units o.eK (h.P o _) (h.P o _) c1 c2 c3
      · split
        · rename_i k
          have e1 := eq_of_beq k
          subst e1
          exact e_count o.units o.eK (h.P o _) (h.P o _) c1 c2 c3
        · exact pe_bad
    · exact pe_bad
  · split
    · rename_i c
      simp only [Bool.and_eq_true, Bool.not_eq_true'] at c
      obtain ⟨⟨⟨⟨c1, c2⟩, c3⟩, c4⟩, c5⟩ := c
      have e1 := eq_of_beq c1
      subst e1
      exact e_get o.units (h.P o _) (h.P o _) (h.E o _) c2 c3 (base_of c4) c5
    · exact pe_bad
  · exact pe_bad
theorem snd_E (h : Snd T N v) (o : CxOk T N X C s) (e : Expr) : PE X e (tE C (stepE T N v s e)) := by
  unfold stepE
  split
  · rename_i f hf
    exact e_fresh (snd_F h o e f hf)
  · exact snd_E0 h o e
theorem snd_P (h : Snd T N v) (o : CxOk T N X C s) (e : Expr) : PE X e (tP C (stepP T N v s e)) := by
  unfold stepP
  split
  · split
    · rename_i c
      simp only [Bool.and_eq_true] at c
      split
      · rename_i i hi
        obtain ⟨h1, h2, _⟩ := okN_of c.2
        exact e_varP (by rw [o.eN]; exact nIx_ok hi) (o.vis c.1) h1 h2
      · exact pe_bad
    · exact PE.peek (snd_E h o _)
  · exact PE.peek (snd_E h o _)
theorem snd_B (h : Snd T N v) (o : CxOk T N X C s) (e : Expr) : PT X e (tT C (stepB v s e)) := by
  unfold stepB
  split
  · exact t_not (h.B o _)
  · exact (snd_andT h o _).pt
  · exact (snd_orT h o _).pt
  · split
    · exact pt_bad
    · rename_i c
      exact t_cmp (op_cmp o.eK o.units _) (h.P o _) (h.P o _) (by simpa using c)
  · split
    · exact pt_bad
    · rename_i c
      exact t_chain (op_cmp o.eK o.units _) (op_cmp o.eK o.units _) (h.P o _) (h.P o _) (h.P o _) (by simpa using c)
  · exact t_val (h.P o _) fun _ => rfl
  · exact t_val (h.P o _) fun _ => rfl
  · exact t_val (h.P o _) fun _ => rfl
  · exact t_val (h.P o _) fun _ => rfl
  · exact pt_bad
theorem pi_bad {tg e : Expr} : PI X tg e (tI C bad1) := ⟨fun _ _ _ _ _ _ ⟨_, _, _, _, _, h⟩ => h.elim⟩
theorem snd_I (h : Snd T N v) (o : CxOk T N X C s) (tg e : Expr) : PI X tg e (tI C (stepI T v s tg e)) := by
  unfold stepI
  split
  · split
    · rename_i c
      simp only [Bool.and_eq_true, Bool.not_eq_true'] at c
      obtain ⟨⟨c1, c2⟩, c3⟩ := c
      have e1 := eq_of_beq c2
      subst e1
      obtain ⟨g1, g2, g3, g4⟩ := glF_of o c1 (by decide)
      exact i_rng1 g1 g2 (snd_argsP h o _) c3
    · split
      · rename_i c
        simp only [Bool.and_eq_true, Bool.not_eq_true'] at c
        obtain ⟨⟨c1, c2⟩, c3⟩ := c
        have e1 := eq_of_beq c2
        subst e1
        obtain ⟨g1, g2, g3, g4⟩ := glF_of o c1 (by decide)
        split
        · exact i_enum o.eK g1 g2 (snd_argsE h o _) c3
        · exact pi_bad
      · exact i_any o.eK (h.E o _)
  · split
    · rename_i c
      simp only [Bool.and_eq_true, Bool.not_eq_true'] at c
      obtain ⟨⟨⟨c1, c2⟩, c3⟩, c4⟩ := c
      have e1 := eq_of_beq c2
      subst e1
      obtain ⟨g1, g2, g3, g4⟩ := glF_of o c1 (by decide)
      exact i_rng2 g1 g2 (snd_argsP h o _) c3 c4
    · split
      · rename_i c
        simp only [Bool.and_eq_true, Bool.not_eq_true'] at c
        obtain ⟨⟨⟨c1, c2⟩, c3⟩, c4⟩ := c
        have e1 := eq_of_beq c2
        subst e1
        obtain ⟨g1, g2, g3, g4⟩ := glF_of o c1 (by decide)
        split
        · exact i_zip o.eK g1 g2 (snd_argsE h o _) c3 c4
        · exact pi_bad
      · exact i_any o.eK (h.E o _)
  · split
    · rename_i c
      simp only [Bool.and_eq_true] at c
      obtain ⟨⟨c1, c2⟩, c3⟩ := c
      have e1 := eq_of_beq c1
      subst e1
      split
      · exact i_items (h.E o _) (base_of c2) c3
      · exact pi_bad
    · exact pi_bad
  · exact i_any o.eK (h.E o _)
end
theorem snd_step {T : Tbl} {N : List Str} {v : Ev} (h : Snd T N v) : Snd T N (step T N v) where
  E := fun o e => snd_E h o e
  P := fun o e => snd_P h o e
  F := fun o e f _ hf => snd_F h o e f hf
  B := fun o e => snd_B h o e
  I := fun o tg e => snd_I h o tg e
theorem snd_ev (T : Tbl) (N : List Str) : ∀ n, Snd T N (ev T N n)
  | 0 => ⟨fun _ _ => pe_bad, fun _ _ => pe_bad, fun _ _ _ _ h => (nomatch h), fun _ _ => pt_bad, fun _ _ _ => pi_bad⟩
  | n + 1 => snd_step (snd_ev T N n)
end DL
/-! The data layer: the evaluator of statements and of defs, and that it is right. -/
namespace DL
open PySem PySem.Spec PyProof.Rows L2
/-! ### names in keeping places -/
def peekF : List Str := ["isinstance", "len", "all", "any", "abs", "max", "min", "tuple", "list", "sorted", "range", "set", "dict"]
structure Kn where
  E : Expr → List Str
  P : Expr → List Str
def knP (k : Kn) : Expr → List Str
  | .BinOp a _ b _ => k.P a ++ k.P b
  | .UnaryOp _ a _ => k.P a
  | .BoolOp _ es _ => es.flatMap k.E
  | .Compare a _ bs _ => k.P a ++ bs.flatMap k.P
  | .IfExp c a b _ => k.P c ++ (k.E a ++ k.E b)
  | .Tuple es _ _ => es.flatMap k.E
  | .List es _ => es.flatMap k.E
  | .Subscript a b _ => k.P a ++ k.P b
  | .Slice a b c _ => (a.elim [] k.P) ++ ((b.elim [] k.P) ++ (c.elim [] k.P))
  | .Call (.Name f _) es _ _ => if peekF.contains f then es.flatMap k.P else es.flatMap k.E
  | .Call (.Attribute o m _) es _ _ => (if m == ("items" : Str) then k.E o else k.P o) ++ es.flatMap k.E
  | .Dict ks vs _ => (ks.flatMap fun x => x.elim [] k.E) ++ vs.flatMap k.E
  | .ListComp elt gs _ _ => k.E elt ++ gs.flatMap fun g => k.E g.iter ++ g.ifs.flatMap k.P
  | _ => []
def kn : Nat → Kn
  | 0 => ⟨fun _ => [], fun _ => []⟩
  | n + 1 => ⟨fun e => match e with | .Name x _ => [x] | e => knP (kn n) e, fun e => match e with | .Name _ _ => [] | e => knP (kn n) e⟩
section
variable (T : Tbl) (N : List Str) (wh : Nat)
def rsOf (xs : List Str) : List Nat := xs.filterMap (nIx N)
def blkS (f : Stmt → Env → R Out) : List Stmt → Env → R Out
  | [] => fun ρ => .ok (.nx ρ)
  | st :: sts => fSeq (f st) (blkS f sts)
/-- is the comprehension stored within its frame -/
def swB (sc : Scope) (y : Str) (py pos : Pos) (scope : Scope) : Bool := sc.names.lookup y == some .local && py.line == pos.line && !(scope.names.any fun (n, k) => n == y && (k == .local || k == .cell))
def relS (is : List Nat) (F : Env → R Out) : Env → R Out := fun ρ => F (relR is ρ)
def flsOf (v : Ev) (s : Sc) (es : List Expr) : List Bool := es.map fun e => (v.F s e).isSome
def argsM (v : Ev) (s : Sc) : List Expr → Env → R (List D)
  | [] => fun _ => .ok []
  | e :: es => if isStar e then bad1 else (match v.F s e with
    | some f => fCons f (argsM v s es)
    | none => fCons (v.E s e) (argsM v s es))
def isTupE : Expr → Bool
  | .Tuple .. => true
  | _ => false
def stepS (v : Ev) (s : Sc) (f : Stmt → Env → R Out) : Stmt → Env → R Out
  | .Pass _ => fun ρ => .ok (.nx ρ)
  | .Break _ => fun ρ => .ok (.bk ρ)
  | .Continue _ => fun ρ => .ok (.ct ρ)
  | .Return none _ => if s.fr then bad1 else fun _ => .ok (.rt .none)
  | .Return (some e) _ => if s.fr then (match e with
      | .Name x _ => if isVis s.sc x && okN x then (match nIx N x with | some i => fRetO i | none => bad1) else bad1
      | e => (match v.F s e with | some g => relS (rsOf N ((kn 40).P e)) fun ρ => g ρ >>= fun d => .ok (.rt d) | none => bad1))
    else relS (rsOf N ((kn 40).E e)) fun ρ => v.E s e ρ >>= fun d => .ok (.rt d)
  | .If c a b _ => relS (rsOf N ((kn 40).P c)) (fIfS (v.B s c) (blkS f a) (blkS f b))
  | .Expr (.Call (.Attribute (.Name x _) m ap) [e] [] cp) _ =>
    if isVis s.sc x && okN x && (ap.endLine == cp.line) && !isStar e then
      match nIx N x with
      | some i => if m == ("append" : Str) then relS (rsOf N ((kn 40).E e)) (fApp i (v.E s e)) else if m == ("extend" : Str) then relS (rsOf N ((kn 40).E e)) (fExt i (v.E s e)) else bad1
      | none => bad1
    else bad1
  | .Expr e _ => if isComp e then bad1 else relS (rsOf N ((kn 40).E e)) fun ρ => v.E s e ρ >>= fun _ => .ok (.nx ρ)
  | .Assign [.Name x py] e _ => (match stIx N s x with
    | some i => (match v.F s e with
      | some g => (match e with
        | .ListComp _ [⟨_, _, _, _⟩] _ _ => relS (rsOf N ((kn 40).P e)) fun ρ => g ρ >>= fun d => .ok (.nx (ρ.set i (.ow d)))
        | e => if isComp e then bad1 else relS (rsOf N ((kn 40).P e)) fun ρ => g ρ >>= fun d => .ok (.nx (ρ.set i (.ow d))))
      | none => if isComp e then bad1 else relS (rsOf N ((kn 40).E e)) fun ρ => v.E s e ρ >>= fun d => .ok (.nx (ρ.set i (.va d))))
    | none => bad1)
  | .Assign [.Subscript (.Name x _) k _] e _ => if isVis s.sc x && okN x && !isComp e then
      (match nIx N x with
      | some i => relS (rsOf N ((kn 40).E e ++ (kn 40).P k)) (fPut i (v.P s k) (v.E s e))
      | none => bad1)
    else bad1
  | .Assign [.Tuple ts k pt] (.Tuple es k2 pt2) _ => (match nmsIx N s ts with
    | some is => if decide (is.length = es.length) && decide (is.length ≤ 1000) then (match swap? s.sc ts es with
      | some none => relS (rsOf N ((kn 40).P (.Tuple es k2 pt2))) (fPar (flsOf v s es) is (argsM v s es))
      | some (some _) => (match ts, es, is with
        | [.Name x _, .Name y _], [a, b], [i, j] => if decide (i ≠ j) && (swNames s.sc ts == [x, y]) && (s.sc.names.lookup x == some .local) && (s.sc.names.lookup y == some .local) then
            relS (rsOf N ((kn 40).P (.Tuple es k2 pt2))) (fPar (flsOf v s [a, b]) [i, j] (argsM v s [a, b])) else bad1
        | [.Name x _, .Name y _, .Name z _], [a, b, c], [i, j, l] => if decide (i ≠ j) && decide (i ≠ l) && decide (j ≠ l) && (swNames s.sc ts == [x, y, z]) && (s.sc.names.lookup x == some .local) && (s.sc.names.lookup y == some .local) && (s.sc.names.lookup z == some .local) then
            relS (rsOf N ((kn 40).P (.Tuple es k2 pt2))) (fPar (flsOf v s [a, b, c]) [i, j, l] (argsM v s [a, b, c])) else bad1
        | _, _, _ => bad1)
      | none => bad1) else bad1
    | none => bad1)
  | .Assign [.Tuple ts k pt] e _ => if isTupE e then bad1 else (match nmsIx N s ts with
    | some is => relS (rsOf N ((kn 40).E e)) (fSetT (.many is) (v.E s e))
    | none => bad1)
  | .For tg iter body [] _ => (match tgOf N s tg with
    | some t => if isSetE iter then bad1 else relS (rsOf N ((kn 40).E iter)) (fFor (v.I s tg iter) t (blkS f body))
    | none => bad1)
  | .While c body [] _ => relS (rsOf N ((kn 40).P c)) (whLoop (v.B s c) (blkS f body) wh)
  | .Raise (some (.Call (.Name x _) [.Constant (.str _) _ _] [] _)) none _ => if isGl s.sc x && okN x && T.exc x then fun _ => .exc x else bad1
  | .Try body [.ExceptHandler (some (.Name x _)) (some n) [.Return (some (.Call (.Attribute (.List es _) m ap) [.Constant (.bool true) _ _] [] cp)) _] _] [] [] _ =>
    if x == ("FleetError" : Str) && !s.fr && m == ("index" : Str) && isGl s.sc x && (s.sc.names.lookup n == some .local) && okN n && glF T s "isinstance" && (ap.endLine == cp.line) && T.exc "FleetError" then
      match nIx N n, isxs n es with
      | some _, some cs => if (cs.all fun k => T.exc k && !(k == ("FleetError" : Str)) && isGl s.sc k && okN k) && decide (cs.length ≤ 1000) then fTryIx T.exc (blkS f body) cs else bad1
      | _, _ => bad1
    else bad1
  | _ => bad1
def evS (v : Ev) (s : Sc) : Nat → Stmt → Env → R Out
  | 0 => fun _ => bad1
  | n + 1 => stepS T N wh v s (evS v s n)
/-- a def's body, run -/
def runD (n : Nat) (sc : Scope) (body : List Stmt) (ds : List D) : R D :=
  blkS (evS T N wh (ev T N n) ⟨sc, N, false⟩ n) body (ds.map Slot.va ++ List.replicate (N.length - ds.length) .un) >>= fun o => match o with
    | .rt d => .ok d
    | .nx _ => .ok .none
    | _ => .bad
/-- a def's body that gives back a fresh object -/
def runF (n : Nat) (sc : Scope) (body : List Stmt) (ds : List D) : R D :=
  blkS (evS T N wh (ev T N n) ⟨sc, N, true⟩ n) body (ds.map Slot.va ++ List.replicate (N.length - ds.length) .un) >>= fun o => match o with
    | .rt d => .ok d
    | _ => .bad
end
section
variable {T : Tbl} {N : List Str} {wh : Nat} {X : Cx} {C : Pm} {s : Sc} {v : Ev} {f : Stmt → Env → R Out}
theorem snd_blk (hf : ∀ st, PS X st (tS C (f st))) : ∀ sts, PSs X sts (tS C (blkS f sts))
  | [] => s_nil
  | st :: sts => s_cons (hf st) (snd_blk hf sts)
theorem sw_eq {elt : Expr} {gs : List Comprehension} {scope : Scope} {pos py : Pos} {y : Str} {l : Nat} {env : PySem.Env} (hk : env.scope.kind = .function) : swapsWith (.ListComp elt gs scope pos) (some (.Name y py)) l env = pure (swB env.scope y py pos scope) := by
  have hb : env.blockKind = .function := by unfold PySem.Env.blockKind; rw [hk]; rfl
  unfold swapsWith swB
  simp only [hb, Expr.pos]
  rfl
theorem snd_argsM (h : Snd T N v) (hF : ∀ e f, v.F s e = some f → PE X e (tF C f)) (o : CxOk T N X C s) : ∀ es, PA X es (tM C (flsOf v s es) (argsM v s es))
  | [] => m_nil
  | e :: es => by
    unfold argsM
    split
    · exact ⟨fun _ _ _ _ _ _ _ ⟨_, _, _, _, _, h⟩ => h.elim⟩
    · rename_i c
      have ih := snd_argsM h hF o es
      split
      · rename_i g hg
        have e1 : flsOf v s (e :: es) = true :: flsOf v s es := by simp [flsOf, hg]
        rw [e1]
        exact m_ow (by simpa using c) (hF e g hg) ih
      · rename_i hg
        have e1 : flsOf v s (e :: es) = false :: flsOf v s es := by simp [flsOf, hg]
        rw [e1]
        exact m_va (by simpa using c) (h.E o e) ih
theorem swS_none {ts : List Expr} {k : Nat} {pt : Pos} {e : Expr} {env : PySem.Env} (h : isTupE e = false) : swappedStores [.Tuple ts k pt] e env = pure none := by
  cases e <;> first | rfl | simp [isTupE] at h
theorem swT_false {ts : List Expr} {k l : Nat} {pt : Pos} {e : Expr} {env : PySem.Env} : swapsWithSole [.Tuple ts k pt] e l env = pure false := by
  cases e <;> rfl
theorem ps_bad1 {st : Stmt} : PS X st (tS C bad1) := ps_bad
def FrOk (X : Cx) : Prop := X.stack = X.env :: X.outer ∧ X.env.frame = some X.env.locals
theorem CxOk.tr (o : CxOk T N X C s) {pn : List (Addr × Obj)} {xe : Value → Shared → Prop} {E : XK} (tk : Takes (X.tr pn xe) fun cls d _ H => E cls d H) : CxOk T N (X.tr pn xe) { C with E := E } s where
  eK := o.eK
  calm := o.calm
  eN := o.eN
  nd := o.nd
  sc := o.sc
  kind := o.kind
  wr := o.wr
  units := o.units
  tk := tk
  fn := o.fn
  fo := o.fo
  fr := o.fr
  con := o.con
  free := o.free
  exc := fun x hx => let e := o.exc x hx; ⟨e.q, e.g, e.k, e.r⟩
  xc := fun hF => let e := o.xc hF; ⟨e.glo, e.exc, e.exm, e.kit⟩
theorem snd_stepS {n : Nat} (hv : v = step T N (ev T N n)) (o : CxOk T N X C s) (own : PassesOwn (model X.prog X.w) X.A X.env X.xe) (fr : FrOk X) (hfG : ∀ {X : Cx} {C : Pm}, CxOk T N X C s → PassesOwn (model X.prog X.w) X.A X.env X.xe → FrOk X → ∀ st, PS X st (tS C (f st))) (st : Stmt) : PS X st (tS C (stepS T N wh v s f st)) := by
  have hf : ∀ st, PS X st (tS C (f st)) := hfG o own fr
  have h0 : Snd T N (ev T N n) := snd_ev T N n
  have h : Snd T N v := by rw [hv]; exact snd_step h0
  have hF : ∀ e g, v.F s e = some g → PE X e (tF C g) := fun e g hg => by rw [hv] at hg; exact snd_F h0 o e g hg
  unfold stepS
  split
  · exact s_pass
  · exact s_break
  · exact s_continue
  · split
    · exact ps_bad1
    · rename_i c
      exact s_retN (by rw [← o.fr]; simpa using c)
  · split
    · rename_i c
      split
      · split
        · rename_i c2
          simp only [Bool.and_eq_true] at c2
          obtain ⟨k1, k2, k3⟩ := okN_of c2.2
          split
          · rename_i i hi
            exact s_retO (by rw [← o.fr]; exact c) (by rw [o.eN]; exact nIx_ok hi) (o.vis c2.1) k1 k2
          · exact ps_bad1
        · exact ps_bad1
      · split
        · rename_i g hg
          exact s_rel _ (s_retF (by rw [← o.fr]; exact c) (hF _ g hg))
        · exact ps_bad1
    · rename_i c
      exact s_rel _ (s_ret (by rw [← o.fr]; simpa using c) (h.E o _))
  · exact s_rel _ (s_if (h.B o _) (snd_blk hf _) (snd_blk hf _))
  · split
    · rename_i c
      simp only [Bool.and_eq_true, Bool.not_eq_true'] at c
      obtain ⟨⟨⟨c1, c2⟩, c3⟩, c4⟩ := c
      obtain ⟨k1, k2, k3⟩ := okN_of c2
      split
      · rename_i i hi
        split
        · rename_i c5
          have e1 := eq_of_beq c5
          subst e1
          exact s_rel _ (s_app (by rw [o.eN]; exact nIx_ok hi) (o.vis c1) k1 k2 (h.E o _) c4 c3)
        · split
          · rename_i c5
            have e1 := eq_of_beq c5
            subst e1
            exact s_rel _ (s_ext (by rw [o.eN]; exact nIx_ok hi) (o.vis c1) k1 k2 (h.E o _) c4 c3)
          · exact ps_bad1
      · exact ps_bad1
    · exact ps_bad1
  · split
    · exact ps_bad1
    · rename_i c
      exact s_rel _ (s_expr (h.E o _) (by simpa using c))
  · rename_i x py e0 spos
    split
    · rename_i i hi
      split
      · rename_i g hg
        split
        · rename_i elt tg iter ifs asy scope pos
          have hg' := hg
          rw [hv] at hg'
          obtain ⟨rfl, hset, ok, t, ft, h1, h2, h3, rfl⟩ := snd_lc (pos := pos) h0 o hg'
          have ok' : BlkOk X.N X.env.scope scope (ownOf N scope) := by rw [o.eN, o.sc]; exact ok
          have hk : X.env.scope.kind = .function := by rw [o.sc]; exact o.kind
          have so := o.st hi
          refine s_rel (F := fun ρ => fLc ((ev T N n).I s tg iter) t ft ((ev T N n).E ⟨relab s.sc scope, (ownOf N scope).map (·.1), false⟩ elt) ((ownOf N scope).map (·.2)) ρ >>= fun d => .ok (.nx (ρ.set i (.ow d)))) _ ?_
          cases hw : swB X.env.scope x py pos scope with
          | true =>
            have hw' := hw
            simp only [swB, Bool.and_eq_true] at hw'
            exact PS.imp (ps_setLc (own := ownOf N scope) (g := tGt C.calm t) (tt := tT C.calm ft) (te := tE C.calm ((ev T N n).E ⟨relab s.sc scope, (ownOf N scope).map (·.1), false⟩ elt)) o.calm o.ndX so.1 (eq_of_beq hw'.1.1) (by rw [sw_eq hk, hw]) (h0.I o tg iter) ok'
              (fun _ _ _ _ _ => (o.blk ok).tg h1) (fun _ _ _ _ _ => snd_ifs h0 (o.blk ok) h2) (fun _ _ _ _ _ => h0.E (o.blk ok) elt) (fold_set hset)) fun Dn σ H q => setF_in (fun Q q => lc_data h3 q) q
          | false =>
            exact PS.imp (ps_set o.ndX so.1 so.2.1 (hF _ _ hg) (by rw [sw_eq hk, hw]) so.2.2) fun Dn σ H q => setF_in (fun Q q => q) q
        · split
          · exact ps_bad1
          · rename_i c
            exact s_rel _ (s_setF o.ndX (o.st hi) (hF _ _ hg) (by simpa using c))
      · split
        · exact ps_bad1
        · rename_i c
          exact s_rel _ (s_set o.ndX (o.st hi) (h.E o _) (by simpa using c))
    · exact ps_bad1
  · split
    · rename_i c
      simp only [Bool.and_eq_true, Bool.not_eq_true'] at c
      split
      · rename_i i hi
        obtain ⟨k1, k2, k3⟩ := okN_of c.1.2
        exact s_rel _ (s_put o.units (by rw [o.eN]; exact nIx_ok hi) (o.vis c.1.1) k1 k2 (h.P o _) (h.E o _) c.2)
      · exact ps_bad1
    · exact ps_bad1
  · rename_i ts k pt es k2 pt2 pos
    split
    · rename_i is his
      split
      · rename_i c
        simp only [Bool.and_eq_true, decide_eq_true_eq] at c
        have fl : is.length = (flsOf v s es).length := by simp [flsOf, c.1]
        have hk : X.env.scope.kind = .function := by rw [o.sc]; exact o.kind
        split
        · rename_i hs
          exact s_rel _ (s_parN o.calm o.ndX (o.nms his) fl c.2 (snd_argsM h hF o es) (swap_ok hk (by rw [o.sc]; exact hs)))
        · rename_i ns hs
          have hns : ns = swNames s.sc ts := by
            unfold swap? at hs
            repeat (split at hs; · cases hs)
            exact (Option.some.inj (Option.some.inj hs)).symm
          split
          · rename_i x px y py a b i j
            split
            · rename_i c2
              simp only [Bool.and_eq_true, decide_eq_true_eq] at c2
              obtain ⟨⟨⟨d1, d2⟩, d3⟩, d4⟩ := c2
              have nm := o.nms his
              cases nm with
              | cons s1 nm =>
                cases nm with
                | cons s2 nm =>
                  refine s_rel _ (s_par2 o.calm o.ndX s1.1 s2.1 d1 (by rw [o.sc]; exact eq_of_beq d3) (by rw [o.sc]; exact eq_of_beq d4) (by simp [flsOf]) (snd_argsM h hF o _) (swap_ok hk ?_))
                  rw [o.sc, hs, hns]
                  exact congrArg some (congrArg some (eq_of_beq d2))
            · exact ps_bad1
          · rename_i x px y py z pz a b c' i j l
            split
            · rename_i c2
              simp only [Bool.and_eq_true, decide_eq_true_eq] at c2
              obtain ⟨⟨⟨⟨⟨⟨d1, d2⟩, d3⟩, d4⟩, d5⟩, d6⟩, d7⟩ := c2
              have nm := o.nms his
              cases nm with
              | cons s1 nm =>
                cases nm with
                | cons s2 nm =>
                  cases nm with
                  | cons s3 nm =>
                    refine s_rel _ (s_par3 o.calm o.ndX s1.1 s2.1 s3.1 d1 d2 d3 (by rw [o.sc]; exact eq_of_beq d5) (by rw [o.sc]; exact eq_of_beq d6) (by rw [o.sc]; exact eq_of_beq d7) (by simp [flsOf]) (snd_argsM h hF o _) (swap_ok hk ?_))
                    rw [o.sc, hs, hns]
                    exact congrArg some (congrArg some (eq_of_beq d4))
            · exact ps_bad1
          · exact ps_bad1
        · exact ps_bad1
      · exact ps_bad1
    · exact ps_bad1
  · split
    · exact ps_bad1
    · rename_i c
      split
      · rename_i is his
        exact s_rel _ (s_setT (h.E o _) (g_many o.eK o.calm o.ndX (o.nms his)) swT_false (swS_none (by simpa using c)) rfl)
      · exact ps_bad1
  · split
    · rename_i t ht
      split
      · exact ps_bad1
      · rename_i c
        exact s_rel _ (s_for own o.calm (h.I o _ _) (o.tg ht) (snd_blk hf _) (fold_set (by simpa using c)))
    · exact ps_bad1
  · exact s_rel _ (s_while wh own (h.B o _) (snd_blk hf _))
  · split
    · rename_i c
      simp only [Bool.and_eq_true] at c
      exact s_raise o.calm o.tk (o.exc _ c.2) (o.gl c.1.1) (okN_of c.1.2).1
    · exact ps_bad1
  · split
    · rename_i c
      simp only [Bool.and_eq_true] at c
      obtain ⟨⟨⟨⟨⟨⟨⟨c1, c2⟩, c3⟩, c4⟩, c5⟩, c6⟩, c7⟩, c8⟩ := c
      have e1 := eq_of_beq c1.1
      have e2 := eq_of_beq c2
      subst e1 e2
      split
      · rename_i i cs hi hcs
        split
        · rename_i q
          simp only [Bool.and_eq_true, decide_eq_true_eq, List.all_eq_true, Bool.not_eq_true'] at q
          obtain ⟨g1, g2, g3, g4⟩ := glF_of o c6 (by decide)
          obtain ⟨k1, k2, k3⟩ := okN_of c5
          refine s_try (by rw [← o.fr]; simpa using c1.2) (o.xc c8) c8 o.eK fr.1 fr.2 o.ndX (by rw [o.eN]; exact nIx_ok hi) (by show X.env.scope.names.lookup _ = _; rw [o.sc]; exact eq_of_beq c4) k1 k2 g1 g2 o.units c7 (o.gl c3) o.tk hcs (fun k hk => ?_) q.2 (fun pn xe E tk own' => snd_blk (hfG (o.tr tk) own' fr) _)
          obtain ⟨⟨⟨y1, y2⟩, y3⟩, y4⟩ := q.1 k hk
          exact ⟨y1, fun e => by rw [e] at y2; simp at y2, ⟨o.gl y3, (okN_of y4).1⟩⟩
        · exact ps_bad1
      · exact ps_bad1
    · exact ps_bad1
  · exact ps_bad1
theorem snd_S {n : Nat} (hv : v = step T N (ev T N n)) : ∀ m {X : Cx} {C : Pm}, CxOk T N X C s → PassesOwn (model X.prog X.w) X.A X.env X.xe → FrOk X → ∀ st, PS X st (tS C (evS T N wh v s m st))
  | 0, _, _, _, _, _, _ => ps_bad1
  | m + 1, _, _, o, own, fr, st => snd_stepS hv o own fr (fun o' own' fr' => snd_S hv m o' own' fr') st
end
end DL
/-! The data layer: defs, the program's table, the law. -/
namespace DL
open PySem PySem.Spec PyProof.Rows L2
structure Glob (P : Program) (w : World) (K : PySem.W.Frag) (mg : Str → Option Value) (base : Heap) (cl : Str → Addr) (T : Tbl) (k : Nat) : Prop where
  fn : ∀ (x : Str) (n : Nat) (F : List D → R D), T.fn x = some (n, F) → ∃ (f : Addr) (fd : FuncData) (ps : List Str), FnOk P w K mg base (L2.CX P w) k f fd ps (spD K cl n F) ∧ mg x = some (.ref f) ∧ PySem.W.keepIn K (.ref f) = true ∧ Binds K fd ps []
  fo : ∀ (x : Str) (n : Nat) (F : List D → R D), T.fo x = some (n, F) → ∃ (f : Addr) (fd : FuncData) (ps : List Str), FnOk P w K mg base (L2.CX P w) k f fd ps (spF K cl n F) ∧ mg x = some (.ref f) ∧ PySem.W.keepIn K (.ref f) = true ∧ Binds K fd ps []
  con : ∀ (x : Str) (d : D), T.con x = some d → ∃ (v : V) (u : Value), mg x = some u ∧ RelV v u ∧ FlatV v d
  free : ∀ x ∈ blts, T.fn x = none → mg x = none
  exc : ∀ x, T.exc x = true → PySem.W.excIn K (cl x) [.type "ValueError", .type "Exception", .type "BaseException", .type "object"] "ValueError.__new__" = true ∧ mg x = some (.ref (cl x)) ∧ PySem.W.keepIn K (.ref (cl x)) = true ∧
    PySem.W.subIn K (.ref (cl x)) (.type "BaseException") = some true ∧ PySem.W.typeIn K (.ref (cl x)) = some (.type "type")
  xc : T.exc "FleetError" = true → (∀ c, T.exc c = true → ExcC K (cl c)) ∧ (∀ c, T.exc c = true → PySem.W.exmOne K (.ref (cl c)) (.ref (cl "FleetError")) = some true) ∧
    ∀ c k, T.exc c = true → T.exc k = true → k ≠ "FleetError" → PySem.W.kitOne K (.ref (cl c)) (.ref (cl k)) = some (decide (c = k))
section
variable {P : Program} {w : World} {K : PySem.W.Frag} {mg : Str → Option Value} {base : Heap} {cl : Str → Addr} {T : Tbl} {k : Nat}
theorem start_env {N : List Str} {Hf H : Hp} {vs : List V} {ds : List D} (sf : Same Hf H) (r : RpL K Hf vs ds) : EnvR K Hf H Hf H (L2.start N vs) (ds.map DL.Slot.va ++ List.replicate (N.length - ds.length) .un) := by
  have hl := r.length
  have sp : ∀ (i : Nat) (s : DL.Slot), (ds.map DL.Slot.va ++ List.replicate (N.length - ds.length) DL.Slot.un)[i]? = some s → (∃ d, ds[i]? = some d ∧ s = .va d) ∨ s = .un := fun i s h => by
    by_cases hi : i < ds.length
    · rw [List.getElem?_append_left (by simpa using hi), List.getElem?_map, List.getElem?_eq_getElem hi] at h
      cases h
      exact .inl ⟨_, List.getElem?_eq_getElem hi, rfl⟩
    · rw [List.getElem?_append_right (by simpa using hi)] at h
      right
      have := List.mem_of_getElem? h
      exact (List.mem_replicate.mp this).2
  refine ⟨Grow.refl sf, ?_, fun i s v h1 h2 => ?_, fun i j d e a h1 => ?_⟩
  · unfold L2.start
    simp [hl]
  · rcases sp i s h1 with ⟨d, hd, rfl⟩ | rfl
    · obtain ⟨x, q1, q2⟩ := r.get hd
      have hi : i < vs.length := (List.getElem?_eq_some_iff.mp q1).1
      unfold L2.start at h2
      rw [List.getElem?_append_left (by simpa using hi), List.getElem?_map, q1] at h2
      cases h2
      exact ⟨x, rfl, q2⟩
    · trivial
  · rcases sp i _ h1 with ⟨_, _, z⟩ | z <;> cases z
theorem cx_run {N : List Str} {qual : Str} {scope : Scope} {f : Addr} {cdv : Value} {A : Around} {outer : List PySem.Env} {s : Shared} {H : Hp} {E : XK} {ps : List Str} (b : Bool) (S : FnScope N ps scope) (G : Glob P w K mg base cl T k)
    (hr : Room k (A.deeper (envOfC qual scope s.heap.objs.size f cdv))) : CxOk T N (cxOf (L2.CX P w) P w K mg base N qual scope f cdv A outer s H E) ⟨K, E, cl, b⟩ ⟨scope, N, b⟩ := {
      eK := rfl
      calm := rfl
      eN := rfl
      nd := S.nd
      sc := rfl
      kind := S.kind
      wr := fun x _ => .inl rfl
      units := by have := hr.un; show (A.deeper (envOfC qual scope s.heap.objs.size f cdv)).units + 65 < cLine; omega
      tk := takes_of rfl rfl rfl rfl
      fn := fun x n F hF => by
        obtain ⟨f', fd', ps', h1, h2, h3, h4⟩ := G.fn x n F hF
        exact ⟨k, f', fd', ps', h1, hr, h2, h3, h4⟩
      fo := fun x n F hF => by
        obtain ⟨f', fd', ps', h1, h2, h3, h4⟩ := G.fo x n F hF
        exact ⟨k, f', fd', ps', h1, hr, h2, h3, h4⟩
      fr := rfl
      con := G.con
      free := G.free
      exc := fun x hx => by
        obtain ⟨h1, h2, h3, h4, h5⟩ := G.exc x hx
        exact ⟨h1, h2, h3, raises_own h4 h5⟩
      xc := fun hF => by
        obtain ⟨h1, h2, h3⟩ := G.xc hF
        exact ⟨fun x hx => (G.exc x hx).2.1, h1, h2, h3⟩ }
theorem fn_run {x qual : Str} {params : Arguments} {body : List Stmt} {scope : Scope} {f : Addr} {fd : FuncData} {N ps : List Str} (n wh : Nat) (F : FunD K x qual params body scope [] [] f fd) (S : FnScope N ps scope) (G : Glob P w K mg base cl T k) :
    FnOk P w K mg base (L2.CX P w) (k + 1) f fd ps (spD K cl ps.length (runD T N wh (n + 1) scope body)) := by
  refine F.ok S (fun vs H Q E h => ?_) (fun cdv A outer s H vs Q E hr h => ?_)
  · obtain ⟨Hf, ds, _, r, hl, _⟩ := h
    exact r.length.trans hl
  · obtain ⟨Hf, ds, sf, r, hl, h⟩ := h
    have o := cx_run (E := E) (cdv := cdv) (outer := outer) (s := s) (H := H) (f := f) (qual := qual) (A := A) false S G hr
    refine ⟨_, snd_blk (snd_S (wh := wh) (n := n) (v := ev T N (n + 1)) rfl (n + 1) o (passes_of rfl) ⟨rfl, rfl⟩) body, Hf, H, Hf, _, start_env sf r, ?_⟩
    have h : OutG ⟨K, E, cl, false⟩ (RelE ⟨K, E, cl, false⟩) Hf H (blkS (evS T N wh (ev T N (n + 1)) ⟨scope, N, false⟩ (n + 1)) body (ds.map DL.Slot.va ++ List.replicate (N.length - ds.length) .un) >>= fun o => match o with
      | .rt d => .ok d
      | .nx _ => .ok .none
      | _ => .bad) Q := h
    cases e1 : blkS (evS T N wh (ev T N (n + 1)) ⟨scope, N, false⟩ (n + 1)) body (ds.map DL.Slot.va ++ List.replicate (N.length - ds.length) .un) with
    | bad => rw [e1] at h; exact h.elim
    | exc c => rw [e1] at h; exact h
    | ok o' =>
      rw [e1] at h
      cases o' with
      | rt d => exact h
      | nx ρ => exact fun Hf' H' σ' s' e' => h .non Hf' H' e'.grow .non
      | bk ρ => exact h.elim
      | ct ρ => exact h.elim
theorem fn_runF {x qual : Str} {params : Arguments} {body : List Stmt} {scope : Scope} {f : Addr} {fd : FuncData} {N ps : List Str} (n wh : Nat) (F : FunD K x qual params body scope [] [] f fd) (S : FnScope N ps scope) (G : Glob P w K mg base cl T k) :
    FnOk P w K mg base (L2.CX P w) (k + 1) f fd ps (spF K cl ps.length (runF T N wh (n + 1) scope body)) := by
  refine F.ok S (fun vs H Q E h => ?_) (fun cdv A outer s H vs Q E hr h => ?_)
  · obtain ⟨Hf, ds, _, r, hl, _⟩ := h
    exact r.length.trans hl
  · obtain ⟨Hf, ds, sf, r, hl, h⟩ := h
    have o := cx_run (E := E) (cdv := cdv) (outer := outer) (s := s) (H := H) (f := f) (qual := qual) (A := A) true S G hr
    refine ⟨_, snd_blk (snd_S (wh := wh) (n := n) (v := ev T N (n + 1)) rfl (n + 1) o (passes_of rfl) ⟨rfl, rfl⟩) body, Hf, H, Hf, _, start_env sf r, ?_⟩
    have h : OutG ⟨K, E, cl, true⟩ (RelF ⟨K, E, cl, true⟩ H) Hf H (blkS (evS T N wh (ev T N (n + 1)) ⟨scope, N, true⟩ (n + 1)) body (ds.map DL.Slot.va ++ List.replicate (N.length - ds.length) .un) >>= fun o => match o with
      | .rt d => .ok d
      | _ => .bad) Q := h
    cases e1 : blkS (evS T N wh (ev T N (n + 1)) ⟨scope, N, true⟩ (n + 1)) body (ds.map DL.Slot.va ++ List.replicate (N.length - ds.length) .un) with
    | bad => rw [e1] at h; exact h.elim
    | exc c => rw [e1] at h; exact h
    | ok o' =>
      rw [e1] at h
      cases o' with
      | rt d => exact h
      | nx ρ => exact h.elim
      | bk ρ => exact h.elim
      | ct ρ => exact h.elim
end
/-! ### the program -/
structure DefI where
  name : Str
  st : Stmt
  ps : List Str
  N : List Str
def DefI.d (i : DefI) : He.DefD := ⟨(i.name, none), i.name, i.name, defArgs i.st, defBody i.st, defScope i.st, [], []⟩
structure Prg where
  defs : List DefI
  inn : List (Str × Int)
  txt : List (Str × Str)
  excs : List Str
def Prg.has (p : Prg) (x : Str) : Bool := p.defs.any fun d => d.name == x
def Prg.fn (p : Prg) : List He.DefD := p.defs.map DefI.d
def Prg.fa (p : Prg) : List He.Fa := p.defs.map (fun d => .glo d.name) ++ (blts.map .free ++ (p.inn.map (fun q => .int q.1 q.2) ++ (p.txt.map (fun q => .str q.1 q.2) ++ (p.excs.map .exc ++ p.excs.map .glo))))
def Prg.con (p : Prg) (x : Str) : Option D := match p.inn.lookup x with
  | some i => some (.int i)
  | none => (p.txt.lookup x).map .str
/-- defs that give back fresh objects which their callers change -/
def frs : List Str := ["bounds_for"]
def Prg.T (p : Prg) (wh n : Nat) : Nat → Tbl
  | 0 => ⟨fun _ => none, p.con, fun x => p.excs.contains x, fun _ => none⟩
  | k + 1 => ⟨fun x => (p.defs.find? fun d => d.name == x).map fun d => (d.ps.length, runD (p.T wh n k) d.N wh (n + 1) (defScope d.st) (defBody d.st)), p.con, fun x => p.excs.contains x,
    fun x => if frs.contains x then (p.defs.find? fun d => d.name == x).map fun d => (d.ps.length, runF (p.T wh n k) d.N wh (n + 1) (defScope d.st) (defBody d.st)) else none⟩
/-- what isinstance asks of an error's class -/
def excCB (K : PySem.W.Frag) (D : Addr) : Bool := He.eqO (PySem.W.findIn K (.ref D) "__getattribute__") (some (some (.builtin "BaseException.__getattribute__"))) && (He.eqO (PySem.W.findIn K (.ref D) "__getattr__") (some none) && (decide (PySem.W.subIn K (.ref D) (.type "BaseException") = some true) &&
  (PySem.W.hasDictIn K D && (He.eqO (PySem.W.findIn K (.ref D) "__class__") (some (some (.builtin "object.__class__"))) && (He.eqO (PySem.W.specialIn K (.builtin "object.__class__") "__get__") (some (some (.builtin "getset_descriptor.__get__"))) &&
  (decide (PySem.W.takesIn K (.builtin "object.__class__") = some true) && decide (PySem.W.mroIn K D (.type "object") = some true)))))))
theorem excC_of {K : PySem.W.Frag} {D : Addr} (h : excCB K D = true) : ExcC K D := by
  simp only [excCB, Bool.and_eq_true, decide_eq_true_eq] at h
  obtain ⟨h1, h2, h3, h4, h5, h6, h7, h8⟩ := h
  exact ⟨He.eqO_ok h1, He.eqO_ok h2, h3, h4, He.eqO_ok h5, He.eqO_ok h6, h7, h8⟩
def Prg.xB (p : Prg) (K : PySem.W.Frag) : Bool := !(p.excs.contains "FleetError") || p.excs.all fun c => excCB K (He.ga K c) && (decide (PySem.W.exmOne K (.ref (He.ga K c)) (.ref (He.ga K "FleetError")) = some true) &&
  p.excs.all fun k => (k == ("FleetError" : Str)) || decide (PySem.W.kitOne K (.ref (He.ga K c)) (.ref (He.ga K k)) = some (decide (c = k))))
theorem xB_of {p : Prg} {K : PySem.W.Frag} (h : p.xB K = true) (hF : p.excs.contains "FleetError" = true) : (∀ c, p.excs.contains c = true → ExcC K (He.ga K c)) ∧ (∀ c, p.excs.contains c = true → PySem.W.exmOne K (.ref (He.ga K c)) (.ref (He.ga K "FleetError")) = some true) ∧
    ∀ c k, p.excs.contains c = true → p.excs.contains k = true → k ≠ "FleetError" → PySem.W.kitOne K (.ref (He.ga K c)) (.ref (He.ga K k)) = some (decide (c = k)) := by
  unfold Prg.xB at h
  rw [hF] at h
  simp only [Bool.not_true, Bool.false_or, List.all_eq_true, Bool.and_eq_true, Bool.or_eq_true, decide_eq_true_eq] at h
  refine ⟨fun c hc => excC_of (h c (by simpa using hc)).1, fun c hc => (h c (by simpa using hc)).2.1, fun c k hc hk hne => ?_⟩
  rcases (h c (by simpa using hc)).2.2 k (by simpa using hk) with z | z
  · exact absurd (eq_of_beq z) hne
  · exact z
/-! ### the hook -/
def obsX (xB : PySem.W.Frag → Bool) (fa : List He.Fa) (fn : List He.DefD) (K : PySem.W.Frag) : Bool × He.AlD := (xB K, He.obsD fa fn K)
def obsXG (n : Nat) (xB : PySem.W.Frag → Bool) (fa : List He.Fa) (fn : List He.DefD) (g : Addr → Option Obj) : Bool × He.AlD := obsX xB fa fn (He.frG g (He.asD g n))
def hookX (n : Nat) (xB : PySem.W.Frag → Bool) (fa : List He.Fa) (fn : List He.DefD) : PySem.W.Hook where
  α := Bool × He.AlD
  obs := fun s => obsXG n xB fa fn s.heap.get?
  val := fun _ => (true, He.valD fn)
  says := fun _ h => ∃ K : PySem.W.Frag, K.In h ∧ xB K = true ∧ He.SaysD fa fn K
  of := fun _ _ e => ⟨_, He.frG_in, congrArg (fun z : Bool × He.AlD => z.1) e, congrArg (fun z : Bool × He.AlD => z.2) e⟩
  keeps := fun _ _ _ ⟨K, hK, c⟩ k => ⟨K, PySem.W.Frag.In.keeps hK k, c⟩
theorem obsXG_eq {n : Nat} {xB : PySem.W.Frag → Bool} {fa : List He.Fa} {fn : List He.DefD} {g : Addr → Option Obj} {s : Shared} (h : ∀ a, g a = s.heap.get? a) : obsXG n xB fa fn g = (hookX n xB fa fn).obs s := by
  have e : g = s.heap.get? := funext h
  rw [e] <;> rfl
/-- a def's scope is as wanted -/
def scB (d : DefI) : Bool := (match (defScope d.st).kind with | .function => true | _ => false) && !(defScope d.st).isCoroutine && !(defScope d.st).isGenerator && decide d.N.Nodup && decide (d.N.take d.ps.length = d.ps) &&
  (d.ps.all fun x => isLoc (defScope d.st) x) && ((defScope d.st).names.all fun y => match y.2 with | .free => false | _ => true)
theorem scB_ok {d : DefI} (h : scB d = true) : FnScope d.N d.ps (defScope d.st) := by
  simp only [scB, Bool.and_eq_true, Bool.not_eq_true', decide_eq_true_eq, List.all_eq_true] at h
  obtain ⟨⟨⟨⟨⟨⟨h1, h2⟩, h3⟩, h4⟩, h5⟩, h6⟩, h7⟩ := h
  refine ⟨?_, h2, h3, h4, h5, fun x hx => ?_, fun y hy e => ?_⟩
  · split at h1
    · rename_i e; exact e
    · cases h1
  · have := h6 x hx
    unfold isLoc at this
    split at this
    · rename_i e; exact .inl e
    · rename_i e; exact .inr e
    · cases this
  · have := h7 y hy
    rw [e] at this
    cases this
/-- its parameters are bound as they are written -/
def BndOk (d : DefI) : Prop := ∀ (kV doc pm : Value) (an : Option Addr) (cdv ct : Value) (us : List Value), us.length = d.ps.length → bindArgs (PySem.W.fnOf d.name d.name (defArgs d.st) (defBody d.st) (defScope d.st) .none kV doc pm an cdv ct) ⟨us, []⟩ = pure (d.ps.zip us)
section
variable {P : Program} {w : World} {K : PySem.W.Frag} {mg : Str → Option Value} {base h : Heap}
theorem fact_mem {fa : List He.Fa} {fn : List He.DefD} (c : He.SaysD fa fn K) {f : He.Fa} (hf : f ∈ fa) : f.ok K = true := by
  obtain ⟨i, hi⟩ := List.getElem?_of_mem hf
  exact c.fact i hi
theorem lookup_mem2 {α : Type} {l : List (Str × α)} {x : Str} {a : α} (h : l.lookup x = some a) : (x, a) ∈ l := PySem.mem_of_lookup h
theorem prg_glob (p : Prg) (wh n : Nat) (X : K.In h) (G : h.Ns mainGlobals mg) (cx : p.xB K = true) (c : He.SaysD p.fa p.fn K) (hs : p.defs.all scB = true) (hb : ∀ d ∈ p.defs, BndOk d) : ∀ k, Glob P w K mg base (He.ga K) (p.T wh n k) k := by
  have con : ∀ (x : Str) (d : D), p.con x = some d → ∃ (v : V) (u : Value), mg x = some u ∧ RelV v u ∧ FlatV v d := fun x d hd => by
    unfold Prg.con at hd
    cases q : p.inn.lookup x with
    | some i =>
      rw [q] at hd
      cases hd
      obtain ⟨t, e⟩ := He.int_ok X G (fact_mem c (f := .int x i) (by
        unfold Prg.fa
        exact List.mem_append_right _ (List.mem_append_right _ (List.mem_append_left _ (List.mem_map.mpr ⟨(x, i), lookup_mem2 q, rfl⟩)))))
      exact ⟨.int i, _, e, ⟨t, rfl⟩, fun _ _ => .int i⟩
    | none =>
      rw [q] at hd
      cases q2 : p.txt.lookup x with
      | none => rw [q2] at hd; cases hd
      | some z =>
        rw [q2] at hd
        cases hd
        obtain ⟨t, e⟩ := He.str_ok X G (fact_mem c (f := .str x z) (by
          unfold Prg.fa
          exact List.mem_append_right _ (List.mem_append_right _ (List.mem_append_right _ (List.mem_append_left _ (List.mem_map.mpr ⟨(x, z), lookup_mem2 q2, rfl⟩))))))
        exact ⟨.str z, _, e, ⟨t, rfl⟩, fun _ _ => .str z⟩
  have free : ∀ x ∈ blts, mg x = none := fun x hx => He.free_ok X G (fact_mem c (f := .free x) (by
    unfold Prg.fa
    exact List.mem_append_right _ (List.mem_append_left _ (List.mem_map.mpr ⟨x, hx, rfl⟩))))
  have exc : ∀ x, p.excs.contains x = true → PySem.W.excIn K (He.ga K x) [.type "ValueError", .type "Exception", .type "BaseException", .type "object"] "ValueError.__new__" = true ∧ mg x = some (.ref (He.ga K x)) ∧ PySem.W.keepIn K (.ref (He.ga K x)) = true ∧
      PySem.W.subIn K (.ref (He.ga K x)) (.type "BaseException") = some true ∧ PySem.W.typeIn K (.ref (He.ga K x)) = some (.type "type") := fun x hx => by
    have hm : x ∈ p.excs := by simpa using hx
    obtain ⟨h1, h2, h3, h4⟩ := He.exc_ok (fact_mem c (f := .exc x) (by
      unfold Prg.fa
      exact List.mem_append_right _ (List.mem_append_right _ (List.mem_append_right _ (List.mem_append_right _ (List.mem_append_left _ (List.mem_map.mpr ⟨x, hm, rfl⟩)))))))
    have g := He.glo_ok X G (fact_mem c (f := .glo x) (by
      unfold Prg.fa
      exact List.mem_append_right _ (List.mem_append_right _ (List.mem_append_right _ (List.mem_append_right _ (List.mem_append_right _ (List.mem_map.mpr ⟨x, hm, rfl⟩)))))))
    exact ⟨h1, g, h2, h3, h4⟩
  intro k
  induction k with
  | zero => exact ⟨fun x n F e => (nomatch e), fun x n F e => (nomatch e), con, fun x hx _ => free x hx, exc, xB_of cx⟩
  | succ k ih =>
    refine ⟨fun x m F e => ?_, fun x m F e => ?_, con, fun x hx _ => free x hx, exc, xB_of cx⟩
    · have e : ((p.defs.find? fun d => d.name == x).map fun d => (d.ps.length, runD (p.T wh n k) d.N wh (n + 1) (defScope d.st) (defBody d.st))) = some (m, F) := e
      cases q : p.defs.find? fun d => d.name == x with
      | none => rw [q] at e; cases e
      | some d =>
        rw [q] at e
        cases e
        have hm : d ∈ p.defs := List.mem_of_find?_eq_some q
        have hx : d.name = x := by simpa using List.find?_some q
        obtain ⟨i, hi⟩ := List.getElem?_of_mem hm
        obtain ⟨fd, FD⟩ := c.def_ i (d := d.d) (by unfold Prg.fn; rw [List.getElem?_map, hi]; rfl)
        have FD : FunD K d.name d.name (defArgs d.st) (defBody d.st) (defScope d.st) [] [] (He.ga K d.name) fd := FD
        have g := He.glo_ok X G (fact_mem c (f := .glo d.name) (by
          unfold Prg.fa
          exact List.mem_append_left _ (List.mem_map.mpr ⟨d, hm, rfl⟩)))
        exact ⟨_, fd, d.ps, fn_run n wh FD (scB_ok (List.all_eq_true.mp hs d hm)) ih, by rw [← hx]; exact g, FD.kp, FD.bindsN (hb d hm)⟩
    · have e : (if frs.contains x then (p.defs.find? fun d => d.name == x).map fun d => (d.ps.length, runF (p.T wh n k) d.N wh (n + 1) (defScope d.st) (defBody d.st)) else none) = some (m, F) := e
      have e : ((p.defs.find? fun d => d.name == x).map fun d => (d.ps.length, runF (p.T wh n k) d.N wh (n + 1) (defScope d.st) (defBody d.st))) = some (m, F) := by
        split at e
        · exact e
        · cases e
      cases q : p.defs.find? fun d => d.name == x with
      | none => rw [q] at e; cases e
      | some d =>
        rw [q] at e
        cases e
        have hm : d ∈ p.defs := List.mem_of_find?_eq_some q
        have hx : d.name = x := by simpa using List.find?_some q
        obtain ⟨i, hi⟩ := List.getElem?_of_mem hm
        obtain ⟨fd, FD⟩ := c.def_ i (d := d.d) (by unfold Prg.fn; rw [List.getElem?_map, hi]; rfl)
        have FD : FunD K d.name d.name (defArgs d.st) (defBody d.st) (defScope d.st) [] [] (He.ga K d.name) fd := FD
        have g := He.glo_ok X G (fact_mem c (f := .glo d.name) (by
          unfold Prg.fa
          exact List.mem_append_left _ (List.mem_map.mpr ⟨d, hm, rfl⟩)))
        exact ⟨_, fd, d.ps, fn_runF n wh FD (scB_ok (List.all_eq_true.mp hs d hm)) ih, by rw [← hx]; exact g, FD.kp, FD.bindsN (hb d hm)⟩
end
/-! ### the law -/
def CXany : CXT := fun outer H s E e s' => ∃ (P : Program) (w : World), L2.CX P w outer H s E e s'
theorem fn_wider {P : Program} {w : World} {K : PySem.W.Frag} {mg : Str → Option Value} {base : Heap} {k : Nat} {f : Addr} {fd : FuncData} {ps : List Str} {sp : Sp} (F : FnOk P w K mg base (L2.CX P w) k f fd ps sp) : FnOk P w K mg base CXany k f fd ps sp :=
  ⟨F.len, fun A outer s H args us vs Q E hr he hb hv hs => codeAny_mono (F.run A outer s H args us vs Q E hr he hb hv hs) fun r s' q => by
    cases r with
    | error e => exact ⟨P, w, q⟩
    | ok fl =>
      cases fl with
      | ret u => exact q
      | next => exact q
      | brk => exact q
      | cont => exact q⟩
theorem cxany_no {H : Hp} {s : Shared} {e : Value} {s' : Shared} (h : CXany [] H s (fun _ _ _ => False) e s') : False := by
  obtain ⟨P, w, _, _, _, _, _, _, _, _, _, _, _, _, z⟩ := h
  exact z
theorem law_ok {P : Program} {w : World} {K : PySem.W.Frag} {mg : Str → Option Value} {h : Heap} {f : Addr} (p : Prg) (wh n k : Nat) (X : K.In h) (G : h.Ns mainGlobals mg) (hfa : mg ("law" : Str) = some (.ref f)) (cx : p.xB K = true) (c : He.SaysD p.fa p.fn K) (hs : p.defs.all scB = true) (hb : ∀ d ∈ p.defs, BndOk d)
    (d : DefI) (hd : d ∈ p.defs) (hn : d.name = "law") (hp : d.ps = [("script" : Str)]) (ok : ∀ ns : List Int, ns.length ≤ 63 → runD (p.T wh n k) d.N wh (n + 1) (defScope d.st) (defBody d.st) [scr ns] = .ok (.bool true)) :
    ∃ (fd : FuncData) (sp : Sp), (∀ (s : Shared) (u : Value), BindsTo s fd ⟨[u], []⟩ [("script", u)]) ∧
      (∀ (H : Hp) (a : Addr) (ns : List Int), ns.length ≤ 63 → Only H → SqL K H a (ns.map V.int) → sp [.ref a] H (fun v _ => v = .bl true) fun _ _ _ => False) ∧
      ∀ base : Heap, K.In base → base.Ns mainGlobals mg → FnOk P w K mg base CXany (k + 1) f fd [("script" : Str)] sp := by
  obtain ⟨i, hi⟩ := List.getElem?_of_mem hd
  obtain ⟨fd, FD⟩ := c.def_ i (d := d.d) (by unfold Prg.fn; rw [List.getElem?_map, hi]; rfl)
  have FD : FunD K d.name d.name (defArgs d.st) (defBody d.st) (defScope d.st) [] [] (He.ga K d.name) fd := FD
  have g := He.glo_ok X G (fact_mem c (f := .glo d.name) (by
    unfold Prg.fa
    exact List.mem_append_left _ (List.mem_map.mpr ⟨d, hd, rfl⟩)))
  have ef : He.ga K d.name = f := by
    rw [hn, hfa] at g
    rw [hn]
    cases g
    rfl
  refine ⟨fd, spD K (He.ga K) 1 (runD (p.T wh n k) d.N wh (n + 1) (defScope d.st) (defBody d.st)), fun s u => ?_, fun H a ns hlen _ hS => ?_, fun base KB GB => ?_⟩
  · have := FD.bindsA (ps := d.ps) (hb d hd) s [u] (by rw [hp]; rfl)
    rw [hp] at this
    exact this
  · refine ⟨H, [scr ns], Same.refl _, .cons (.scr hS (by rw [sizeLine_eq]; omega)) .nil, rfl, ?_⟩
    rw [ok ns hlen]
    intro v Hf' H' g r
    cases r
    rfl
  · have q := fn_run (P := P) (w := w) (base := base) (mg := mg) (k := k) (cl := He.ga K) n wh FD (scB_ok (List.all_eq_true.mp hs d hd)) (prg_glob p wh n X G cx c hs hb k)
    rw [hp, ef] at q
    exact fn_wider q
end DL
/-! The data layer: a def's functional form. -/
namespace DL
open PySem PySem.Spec PyProof.Rows L2
def kD (d : D) : Env → R D := fun _ => .ok d
def kT (b : Bool) : Env → R Bool := fun _ => .ok b
def e1 (F : D → R D) (a : Env → R D) : Env → R D := fun ρ => a ρ >>= F
def e2 (F : D → D → R D) (a b : Env → R D) : Env → R D := fun ρ => a ρ >>= fun x => b ρ >>= fun y => F x y
def t1 (F : D → R Bool) (a : Env → R D) : Env → R Bool := fun ρ => a ρ >>= F
def t2 (F : D → D → R Bool) (a b : Env → R D) : Env → R Bool := fun ρ => a ρ >>= fun x => b ρ >>= fun y => F x y
def bCmp (op : CmpOp) (x y : D) : R D := asBool (dCmp op x y)
def eBo (f : Env → R Bool) : Env → R D := fun ρ => asBool (f ρ)
def eArgs : List (Env → R D) → Env → R (List D)
  | [] => fun _ => .ok []
  | f :: fs => fCons f (eArgs fs)
def eTup (fs : List (Env → R D)) : Env → R D := fun ρ => eArgs fs ρ >>= fun ds => okLen ds .tuple
def eLst (fs : List (Env → R D)) : Env → R D := fun ρ => eArgs fs ρ >>= fun ds => okLen ds .list
def pN : Env → R (Option Int) := fun _ => .ok none
def pS (a : Env → R D) : Env → R (Option Int) := fun ρ => a ρ >>= dPart
def eSl (a : Env → R D) (lo hi : Env → R (Option Int)) : Env → R D := fun ρ => a ρ >>= fun x => lo ρ >>= fun l => hi ρ >>= fun u => dSl x l u
def eRv (a : Env → R D) : Env → R D := fun ρ => a ρ >>= fun x => (R.ok none : R (Option Int)) >>= fun l => dRev x l
def eRvF (a : Env → R D) (lo : Env → R (Option Int)) : Env → R D := fun ρ => a ρ >>= fun x => match x with | .tuple _ => lo ρ >>= fun l => dRev x l | _ => .bad
def eC (n : Nat) (F : List D → R D) (fs : List (Env → R D)) : Env → R D := fun ρ => eArgs fs ρ >>= ari n F
def eB (F : List D → R D) (fs : List (Env → R D)) : Env → R D := fun ρ => eArgs fs ρ >>= F
def iB (F : List D → R (List D)) (fs : List (Env → R D)) : Env → R (List D) := fun ρ => eArgs fs ρ >>= F
def i1 (F : D → R (List D)) (a : Env → R D) : Env → R (List D) := fun ρ => a ρ >>= F
def sNil : Env → R Out := fun ρ => .ok (.nx ρ)
def sBrk : Env → R Out := fun ρ => .ok (.bk ρ)
def sCnt : Env → R Out := fun ρ => .ok (.ct ρ)
def sRet0 : Env → R Out := fun _ => .ok (.rt .none)
def sRet (a : Env → R D) : Env → R Out := fun ρ => a ρ >>= fun d => .ok (.rt d)
def sExp (a : Env → R D) : Env → R Out := fun ρ => a ρ >>= fun _ => .ok (.nx ρ)
def sSet (i : Nat) (a : Env → R D) : Env → R Out := fun ρ => a ρ >>= fun d => .ok (.nx (ρ.set i (.va d)))
def sOwn (i : Nat) (a : Env → R D) : Env → R Out := fun ρ => a ρ >>= fun d => .ok (.nx (ρ.set i (.ow d)))
def sExc (c : Str) : Env → R Out := fun _ => .exc c
def fOut : Out → R D
  | .rt d => .ok d
  | .nx _ => .ok .none
  | _ => .bad
def fRun (n : Nat) (b : Env → R Out) (ds : List D) : R D := b (ds.map Slot.va ++ List.replicate (n - ds.length) .un) >>= fun o => match o with
    | .rt d => .ok d
    | .nx _ => .ok .none
    | _ => .bad
def fRunF (n : Nat) (b : Env → R Out) (ds : List D) : R D := b (ds.map Slot.va ++ List.replicate (n - ds.length) .un) >>= fun o => match o with
    | .rt d => .ok d
    | _ => .bad
end DL
/-! The data layer: rules by which a functional form is worked out. -/
namespace DL
open PySem PySem.Spec PyProof.Rows L2
section
variable {ρ : Env} {a b : Env → R D}
@[simp] theorem rdE_zero (d : D) : rdE 0 (.va d :: ρ) = .ok d := (rfl)
@[simp] theorem rdE_one (s : Slot) (d : D) : rdE 1 (s :: .va d :: ρ) = .ok d := (rfl)
theorem rdE_succ (n : Nat) (s : Slot) : rdE (n + 1) (s :: ρ) = rdE n ρ := by simp [rdE]
@[simp] theorem rdP_zero (d : D) : rdP 0 (.va d :: ρ) = .ok d := (rfl)
@[simp] theorem rdP_zero_ow (d : D) : rdP 0 (.ow d :: ρ) = .ok d := (rfl)
theorem rdP_succ (n : Nat) (s : Slot) : rdP (n + 1) (s :: ρ) = rdP n ρ := by simp [rdP]
@[simp] theorem kD_ap (d : D) : kD d ρ = .ok d := (rfl)
@[simp] theorem kT_ap (d : Bool) : kT d ρ = .ok d := (rfl)
@[simp] theorem e1_ap (F : D → R D) : e1 F a ρ = a ρ >>= F := (rfl)
@[simp] theorem e2_ap (F : D → D → R D) : e2 F a b ρ = a ρ >>= fun x => b ρ >>= fun y => F x y := (rfl)
@[simp] theorem t1_ap (F : D → R Bool) : t1 F a ρ = a ρ >>= F := (rfl)
@[simp] theorem t2_ap (F : D → D → R Bool) : t2 F a b ρ = a ρ >>= fun x => b ρ >>= fun y => F x y := (rfl)
@[simp] theorem bCmp_ap (op : CmpOp) (x y : D) : bCmp op x y = asBool (dCmp op x y) := (rfl)
@[simp] theorem asBool_ok (x : Bool) : asBool (.ok x) = .ok (.bool x) := (rfl)
@[simp] theorem eBo_ap (f : Env → R Bool) : eBo f ρ = asBool (f ρ) := (rfl)
@[simp] theorem eArgs_nil : eArgs [] ρ = .ok [] := (rfl)
@[simp] theorem eArgs_cons (f : Env → R D) (fs : List (Env → R D)) : eArgs (f :: fs) ρ = f ρ >>= fun x => eArgs fs ρ >>= fun xs => .ok (x :: xs) := (rfl)
@[simp] theorem eTup_ap (fs : List (Env → R D)) : eTup fs ρ = eArgs fs ρ >>= fun ds => okLen ds .tuple := (rfl)
@[simp] theorem eLst_ap (fs : List (Env → R D)) : eLst fs ρ = eArgs fs ρ >>= fun ds => okLen ds .list := (rfl)
@[simp] theorem okLen_nil (f : List D → D) : okLen [] f = .ok (f []) := (rfl)
@[simp] theorem okLen_1 (f : List D → D) (x1 : D) : okLen [x1] f = .ok (f [x1]) := (rfl)
@[simp] theorem okLen_2 (f : List D → D) (x1 x2 : D) : okLen [x1, x2] f = .ok (f [x1, x2]) := (rfl)
@[simp] theorem okLen_3 (f : List D → D) (x1 x2 x3 : D) : okLen [x1, x2, x3] f = .ok (f [x1, x2, x3]) := (rfl)
@[simp] theorem okLen_4 (f : List D → D) (x1 x2 x3 x4 : D) : okLen [x1, x2, x3, x4] f = .ok (f [x1, x2, x3, x4]) := (rfl)
@[simp] theorem okLen_5 (f : List D → D) (x1 x2 x3 x4 x5 : D) : okLen [x1, x2, x3, x4, x5] f = .ok (f [x1, x2, x3, x4, x5]) := (rfl)
theorem okLen_le {ds : List D} {f : List D → D} (h : ds.length ≤ 1000) : okLen ds f = .ok (f ds) := if_pos h
@[simp] theorem pN_ap : pN ρ = .ok none := (rfl)
@[simp] theorem pS_ap : pS a ρ = a ρ >>= dPart := (rfl)
@[simp] theorem dPart_int (i : Int) : dPart (.int i) = .ok (some i) := (rfl)
@[simp] theorem eSl_ap (lo hi : Env → R (Option Int)) : eSl a lo hi ρ = a ρ >>= fun x => lo ρ >>= fun l => hi ρ >>= fun u => dSl x l u := (rfl)
@[simp] theorem eRv_ap : eRv a ρ = a ρ >>= fun x => dRev x none := (rfl)
@[simp] theorem eC_ap (n : Nat) (F : List D → R D) (fs : List (Env → R D)) : eC n F fs ρ = eArgs fs ρ >>= ari n F := (rfl)
@[simp] theorem ari_1 (F : List D → R D) (x1 : D) : ari 1 F [x1] = F [x1] := (rfl)
@[simp] theorem ari_2 (F : List D → R D) (x1 x2 : D) : ari 2 F [x1, x2] = F [x1, x2] := (rfl)
@[simp] theorem ari_3 (F : List D → R D) (x1 x2 x3 : D) : ari 3 F [x1, x2, x3] = F [x1, x2, x3] := (rfl)
@[simp] theorem ari_4 (F : List D → R D) (x1 x2 x3 x4 : D) : ari 4 F [x1, x2, x3, x4] = F [x1, x2, x3, x4] := (rfl)
@[simp] theorem ari_5 (F : List D → R D) (x1 x2 x3 x4 x5 : D) : ari 5 F [x1, x2, x3, x4, x5] = F [x1, x2, x3, x4, x5] := (rfl)
@[simp] theorem ari_6 (F : List D → R D) (x1 x2 x3 x4 x5 x6 : D) : ari 6 F [x1, x2, x3, x4, x5, x6] = F [x1, x2, x3, x4, x5, x6] := (rfl)
@[simp] theorem eB_ap (F : List D → R D) (fs : List (Env → R D)) : eB F fs ρ = eArgs fs ρ >>= F := (rfl)
@[simp] theorem iB_ap (F : List D → R (List D)) (fs : List (Env → R D)) : iB F fs ρ = eArgs fs ρ >>= F := (rfl)
@[simp] theorem i1_ap (F : D → R (List D)) : i1 F a ρ = a ρ >>= F := (rfl)
@[simp] theorem sNil_ap : sNil ρ = .ok (.nx ρ) := (rfl)
@[simp] theorem sBrk_ap : sBrk ρ = .ok (.bk ρ) := (rfl)
@[simp] theorem sCnt_ap : sCnt ρ = .ok (.ct ρ) := (rfl)
@[simp] theorem sRet0_ap : sRet0 ρ = .ok (.rt .none) := (rfl)
@[simp] theorem sRet_ap : sRet a ρ = a ρ >>= fun d => .ok (.rt d) := (rfl)
@[simp] theorem sExp_ap : sExp a ρ = a ρ >>= fun _ => .ok (.nx ρ) := (rfl)
@[simp] theorem sSet_ap (i : Nat) : sSet i a ρ = a ρ >>= fun d => .ok (.nx (ρ.set i (.va d))) := (rfl)
@[simp] theorem sOwn_ap (i : Nat) : sOwn i a ρ = a ρ >>= fun d => .ok (.nx (ρ.set i (.ow d))) := (rfl)
@[simp] theorem sExc_ap (c : Str) : sExc c ρ = .exc c := (rfl)
/-- behind a statement -/
def thenS (G : Env → R Out) : Out → R Out
  | .nx ρ' => G ρ'
  | o => .ok o
@[simp] theorem fSeq_ap (F G : Env → R Out) : fSeq F G ρ = F ρ >>= thenS G := by
  show (F ρ).bind _ = (F ρ).bind _
  refine congrArg _ (funext fun o => ?_)
  cases o <;> rfl
@[simp] theorem thenS_nx (G : Env → R Out) : thenS G (.nx ρ) = G ρ := (rfl)
@[simp] theorem thenS_rt (G : Env → R Out) (d : D) : thenS G (.rt d) = .ok (.rt d) := (rfl)
@[simp] theorem thenS_bk (G : Env → R Out) : thenS G (.bk ρ) = .ok (.bk ρ) := (rfl)
@[simp] theorem thenS_ct (G : Env → R Out) : thenS G (.ct ρ) = .ok (.ct ρ) := (rfl)
@[simp] theorem fRun_ap (n : Nat) (B : Env → R Out) (ds : List D) : fRun n B ds = B (ds.map Slot.va ++ List.replicate (n - ds.length) .un) >>= fOut := by
  refine congrArg (R.bind _) (funext fun o => ?_)
  cases o <;> rfl
def fOutF : Out → R D
  | .rt d => .ok d
  | _ => .bad
@[simp] theorem fRunF_ap (n : Nat) (B : Env → R Out) (ds : List D) : fRunF n B ds = B (ds.map Slot.va ++ List.replicate (n - ds.length) .un) >>= fOutF := by
  refine congrArg (R.bind _) (funext fun o => ?_)
  cases o <;> rfl
@[simp] theorem fOutF_rt (d : D) : fOutF (.rt d) = .ok d := (rfl)
@[simp] theorem fRetO_0 {ρ : Env} (d : D) : fRetO 0 (.ow d :: ρ) = .ok (.rt d) := (rfl)
theorem fRetO_succ {ρ : Env} (n : Nat) (s : Slot) : fRetO (n + 1) (s :: ρ) = fRetO n ρ := by simp [fRetO]
@[simp] theorem fOut_rt (d : D) : fOut (.rt d) = .ok d := (rfl)
@[simp] theorem fOut_nx : fOut (.nx ρ) = .ok .none := (rfl)
@[simp] theorem fIfS_ap (t : Env → R Bool) (F G : Env → R Out) : fIfS t F G ρ = t ρ >>= fun b => if b then F ρ else G ρ := (rfl)
@[simp] theorem fIf_ap (t : Env → R Bool) (F G : Env → R D) : fIf t F G ρ = t ρ >>= fun b => if b then F ρ else G ρ := (rfl)
@[simp] theorem tstAnd_ap (s t : Env → R Bool) : tstAnd s t ρ = s ρ >>= fun x => if x then t ρ else .ok false := (rfl)
@[simp] theorem tstOr_ap (s t : Env → R Bool) : tstOr s t ρ = s ρ >>= fun x => if x then .ok true else t ρ := (rfl)
@[simp] theorem tstNot_ap (s : Env → R Bool) : tstNot s ρ = s ρ >>= fun x => .ok (!x) := (rfl)
@[simp] theorem fChain_ap (F G : D → D → R Bool) (fa fb fc : Env → R D) : fChain F G fa fb fc ρ = fa ρ >>= fun x => fb ρ >>= fun y => F x y >>= fun k => if k then fc ρ >>= fun z => G y z else .ok false := (rfl)
@[simp] theorem fChain3_ap (F G G2 : D → D → R Bool) (fa fb fc fd : Env → R D) : fChain3 F G G2 fa fb fc fd ρ = fa ρ >>= fun x => fb ρ >>= fun y => F x y >>= fun k => if k then fc ρ >>= fun z => G y z >>= fun k2 => if k2 then fd ρ >>= fun u => G2 z u else .ok false else .ok false := (rfl)
def andK (y : R D) : D → R D
  | .bool b => if b then y else .ok (.bool false)
  | _ => .bad
def orK (y : R D) : D → R D
  | .bool b => if b then .ok (.bool true) else y
  | _ => .bad
@[simp] theorem andK_bool (y : R D) (b : Bool) : andK y (.bool b) = if b then y else .ok (.bool false) := (rfl)
@[simp] theorem orK_bool (y : R D) (b : Bool) : orK y (.bool b) = if b then .ok (.bool true) else y := (rfl)
@[simp] theorem fAnd_ap (fa fb : Env → R D) : fAnd fa fb ρ = fa ρ >>= andK (fb ρ) := by
  unfold fAnd
  congr 1
  funext x
  cases x with
  | bool b => cases b <;> rfl
  | _ => rfl
@[simp] theorem fOr_ap (fa fb : Env → R D) : fOr fa fb ρ = fa ρ >>= orK (fb ρ) := by
  unfold fOr
  congr 1
  funext x
  cases x with
  | bool b => cases b <;> rfl
  | _ => rfl
@[simp] theorem relS_ap (is : List Nat) (F : Env → R Out) : relS is F ρ = F (relR is ρ) := (rfl)
@[simp] theorem relR_nil : relR [] ρ = ρ := (rfl)
@[simp] theorem relR_cons (i : Nat) (is : List Nat) : relR (i :: is) ρ = relR is (relR1 i ρ) := (rfl)
@[simp] theorem relR1_0va (d : D) : relR1 0 (.va d :: ρ) = .va d :: ρ := (rfl)
@[simp] theorem relR1_0ow (d : D) : relR1 0 (.ow d :: ρ) = .va d :: ρ := (rfl)
@[simp] theorem relR1_0un : relR1 0 (.un :: ρ) = .un :: ρ := (rfl)
theorem relR1_succ (n : Nat) (s : Slot) : relR1 (n + 1) (s :: ρ) = s :: relR1 n ρ := by
  simp only [relR1, List.getElem?_cons_succ]
  cases ρ[n]? with
  | none => rfl
  | some t => cases t <;> rfl
@[simp] theorem dNot_bool (x : Bool) : dNot (.bool x) = .ok (.bool (!x)) := (rfl)
@[simp] theorem dNeg_int (x : Int) : dNeg (.int x) = .ok (.int (-x)) := (rfl)
@[simp] theorem dTru_bool (x : Bool) : dTru (.bool x) = .ok x := (rfl)
@[simp] theorem fPar_ap (fl : List Bool) (is : List Nat) (fr : Env → R (List D)) : fPar fl is fr ρ = fr ρ >>= fun ds => .ok (.nx (setFl fl is ds ρ)) := (rfl)
@[simp] theorem fSetT_ap (tg : Tg) (fe : Env → R D) : fSetT tg fe ρ = fe ρ >>= fun d => fTg tg d ρ >>= fun ρ' => .ok (.nx ρ') := (rfl)
@[simp] theorem fFor_ap (fi : Env → R (List D)) (tg : Tg) (fb : Env → R Out) : fFor fi tg fb ρ = fi ρ >>= fun ds => forLoop tg fb ds ρ := (rfl)
@[simp] theorem fTg_one (i : Nat) (d : D) : fTg (.one i) d ρ = .ok (ρ.set i (.va d)) := (rfl)
@[simp] theorem calm_ok {α : Type} (x : α) : (R.ok x).calm = .ok x := (rfl)
@[simp] theorem fLc_ap (fi : Env → R (List D)) (tg : Tg) (ft : Env → R Bool) (fe : Env → R D) (own : List Nat) : fLc fi tg ft fe own ρ = fi ρ >>= fun ds => (lcLoop tg ft fe (wipeR ρ own) ds).calm >>= fun ys => .ok (.list ys) := (rfl)
@[simp] theorem wipeR_nil : wipeR ρ [] = ρ := (rfl)
@[simp] theorem wipeR_cons (v : Nat) (vs : List Nat) : wipeR ρ (v :: vs) = (wipeR ρ vs).set v .un := (rfl)
end
theorem fMeth_ok {F : List D → D → R D} {fo fe : Env → R D} {ρ : Env} {ds : List D} (h : fo ρ = .ok (.list ds)) : fMeth F fo fe ρ = fe ρ >>= F ds := by unfold fMeth; rw [h]; rfl
/-! ### truth values -/
@[simp] theorem ite_ok_and (b c : Bool) : (if b = true then (R.ok (.bool c) : R D) else .ok (.bool false)) = .ok (.bool (b && c)) := by cases b <;> rfl
@[simp] theorem ite_ok_or (b c : Bool) : (if b = true then (R.ok (.bool true) : R D) else .ok (.bool c)) = .ok (.bool (b || c)) := by cases b <;> rfl
@[simp] theorem ite_ok_andB (b c : Bool) : (if b = true then (R.ok c : R Bool) else .ok false) = .ok (b && c) := by cases b <;> rfl
@[simp] theorem ite_ok_orB (b c : Bool) : (if b = true then (R.ok true : R Bool) else .ok c) = .ok (b || c) := by cases b <;> rfl
@[simp] theorem ite_ok_andP (p : Prop) [Decidable p] (c : Bool) : (if p then (R.ok (.bool c) : R D) else .ok (.bool false)) = .ok (.bool (decide p && c)) := by by_cases h : p <;> simp [h]
@[simp] theorem ite_ok_orP (p : Prop) [Decidable p] (c : Bool) : (if p then (R.ok (.bool true) : R D) else .ok (.bool c)) = .ok (.bool (decide p || c)) := by by_cases h : p <;> simp [h]
@[simp] theorem ite_ok_andBP (p : Prop) [Decidable p] (c : Bool) : (if p then (R.ok c : R Bool) else .ok false) = .ok (decide p && c) := by by_cases h : p <;> simp [h]
@[simp] theorem ite_ok_orBP (p : Prop) [Decidable p] (c : Bool) : (if p then (R.ok true : R Bool) else .ok c) = .ok (decide p || c) := by by_cases h : p <;> simp [h]
/-! ### what the ops answer -/
@[simp] theorem dCmp_lte (i j : Int) : dCmp .LtE (.int i) (.int j) = .ok (decide (i ≤ j)) := (rfl)
@[simp] theorem dCmp_gt (i j : Int) : dCmp .Gt (.int i) (.int j) = .ok (decide (j < i)) := (rfl)
@[simp] theorem dCmp_gte (i j : Int) : dCmp .GtE (.int i) (.int j) = .ok (decide (j ≤ i)) := (rfl)
@[simp] theorem dCmp_lt (i j : Int) : dCmp .Lt (.int i) (.int j) = .ok (decide (i < j)) := (rfl)
@[simp] theorem shaped_int (i : Int) : SeqAt.shaped (.int i) = true := (rfl)
@[simp] theorem dCmp_eq (i j : Int) : dCmp .Eq (.int i) (.int j) = .ok (decide (i = j)) := by
  show dEq (.int i) (.int j) = _
  unfold dEq
  simp [PyData.eqv, BEq.beq]
@[simp] theorem dCmp_ne (i j : Int) : dCmp .NotEq (.int i) (.int j) = .ok (!decide (i = j)) := by
  show (dEq (.int i) (.int j) >>= fun b => .ok (!b)) = _
  have : dEq (.int i) (.int j) = .ok (decide (i = j)) := dCmp_eq i j
  rw [this]
  rfl
theorem scr_not {d : D} (h : d.canLay0 = true) : isScr d = none := by
  cases d with
  | dict k => simp [PyData.canLay0] at h
  | _ => rfl
@[simp] theorem dIsi_int (t : String) (i : Int) : dIsi t (.int i) = .ok (.bool (t == "int")) := (rfl)
@[simp] theorem dIsi_none (t : String) : dIsi t .none = .ok (.bool false) := (rfl)
@[simp] theorem dIsi_bool (t : String) (b : Bool) : dIsi t (.bool b) = .ok (.bool (t == "bool" || t == "int")) := (rfl)
@[simp] theorem dIsi_str (t : String) (z : Str) : dIsi t (.str z) = .ok (.bool (t == "str")) := (rfl)
@[simp] theorem dIsi_list (t : String) (z : List D) : dIsi t (.list z) = .ok (.bool (t == "list")) := (rfl)
@[simp] theorem dIsi_tuple (t : String) (z : List D) : dIsi t (.tuple z) = .ok (.bool (t == "tuple")) := (rfl)
@[simp] theorem dLen_list (ds : List D) : dLen [.list ds] = .ok (.int ds.length) := (rfl)
@[simp] theorem dLen_tuple (ds : List D) : dLen [.tuple ds] = .ok (.int ds.length) := (rfl)
@[simp] theorem dLen_str {z : Str} (h : z.length ≤ sizeLine) : dLen [.str z] = .ok (.int z.length) := (if_pos h)
@[simp] theorem dItems_list (ds : List D) : dItems (.list ds) = .ok ds := (rfl)
@[simp] theorem dItems_tuple (ds : List D) : dItems (.tuple ds) = .ok ds := (rfl)
@[simp] theorem dItems_str {z : Str} (h : z.length ≤ sizeLine) : dItems (.str z) = .ok (signs z) := (if_pos h)
@[simp] theorem dTuple_list (ds : List D) : dTuple [.list ds] = .ok (.tuple ds) := (rfl)
@[simp] theorem dTuple_tuple (ds : List D) : dTuple [.tuple ds] = .ok (.tuple ds) := (rfl)
@[simp] theorem dList_list (ds : List D) : dList [.list ds] = .ok (.list ds) := (rfl)
@[simp] theorem dList_tuple (ds : List D) : dList [.tuple ds] = .ok (.list ds) := (rfl)
@[simp] theorem dZip_tt (xs ys : List D) : dZip [.tuple xs, .tuple ys] = .ok (pairs xs ys) := (rfl)
@[simp] theorem dZip_ll (xs ys : List D) : dZip [.list xs, .list ys] = .ok (pairs xs ys) := (rfl)
@[simp] theorem dAdd_int (i j : Int) : dBin .Add (.int i) (.int j) = .ok (.int (i + j)) := (rfl)
@[simp] theorem dSub_int (i j : Int) : dBin .Sub (.int i) (.int j) = .ok (.int (i - j)) := (rfl)
theorem bools_map {α : Type} (g : α → Bool) : ∀ xs : List α, bools (xs.map fun x => .bool (g x)) = some (xs.map g)
  | [] => rfl
  | x :: xs => by simp [bools, bools_map g xs]
@[simp] theorem dAll_map {α : Type} (g : α → Bool) (xs : List α) : dAll [.list (xs.map fun x => .bool (g x))] = .ok (.bool (xs.all g)) := by
  simp [dAll, bools_map, List.all_map, Function.comp_def]
@[simp] theorem dAny_map {α : Type} (g : α → Bool) (xs : List α) : dAny [.list (xs.map fun x => .bool (g x))] = .ok (.bool (xs.any g)) := by
  simp [dAny, bools_map, List.any_map, Function.comp_def]
/-! ### loops -/
theorem lc_map {α : Type} {tg : Tg} {fe : Env → R D} {ρ : Env} (emb : α → D) (g : α → D) : ∀ xs : List α, (∀ x ∈ xs, (fTg tg (emb x) ρ >>= fun ρ1 => fe ρ1) = .ok (g x)) → lcLoop tg (kT true) fe ρ (xs.map emb) = .ok (xs.map g)
  | [], _ => rfl
  | x :: xs, h => by
    have h1 := h x (by simp)
    have ih := lc_map emb g xs fun y hy => h y (by simp [hy])
    simp only [List.map_cons, lcLoop]
    cases q : fTg tg (emb x) ρ with
    | bad => rw [q] at h1; cases h1
    | exc c => rw [q] at h1; cases h1
    | ok r =>
      rw [q] at h1
      simp only [R.ok_bind] at h1 ⊢
      simp [h1, ih]
theorem lc_one {i : Nat} {fe : Env → R D} {ρ : Env} (g : D → D) {ds : List D} (h : ∀ d ∈ ds, fe (ρ.set i (.va d)) = .ok (g d)) : lcLoop (.one i) (kT true) fe ρ ds = .ok (ds.map g) := by
  have := lc_map (tg := .one i) (fe := fe) (ρ := ρ) id g ds (fun x hx => by simpa using h x hx)
  simpa using this
theorem lc_filter {α : Type} {tg : Tg} {ft : Env → R Bool} {fe : Env → R D} {ρ : Env} (emb : α → D) (p : α → Bool) (g : α → D) : ∀ xs : List α, (∀ x ∈ xs, ∃ ρ1, fTg tg (emb x) ρ = .ok ρ1 ∧ ft ρ1 = .ok (p x) ∧ (p x = true → fe ρ1 = .ok (g x))) → lcLoop tg ft fe ρ (xs.map emb) = .ok ((xs.filter p).map g)
  | [], _ => rfl
  | x :: xs, h => by
    obtain ⟨ρ1, h1, h2, h3⟩ := h x (by simp)
    have ih := lc_filter emb p g xs fun y hy => h y (by simp [hy])
    simp only [List.map_cons, lcLoop, h1, R.ok_bind, h2]
    cases q : p x with
    | true => simp [q, h3 q, ih]
    | false => simp [q, ih]
end DL
namespace DL
open PySem PySem.Spec PyProof.Rows L2
/-- a loop that only looks -/
def lastSet (i : Nat) (ρ : Env) : List D → Env
  | [] => ρ
  | d :: ds => lastSet i (ρ.set i (.va d)) ds
theorem for_chk {i : Nat} {fb : Env → R Out} : ∀ {ds : List D} {ρ : Env}, (∀ d ∈ ds, fb (ρ.set i (.va d)) = .ok (.nx (ρ.set i (.va d)))) → forLoop (.one i) fb ds ρ = .ok (.nx (lastSet i ρ ds))
  | [], _, _ => rfl
  | d :: ds, ρ, h => by
    have h1 := h d (by simp)
    have ih := for_chk (ds := ds) (ρ := ρ.set i (.va d)) fun e he => by
      rw [List.set_set]
      exact h e (by simp [he])
    simp only [forLoop, fTg_one, R.ok_bind, h1]
    exact ih
theorem seq_nx {F G : Env → R Out} {ρ ρ' : Env} (h : F ρ = .ok (.nx ρ')) : fSeq F G ρ = G ρ' := by rw [fSeq_ap, h]; rfl
theorem seq_rt {F G : Env → R Out} {ρ : Env} {d : D} (h : F ρ = .ok (.rt d)) : fSeq F G ρ = .ok (.rt d) := by rw [fSeq_ap, h]; rfl
end DL
/-! The functional forms of the program's defs (printed by fc.py). -/
namespace DL
open PySem PySem.Spec PyProof.Rows L2
def FF_is_whole : List D → R D := fRun 3 (fSeq (relS [] (sRet (fAnd (e1 (dIsi "int") (rdP 0)) (fAnd (e1 dNot (e1 (dIsi "bool") (rdP 0))) (eBo (fChain (dCmp .LtE) (dCmp .LtE) (rdP 1) (rdP 0) (rdP 2)))))))
  sNil)
def FF_is_name : List D → R D := fRun 2 (fSeq (relS [0] (sRet (fAnd (e1 (dIsi "str") (rdP 0)) (fAnd (eBo (fChain (dCmp .LtE) (dCmp .LtE) (kD (.int 1)) (eB dLen [(rdP 0)]) (kD (.int 6)))) (eB dAll [(fLc (i1 dItems (rdE 0)) (.one 1) (kT true) (e2 (bCmp .In) (rdP 1) (kD (.str "abcdefghijklmnopqrstuvwxyz"))) [1])])))))
  sNil)
def FF_is_cell (f_is_whole : List D → R D) : List D → R D := fRun 2 (fSeq (relS [1, 0] (sRet (fAnd (e1 (dIsi "tuple") (rdP 0)) (fAnd (e2 (bCmp .Eq) (eB dLen [(rdP 0)]) (kD (.int 2))) (eB dAll [(fLc (i1 dItems (rdE 0)) (.one 1) (kT true) (eC 3 f_is_whole [(rdE 1), (kD (.int 0)), (kD (.int 9))]) [1])])))))
  sNil)
def FF_is_rising : List D → R D := fRun 3 (fSeq (relS [0] (sRet (eB dAll [(fLc (iB dZip [(rdE 0), (eSl (rdP 0) (pS (kD (.int 1))) pN)]) (.many [1, 2]) (kT true) (e2 (bCmp .Lt) (rdP 1) (rdP 2)) [1, 2])])))
  sNil)
def FF_is_islands (f_is_cell : List D → R D) (f_is_rising : List D → R D) : List D → R D := fRun 2 (fSeq (relS [1, 0] (fIfS (tstOr (tstNot (t1 dTru (e1 (dIsi "tuple") (rdP 0)))) (tstOr (t2 (dCmp .Gt) (eB dLen [(rdP 0)]) (kD (.int 12))) (tstNot (t1 dTru (eB dAll [(fLc (i1 dItems (rdE 0)) (.one 1) (kT true) (eC 1 f_is_cell [(rdE 1)]) [1])]))))) (fSeq (relS [] (sRet (kD (.bool false))))
    sNil) sNil))
  (fSeq (relS [0] (sRet (eC 1 f_is_rising [(rdE 0)])))
  sNil))
def FF_is_ship (f_is_name : List D → R D) (f_is_whole : List D → R D) (f_is_cell : List D → R D) : List D → R D := fRun 5 (fSeq (relS [] (fIfS (tstOr (tstNot (t1 dTru (e1 (dIsi "tuple") (rdP 2)))) (tstOr (t2 (dCmp .NotEq) (eB dLen [(rdP 2)]) (kD (.int 3))) (tstOr (tstNot (t1 dTru (eC 1 f_is_name [(e2 dIx (rdP 2) (kD (.int 0)))]))) (tstNot (t1 dTru (eC 3 f_is_whole [(e2 dIx (rdP 2) (kD (.int 1))), (kD (.int 0)), (kD (.int 9))])))))) (fSeq (relS [] (sRet (kD (.bool false))))
    sNil) sNil))
  (fSeq (relS [] (sSet 3 (e2 dIx (rdP 2) (kD (.int 2)))))
  (fSeq (relS [] (fIfS (tstOr (tstNot (t1 dTru (e1 (dIsi "tuple") (rdP 3)))) (t2 (dCmp .NotEq) (eB dLen [(rdP 3)]) (e2 (dBin .Add) (rdP 0) (kD (.int 1))))) (fSeq (relS [] (sRet (kD (.bool false))))
    sNil) sNil))
  (fSeq (relS [4, 3] (sRet (eB dAll [(fLc (i1 dItems (rdE 3)) (.one 4) (kT true) (fAnd (eC 1 f_is_cell [(rdE 4)]) (e2 (bCmp .NotIn) (rdP 4) (rdP 1))) [4])])))
  sNil))))
def FF_is_mist (f_is_whole : List D → R D) (f_is_cell : List D → R D) : List D → R D := fRun 7 (fSeq (relS [] (fIfS (tstOr (tstNot (t1 dTru (e1 (dIsi "tuple") (rdP 1)))) (t2 (dCmp .NotEq) (eB dLen [(rdP 1)]) (kD (.int 5)))) (fSeq (relS [] (sRet (kD (.bool false))))
    sNil) sNil))
  (fSeq (relS [1] (fSetT (.many [2, 3, 4, 5, 6]) (rdE 1)))
  (fSeq (relS [2, 0, 3, 2, 0, 6] (fIfS (tstOr (tstNot (t1 dTru (eC 3 f_is_whole [(rdE 2), (kD (.int 0)), (rdE 0)]))) (tstOr (tstNot (t1 dTru (eC 3 f_is_whole [(rdE 3), (rdE 2), (rdE 0)]))) (tstNot (t1 dTru (eC 3 f_is_whole [(rdE 6), (kD (.int 0)), (kD (.int 9))]))))) (fSeq (relS [] (sRet (kD (.bool false))))
    sNil) sNil))
  (fSeq (relS [4, 5] (sRet (fAnd (eC 1 f_is_cell [(rdE 4)]) (fAnd (eC 1 f_is_cell [(rdE 5)]) (fAnd (e2 (bCmp .LtE) (e2 dIx (rdP 4) (kD (.int 0))) (e2 dIx (rdP 5) (kD (.int 0)))) (e2 (bCmp .LtE) (e2 dIx (rdP 4) (kD (.int 1))) (e2 dIx (rdP 5) (kD (.int 1)))))))))
  sNil))))
def FF_is_fleet (f_is_whole : List D → R D) (f_is_islands : List D → R D) (f_is_ship : List D → R D) (f_is_rising : List D → R D) (f_is_mist : List D → R D) : List D → R D := fRun 7 (fSeq (relS [] (fIfS (tstOr (tstNot (t1 dTru (e1 (dIsi "tuple") (rdP 0)))) (tstOr (t2 (dCmp .NotEq) (eB dLen [(rdP 0)]) (kD (.int 4))) (tstNot (t1 dTru (eC 3 f_is_whole [(e2 dIx (rdP 0) (kD (.int 0))), (kD (.int 0)), (kD (.int 7))]))))) (fSeq (relS [] (sRet (kD (.bool false))))
    sNil) sNil))
  (fSeq (relS [0] (fSetT (.many [1, 2, 3, 4]) (rdE 0)))
  (fSeq (relS [2] (fIfS (tstOr (tstNot (t1 dTru (eC 1 f_is_islands [(rdE 2)]))) (tstOr (tstNot (t1 dTru (e1 (dIsi "tuple") (rdP 3)))) (tstNot (fChain (dCmp .LtE) (dCmp .LtE) (kD (.int 1)) (eB dLen [(rdP 3)]) (kD (.int 5)))))) (fSeq (relS [] (sRet (kD (.bool false))))
    sNil) sNil))
  (fSeq (relS [1, 2, 5, 3, 3] (fIfS (tstOr (tstNot (t1 dTru (eB dAll [(fLc (i1 dItems (rdE 3)) (.one 5) (kT true) (eC 3 f_is_ship [(rdE 1), (rdE 2), (rdE 5)]) [5])]))) (tstNot (t1 dTru (eC 1 f_is_rising [(fLc (i1 dItems (rdE 3)) (.one 5) (kT true) (e2 dIx (rdP 5) (kD (.int 0))) [5])])))) (fSeq (relS [] (sRet (kD (.bool false))))
    sNil) sNil))
  (fSeq (relS [1, 6, 4] (fIfS (tstOr (tstNot (t1 dTru (e1 (dIsi "tuple") (rdP 4)))) (tstOr (t2 (dCmp .Gt) (eB dLen [(rdP 4)]) (kD (.int 4))) (tstNot (t1 dTru (eB dAll [(fLc (i1 dItems (rdE 4)) (.one 6) (kT true) (eC 2 f_is_mist [(rdE 1), (rdE 6)]) [6])]))))) (fSeq (relS [] (sRet (kD (.bool false))))
    sNil) sNil))
  (fSeq (relS [4] (sRet (eC 1 f_is_rising [(rdE 4)])))
  sNil))))))
def FF_look_fleet (f_is_fleet : List D → R D) : List D → R D := fRun 1 (fSeq (relS [0] (fIfS (tstNot (t1 dTru (eC 1 f_is_fleet [(rdE 0)]))) (fSeq (sExc "NoFleet")
    sNil) sNil))
  sNil)
def FF_plain_names : List D → R D := fRun 2 (fSeq (relS [] (sRet (fLc (i1 dItems (e2 dIx (rdP 0) (kD (.int 2)))) (.one 1) (kT true) (e2 dIx (rdP 1) (kD (.int 0))) [1])))
  sNil)
def FF_names_of (f_look_fleet : List D → R D) (f_plain_names : List D → R D) : List D → R D := fRun 1 (fSeq (relS [0] (sExp (eC 1 f_look_fleet [(rdE 0)])))
  (fSeq (relS [0] (sRet (eC 1 f_plain_names [(rdE 0)])))
  sNil))
def FF_law_drawn_s4 : DL.Env → R Out := (relS [] (sRet (e2 (dBin .Mod) (e2 (dBin .FloorDiv) (e2 (dBin .Mod) (e2 (dBin .Add) (e2 (dBin .Mult) (rdP 3) (rdP 3)) (e2 (dBin .FloorDiv) (rdP 3) (kD (.int 7)))) (kD (.int 2147483647))) (kD (.int 11))) (rdP 2))))
def FF_law_drawn_t4 : DL.Env → R Out := fSeq (FF_law_drawn_s4) sNil
def FF_law_drawn_s3 : DL.Env → R Out := (relS [] (sSet 3 (e2 (dBin .Mod) (e2 (dBin .Add) (e2 (dBin .Mult) (rdP 3) (rdP 3)) (e2 (dBin .FloorDiv) (rdP 3) (kD (.int 3)))) (kD (.int 2147483399)))))
def FF_law_drawn_t3 : DL.Env → R Out := fSeq (FF_law_drawn_s3) (FF_law_drawn_t4)
def FF_law_drawn_s2 : DL.Env → R Out := (relS [] (sSet 3 (e2 (dBin .Mod) (e2 (dBin .Add) (e2 (dBin .Mult) (e2 (dBin .Mod) (rdP 3) (kD (.int 2147483563))) (kD (.int 69069))) (e2 (dBin .Mult) (kD (.int 104723)) (e2 (dBin .Add) (rdP 1) (kD (.int 1))))) (kD (.int 2147483563)))))
def FF_law_drawn_t2 : DL.Env → R Out := fSeq (FF_law_drawn_s2) (FF_law_drawn_t3)
def FF_law_drawn_s1 : DL.Env → R Out := (relS [] (fIfS (t2 (dCmp .NotEq) (rdP 0) (eLst [])) (fSeq (relS [] (sSet 3 (e2 dIx (rdP 0) (e2 (dBin .Mod) (rdP 1) (eB dLen [(rdP 0)])))))
  (fSeq (relS [] (sSet 4 (e2 (dBin .FloorDiv) (rdP 1) (eB dLen [(rdP 0)]))))
  (fSeq (relS [] (fIfS (tstAnd (t2 (dCmp .GtE) (rdP 3) (e2 (dBin .Pow) (kD (.int 10)) (kD (.int 18)))) (t2 (dCmp .Lt) (rdP 4) (kD (.int 60)))) (fSeq (relS [] (sSet 5 (e2 (dBin .FloorDiv) (rdP 3) (e2 (dBin .Pow) (kD (.int 10)) (kD (.int 18))))))
    (fSeq (relS [] (whLoop (tstAnd (t2 (dCmp .Gt) (rdP 5) (kD (.int 0))) (t2 (dCmp .Gt) (rdP 4) (kD (.int 0)))) (fSeq (relS [] (sSet 5 (e2 (dBin .FloorDiv) (rdP 5) (kD (.int 1000000)))))
      (fSeq (relS [] (sSet 4 (e2 (dBin .Sub) (rdP 4) (kD (.int 1)))))
      sNil)) 100000))
    (fSeq (relS [] (fIfS (t2 (dCmp .Gt) (rdP 5) (kD (.int 0))) (fSeq (relS [] (sRet (e2 (dBin .Mod) (e2 (dBin .Mod) (rdP 5) (kD (.int 1000000))) (rdP 2))))
      sNil) sNil))
    sNil))) sNil))
  (fSeq (relS [] (sSet 3 (e2 (dBin .Add) (rdP 3) (e2 (dBin .Mult) (kD (.int 6553)) (e2 (dBin .FloorDiv) (rdP 1) (eB dLen [(rdP 0)]))))))
  sNil)))) sNil))
def FF_law_drawn_t1 : DL.Env → R Out := fSeq (FF_law_drawn_s1) (FF_law_drawn_t2)
def FF_law_drawn_s0 : DL.Env → R Out := (relS [] (sSet 3 (e2 (dBin .Mult) (kD (.int 7)) (rdP 1))))
def FF_law_drawn_t0 : DL.Env → R Out := fSeq (FF_law_drawn_s0) (FF_law_drawn_t1)
def FF_law_drawn : List D → R D := fRun 6 (FF_law_drawn_t0)
def FF_look_ship (f_is_name : List D → R D) (f_plain_names : List D → R D) : List D → R D := fRun 2 (fSeq (relS [1, 0] (fIfS (tstOr (tstNot (t1 dTru (eC 1 f_is_name [(rdE 1)]))) (t2 (dCmp .NotIn) (rdP 1) (eC 1 f_plain_names [(rdE 0)]))) (fSeq (sExc "NoShip")
    sNil) sNil))
  sNil)
def FF_look_hour (f_is_whole : List D → R D) : List D → R D := fRun 2 (fSeq (relS [0, 1] (fIfS (tstNot (t1 dTru (eC 3 f_is_whole [(rdE 0), (kD (.int 0)), (rdE 1)]))) (fSeq (sExc "NoHour")
    sNil) sNil))
  sNil)
def FF_is_in : List D → R D := fRun 4 (fSeq (relS [] (fPar [false, false] [2, 3] (eArgs [(e2 dIx (rdP 0) (kD (.int 2))), (e2 dIx (rdP 0) (kD (.int 3)))])))
  (fSeq (relS [] (sRet (fAnd (eBo (fChain (dCmp .LtE) (dCmp .LtE) (e2 dIx (rdP 2) (kD (.int 0))) (e2 dIx (rdP 1) (kD (.int 0))) (e2 dIx (rdP 3) (kD (.int 0))))) (eBo (fChain (dCmp .LtE) (dCmp .LtE) (e2 dIx (rdP 2) (kD (.int 1))) (e2 dIx (rdP 1) (kD (.int 1))) (e2 dIx (rdP 3) (kD (.int 1))))))))
  sNil))
def FF_is_between : List D → R D := fRun 4 (fSeq (relS [0, 1] (fIfS (t2 (dCmp .In) (rdP 2) (eTup [(rdE 0), (rdE 1)])) (fSeq (relS [] (sRet (kD (.bool false))))
    sNil) sNil))
  (fSeq (relS [] (fIfS (t2 (dCmp .NotEq) (e2 (dBin .Mult) (e2 (dBin .Sub) (e2 dIx (rdP 2) (kD (.int 0))) (e2 dIx (rdP 0) (kD (.int 0)))) (e2 (dBin .Sub) (e2 dIx (rdP 1) (kD (.int 1))) (e2 dIx (rdP 0) (kD (.int 1))))) (e2 (dBin .Mult) (e2 (dBin .Sub) (e2 dIx (rdP 2) (kD (.int 1))) (e2 dIx (rdP 0) (kD (.int 1)))) (e2 (dBin .Sub) (e2 dIx (rdP 1) (kD (.int 0))) (e2 dIx (rdP 0) (kD (.int 0)))))) (fSeq (relS [] (sRet (kD (.bool false))))
    sNil) sNil))
  (fSeq (relS [] (sSet 3 (eBo (fChain (dCmp .LtE) (dCmp .LtE) (eB dMin [(e2 dIx (rdP 0) (kD (.int 0))), (e2 dIx (rdP 1) (kD (.int 0)))]) (e2 dIx (rdP 2) (kD (.int 0))) (eB dMax [(e2 dIx (rdP 0) (kD (.int 0))), (e2 dIx (rdP 1) (kD (.int 0)))])))))
  (fSeq (relS [3] (sRet (fAnd (rdP 3) (eBo (fChain (dCmp .LtE) (dCmp .LtE) (eB dMin [(e2 dIx (rdP 0) (kD (.int 1))), (e2 dIx (rdP 1) (kD (.int 1)))]) (e2 dIx (rdP 2) (kD (.int 1))) (eB dMax [(e2 dIx (rdP 0) (kD (.int 1))), (e2 dIx (rdP 1) (kD (.int 1)))]))))))
  sNil))))
def FF_sees_at (f_is_in : List D → R D) (f_is_between : List D → R D) : List D → R D := fRun 9 (fSeq (relS [] (fPar [false, false] [4, 5] (eArgs [(e2 dIx (e2 dIx (rdP 2) (kD (.int 2))) (rdP 1)), (e2 dIx (e2 dIx (rdP 3) (kD (.int 2))) (rdP 1))])))
  (fSeq (relS [] (sSet 6 (eB dMax [(eB dAbs [(e2 (dBin .Sub) (e2 dIx (rdP 4) (kD (.int 0))) (e2 dIx (rdP 5) (kD (.int 0))))]), (eB dAbs [(e2 (dBin .Sub) (e2 dIx (rdP 4) (kD (.int 1))) (e2 dIx (rdP 5) (kD (.int 1))))])])))
  (fSeq (relS [] (fIfS (tstOr (t2 (dCmp .Eq) (rdP 2) (rdP 3)) (t2 (dCmp .Gt) (rdP 6) (e2 dIx (rdP 2) (kD (.int 1))))) (fSeq (relS [] (sRet (kD (.bool false))))
    sNil) sNil))
  (fSeq (relS [] (fFor (i1 dItems (e2 dIx (rdP 0) (kD (.int 3)))) (.one 7) (fSeq (relS [7, 4, 7, 5] (fIfS (tstAnd (fChain (dCmp .LtE) (dCmp .LtE) (e2 dIx (rdP 7) (kD (.int 0))) (rdP 1) (e2 dIx (rdP 7) (kD (.int 1)))) (tstAnd (tstOr (t1 dTru (eC 2 f_is_in [(rdE 7), (rdE 4)])) (t1 dTru (eC 2 f_is_in [(rdE 7), (rdE 5)]))) (t2 (dCmp .Gt) (rdP 6) (e2 dIx (rdP 7) (kD (.int 4)))))) (fSeq (relS [] (sRet (kD (.bool false))))
      sNil) sNil))
    sNil)))
  (fSeq (relS [4, 5, 8] (sRet (e1 dNot (eB dAny [(fLc (i1 dItems (e2 dIx (rdP 0) (kD (.int 1)))) (.one 8) (kT true) (eC 3 f_is_between [(rdE 4), (rdE 5), (rdE 8)]) [8])]))))
  sNil)))))
def FF_ship_of (f_plain_names : List D → R D) : List D → R D := fRun 2 (fSeq (relS [0, 1] (sRet (e2 dIx (e2 dIx (rdP 0) (kD (.int 2))) (fMeth dIndex (eC 1 f_plain_names [(rdE 0)]) (rdP 1)))))
  sNil)
def FF_sees (f_look_fleet : List D → R D) (f_look_hour : List D → R D) (f_look_ship : List D → R D) (f_sees_at : List D → R D) (f_ship_of : List D → R D) : List D → R D := fRun 4 (fSeq (relS [0] (sExp (eC 1 f_look_fleet [(rdE 0)])))
  (fSeq (relS [1] (sExp (eC 2 f_look_hour [(rdE 1), (e2 dIx (rdP 0) (kD (.int 0)))])))
  (fSeq (relS [0, 2] (sExp (eC 2 f_look_ship [(rdE 0), (rdE 2)])))
  (fSeq (relS [0, 3] (sExp (eC 2 f_look_ship [(rdE 0), (rdE 3)])))
  (fSeq (relS [0, 1, 0, 2, 0, 3] (sRet (eC 4 f_sees_at [(rdE 0), (rdE 1), (eC 2 f_ship_of [(rdE 0), (rdE 2)]), (eC 2 f_ship_of [(rdE 0), (rdE 3)])])))
  sNil)))))
def FF_plain_sightings (f_sees_at : List D → R D) : List D → R D := fRun 5 (fSeq (relS [] (sOwn 1 (eLst [])))
  (fSeq (relS [] (fFor (iB dRng1 [(e2 (dBin .Add) (e2 dIx (rdP 0) (kD (.int 0))) (kD (.int 1)))]) (.one 2) (fSeq (relS [] (fFor (i1 dItems (e2 dIx (rdP 0) (kD (.int 2)))) (.one 3) (fSeq (relS [] (fFor (i1 dItems (e2 dIx (rdP 0) (kD (.int 2)))) (.one 4) (fSeq (relS [0, 2, 3, 4] (fIfS (t1 dTru (eC 4 f_sees_at [(rdE 0), (rdE 2), (rdE 3), (rdE 4)])) (fSeq (relS [2] (fApp 1 (eTup [(rdE 2), (e2 dIx (rdP 3) (kD (.int 0))), (e2 dIx (rdP 4) (kD (.int 0)))])))
          sNil) sNil))
        sNil)))
      sNil)))
    sNil)))
  (fSeq (relS [1] (sRet (rdE 1)))
  sNil)))
def FF_sightings (f_look_fleet : List D → R D) (f_plain_sightings : List D → R D) : List D → R D := fRun 1 (fSeq (relS [0] (sExp (eC 1 f_look_fleet [(rdE 0)])))
  (fSeq (relS [0] (sRet (eC 1 f_plain_sightings [(rdE 0)])))
  sNil))
def FF_cleared (f_look_fleet : List D → R D) : List D → R D := fRun 1 (fSeq (relS [0] (sExp (eC 1 f_look_fleet [(rdE 0)])))
  (fSeq (relS [] (sRet (e2 (dBin .Add) (eSl (rdP 0) pN (pS (kD (.int 3)))) (eTup [(eTup [])]))))
  sNil))
def FF_spread : List D → R D := fRun 7 (fSeq (relS [1, 2] (sOwn 3 (e2 dDict1 (rdE 1) (rdE 2))))
  (fSeq (relS [0] (fFor (i1 dItems (rdE 0)) (.many [4, 5, 6]) (fSeq (relS [] (fIfS (tstAnd (t2 (dCmp .In) (rdP 6) (rdP 3)) (tstAnd (t2 (dCmp .LtE) (e2 dIx (rdP 3) (rdP 6)) (rdP 4)) (t2 (dCmp .NotIn) (rdP 5) (rdP 3)))) (fSeq (relS [] (fPut 3 (rdP 5) (e2 (dBin .Add) (rdP 4) (kD (.int 1)))))
      sNil) sNil))
    sNil)))
  (fSeq (relS [3] (sRet (rdE 3)))
  sNil)))
def FF_earliest (f_look_fleet : List D → R D) (f_look_ship : List D → R D) (f_look_hour : List D → R D) (f_spread : List D → R D) (f_plain_sightings : List D → R D) : List D → R D := fRun 3 (fSeq (relS [0] (sExp (eC 1 f_look_fleet [(rdE 0)])))
  (fSeq (relS [0, 1] (sExp (eC 2 f_look_ship [(rdE 0), (rdE 1)])))
  (fSeq (relS [2] (sExp (eC 2 f_look_hour [(rdE 2), (e2 dIx (rdP 0) (kD (.int 0)))])))
  (fSeq (relS [0, 1, 2] (sRet (e1 dSortItems (eC 3 f_spread [(eC 1 f_plain_sightings [(rdE 0)]), (rdE 1), (rdE 2)]))))
  sNil))))
def FF_is_of_form (f_is_whole : List D → R D) : List D → R D := fRun 1 (fSeq (relS [] (sRet (fAnd (e1 (dIsi "tuple") (rdP 0)) (fAnd (e2 (bCmp .Eq) (eB dLen [(rdP 0)]) (kD (.int 3))) (eC 3 f_is_whole [(e2 dIx (rdP 0) (kD (.int 0))), (kD (.int 0)), (kD (.int 7))])))))
  sNil)
def FF_is_plain_chain (f_is_of_form : List D → R D) : List D → R D := fRun 8 (fSeq (relS [] (fIfS (tstNot (t1 dTru (e1 (dIsi "list") (rdP 4)))) (fSeq (relS [] (sRet (kD (.bool false))))
    sNil) sNil))
  (fSeq (relS [] (fIfS (tstOr (t2 (dCmp .Eq) (rdP 1) (rdP 3)) (t2 (dCmp .Eq) (rdP 4) (eLst []))) (fSeq (relS [] (sRet (fAnd (e2 (bCmp .Eq) (rdP 1) (rdP 3)) (e2 (bCmp .Eq) (rdP 4) (eLst [])))))
    sNil) sNil))
  (fSeq (relS [1, 2] (fPar [false, false] [5, 6] (eArgs [(rdE 1), (rdE 2)])))
  (fSeq (relS [4] (fFor (i1 dItems (rdE 4)) (.one 7) (fSeq (relS [7] (fIfS (tstOr (tstNot (t1 dTru (eC 1 f_is_of_form [(rdE 7)]))) (tstOr (t2 (dCmp .NotIn) (rdP 7) (rdP 0)) (tstOr (t2 (dCmp .Lt) (e2 dIx (rdP 7) (kD (.int 0))) (rdP 6)) (t2 (dCmp .NotEq) (e2 dIx (rdP 7) (kD (.int 2))) (rdP 5))))) (fSeq (relS [] (sRet (kD (.bool false))))
      sNil) sNil))
    (fSeq (relS [] (fPar [false, false] [5, 6] (eArgs [(e2 dIx (rdP 7) (kD (.int 1))), (e2 (dBin .Add) (e2 dIx (rdP 7) (kD (.int 0))) (kD (.int 1)))])))
    sNil))))
  (fSeq (relS [] (sRet (e2 (bCmp .Eq) (rdP 5) (rdP 3))))
  sNil)))))
def FF_look_ends (f_look_fleet : List D → R D) (f_look_ship : List D → R D) (f_look_hour : List D → R D) : List D → R D := fRun 4 (fSeq (relS [0] (sExp (eC 1 f_look_fleet [(rdE 0)])))
  (fSeq (relS [0, 1] (sExp (eC 2 f_look_ship [(rdE 0), (rdE 1)])))
  (fSeq (relS [0, 3] (sExp (eC 2 f_look_ship [(rdE 0), (rdE 3)])))
  (fSeq (relS [2] (sExp (eC 2 f_look_hour [(rdE 2), (e2 dIx (rdP 0) (kD (.int 0)))])))
  sNil))))
def FF_is_chain (f_look_ends : List D → R D) (f_is_plain_chain : List D → R D) (f_plain_sightings : List D → R D) : List D → R D := fRun 5 (fSeq (relS [0, 1, 2, 3] (sExp (eC 4 f_look_ends [(rdE 0), (rdE 1), (rdE 2), (rdE 3)])))
  (fSeq (relS [0, 1, 2, 3, 4] (sRet (eC 5 f_is_plain_chain [(eC 1 f_plain_sightings [(rdE 0)]), (rdE 1), (rdE 2), (rdE 3), (rdE 4)])))
  sNil))
def FF_first_chain (f_look_ends : List D → R D) (f_chain_by : List D → R D) (f_plain_sightings : List D → R D) : List D → R D := fRun 4 (fSeq (relS [0, 1, 2, 3] (sExp (eC 4 f_look_ends [(rdE 0), (rdE 1), (rdE 2), (rdE 3)])))
  (fSeq (relS [0, 1, 2, 3] (sRet (eC 4 f_chain_by [(eC 1 f_plain_sightings [(rdE 0)]), (rdE 1), (rdE 2), (rdE 3)])))
  sNil))
def FF_bar (f_look_ends : List D → R D) (f_look_hour : List D → R D) (f_spread : List D → R D) (f_plain_sightings : List D → R D) : List D → R D := fRun 6 (fSeq (relS [0, 1, 2, 3] (sExp (eC 4 f_look_ends [(rdE 0), (rdE 1), (rdE 2), (rdE 3)])))
  (fSeq (relS [4] (sExp (eC 2 f_look_hour [(rdE 4), (e2 (dBin .Add) (e2 dIx (rdP 0) (kD (.int 0))) (kD (.int 1)))])))
  (fSeq (relS [0, 1, 2] (sSet 5 (eC 3 f_spread [(eC 1 f_plain_sightings [(rdE 0)]), (rdE 1), (rdE 2)])))
  (fSeq (relS [5] (sRet (fIf (tstAnd (t2 (dCmp .In) (rdP 3) (rdP 5)) (t2 (dCmp .LtE) (e2 dIx (rdP 5) (rdP 3)) (rdP 4))) (kD .none) (e1 dSortItems (rdE 5)))))
  sNil))))
def FF_is_bar (f_look_ends : List D → R D) (f_look_hour : List D → R D) (f_plain_names : List D → R D) (f_is_name : List D → R D) (f_is_whole : List D → R D) (f_plain_sightings : List D → R D) : List D → R D := fRun 14 (fSeq (relS [0, 1, 2, 3] (sExp (eC 4 f_look_ends [(rdE 0), (rdE 1), (rdE 2), (rdE 3)])))
  (fSeq (relS [4] (sExp (eC 2 f_look_hour [(rdE 4), (e2 (dBin .Add) (e2 dIx (rdP 0) (kD (.int 0))) (kD (.int 1)))])))
  (fSeq (relS [5] (fIfS (tstOr (tstNot (t1 dTru (e1 (dIsi "list") (rdP 5)))) (tstNot (t1 dTru (eB dAll [(fLc (i1 dItems (rdE 5)) (.one 11) (kT true) (fAnd (e1 (dIsi "tuple") (rdP 11)) (e2 (bCmp .Eq) (eB dLen [(rdP 11)]) (kD (.int 2)))) [11])])))) (fSeq (relS [] (sRet (kD (.bool false))))
    sNil) sNil))
  (fSeq (relS [0] (sSet 6 (eC 1 f_plain_names [(rdE 0)])))
  (fSeq (relS [5] (fIfS (tstNot (t1 dTru (eB dAll [(fLc (i1 dItems (rdE 5)) (.one 11) (kT true) (fAnd (eC 1 f_is_name [(e2 dIx (rdP 11) (kD (.int 0)))]) (fAnd (e2 (bCmp .In) (e2 dIx (rdP 11) (kD (.int 0))) (rdP 6)) (eC 3 f_is_whole [(e2 dIx (rdP 11) (kD (.int 1))), (kD (.int 0)), (e2 (dBin .Add) (e2 dIx (rdP 0) (kD (.int 0))) (kD (.int 1)))]))) [11])]))) (fSeq (relS [] (sRet (kD (.bool false))))
    sNil) sNil))
  (fSeq (relS [5] (fIfS (tstNot (t1 dTru (eB dAll [(fLc (iB dZip [(rdE 5), (eSl (rdP 5) (pS (kD (.int 1))) pN)]) (.many [12, 13]) (kT true) (e2 (bCmp .Lt) (e2 dIx (rdP 12) (kD (.int 0))) (e2 dIx (rdP 13) (kD (.int 0)))) [12, 13])]))) (fSeq (relS [] (sRet (kD (.bool false))))
    sNil) sNil))
  (fSeq (relS [] (sOwn 7 (eB dDict [(rdP 5)])))
  (fSeq (relS [] (fIfS (tstOr (t2 (dCmp .NotIn) (rdP 1) (rdP 7)) (tstOr (t2 (dCmp .Gt) (e2 dIx (rdP 7) (rdP 1)) (rdP 2)) (tstAnd (t2 (dCmp .In) (rdP 3) (rdP 7)) (t2 (dCmp .LtE) (e2 dIx (rdP 7) (rdP 3)) (rdP 4))))) (fSeq (relS [] (sRet (kD (.bool false))))
    sNil) sNil))
  (fSeq (relS [0] (fFor (i1 dItems (eC 1 f_plain_sightings [(rdE 0)])) (.many [8, 9, 10]) (fSeq (relS [] (fIfS (tstAnd (t2 (dCmp .In) (rdP 10) (rdP 7)) (tstAnd (t2 (dCmp .LtE) (e2 dIx (rdP 7) (rdP 10)) (rdP 8)) (tstOr (t2 (dCmp .NotIn) (rdP 9) (rdP 7)) (t2 (dCmp .Gt) (e2 dIx (rdP 7) (rdP 9)) (e2 (dBin .Add) (rdP 8) (kD (.int 1))))))) (fSeq (relS [] (sRet (kD (.bool false))))
      sNil) sNil))
    sNil)))
  (fSeq (relS [] (sRet (kD (.bool true))))
  sNil))))))))))
def FF_bounds_for : List D → R D := fRunF 7 (fSeq (relS [1, 2] (sOwn 3 (e2 dDict1 (rdE 1) (rdE 2))))
  (fSeq (relS [] (fFor (i1 dItems (eRv (rdP 0))) (.many [4, 5, 6]) (fSeq (relS [] (fIfS (tstAnd (t2 (dCmp .In) (rdP 5) (rdP 3)) (tstAnd (t2 (dCmp .LtE) (e2 (dBin .Add) (rdP 4) (kD (.int 1))) (e2 dIx (rdP 3) (rdP 5))) (t2 (dCmp .NotIn) (rdP 6) (rdP 3)))) (fSeq (relS [4] (fPut 3 (rdP 6) (rdE 4)))
      sNil) sNil))
    sNil)))
  (fSeq (fRetO 3)
  sNil)))
def FF_plain_latest (f_bounds_for : List D → R D) (f_plain_sightings : List D → R D) : List D → R D := fRun 4 (fSeq (relS [0, 1, 2] (sOwn 3 (eC 3 f_bounds_for [(eC 1 f_plain_sightings [(rdE 0)]), (rdE 1), (rdE 2)])))
  (fSeq (relS [] (fPut 3 (rdP 1) (eB dMin [(rdP 2), (e2 dIx (rdP 0) (kD (.int 0)))])))
  (fSeq (relS [3] (sRet (e1 dSortItems (rdE 3))))
  sNil)))
def FF_latest (f_look_fleet : List D → R D) (f_look_ship : List D → R D) (f_look_hour : List D → R D) (f_plain_latest : List D → R D) : List D → R D := fRun 3 (fSeq (relS [0] (sExp (eC 1 f_look_fleet [(rdE 0)])))
  (fSeq (relS [0, 1] (sExp (eC 2 f_look_ship [(rdE 0), (rdE 1)])))
  (fSeq (relS [2] (sExp (eC 2 f_look_hour [(rdE 2), (e2 (dBin .Add) (e2 dIx (rdP 0) (kD (.int 0))) (kD (.int 1)))])))
  (fSeq (relS [0, 1, 2] (sRet (eC 3 f_plain_latest [(rdE 0), (rdE 1), (rdE 2)])))
  sNil))))
def FF_is_showings (f_plain_names : List D → R D) (f_is_whole : List D → R D) (f_is_name : List D → R D) (f_is_rising : List D → R D) : List D → R D := fRun 4 (fSeq (relS [1] (fIfS (tstOr (tstNot (t1 dTru (e1 (dIsi "list") (rdP 1)))) (tstNot (t1 dTru (eB dAll [(fLc (i1 dItems (rdE 1)) (.one 3) (kT true) (fAnd (e1 (dIsi "tuple") (rdP 3)) (e2 (bCmp .Eq) (eB dLen [(rdP 3)]) (kD (.int 2)))) [3])])))) (fSeq (relS [] (sRet (kD (.bool false))))
    sNil) sNil))
  (fSeq (relS [0] (sSet 2 (eC 1 f_plain_names [(rdE 0)])))
  (fSeq (relS [1] (fIfS (tstNot (t1 dTru (eB dAll [(fLc (i1 dItems (rdE 1)) (.one 3) (kT true) (fAnd (eC 3 f_is_whole [(e2 dIx (rdP 3) (kD (.int 0))), (kD (.int 0)), (e2 dIx (rdP 0) (kD (.int 0)))]) (fAnd (eC 1 f_is_name [(e2 dIx (rdP 3) (kD (.int 1)))]) (e2 (bCmp .In) (e2 dIx (rdP 3) (kD (.int 1))) (rdP 2)))) [3])]))) (fSeq (relS [] (sRet (kD (.bool false))))
    sNil) sNil))
  (fSeq (relS [1] (sRet (eC 1 f_is_rising [(rdE 1)])))
  sNil))))
def FF_look_showings (f_is_showings : List D → R D) : List D → R D := fRun 2 (fSeq (relS [0, 1] (fIfS (tstNot (t1 dTru (eC 2 f_is_showings [(rdE 0), (rdE 1)]))) (fSeq (sExc "NoShowings")
    sNil) sNil))
  sNil)
def FF_seen_of : List D → R D := fRun 3 (fSeq (relS [2, 0] (sRet (fLc (i1 dItems (rdE 0)) (.one 2) (t2 (dCmp .In) (eTup [(e2 dIx (rdP 2) (kD (.int 0))), (e2 dIx (rdP 2) (kD (.int 2)))]) (rdP 1)) (rdE 2) [2])))
  sNil)
def FF_by_showings (f_look_fleet : List D → R D) (f_look_ship : List D → R D) (f_look_hour : List D → R D) (f_look_showings : List D → R D) (f_spread : List D → R D) (f_seen_of : List D → R D) (f_plain_sightings : List D → R D) : List D → R D := fRun 4 (fSeq (relS [0] (sExp (eC 1 f_look_fleet [(rdE 0)])))
  (fSeq (relS [0, 1] (sExp (eC 2 f_look_ship [(rdE 0), (rdE 1)])))
  (fSeq (relS [2] (sExp (eC 2 f_look_hour [(rdE 2), (e2 dIx (rdP 0) (kD (.int 0)))])))
  (fSeq (relS [0, 3] (sExp (eC 2 f_look_showings [(rdE 0), (rdE 3)])))
  (fSeq (relS [0, 3, 1, 2] (sRet (e1 dSortItems (eC 3 f_spread [(eC 2 f_seen_of [(eC 1 f_plain_sightings [(rdE 0)]), (rdE 3)]), (rdE 1), (rdE 2)]))))
  sNil)))))
def FF_are_names (f_is_name : List D → R D) (f_is_rising : List D → R D) (f_plain_names : List D → R D) : List D → R D := fRun 3 (fSeq (relS [2, 1] (fIfS (tstOr (tstNot (t1 dTru (e1 (dIsi "tuple") (rdP 1)))) (tstOr (t2 (dCmp .Eq) (rdP 1) (eTup [])) (tstNot (t1 dTru (eB dAll [(fLc (i1 dItems (rdE 1)) (.one 2) (kT true) (eC 1 f_is_name [(rdE 2)]) [2])]))))) (fSeq (relS [] (sRet (kD (.bool false))))
    sNil) sNil))
  (fSeq (relS [1, 0, 1] (sRet (fAnd (eC 1 f_is_rising [(rdE 1)]) (eB dAll [(fLc (i1 dItems (rdE 1)) (.one 2) (kT true) (e2 (bCmp .In) (rdP 2) (eC 1 f_plain_names [(rdE 0)])) [2])]))))
  sNil))
def FF_look_task (f_look_fleet : List D → R D) (f_look_ship : List D → R D) (f_are_names : List D → R D) (f_look_hour : List D → R D) : List D → R D := fRun 5 (fSeq (relS [0] (sExp (eC 1 f_look_fleet [(rdE 0)])))
  (fSeq (relS [0, 1] (sExp (eC 2 f_look_ship [(rdE 0), (rdE 1)])))
  (fSeq (relS [0, 3] (fIfS (tstNot (t1 dTru (eC 2 f_are_names [(rdE 0), (rdE 3)]))) (fSeq (sExc "NoGoals")
    sNil) sNil))
  (fSeq (relS [2] (sExp (eC 2 f_look_hour [(rdE 2), (e2 dIx (rdP 0) (kD (.int 0)))])))
  (fSeq (relS [4] (sExp (eC 2 f_look_hour [(rdE 4), (e2 (dBin .Add) (e2 dIx (rdP 0) (kD (.int 0))) (kD (.int 1)))])))
  sNil)))))
def FF_do_have : List D → R D := fRun 4 (fSeq (relS [1] (sRet (eB dAll [(fLc (i1 dItems (rdE 1)) (.one 3) (kT true) (fAnd (e2 (bCmp .In) (rdP 3) (rdP 0)) (e2 (bCmp .LtE) (e2 dIx (rdP 0) (rdP 3)) (rdP 2))) [3])])))
  sNil)
def FF_lots_of : List D → R D := fRun 4 (fSeq (relS [] (sOwn 1 (eLst [(eTup [])])))
  (fSeq (relS [0] (fFor (i1 dItems (rdE 0)) (.one 2) (fSeq (relS [2, 1] (sSet 1 (e2 (dBin .Add) (rdP 1) (fLc (i1 dItems (rdE 1)) (.one 3) (kT true) (e2 (dBin .Add) (rdP 3) (eTup [(rdE 2)])) [3]))))
    sNil)))
  (fSeq (relS [1] (sRet (rdE 1)))
  sNil)))
def FF_fewest (f_look_task : List D → R D) (f_plain_sightings : List D → R D) (f_step : List D → R D) : List D → R D := fRun 12 (fSeq (relS [0, 1, 2, 3, 4] (sExp (eC 5 f_look_task [(rdE 0), (rdE 1), (rdE 2), (rdE 3), (rdE 4)])))
  (fSeq (relS [] (fIfS (t2 (dCmp .Gt) (rdP 2) (rdP 4)) (fSeq (relS [] (sRet (kD .none)))
    sNil) sNil))
  (fSeq (relS [0, 1] (fPar [false, true] [5, 6] (eArgs [(eC 1 f_plain_sightings [(rdE 0)]), (e2 dDict1 (eTup [(rdE 1)]) (eLst []))])))
  (fSeq (relS [] (fFor (iB dRng2 [(rdP 2), (rdP 4)]) (.one 7) (fSeq (relS [5, 7, 6] (sSet 6 (eC 3 f_step [(rdE 5), (rdE 7), (rdE 6)])))
    sNil)))
  (fSeq (relS [10, 6, 3] (sOwn 8 (fLc (i1 dPairs (rdE 6)) (.many [9, 10]) (t1 dTru (eB dAll [(fLc (i1 dItems (rdE 3)) (.one 11) (kT true) (e2 (bCmp .In) (rdP 11) (rdP 9)) [11])])) (eTup [(eB dLen [(rdP 10)]), (rdE 10)]) [9, 10])))
  (fSeq (relS [] (sRet (fIf (t2 (dCmp .NotEq) (rdP 8) (eLst [])) (e2 dIx (eB dMin [(rdP 8)]) (kD (.int 1))) (kD .none))))
  sNil))))))
def FF_is_enough (f_look_task : List D → R D) (f_is_showings : List D → R D) (f_do_have : List D → R D) (f_spread : List D → R D) (f_seen_of : List D → R D) (f_plain_sightings : List D → R D) : List D → R D := fRun 6 (fSeq (relS [0, 1, 2, 3, 4] (sExp (eC 5 f_look_task [(rdE 0), (rdE 1), (rdE 2), (rdE 3), (rdE 4)])))
  (fSeq (relS [0, 5] (fIfS (tstNot (t1 dTru (eC 2 f_is_showings [(rdE 0), (rdE 5)]))) (fSeq (relS [] (sRet (kD (.bool false))))
    sNil) sNil))
  (fSeq (relS [0, 5, 1, 2, 3, 4] (sRet (eC 3 f_do_have [(eC 3 f_spread [(eC 2 f_seen_of [(eC 1 f_plain_sightings [(rdE 0)]), (rdE 5)]), (rdE 1), (rdE 2)]), (rdE 3), (rdE 4)])))
  sNil)))
def FF_look_asked (f_look_fleet : List D → R D) (f_look_ship : List D → R D) (f_look_hour : List D → R D) : List D → R D := fRun 5 (fSeq (relS [0] (sExp (eC 1 f_look_fleet [(rdE 0)])))
  (fSeq (relS [0, 1] (sExp (eC 2 f_look_ship [(rdE 0), (rdE 1)])))
  (fSeq (relS [0, 3] (sExp (eC 2 f_look_ship [(rdE 0), (rdE 3)])))
  (fSeq (relS [] (fIfS (t2 (dCmp .Eq) (rdP 3) (rdP 1)) (fSeq (sExc "NoShip")
    sNil) sNil))
  (fSeq (relS [2] (sExp (eC 2 f_look_hour [(rdE 2), (e2 dIx (rdP 0) (kD (.int 0)))])))
  (fSeq (relS [4] (sExp (eC 2 f_look_hour [(rdE 4), (e2 (dBin .Add) (e2 dIx (rdP 0) (kD (.int 0))) (kD (.int 1)))])))
  sNil))))))
def FF_others_of (f_plain_names : List D → R D) : List D → R D := fRun 4 (fSeq (relS [3, 0, 1, 2] (sRet (fLc (i1 dItems (eC 1 f_plain_names [(rdE 0)])) (.one 3) (t2 (dCmp .NotIn) (rdP 3) (eTup [(rdE 1), (rdE 2)])) (rdE 3) [3])))
  sNil)
def FF_clear_of : List D → R D := fRun 3 (fSeq (relS [2, 0] (sRet (fLc (i1 dItems (rdE 0)) (.one 2) (tstAnd (t2 (dCmp .NotIn) (e2 dIx (rdP 2) (kD (.int 1))) (rdP 1)) (t2 (dCmp .NotIn) (e2 dIx (rdP 2) (kD (.int 2))) (rdP 1))) (rdE 2) [2])))
  sNil)
def FF_comes (f_spread : List D → R D) : List D → R D := fRun 6 (fSeq (relS [0, 1, 2] (sSet 5 (eC 3 f_spread [(rdE 0), (rdE 1), (rdE 2)])))
  (fSeq (relS [] (sRet (fAnd (e2 (bCmp .In) (rdP 3) (rdP 5)) (e2 (bCmp .LtE) (e2 dIx (rdP 5) (rdP 3)) (rdP 4)))))
  sNil))
def FF_must (f_look_asked : List D → R D) (f_plain_sightings : List D → R D) (f_comes : List D → R D) (f_others_of : List D → R D) (f_clear_of : List D → R D) : List D → R D := fRun 8 (fSeq (relS [0, 1, 2, 3, 4] (sExp (eC 5 f_look_asked [(rdE 0), (rdE 1), (rdE 2), (rdE 3), (rdE 4)])))
  (fSeq (relS [0] (sSet 5 (eC 1 f_plain_sightings [(rdE 0)])))
  (fSeq (relS [5, 1, 2, 3, 4] (fIfS (tstNot (t1 dTru (eC 5 f_comes [(rdE 5), (rdE 1), (rdE 2), (rdE 3), (rdE 4)]))) (fSeq (relS [] (sRet (kD .none)))
    sNil) sNil))
  (fSeq (relS [0, 1, 3] (sSet 6 (eC 3 f_others_of [(rdE 0), (rdE 1), (rdE 3)])))
  (fSeq (relS [7, 6, 5, 7, 1, 2, 3, 4] (sRet (fLc (i1 dItems (rdE 6)) (.one 7) (tstNot (t1 dTru (eC 5 f_comes [(eC 2 f_clear_of [(rdE 5), (eLst [(rdE 7)])]), (rdE 1), (rdE 2), (rdE 3), (rdE 4)]))) (rdE 7) [7])))
  sNil)))))
def FF_least_cut (f_look_asked : List D → R D) (f_plain_sightings : List D → R D) (f_lots_of : List D → R D) (f_others_of : List D → R D) (f_comes : List D → R D) (f_clear_of : List D → R D) : List D → R D := fRun 9 (fSeq (relS [0, 1, 2, 3, 4] (sExp (eC 5 f_look_asked [(rdE 0), (rdE 1), (rdE 2), (rdE 3), (rdE 4)])))
  (fSeq (relS [0] (sSet 5 (eC 1 f_plain_sightings [(rdE 0)])))
  (fSeq (relS [0, 1, 3] (sSet 6 (eC 1 f_lots_of [(eC 3 f_others_of [(rdE 0), (rdE 1), (rdE 3)])])))
  (fSeq (relS [8, 6, 5, 8, 1, 2, 3, 4] (sOwn 7 (fLc (i1 dItems (rdE 6)) (.one 8) (tstNot (t1 dTru (eC 5 f_comes [(eC 2 f_clear_of [(rdE 5), (rdE 8)]), (rdE 1), (rdE 2), (rdE 3), (rdE 4)]))) (eTup [(eB dLen [(rdP 8)]), (rdE 8)]) [8])))
  (fSeq (relS [] (sRet (fIf (t2 (dCmp .NotEq) (rdP 7) (eLst [])) (e2 dIx (eB dMin [(rdP 7)]) (kD (.int 1))) (kD .none))))
  sNil)))))
def FF_is_cut (f_look_asked : List D → R D) (f_is_name : List D → R D) (f_is_rising : List D → R D) (f_others_of : List D → R D) (f_comes : List D → R D) (f_clear_of : List D → R D) (f_plain_sightings : List D → R D) : List D → R D := fRun 8 (fSeq (relS [0, 1, 2, 3, 4] (sExp (eC 5 f_look_asked [(rdE 0), (rdE 1), (rdE 2), (rdE 3), (rdE 4)])))
  (fSeq (relS [7, 5, 5] (fIfS (tstOr (tstNot (t1 dTru (e1 (dIsi "tuple") (rdP 5)))) (tstOr (tstNot (t1 dTru (eB dAll [(fLc (i1 dItems (rdE 5)) (.one 7) (kT true) (eC 1 f_is_name [(rdE 7)]) [7])]))) (tstNot (t1 dTru (eC 1 f_is_rising [(rdE 5)]))))) (fSeq (relS [] (sRet (kD (.bool false))))
    sNil) sNil))
  (fSeq (relS [0, 1, 3] (sSet 6 (eC 3 f_others_of [(rdE 0), (rdE 1), (rdE 3)])))
  (fSeq (relS [5] (fIfS (tstNot (t1 dTru (eB dAll [(fLc (i1 dItems (rdE 5)) (.one 7) (kT true) (e2 (bCmp .In) (rdP 7) (rdP 6)) [7])]))) (fSeq (relS [] (sRet (kD (.bool false))))
    sNil) sNil))
  (fSeq (relS [0, 5, 1, 2, 3, 4] (sRet (e1 dNot (eC 5 f_comes [(eC 2 f_clear_of [(eC 1 f_plain_sightings [(rdE 0)]), (rdE 5)]), (rdE 1), (rdE 2), (rdE 3), (rdE 4)]))))
  sNil)))))
def FF_best_lots (f_best_lots : List D → R D) : List D → R D := fRun 8 (fSeq (relS [] (sOwn 1 (eLst [])))
  (fSeq (relS [0] (fFor (iB dEnum [(rdE 0)]) (.many [2, 3]) (fSeq (relS [6, 6] (sOwn 4 (fLc (i1 dItems (eSl (rdP 0) (pS (e2 (dBin .Add) (rdP 2) (kD (.int 1)))) pN)) (.one 6) (tstNot (t1 dTru (eB dAny [(fLc (i1 dItems (rdE 6)) (.one 7) (kT true) (e2 (bCmp .In) (rdP 7) (rdP 3)) [7])]))) (rdE 6) [6])))
    (fSeq (relS [3, 4] (sSet 5 (e2 (dBin .Add) (eLst [(rdE 3)]) (eC 1 f_best_lots [(rdE 4)]))))
    (fSeq (relS [5, 1] (sSet 1 (fIf (t2 (dCmp .Gt) (eB dLen [(rdP 5)]) (eB dLen [(rdP 1)])) (rdE 5) (rdE 1))))
    sNil)))))
  (fSeq (relS [1] (sRet (rdE 1)))
  sNil)))
def FF_straight : List D → R D := fRun 4 (fSeq (relS [3, 0] (sRet (fLc (i1 dItems (rdE 0)) (.one 3) (tstAnd (t2 (dCmp .NotEq) (e2 dIx (rdP 3) (kD (.int 1))) (rdP 1)) (t2 (dCmp .NotEq) (e2 dIx (rdP 3) (kD (.int 2))) (rdP 2))) (rdE 3) [3])))
  sNil)
def FF_rows_by (f_clear_of : List D → R D) : List D → R D := fRun 8 (fSeq (relS [0, 7, 3] (sSet 5 (eC 2 f_clear_of [(rdE 0), (fLc (i1 dItems (rdE 3)) (.one 7) (t2 (dCmp .NotIn) (rdP 7) (rdP 4)) (rdE 7) [7])])))
  (fSeq (relS [6, 5] (sRet (fLc (i1 dItems (rdE 5)) (.one 6) (tstOr (t2 (dCmp .Eq) (rdP 4) (eTup [])) (tstOr (t2 (dCmp .NotEq) (e2 dIx (rdP 6) (kD (.int 1))) (rdP 2)) (t2 (dCmp .NotEq) (e2 dIx (rdP 6) (kD (.int 2))) (rdP 1)))) (rdE 6) [6])))
  sNil))
def FF_most_apart (f_look_asked : List D → R D) (f_straight : List D → R D) (f_plain_sightings : List D → R D) (f_others_of : List D → R D) (f_comes : List D → R D) (f_rows_by : List D → R D) (f_lots_of : List D → R D) (f_best_lots : List D → R D) (f_chain_by : List D → R D) : List D → R D := fRun 9 (fSeq (relS [0, 1, 2, 3, 4] (sExp (eC 5 f_look_asked [(rdE 0), (rdE 1), (rdE 2), (rdE 3), (rdE 4)])))
  (fSeq (relS [0, 1, 3, 0, 1, 3] (fPar [false, false] [5, 6] (eArgs [(eC 3 f_straight [(eC 1 f_plain_sightings [(rdE 0)]), (rdE 1), (rdE 3)]), (eC 3 f_others_of [(rdE 0), (rdE 1), (rdE 3)])])))
  (fSeq (relS [8, 6, 5, 1, 3, 6, 8, 1, 2, 3, 4] (sOwn 7 (fLc (i1 dItems (eC 1 f_lots_of [(rdE 6)])) (.one 8) (t1 dTru (eC 5 f_comes [(eC 5 f_rows_by [(rdE 5), (rdE 1), (rdE 3), (rdE 6), (rdE 8)]), (rdE 1), (rdE 2), (rdE 3), (rdE 4)])) (rdE 8) [8])))
  (fSeq (relS [5, 1, 3, 6, 8, 1, 2, 3, 7] (sRet (fLc (i1 dItems (eC 1 f_best_lots [(rdE 7)])) (.one 8) (kT true) (eC 4 f_chain_by [(eC 5 f_rows_by [(rdE 5), (rdE 1), (rdE 3), (rdE 6), (rdE 8)]), (rdE 1), (rdE 2), (rdE 3)]) [8])))
  sNil))))
def FF_without (f_look_fleet : List D → R D) (f_look_ship : List D → R D) : List D → R D := fRun 3 (fSeq (relS [0] (sExp (eC 1 f_look_fleet [(rdE 0)])))
  (fSeq (relS [0, 1] (sExp (eC 2 f_look_ship [(rdE 0), (rdE 1)])))
  (fSeq (relS [] (fIfS (t2 (dCmp .Eq) (eB dLen [(e2 dIx (rdP 0) (kD (.int 2)))]) (kD (.int 1))) (fSeq (sExc "NoShip")
    sNil) sNil))
  (fSeq (relS [2] (sRet (e2 (dBin .Add) (eSl (rdP 0) pN (pS (kD (.int 2)))) (eTup [(eB dTuple [(fLc (i1 dItems (e2 dIx (rdP 0) (kD (.int 2)))) (.one 2) (t2 (dCmp .NotEq) (e2 dIx (rdP 2) (kD (.int 0))) (rdP 1)) (rdE 2) [2])]), (e2 dIx (rdP 0) (kD (.int 3)))]))))
  sNil))))
def FF_look_both (f_look_fleet : List D → R D) (f_plain_names : List D → R D) : List D → R D := fRun 2 (fSeq (relS [0] (sExp (eC 1 f_look_fleet [(rdE 0)])))
  (fSeq (relS [1] (sExp (eC 1 f_look_fleet [(rdE 1)])))
  (fSeq (relS [0, 1] (fIfS (tstOr (t2 (dCmp .NotEq) (e2 dIx (rdP 0) (kD (.int 0))) (e2 dIx (rdP 1) (kD (.int 0)))) (t2 (dCmp .NotEq) (eC 1 f_plain_names [(rdE 0)]) (eC 1 f_plain_names [(rdE 1)]))) (fSeq (sExc "NoFleet")
    sNil) sNil))
  sNil)))
def FF_parting (f_look_both : List D → R D) (f_plain_sightings : List D → R D) (f_plain_names : List D → R D) (f_spread : List D → R D) : List D → R D := fRun 9 (fSeq (relS [0, 1] (sExp (eC 2 f_look_both [(rdE 0), (rdE 1)])))
  (fSeq (relS [0, 1] (fPar [false, false] [2, 3] (eArgs [(eC 1 f_plain_sightings [(rdE 0)]), (eC 1 f_plain_sightings [(rdE 1)])])))
  (fSeq (relS [0] (fFor (i1 dItems (eC 1 f_plain_names [(rdE 0)])) (.one 4) (fSeq (relS [] (fFor (iB dRng1 [(e2 (dBin .Add) (e2 dIx (rdP 0) (kD (.int 0))) (kD (.int 1)))]) (.one 5) (fSeq (relS [2, 4, 5, 3, 4, 5] (fPar [false, false] [6, 7] (eArgs [(eC 3 f_spread [(rdE 2), (rdE 4), (rdE 5)]), (eC 3 f_spread [(rdE 3), (rdE 4), (rdE 5)])])))
      (fSeq (relS [0] (fFor (i1 dItems (eC 1 f_plain_names [(rdE 0)])) (.one 8) (fSeq (relS [8, 8] (fIfS (t2 (dCmp .NotEq) (fGet (rdP 6) (rdP 8) (kD .none)) (fGet (rdP 7) (rdP 8) (kD .none))) (fSeq (relS [4, 5, 8] (sRet (eTup [(rdE 4), (rdE 5), (rdE 8)])))
          sNil) sNil))
        sNil)))
      sNil))))
    sNil)))
  (fSeq (relS [] (sRet (kD .none)))
  sNil))))
def FF_are_alike (f_parting : List D → R D) : List D → R D := fRun 2 (fSeq (relS [0, 1] (sRet (e2 (bCmp .Is) (eC 2 f_parting [(rdE 0), (rdE 1)]) (kD .none))))
  sNil)
def FF_later (f_look_fleet : List D → R D) (f_look_hour : List D → R D) : List D → R D := fRun 12 (fSeq (relS [0] (sExp (eC 1 f_look_fleet [(rdE 0)])))
  (fSeq (relS [1] (sExp (eC 2 f_look_hour [(rdE 1), (e2 dIx (rdP 0) (kD (.int 0)))])))
  (fSeq (relS [9, 10] (sSet 2 (eB dTuple [(fLc (i1 dItems (e2 dIx (rdP 0) (kD (.int 2)))) (.many [9, 10, 11]) (kT true) (eTup [(rdE 9), (rdE 10), (eSl (rdP 11) (pS (rdP 1)) pN)]) [9, 10, 11])])))
  (fSeq (relS [] (sOwn 3 (kD (.dict []))))
  (fSeq (relS [] (fFor (i1 dItems (e2 dIx (rdP 0) (kD (.int 3)))) (.many [4, 5, 6, 7, 8]) (fSeq (relS [] (fIfS (t2 (dCmp .GtE) (rdP 5) (rdP 1)) (fSeq (relS [6, 7, 8] (fPut 3 (eTup [(eB dMax [(kD (.int 0)), (e2 (dBin .Sub) (rdP 4) (rdP 1))]), (e2 (dBin .Sub) (rdP 5) (rdP 1)), (rdE 6), (rdE 7), (rdE 8)]) (kD (.bool true))))
      sNil) sNil))
    sNil)))
  (fSeq (relS [2] (sRet (eTup [(e2 (dBin .Sub) (e2 dIx (rdP 0) (kD (.int 0))) (rdP 1)), (e2 dIx (rdP 0) (kD (.int 1))), (rdE 2), (eB dTuple [(eB dSorted [(rdP 3)])])])))
  sNil))))))
def FF_wall : List D → R D := fRun 1 (fSeq (relS [] (whLoop (t1 dTru (kD (.bool true))) (fSeq sNil
    sNil) 100000))
  sNil)
def FF_turned : List D → R D := fRun 8 (fSeq (relS [] (sOwn 4 (eLst [])))
  (fSeq (relS [] (fFor (i1 dItems (e2 dIx (rdP 0) (kD (.int 2)))) (.many [5, 6, 7]) (fSeq (relS [5, 6, 3, 7] (fApp 4 (eTup [(rdE 5), (rdE 6), (fIf (t2 (dCmp .Eq) (rdP 5) (rdP 1)) (e2 (dBin .Add) (e2 (dBin .Add) (eSl (rdP 7) pN (pS (rdP 2))) (eTup [(rdE 3)])) (eSl (rdP 7) (pS (e2 (dBin .Add) (rdP 2) (kD (.int 1)))) pN)) (rdE 7))])))
    sNil)))
  (fSeq (relS [] (sRet (e2 (dBin .Add) (eSl (rdP 0) pN (pS (kD (.int 2)))) (eTup [(eB dTuple [(rdP 4)]), (e2 dIx (rdP 0) (kD (.int 3)))]))))
  sNil)))
def FF_ship_in (f_number_in : List D → R D) (f_cell_in : List D → R D) : List D → R D := fRun 2 (fSeq (relS [] (fIfS (t2 (dCmp .Lt) (eB dLen [(rdP 0)]) (kD (.int 3))) (fSeq (sExc "NoText")
    sNil) sNil))
  (fSeq (relS [1] (sRet (eTup [(e2 dIx (rdP 0) (kD (.int 0))), (eC 1 f_number_in [(e2 dIx (rdP 0) (kD (.int 1)))]), (eB dTuple [(fLc (i1 dItems (eSl (rdP 0) (pS (kD (.int 2))) pN)) (.one 1) (kT true) (eC 1 f_cell_in [(rdE 1)]) [1])])])))
  sNil))
def FF_mist_in (f_number_in : List D → R D) (f_cell_in : List D → R D) : List D → R D := fRun 1 (fSeq (relS [] (fIfS (t2 (dCmp .NotEq) (eB dLen [(rdP 0)]) (kD (.int 5))) (fSeq (sExc "NoText")
    sNil) sNil))
  (fSeq (relS [] (sRet (eTup [(eC 1 f_number_in [(e2 dIx (rdP 0) (kD (.int 0)))]), (eC 1 f_number_in [(e2 dIx (rdP 0) (kD (.int 1)))]), (eC 1 f_cell_in [(e2 dIx (rdP 0) (kD (.int 2)))]), (eC 1 f_cell_in [(e2 dIx (rdP 0) (kD (.int 3)))]), (eC 1 f_number_in [(e2 dIx (rdP 0) (kD (.int 4)))])])))
  sNil))
def FF_fleet_text (f_look_fleet : List D → R D) (f_plain_text : List D → R D) : List D → R D := fRun 1 (fSeq (relS [0] (sExp (eC 1 f_look_fleet [(rdE 0)])))
  (fSeq (relS [0] (sRet (eC 1 f_plain_text [(rdE 0)])))
  sNil))
def FF_is_world_of (f_is_whole : List D → R D) : List D → R D := fRun 3 (fSeq (relS [] (fIfS (tstOr (tstNot (t1 dTru (e1 (dIsi "tuple") (rdP 1)))) (t2 (dCmp .NotEq) (eB dLen [(rdP 1)]) (eB dLen [(e2 dIx (rdP 0) (kD (.int 2)))]))) (fSeq (relS [] (sRet (kD (.bool false))))
    sNil) sNil))
  (fSeq (relS [2, 1] (sRet (eB dAll [(fLc (i1 dItems (rdE 1)) (.one 2) (kT true) (eC 3 f_is_whole [(rdE 2), (kD (.int 0)), (e2 (dBin .Add) (e2 dIx (rdP 0) (kD (.int 0))) (kD (.int 1)))]) [2])])))
  sNil))
def FF_are_worlds_of (f_is_world_of : List D → R D) (f_is_rising : List D → R D) : List D → R D := fRun 3 (fSeq (relS [] (fIfS (tstOr (tstNot (t1 dTru (e1 (dIsi "tuple") (rdP 1)))) (tstNot (fChain (dCmp .LtE) (dCmp .LtE) (kD (.int 1)) (eB dLen [(rdP 1)]) (kD (.int 24))))) (fSeq (relS [] (sRet (kD (.bool false))))
    sNil) sNil))
  (fSeq (relS [0, 2, 1, 1] (sRet (fAnd (eB dAll [(fLc (i1 dItems (rdE 1)) (.one 2) (kT true) (eC 2 f_is_world_of [(rdE 0), (rdE 2)]) [2])]) (eC 1 f_is_rising [(rdE 1)]))))
  sNil))
def FF_is_world (f_look_fleet : List D → R D) (f_is_world_of : List D → R D) : List D → R D := fRun 2 (fSeq (relS [0] (sExp (eC 1 f_look_fleet [(rdE 0)])))
  (fSeq (relS [0, 1] (sRet (eC 2 f_is_world_of [(rdE 0), (rdE 1)])))
  sNil))
def FF_are_worlds (f_look_fleet : List D → R D) (f_are_worlds_of : List D → R D) : List D → R D := fRun 2 (fSeq (relS [0] (sExp (eC 1 f_look_fleet [(rdE 0)])))
  (fSeq (relS [0, 1] (sRet (eC 2 f_are_worlds_of [(rdE 0), (rdE 1)])))
  sNil))
def FF_law_pick_s5 : DL.Env → R Out := (relS [] (sRet (e2 (dBin .Mod) (e2 (dBin .Mod) (e2 (dBin .Add) (e2 (dBin .Mult) (rdP 6) (rdP 6)) (e2 (dBin .FloorDiv) (rdP 6) (kD (.int 31)))) (kD (.int 2147483629))) (rdP 2))))
def FF_law_pick_t5 : DL.Env → R Out := fSeq (FF_law_pick_s5) sNil
def FF_law_pick_s4 : DL.Env → R Out := (relS [] (sSet 6 (e2 (dBin .Mod) (e2 (dBin .Mult) (e2 (dBin .Add) (e2 (dBin .Mult) (rdP 3) (kD (.int 31))) (e2 (dBin .Mult) (kD (.int 6151)) (e2 (dBin .Add) (rdP 1) (kD (.int 1))))) (kD (.int 40692))) (kD (.int 2147483399)))))
def FF_law_pick_t4 : DL.Env → R Out := fSeq (FF_law_pick_s4) (FF_law_pick_t5)
def FF_law_pick_s3 : DL.Env → R Out := (relS [] (fIfS (t2 (dCmp .Gt) (rdP 4) (kD (.int 0))) (fSeq (relS [] (sRet (e2 (dBin .Mod) (e2 (dBin .Mod) (rdP 4) (kD (.int 840))) (rdP 2))))
  sNil) sNil))
def FF_law_pick_t3 : DL.Env → R Out := fSeq (FF_law_pick_s3) (FF_law_pick_t4)
def FF_law_pick_s2 : DL.Env → R Out := (relS [] (whLoop (tstAnd (t2 (dCmp .Gt) (rdP 4) (kD (.int 0))) (t2 (dCmp .Gt) (rdP 5) (kD (.int 0)))) (fSeq (relS [] (fPar [false, false] [4, 5] (eArgs [(e2 (dBin .FloorDiv) (rdP 4) (kD (.int 840))), (e2 (dBin .Sub) (rdP 5) (kD (.int 1)))])))
  sNil) 100000))
def FF_law_pick_t2 : DL.Env → R Out := fSeq (FF_law_pick_s2) (FF_law_pick_t3)
def FF_law_pick_s1 : DL.Env → R Out := (relS [] (fPar [false, false] [4, 5] (eArgs [(e2 (dBin .FloorDiv) (rdP 3) (e2 (dBin .Pow) (kD (.int 10)) (kD (.int 18)))), (e2 (dBin .FloorDiv) (rdP 1) (eB dMax [(eB dLen [(rdP 0)]), (kD (.int 1))]))])))
def FF_law_pick_t1 : DL.Env → R Out := fSeq (FF_law_pick_s1) (FF_law_pick_t2)
def FF_law_pick_s0 : DL.Env → R Out := (relS [] (sSet 3 (fIf (t2 (dCmp .NotEq) (rdP 0) (eLst [])) (e2 dIx (rdP 0) (e2 (dBin .Mod) (rdP 1) (eB dLen [(rdP 0)]))) (kD (.int 0)))))
def FF_law_pick_t0 : DL.Env → R Out := fSeq (FF_law_pick_s0) (FF_law_pick_t1)
def FF_law_pick : List D → R D := fRun 7 (FF_law_pick_t0)
def FF_look_world (f_is_world_of : List D → R D) : List D → R D := fRun 2 (fSeq (relS [0, 1] (fIfS (tstNot (t1 dTru (eC 2 f_is_world_of [(rdE 0), (rdE 1)]))) (fSeq (sExc "NoWorld")
    sNil) sNil))
  sNil)
def FF_read_in (f_when_read : List D → R D) : List D → R D := fRun 5 (fSeq (relS [3, 3, 4, 1] (sRet (fLc (i1 dItems (rdE 1)) (.many [3, 4]) (kT true) (eTup [(rdE 3), (eC 2 f_when_read [(e2 dIx (rdP 2) (fMeth dIndex (rdP 0) (rdP 3))), (rdE 4)])]) [3, 4])))
  sNil)
def FF_when_read : List D → R D := fRun 2 (fSeq (relS [0] (sRet (fIf (t2 (dCmp .LtE) (rdP 0) (rdP 1)) (rdE 0) (kD .none))))
  sNil)
def FF_read_by (f_look_fleet : List D → R D) (f_look_world : List D → R D) (f_look_ship : List D → R D) (f_look_hour : List D → R D) (f_read_in : List D → R D) (f_plain_names : List D → R D) (f_plain_latest : List D → R D) : List D → R D := fRun 4 (fSeq (relS [0] (sExp (eC 1 f_look_fleet [(rdE 0)])))
  (fSeq (relS [0, 1] (sExp (eC 2 f_look_world [(rdE 0), (rdE 1)])))
  (fSeq (relS [0, 2] (sExp (eC 2 f_look_ship [(rdE 0), (rdE 2)])))
  (fSeq (relS [3] (sExp (eC 2 f_look_hour [(rdE 3), (e2 (dBin .Add) (e2 dIx (rdP 0) (kD (.int 0))) (kD (.int 1)))])))
  (fSeq (relS [0, 0, 2, 3, 1] (sRet (eC 3 f_read_in [(eC 1 f_plain_names [(rdE 0)]), (eC 3 f_plain_latest [(rdE 0), (rdE 2), (rdE 3)]), (rdE 1)])))
  sNil)))))
def FF_cant_tell (f_look_fleet : List D → R D) (f_look_world : List D → R D) (f_look_ship : List D → R D) (f_look_hour : List D → R D) (f_plain_latest : List D → R D) (f_read_in : List D → R D) (f_plain_names : List D → R D) : List D → R D := fRun 6 (fSeq (relS [0] (sExp (eC 1 f_look_fleet [(rdE 0)])))
  (fSeq (relS [0, 1] (sExp (eC 2 f_look_world [(rdE 0), (rdE 1)])))
  (fSeq (relS [0, 2] (sExp (eC 2 f_look_world [(rdE 0), (rdE 2)])))
  (fSeq (relS [0, 3] (sExp (eC 2 f_look_ship [(rdE 0), (rdE 3)])))
  (fSeq (relS [4] (sExp (eC 2 f_look_hour [(rdE 4), (e2 (dBin .Add) (e2 dIx (rdP 0) (kD (.int 0))) (kD (.int 1)))])))
  (fSeq (relS [0, 3, 4] (sSet 5 (eC 3 f_plain_latest [(rdE 0), (rdE 3), (rdE 4)])))
  (fSeq (relS [0, 5, 1, 0, 5, 2] (sRet (e2 (bCmp .Eq) (eC 3 f_read_in [(eC 1 f_plain_names [(rdE 0)]), (rdE 5), (rdE 1)]) (eC 3 f_read_in [(eC 1 f_plain_names [(rdE 0)]), (rdE 5), (rdE 2)]))))
  sNil)))))))
def FF_deep_s6 (f_is_hour_of : List D → R D) (f_deep : List D → R D) (f_is_whole : List D → R D) (f_is_knower : List D → R D) : DL.Env → R Out := (relS [] (sRet (fIf (t2 (dCmp .IsNot) (rdP 4) (kD .none)) (e2 (dBin .Add) (rdP 4) (kD (.int 1))) (kD .none))))
def FF_deep_t6 (f_is_hour_of : List D → R D) (f_deep : List D → R D) (f_is_whole : List D → R D) (f_is_knower : List D → R D) : DL.Env → R Out := fSeq (FF_deep_s6 f_is_hour_of f_deep f_is_whole f_is_knower) sNil
def FF_deep_s5 (f_is_hour_of : List D → R D) (f_deep : List D → R D) (f_is_whole : List D → R D) (f_is_knower : List D → R D) : DL.Env → R Out := (relS [0] (sSet 4 (eC 3 f_deep [(rdE 0), (e2 dIx (rdP 1) (kD (.int 3))), (e2 (dBin .Sub) (rdP 2) (kD (.int 1)))])))
def FF_deep_t5 (f_is_hour_of : List D → R D) (f_deep : List D → R D) (f_is_whole : List D → R D) (f_is_knower : List D → R D) : DL.Env → R Out := fSeq (FF_deep_s5 f_is_hour_of f_deep f_is_whole f_is_knower) (FF_deep_t6 f_is_hour_of f_deep f_is_whole f_is_knower)
def FF_deep_s4 (f_is_hour_of : List D → R D) (f_deep : List D → R D) (f_is_whole : List D → R D) (f_is_knower : List D → R D) : DL.Env → R Out := (relS [0, 1] (fIfS (tstNot (t1 dTru (eC 2 f_is_knower [(rdE 0), (rdE 1)]))) (fSeq (relS [] (sRet (kD .none)))
  sNil) sNil))
def FF_deep_t4 (f_is_hour_of : List D → R D) (f_deep : List D → R D) (f_is_whole : List D → R D) (f_is_knower : List D → R D) : DL.Env → R Out := fSeq (FF_deep_s4 f_is_hour_of f_deep f_is_whole f_is_knower) (FF_deep_t5 f_is_hour_of f_deep f_is_whole f_is_knower)
def FF_deep_s3 (f_is_hour_of : List D → R D) (f_deep : List D → R D) (f_is_whole : List D → R D) (f_is_knower : List D → R D) : DL.Env → R Out := (relS [] (fIfS (tstOr (t2 (dCmp .NotIn) (e2 dIx (rdP 1) (kD (.int 0))) (eTup [(kD (.str "knows")), (kD (.str "all")), (kD (.str "common"))])) (tstOr (t2 (dCmp .NotEq) (eB dLen [(rdP 1)]) (kD (.int 4))) (tstNot (t1 dTru (eC 3 f_is_whole [(e2 dIx (rdP 1) (kD (.int 2))), (kD (.int 0)), (e2 (dBin .Add) (e2 dIx (rdP 0) (kD (.int 0))) (kD (.int 1)))]))))) (fSeq (relS [] (sRet (kD .none)))
  sNil) sNil))
def FF_deep_t3 (f_is_hour_of : List D → R D) (f_deep : List D → R D) (f_is_whole : List D → R D) (f_is_knower : List D → R D) : DL.Env → R Out := fSeq (FF_deep_s3 f_is_hour_of f_deep f_is_whole f_is_knower) (FF_deep_t4 f_is_hour_of f_deep f_is_whole f_is_knower)
def FF_deep_s2 (f_is_hour_of : List D → R D) (f_deep : List D → R D) (f_is_whole : List D → R D) (f_is_knower : List D → R D) : DL.Env → R Out := (relS [] (fIfS (tstOr (tstAnd (t2 (dCmp .Eq) (e2 dIx (rdP 1) (kD (.int 0))) (kD (.str "not"))) (t2 (dCmp .Eq) (eB dLen [(rdP 1)]) (kD (.int 2)))) (tstAnd (t2 (dCmp .Eq) (e2 dIx (rdP 1) (kD (.int 0))) (kD (.str "and"))) (t2 (dCmp .Eq) (eB dLen [(rdP 1)]) (kD (.int 3))))) (fSeq (relS [0, 5] (sOwn 3 (fLc (i1 dItems (eSl (rdP 1) (pS (kD (.int 1))) pN)) (.one 5) (kT true) (eC 3 f_deep [(rdE 0), (rdE 5), (e2 (dBin .Sub) (rdP 2) (kD (.int 1)))]) [5])))
  (fSeq (relS [] (sRet (fIf (t2 (dCmp .In) (kD .none) (rdP 3)) (kD .none) (e2 (dBin .Add) (eB dMax [(rdP 3)]) (kD (.int 1))))))
  sNil)) sNil))
def FF_deep_t2 (f_is_hour_of : List D → R D) (f_deep : List D → R D) (f_is_whole : List D → R D) (f_is_knower : List D → R D) : DL.Env → R Out := fSeq (FF_deep_s2 f_is_hour_of f_deep f_is_whole f_is_knower) (FF_deep_t3 f_is_hour_of f_deep f_is_whole f_is_knower)
def FF_deep_s1 (f_is_hour_of : List D → R D) (f_deep : List D → R D) (f_is_whole : List D → R D) (f_is_knower : List D → R D) : DL.Env → R Out := (relS [] (fIfS (t2 (dCmp .Eq) (e2 dIx (rdP 1) (kD (.int 0))) (kD (.str "by"))) (fSeq (relS [0, 1] (sRet (fIf (tstAnd (t2 (dCmp .Eq) (eB dLen [(rdP 1)]) (kD (.int 3))) (t1 dTru (eC 2 f_is_hour_of [(rdE 0), (rdE 1)]))) (kD (.int 1)) (kD .none))))
  sNil) sNil))
def FF_deep_t1 (f_is_hour_of : List D → R D) (f_deep : List D → R D) (f_is_whole : List D → R D) (f_is_knower : List D → R D) : DL.Env → R Out := fSeq (FF_deep_s1 f_is_hour_of f_deep f_is_whole f_is_knower) (FF_deep_t2 f_is_hour_of f_deep f_is_whole f_is_knower)
def FF_deep_s0 (f_is_hour_of : List D → R D) (f_deep : List D → R D) (f_is_whole : List D → R D) (f_is_knower : List D → R D) : DL.Env → R Out := (relS [] (fIfS (tstOr (tstNot (t1 dTru (e1 (dIsi "tuple") (rdP 1)))) (tstOr (t2 (dCmp .Eq) (rdP 1) (eTup [])) (tstOr (tstNot (t1 dTru (e1 (dIsi "str") (e2 dIx (rdP 1) (kD (.int 0)))))) (t2 (dCmp .Lt) (rdP 2) (kD (.int 1)))))) (fSeq (relS [] (sRet (kD .none)))
  sNil) sNil))
def FF_deep_t0 (f_is_hour_of : List D → R D) (f_deep : List D → R D) (f_is_whole : List D → R D) (f_is_knower : List D → R D) : DL.Env → R Out := fSeq (FF_deep_s0 f_is_hour_of f_deep f_is_whole f_is_knower) (FF_deep_t1 f_is_hour_of f_deep f_is_whole f_is_knower)
def FF_deep (f_is_hour_of : List D → R D) (f_deep : List D → R D) (f_is_whole : List D → R D) (f_is_knower : List D → R D) : List D → R D := fRun 6 (FF_deep_t0 f_is_hour_of f_deep f_is_whole f_is_knower)
def FF_is_hour_of (f_is_name : List D → R D) (f_plain_names : List D → R D) (f_is_whole : List D → R D) : List D → R D := fRun 2 (fSeq (relS [0] (sRet (fAnd (eC 1 f_is_name [(e2 dIx (rdP 1) (kD (.int 1)))]) (fAnd (e2 (bCmp .In) (e2 dIx (rdP 1) (kD (.int 1))) (eC 1 f_plain_names [(rdE 0)])) (eC 3 f_is_whole [(e2 dIx (rdP 1) (kD (.int 2))), (kD (.int 0)), (e2 dIx (rdP 0) (kD (.int 0)))])))))
  sNil)
def FF_is_knower (f_is_name : List D → R D) (f_plain_names : List D → R D) (f_are_names : List D → R D) : List D → R D := fRun 2 (fSeq (relS [] (fIfS (t2 (dCmp .Eq) (e2 dIx (rdP 1) (kD (.int 0))) (kD (.str "knows"))) (fSeq (relS [0] (sRet (fAnd (eC 1 f_is_name [(e2 dIx (rdP 1) (kD (.int 1)))]) (e2 (bCmp .In) (e2 dIx (rdP 1) (kD (.int 1))) (eC 1 f_plain_names [(rdE 0)])))))
    sNil) sNil))
  (fSeq (relS [0] (sRet (eC 2 f_are_names [(rdE 0), (e2 dIx (rdP 1) (kD (.int 1)))])))
  sNil))
def FF_is_sentence (f_look_fleet : List D → R D) (f_deep : List D → R D) : List D → R D := fRun 2 (fSeq (relS [0] (sExp (eC 1 f_look_fleet [(rdE 0)])))
  (fSeq (relS [0, 1] (sRet (e2 (bCmp .IsNot) (eC 3 f_deep [(rdE 0), (rdE 1), (kD (.int 4))]) (kD .none))))
  sNil))
def FF_look_worlds (f_look_fleet : List D → R D) (f_are_worlds_of : List D → R D) (f_is_world_of : List D → R D) : List D → R D := fRun 3 (fSeq (relS [0] (sExp (eC 1 f_look_fleet [(rdE 0)])))
  (fSeq (relS [0, 1] (fIfS (tstNot (t1 dTru (eC 2 f_are_worlds_of [(rdE 0), (rdE 1)]))) (fSeq (sExc "NoWorlds")
    sNil) sNil))
  (fSeq (relS [0, 2] (fIfS (tstOr (tstNot (t1 dTru (eC 2 f_is_world_of [(rdE 0), (rdE 2)]))) (t2 (dCmp .NotIn) (rdP 2) (rdP 1))) (fSeq (sExc "NoWorld")
    sNil) sNil))
  sNil)))
def FF_look_sentence (f_deep : List D → R D) : List D → R D := fRun 3 (fSeq (relS [0, 1] (fIfS (t2 (dCmp .Is) (eC 3 f_deep [(rdE 0), (rdE 1), (e2 (dBin .Sub) (kD (.int 4)) (rdP 2))]) (kD .none)) (fSeq (sExc "NoSentence")
    sNil) sNil))
  sNil)
def FF_look_knower (f_look_worlds : List D → R D) (f_look_ship : List D → R D) (f_look_hour : List D → R D) (f_look_sentence : List D → R D) : List D → R D := fRun 6 (fSeq (relS [0, 1, 2] (sExp (eC 3 f_look_worlds [(rdE 0), (rdE 1), (rdE 2)])))
  (fSeq (relS [0, 3] (sExp (eC 2 f_look_ship [(rdE 0), (rdE 3)])))
  (fSeq (relS [4] (sExp (eC 2 f_look_hour [(rdE 4), (e2 (dBin .Add) (e2 dIx (rdP 0) (kD (.int 0))) (kD (.int 1)))])))
  (fSeq (relS [0, 5] (sExp (eC 3 f_look_sentence [(rdE 0), (rdE 5), (kD (.int 0))])))
  sNil))))
def FF_look_names (f_are_names : List D → R D) : List D → R D := fRun 2 (fSeq (relS [0, 1] (fIfS (tstNot (t1 dTru (eC 2 f_are_names [(rdE 0), (rdE 1)]))) (fSeq (sExc "NoGoals")
    sNil) sNil))
  sNil)
def FF_look_doubters (f_look_worlds : List D → R D) (f_look_names : List D → R D) (f_look_hour : List D → R D) (f_look_sentence : List D → R D) : List D → R D := fRun 6 (fSeq (relS [0, 1, 2] (sExp (eC 3 f_look_worlds [(rdE 0), (rdE 1), (rdE 2)])))
  (fSeq (relS [0, 3] (sExp (eC 2 f_look_names [(rdE 0), (rdE 3)])))
  (fSeq (relS [4] (sExp (eC 2 f_look_hour [(rdE 4), (e2 (dBin .Add) (e2 dIx (rdP 0) (kD (.int 0))) (kD (.int 1)))])))
  (fSeq (relS [0, 5] (sExp (eC 3 f_look_sentence [(rdE 0), (rdE 5), (kD (.int 0))])))
  sNil))))
def FF_tills_by (f_bounds_for : List D → R D) (f_seen_of : List D → R D) (f_plain_sightings : List D → R D) : List D → R D := fRun 5 (fSeq (relS [0, 3, 1, 2] (sOwn 4 (eC 3 f_bounds_for [(eC 2 f_seen_of [(eC 1 f_plain_sightings [(rdE 0)]), (rdE 3)]), (rdE 1), (rdE 2)])))
  (fSeq (relS [] (fPut 4 (rdP 1) (eB dMin [(rdP 2), (e2 dIx (rdP 0) (kD (.int 0)))])))
  (fSeq (relS [4] (sRet (e1 dSortItems (rdE 4))))
  sNil)))
def FF_read_by_showings (f_look_fleet : List D → R D) (f_look_world : List D → R D) (f_look_ship : List D → R D) (f_look_hour : List D → R D) (f_look_showings : List D → R D) (f_read_in : List D → R D) (f_plain_names : List D → R D) (f_tills_by : List D → R D) : List D → R D := fRun 5 (fSeq (relS [0] (sExp (eC 1 f_look_fleet [(rdE 0)])))
  (fSeq (relS [0, 1] (sExp (eC 2 f_look_world [(rdE 0), (rdE 1)])))
  (fSeq (relS [0, 2] (sExp (eC 2 f_look_ship [(rdE 0), (rdE 2)])))
  (fSeq (relS [3] (sExp (eC 2 f_look_hour [(rdE 3), (e2 (dBin .Add) (e2 dIx (rdP 0) (kD (.int 0))) (kD (.int 1)))])))
  (fSeq (relS [0, 4] (sExp (eC 2 f_look_showings [(rdE 0), (rdE 4)])))
  (fSeq (relS [0, 0, 2, 3, 4, 1] (sRet (eC 3 f_read_in [(eC 1 f_plain_names [(rdE 0)]), (eC 4 f_tills_by [(rdE 0), (rdE 2), (rdE 3), (rdE 4)]), (rdE 1)])))
  sNil))))))
def FF_is_plain (f_is_plain : List D → R D) : List D → R D := fRun 2 (fSeq (relS [] (fIfS (t2 (dCmp .Eq) (e2 dIx (rdP 0) (kD (.int 0))) (kD (.str "by"))) (fSeq (relS [] (sRet (kD (.bool true))))
    sNil) sNil))
  (fSeq (relS [1] (sRet (fAnd (e2 (bCmp .In) (e2 dIx (rdP 0) (kD (.int 0))) (eTup [(kD (.str "not")), (kD (.str "and"))])) (eB dAll [(fLc (i1 dItems (eSl (rdP 0) (pS (kD (.int 1))) pN)) (.one 1) (kT true) (eC 1 f_is_plain [(rdE 1)]) [1])]))))
  sNil))
def FF_is_so (f_is_so : List D → R D) : List D → R D := fRun 3 (fSeq (relS [] (fIfS (t2 (dCmp .Eq) (e2 dIx (rdP 2) (kD (.int 0))) (kD (.str "by"))) (fSeq (relS [] (sRet (e2 (bCmp .LtE) (e2 dIx (rdP 1) (fMeth dIndex (rdP 0) (e2 dIx (rdP 2) (kD (.int 1))))) (e2 dIx (rdP 2) (kD (.int 2))))))
    sNil) sNil))
  (fSeq (relS [] (fIfS (t2 (dCmp .Eq) (e2 dIx (rdP 2) (kD (.int 0))) (kD (.str "not"))) (fSeq (relS [0, 1] (sRet (e1 dNot (eC 3 f_is_so [(rdE 0), (rdE 1), (e2 dIx (rdP 2) (kD (.int 1)))]))))
    sNil) sNil))
  (fSeq (relS [0, 1, 0, 1] (sRet (fAnd (eC 3 f_is_so [(rdE 0), (rdE 1), (e2 dIx (rdP 2) (kD (.int 1)))]) (eC 3 f_is_so [(rdE 0), (rdE 1), (e2 dIx (rdP 2) (kD (.int 2)))]))))
  sNil)))
def FF_look_plain (f_look_worlds : List D → R D) (f_look_ship : List D → R D) (f_look_hour : List D → R D) (f_look_sentence : List D → R D) (f_is_plain : List D → R D) : List D → R D := fRun 6 (fSeq (relS [0, 1, 2] (sExp (eC 3 f_look_worlds [(rdE 0), (rdE 1), (rdE 2)])))
  (fSeq (relS [0, 3] (sExp (eC 2 f_look_ship [(rdE 0), (rdE 3)])))
  (fSeq (relS [4] (sExp (eC 2 f_look_hour [(rdE 4), (e2 (dBin .Add) (e2 dIx (rdP 0) (kD (.int 0))) (kD (.int 1)))])))
  (fSeq (relS [0, 5] (sExp (eC 3 f_look_sentence [(rdE 0), (rdE 5), (kD (.int 0))])))
  (fSeq (relS [5] (fIfS (tstNot (t1 dTru (eC 1 f_is_plain [(rdE 5)]))) (fSeq (sExc "NoSentence")
    sNil) sNil))
  sNil)))))
def FF_does_know (f_plain_names : List D → R D) (f_tills_by : List D → R D) (f_read_in : List D → R D) (f_is_so : List D → R D) : List D → R D := fRun 12 (fSeq (relS [0, 0, 3, 4, 6] (fPar [false, false] [7, 8] (eArgs [(eC 1 f_plain_names [(rdE 0)]), (eC 4 f_tills_by [(rdE 0), (rdE 3), (rdE 4), (rdE 6)])])))
  (fSeq (relS [7, 8, 2] (sSet 9 (eC 3 f_read_in [(rdE 7), (rdE 8), (rdE 2)])))
  (fSeq (relS [11, 1, 7, 8, 11] (sOwn 10 (fLc (i1 dItems (rdE 1)) (.one 11) (t2 (dCmp .Eq) (eC 3 f_read_in [(rdE 7), (rdE 8), (rdE 11)]) (rdP 9)) (rdE 11) [11])))
  (fSeq (relS [7, 11, 5, 10] (sRet (eB dAll [(fLc (i1 dItems (rdE 10)) (.one 11) (kT true) (eC 3 f_is_so [(rdE 7), (rdE 11), (rdE 5)]) [11])])))
  sNil))))
def FF_knows_by (f_look_plain : List D → R D) (f_look_showings : List D → R D) (f_does_know : List D → R D) : List D → R D := fRun 7 (fSeq (relS [0, 1, 2, 3, 4, 5] (sExp (eC 6 f_look_plain [(rdE 0), (rdE 1), (rdE 2), (rdE 3), (rdE 4), (rdE 5)])))
  (fSeq (relS [0, 6] (sExp (eC 2 f_look_showings [(rdE 0), (rdE 6)])))
  (fSeq (relS [0, 1, 2, 3, 4, 5, 6] (sRet (eC 7 f_does_know [(rdE 0), (rdE 1), (rdE 2), (rdE 3), (rdE 4), (rdE 5), (rdE 6)])))
  sNil)))
def FF_lots_of_size (f_lots_of_size : List D → R D) : List D → R D := fRun 6 (fSeq (relS [] (fIfS (t2 (dCmp .Eq) (rdP 1) (kD (.int 0))) (fSeq (relS [] (sRet (eLst [(eLst [])])))
    sNil) sNil))
  (fSeq (relS [] (sOwn 2 (eLst [])))
  (fSeq (relS [0] (fFor (iB dEnum [(rdE 0)]) (.many [3, 4]) (fSeq (relS [4] (fExt 2 (fLc (i1 dItems (eC 2 f_lots_of_size [(eSl (rdP 0) (pS (e2 (dBin .Add) (rdP 3) (kD (.int 1)))) pN), (e2 (dBin .Sub) (rdP 1) (kD (.int 1)))])) (.one 5) (kT true) (e2 (dBin .Add) (eLst [(rdE 4)]) (rdP 5)) [5])))
    sNil)))
  (fSeq (relS [2] (sRet (rdE 2)))
  sNil))))
def FF_are_enough (f_look_plain : List D → R D) (f_is_showings : List D → R D) (f_does_know : List D → R D) : List D → R D := fRun 7 (fSeq (relS [0, 1, 2, 3, 4, 5] (sExp (eC 6 f_look_plain [(rdE 0), (rdE 1), (rdE 2), (rdE 3), (rdE 4), (rdE 5)])))
  (fSeq (relS [0, 6, 0, 1, 2, 3, 4, 5, 6] (sRet (fAnd (eC 2 f_is_showings [(rdE 0), (rdE 6)]) (eC 7 f_does_know [(rdE 0), (rdE 1), (rdE 2), (rdE 3), (rdE 4), (rdE 5), (rdE 6)]))))
  sNil))
def FF_all_chains (f_look_asked : List D → R D) (f_chains_of : List D → R D) : List D → R D := fRun 5 (fSeq (relS [0, 1, 2, 3, 4] (sExp (eC 5 f_look_asked [(rdE 0), (rdE 1), (rdE 2), (rdE 3), (rdE 4)])))
  (fSeq (relS [0, 1, 2, 3, 4] (sRet (eC 5 f_chains_of [(rdE 0), (rdE 1), (rdE 2), (rdE 3), (rdE 4)])))
  sNil))
def FF_is_clear : List D → R D := fRun 3 (fSeq (relS [0] (sRet (e1 dNot (eB dAny [(fLc (i1 dItems (rdE 0)) (.one 2) (kT true) (fOr (e2 (bCmp .In) (e2 dIx (rdP 2) (kD (.int 1))) (rdP 1)) (e2 (bCmp .In) (e2 dIx (rdP 2) (kD (.int 2))) (rdP 1))) [2])]))))
  sNil)
def FF_fits (f_is_clear : List D → R D) : List D → R D := fRun 6 (fSeq (relS [5, 0, 5, 3] (sOwn 4 (fLc (i1 dItems (rdE 0)) (.one 5) (t1 dTru (eC 2 f_is_clear [(rdE 5), (rdE 3)])) (rdE 5) [5])))
  (fSeq (relS [] (fIfS (t2 (dCmp .Is) (rdP 2) (kD .none)) (fSeq (relS [] (sRet (e2 (bCmp .Eq) (rdP 4) (eLst []))))
    sNil) sNil))
  (fSeq (relS [5, 2, 4] (sRet (eB dAll [(fLc (i1 dItems (rdE 4)) (.one 5) (kT true) (e2 (bCmp .In) (eTup [(rdE 5), (rdE 2)]) (rdP 1)) [5])])))
  sNil)))
def FF_look_readings (f_look_asked : List D → R D) (f_chains_of : List D → R D) (f_are_readings : List D → R D) (f_is_whole : List D → R D) : List D → R D := fRun 8 (fSeq (relS [0, 1, 2, 3, 4] (sExp (eC 5 f_look_asked [(rdE 0), (rdE 1), (rdE 2), (rdE 3), (rdE 4)])))
  (fSeq (relS [0, 1, 2, 3, 4] (sSet 7 (eC 5 f_chains_of [(rdE 0), (rdE 1), (rdE 2), (rdE 3), (rdE 4)])))
  (fSeq (relS [7, 5] (fIfS (tstNot (t1 dTru (eC 2 f_are_readings [(rdE 7), (rdE 5)]))) (fSeq (sExc "NoReadings")
    sNil) sNil))
  (fSeq (relS [6] (fIfS (tstNot (t1 dTru (eC 3 f_is_whole [(rdE 6), (kD (.int 0)), (kD (.int 3))]))) (fSeq (sExc "NoNumber")
    sNil) sNil))
  (fSeq (relS [7] (sRet (rdE 7)))
  sNil)))))
def FF_are_false (f_is_name : List D → R D) (f_is_rising : List D → R D) : List D → R D := fRun 4 (fSeq (relS [3, 1] (fIfS (tstOr (tstNot (t1 dTru (e1 (dIsi "tuple") (rdP 1)))) (tstOr (t2 (dCmp .Gt) (eB dLen [(rdP 1)]) (rdP 2)) (tstNot (t1 dTru (eB dAll [(fLc (i1 dItems (rdE 1)) (.one 3) (kT true) (eC 1 f_is_name [(rdE 3)]) [3])]))))) (fSeq (relS [] (sRet (kD (.bool false))))
    sNil) sNil))
  (fSeq (relS [1, 1] (sRet (fAnd (eC 1 f_is_rising [(rdE 1)]) (eB dAll [(fLc (i1 dItems (rdE 1)) (.one 3) (kT true) (e2 (bCmp .In) (rdP 3) (rdP 0)) [3])]))))
  sNil))
def FF_is_tale (f_look_readings : List D → R D) (f_are_false : List D → R D) (f_others_of : List D → R D) (f_is_name : List D → R D) (f_values_of : List D → R D) (f_fits : List D → R D) : List D → R D := fRun 9 (fSeq (relS [0, 1, 2, 3, 4, 5, 6] (sSet 8 (eC 7 f_look_readings [(rdE 0), (rdE 1), (rdE 2), (rdE 3), (rdE 4), (rdE 5), (rdE 6)])))
  (fSeq (relS [0, 1, 3, 6] (fIfS (tstOr (tstNot (t1 dTru (e1 (dIsi "tuple") (rdP 7)))) (tstOr (t2 (dCmp .NotEq) (eB dLen [(rdP 7)]) (kD (.int 2))) (tstNot (t1 dTru (eC 3 f_are_false [(eC 3 f_others_of [(rdE 0), (rdE 1), (rdE 3)]), (e2 dIx (rdP 7) (kD (.int 1))), (rdE 6)]))))) (fSeq (relS [] (sRet (kD (.bool false))))
    sNil) sNil))
  (fSeq (relS [5] (fIfS (tstAnd (t2 (dCmp .IsNot) (e2 dIx (rdP 7) (kD (.int 0))) (kD .none)) (tstOr (tstNot (t1 dTru (eC 1 f_is_name [(e2 dIx (rdP 7) (kD (.int 0)))]))) (t2 (dCmp .NotIn) (e2 dIx (rdP 7) (kD (.int 0))) (eC 1 f_values_of [(rdE 5)])))) (fSeq (relS [] (sRet (kD (.bool false))))
    sNil) sNil))
  (fSeq (relS [8, 5] (sRet (eC 4 f_fits [(rdE 8), (rdE 5), (e2 dIx (rdP 7) (kD (.int 0))), (e2 dIx (rdP 7) (kD (.int 1)))])))
  sNil))))
def FF_tales (f_look_readings : List D → R D) (f_lots_of : List D → R D) (f_others_of : List D → R D) (f_values_of : List D → R D) (f_fits : List D → R D) : List D → R D := fRun 12 (fSeq (relS [0, 1, 2, 3, 4, 5, 6] (sSet 7 (eC 7 f_look_readings [(rdE 0), (rdE 1), (rdE 2), (rdE 3), (rdE 4), (rdE 5), (rdE 6)])))
  (fSeq (relS [11, 0, 1, 3] (sOwn 8 (eB dSorted [(fLc (i1 dItems (eC 1 f_lots_of [(eC 3 f_others_of [(rdE 0), (rdE 1), (rdE 3)])])) (.one 11) (t2 (dCmp .LtE) (eB dLen [(rdP 11)]) (rdP 6)) (rdE 11) [11])])))
  (fSeq (relS [] (sOwn 9 (eLst [])))
  (fSeq (relS [5] (fFor (i1 dItems (e2 (dBin .Add) (eLst [(kD .none)]) (eC 1 f_values_of [(rdE 5)]))) (.one 10) (fSeq (relS [10, 11, 8, 7, 5, 10, 11] (fExt 9 (fLc (i1 dItems (rdE 8)) (.one 11) (t1 dTru (eC 4 f_fits [(rdE 7), (rdE 5), (rdE 10), (rdE 11)])) (eTup [(rdE 10), (rdE 11)]) [11])))
    sNil)))
  (fSeq (relS [9] (sRet (rdE 9)))
  sNil)))))
def FF_stands (f_tales : List D → R D) : List D → R D := fRun 11 (fSeq (relS [0, 1, 2, 3, 4, 5, 6] (sSet 7 (eC 7 f_tales [(rdE 0), (rdE 1), (rdE 2), (rdE 3), (rdE 4), (rdE 5), (rdE 6)])))
  (fSeq (relS [9, 7] (sOwn 8 (fLc (i1 dItems (rdE 7)) (.many [9, 10]) (kT true) (rdE 9) [9, 10])))
  (fSeq (relS [] (sRet (fIf (tstAnd (t2 (dCmp .NotEq) (rdP 8) (eLst [])) (tstAnd (t2 (dCmp .IsNot) (e2 dIx (rdP 8) (kD (.int 0))) (kD .none)) (t2 (dCmp .Eq) (e2 dIx (rdP 8) (e1 dNeg (kD (.int 1)))) (e2 dIx (rdP 8) (kD (.int 0)))))) (e2 dIx (rdP 8) (kD (.int 0))) (kD .none))))
  sNil)))
def FF_surely_false (f_tales : List D → R D) (f_others_of : List D → R D) : List D → R D := fRun 12 (fSeq (relS [0, 1, 2, 3, 4, 5, 6] (sSet 7 (eC 7 f_tales [(rdE 0), (rdE 1), (rdE 2), (rdE 3), (rdE 4), (rdE 5), (rdE 6)])))
  (fSeq (relS [0, 1, 3] (sSet 8 (eC 3 f_others_of [(rdE 0), (rdE 1), (rdE 3)])))
  (fSeq (relS [9, 8, 7] (sRet (fIf (t2 (dCmp .NotEq) (rdP 7) (eLst [])) (fLc (i1 dItems (rdE 8)) (.one 9) (t1 dTru (eB dAll [(fLc (i1 dItems (rdE 7)) (.many [10, 11]) (kT true) (e2 (bCmp .In) (rdP 9) (rdP 11)) [10, 11])])) (rdE 9) [9]) (kD .none))))
  sNil)))
def FF_perhaps_false (f_tales : List D → R D) (f_others_of : List D → R D) : List D → R D := fRun 12 (fSeq (relS [0, 1, 2, 3, 4, 5, 6] (sSet 7 (eC 7 f_tales [(rdE 0), (rdE 1), (rdE 2), (rdE 3), (rdE 4), (rdE 5), (rdE 6)])))
  (fSeq (relS [0, 1, 3] (sSet 8 (eC 3 f_others_of [(rdE 0), (rdE 1), (rdE 3)])))
  (fSeq (relS [9, 8, 7] (sRet (fIf (t2 (dCmp .NotEq) (rdP 7) (eLst [])) (fLc (i1 dItems (rdE 8)) (.one 9) (t1 dTru (eB dAny [(fLc (i1 dItems (rdE 7)) (.many [10, 11]) (kT true) (e2 (bCmp .In) (rdP 9) (rdP 11)) [10, 11])])) (rdE 9) [9]) (kD .none))))
  sNil)))
def FF_look_most (f_look_asked : List D → R D) (f_chains_of : List D → R D) (f_is_whole : List D → R D) : List D → R D := fRun 7 (fSeq (relS [0, 1, 2, 3, 4] (sExp (eC 5 f_look_asked [(rdE 0), (rdE 1), (rdE 2), (rdE 3), (rdE 4)])))
  (fSeq (relS [0, 1, 2, 3, 4] (sSet 6 (eC 5 f_chains_of [(rdE 0), (rdE 1), (rdE 2), (rdE 3), (rdE 4)])))
  (fSeq (relS [5] (fIfS (tstNot (t1 dTru (eC 3 f_is_whole [(rdE 5), (kD (.int 0)), (kD (.int 3))]))) (fSeq (sExc "NoNumber")
    sNil) sNil))
  (fSeq (relS [6] (sRet (rdE 6)))
  sNil))))
def FF_is_safe (f_look_most : List D → R D) (f_comes : List D → R D) (f_clear_of : List D → R D) (f_plain_sightings : List D → R D) (f_others_of : List D → R D) (f_least_cut : List D → R D) : List D → R D := fRun 6 (fSeq (relS [0, 1, 2, 3, 4, 5] (fIfS (t2 (dCmp .Eq) (eC 6 f_look_most [(rdE 0), (rdE 1), (rdE 2), (rdE 3), (rdE 4), (rdE 5)]) (eLst [])) (fSeq (relS [] (sRet (kD (.bool false))))
    sNil) sNil))
  (fSeq (relS [0, 0, 1, 3, 1, 2, 3, 4] (fIfS (t1 dTru (eC 5 f_comes [(eC 2 f_clear_of [(eC 1 f_plain_sightings [(rdE 0)]), (eC 3 f_others_of [(rdE 0), (rdE 1), (rdE 3)])]), (rdE 1), (rdE 2), (rdE 3), (rdE 4)])) (fSeq (relS [] (sRet (kD (.bool true))))
    sNil) sNil))
  (fSeq (relS [0, 1, 2, 3, 4] (sRet (e2 (bCmp .Gt) (eB dLen [(eC 5 f_least_cut [(rdE 0), (rdE 1), (rdE 2), (rdE 3), (rdE 4)])]) (e2 (dBin .Mult) (kD (.int 2)) (rdP 5)))))
  sNil)))
def FF_rival (f_look_most : List D → R D) (f_is_safe : List D → R D) (f_least_cut : List D → R D) (f_is_clear : List D → R D) (f_values_of : List D → R D) : List D → R D := fRun 14 (fSeq (relS [0, 1, 2, 3, 4, 5] (sSet 6 (eC 6 f_look_most [(rdE 0), (rdE 1), (rdE 2), (rdE 3), (rdE 4), (rdE 5)])))
  (fSeq (relS [0, 1, 2, 3, 4, 5] (fIfS (tstOr (t2 (dCmp .Eq) (rdP 6) (eLst [])) (t1 dTru (eC 6 f_is_safe [(rdE 0), (rdE 1), (rdE 2), (rdE 3), (rdE 4), (rdE 5)]))) (fSeq (relS [] (sRet (kD .none)))
    sNil) sNil))
  (fSeq (relS [0, 1, 2, 3, 4] (sSet 7 (eC 5 f_least_cut [(rdE 0), (rdE 1), (rdE 2), (rdE 3), (rdE 4)])))
  (fSeq (relS [] (fPar [false, false] [8, 9] (eArgs [(eSl (rdP 7) pN (pS (rdP 5))), (eSl (rdP 7) (pS (rdP 5)) pN)])))
  (fSeq (relS [] (sOwn 10 (eLst [])))
  (fSeq (relS [6] (fFor (i1 dItems (rdE 6)) (.one 11) (fSeq (relS [11, 8] (fIfS (t1 dTru (eC 2 f_is_clear [(rdE 11), (rdE 8)])) (fSeq (relS [11] (fApp 10 (eTup [(rdE 11), (kD (.str "so"))])))
      sNil) (fSeq (relS [11, 9] (fIfS (t1 dTru (eC 2 f_is_clear [(rdE 11), (rdE 9)])) (fSeq (relS [11] (fApp 10 (eTup [(rdE 11), (kD (.str "thus"))])))
        sNil) sNil))
      sNil)))
    sNil)))
  (fSeq (relS [13, 10] (sOwn 12 (fLc (i1 dItems (eTup [(kD (.str "so")), (kD (.str "thus"))])) (.one 13) (t2 (dCmp .In) (rdP 13) (eC 1 f_values_of [(rdE 10)])) (rdE 13) [13])))
  (fSeq (relS [] (fIfS (t2 (dCmp .Eq) (rdP 12) (eLst [(kD (.str "so")), (kD (.str "thus"))])) (fSeq (relS [10, 8, 9] (sRet (eTup [(rdE 10), (eTup [(kD (.str "so")), (rdE 8)]), (eTup [(kD (.str "thus")), (rdE 9)])])))
    sNil) sNil))
  (fSeq (relS [10, 8, 9, 7] (sRet (eTup [(rdE 10), (eTup [(e2 dIx (rdP 12) (kD (.int 0))), (fIf (t2 (dCmp .Eq) (rdP 12) (eLst [(kD (.str "so"))])) (rdE 8) (rdE 9))]), (eTup [(kD .none), (rdE 7)])])))
  sNil)))))))))
def FF_is_rival (f_look_most : List D → R D) (f_are_readings : List D → R D) (f_is_tale : List D → R D) : List D → R D := fRun 9 (fSeq (relS [0, 1, 2, 3, 4, 5] (sSet 7 (eC 6 f_look_most [(rdE 0), (rdE 1), (rdE 2), (rdE 3), (rdE 4), (rdE 5)])))
  (fSeq (relS [7] (fIfS (tstOr (tstNot (t1 dTru (e1 (dIsi "tuple") (rdP 6)))) (tstOr (t2 (dCmp .NotEq) (eB dLen [(rdP 6)]) (kD (.int 3))) (tstNot (t1 dTru (eC 2 f_are_readings [(rdE 7), (e2 dIx (rdP 6) (kD (.int 0)))]))))) (fSeq (relS [] (sRet (kD (.bool false))))
    sNil) sNil))
  (fSeq (relS [0, 1, 2, 3, 4, 5] (sSet 8 (eC 8 f_is_tale [(rdE 0), (rdE 1), (rdE 2), (rdE 3), (rdE 4), (e2 dIx (rdP 6) (kD (.int 0))), (rdE 5), (e2 dIx (rdP 6) (kD (.int 1)))])))
  (fSeq (relS [8, 0, 1, 2, 3, 4, 5] (sRet (fAnd (rdP 8) (fAnd (eC 8 f_is_tale [(rdE 0), (rdE 1), (rdE 2), (rdE 3), (rdE 4), (e2 dIx (rdP 6) (kD (.int 0))), (rdE 5), (e2 dIx (rdP 6) (kD (.int 2)))]) (e2 (bCmp .NotEq) (e2 dIx (e2 dIx (rdP 6) (kD (.int 1))) (kD (.int 0))) (e2 dIx (e2 dIx (rdP 6) (kD (.int 2))) (kD (.int 0))))))))
  sNil))))
def FF_are_delays (f_plain_names : List D → R D) (f_is_name : List D → R D) (f_is_whole : List D → R D) : List D → R D := fRun 6 (fSeq (relS [1] (fIfS (tstOr (tstNot (t1 dTru (e1 (dIsi "list") (rdP 1)))) (tstNot (t1 dTru (eB dAll [(fLc (i1 dItems (rdE 1)) (.one 5) (kT true) (fAnd (e1 (dIsi "tuple") (rdP 5)) (e2 (bCmp .Eq) (eB dLen [(rdP 5)]) (kD (.int 2)))) [5])])))) (fSeq (relS [] (sRet (kD (.bool false))))
    sNil) sNil))
  (fSeq (relS [0] (sSet 2 (eC 1 f_plain_names [(rdE 0)])))
  (fSeq (relS [1] (fIfS (tstNot (t1 dTru (eB dAll [(fLc (i1 dItems (rdE 1)) (.one 5) (kT true) (fAnd (eC 1 f_is_name [(e2 dIx (rdP 5) (kD (.int 0)))]) (fAnd (e2 (bCmp .In) (e2 dIx (rdP 5) (kD (.int 0))) (rdP 2)) (eC 3 f_is_whole [(e2 dIx (rdP 5) (kD (.int 1))), (kD (.int 1)), (e2 dIx (rdP 0) (kD (.int 0)))]))) [5])]))) (fSeq (relS [] (sRet (kD (.bool false))))
    sNil) sNil))
  (fSeq (relS [1] (sRet (eB dAll [(fLc (iB dZip [(rdE 1), (eSl (rdP 1) (pS (kD (.int 1))) pN)]) (.many [3, 4]) (kT true) (e2 (bCmp .Lt) (e2 dIx (rdP 3) (kD (.int 0))) (e2 dIx (rdP 4) (kD (.int 0)))) [3, 4])])))
  sNil))))
def FF_held_back : List D → R D := fRun 8 (fSeq (relS [] (fPar [true, true] [2, 3] (eArgs [(eB dDict [(rdP 1)]), (eLst [])])))
  (fSeq (relS [] (fFor (i1 dItems (e2 dIx (rdP 0) (kD (.int 2)))) (.many [4, 5, 6]) (fSeq (relS [4] (sSet 7 (fGet (rdP 2) (rdP 4) (kD (.int 0)))))
    (fSeq (relS [4, 5] (fApp 3 (eTup [(rdE 4), (rdE 5), (e2 (dBin .Add) (e2 (dBin .Mult) (eTup [(e2 dIx (rdP 6) (kD (.int 0)))]) (rdP 7)) (eSl (rdP 6) pN (pS (e2 (dBin .Sub) (e2 (dBin .Add) (e2 dIx (rdP 0) (kD (.int 0))) (kD (.int 1))) (rdP 7)))))])))
    sNil))))
  (fSeq (relS [] (sRet (eTup [(e2 dIx (rdP 0) (kD (.int 0))), (e2 dIx (rdP 0) (kD (.int 1))), (eB dTuple [(rdP 3)]), (e2 dIx (rdP 0) (kD (.int 3)))])))
  sNil)))
def FF_delayed (f_look_fleet : List D → R D) (f_are_delays : List D → R D) (f_held_back : List D → R D) : List D → R D := fRun 2 (fSeq (relS [0] (sExp (eC 1 f_look_fleet [(rdE 0)])))
  (fSeq (relS [0, 1] (fIfS (tstNot (t1 dTru (eC 2 f_are_delays [(rdE 0), (rdE 1)]))) (fSeq (sExc "NoDelays")
    sNil) sNil))
  (fSeq (relS [0, 1] (sRet (eC 2 f_held_back [(rdE 0), (rdE 1)])))
  sNil)))
def FF_are_delays_enough (f_look_ends : List D → R D) (f_are_delays : List D → R D) (f_comes : List D → R D) (f_plain_sightings : List D → R D) (f_held_back : List D → R D) : List D → R D := fRun 6 (fSeq (relS [0, 1, 2, 3, 4] (sExp (eC 5 f_look_ends [(rdE 0), (rdE 1), (rdE 2), (rdE 3), (rdE 4)])))
  (fSeq (relS [0, 5, 0, 5, 1, 2, 3, 4] (sRet (fAnd (eC 2 f_are_delays [(rdE 0), (rdE 5)]) (eC 5 f_comes [(eC 1 f_plain_sightings [(eC 2 f_held_back [(rdE 0), (rdE 5)])]), (rdE 1), (rdE 2), (rdE 3), (rdE 4)]))))
  sNil))
def C_is_whole : List D → R D := FF_is_whole
def C_is_name : List D → R D := FF_is_name
def C_is_rising : List D → R D := FF_is_rising
def C_plain_names : List D → R D := FF_plain_names
def C_law_drawn : List D → R D := FF_law_drawn
def C_is_in : List D → R D := FF_is_in
def C_is_between : List D → R D := FF_is_between
def C_spread_s0 : DL.Env → R Out := (relS [1, 2] (sOwn 3 (e2 dDict1 (rdE 1) (rdE 2))))
def C_spread_s1b_s0 : DL.Env → R Out := (relS [] (fIfS (tstAnd (t2 (dCmp .In) (rdP 6) (rdP 3)) (tstAnd (t2 (dCmp .LtE) (e2 dIx (rdP 3) (rdP 6)) (rdP 4)) (t2 (dCmp .NotIn) (rdP 5) (rdP 3)))) (fSeq (relS [] (fPut 3 (rdP 5) (e2 (dBin .Add) (rdP 4) (kD (.int 1))))) sNil) sNil))
def C_spread_s1b_t0 : DL.Env → R Out := fSeq (C_spread_s1b_s0) sNil
def C_spread_s1 : DL.Env → R Out := (relS [0] (fFor (i1 dItems (rdE 0)) (.many [4, 5, 6]) (C_spread_s1b_t0)))
def C_spread_s2 : DL.Env → R Out := (relS [3] (sRet (rdE 3)))
def C_spread_t2 : DL.Env → R Out := fSeq (C_spread_s2) sNil
def C_spread_t1 : DL.Env → R Out := fSeq (C_spread_s1) (C_spread_t2)
def C_spread_t0 : DL.Env → R Out := fSeq (C_spread_s0) (C_spread_t1)
def C_spread : List D → R D := fRun 7 (C_spread_t0)
theorem cf_spread : FF_spread = C_spread := by kernel_rfl
def C_bounds_for_s0 : DL.Env → R Out := (relS [1, 2] (sOwn 3 (e2 dDict1 (rdE 1) (rdE 2))))
def C_bounds_for_s1b_s0 : DL.Env → R Out := (relS [] (fIfS (tstAnd (t2 (dCmp .In) (rdP 5) (rdP 3)) (tstAnd (t2 (dCmp .LtE) (e2 (dBin .Add) (rdP 4) (kD (.int 1))) (e2 dIx (rdP 3) (rdP 5))) (t2 (dCmp .NotIn) (rdP 6) (rdP 3)))) (fSeq (relS [4] (fPut 3 (rdP 6) (rdE 4))) sNil) sNil))
def C_bounds_for_s1b_t0 : DL.Env → R Out := fSeq (C_bounds_for_s1b_s0) sNil
def C_bounds_for_s1 : DL.Env → R Out := (relS [] (fFor (i1 dItems (eRv (rdP 0))) (.many [4, 5, 6]) (C_bounds_for_s1b_t0)))
def C_bounds_for_s2 : DL.Env → R Out := (fRetO 3)
def C_bounds_for_t2 : DL.Env → R Out := fSeq (C_bounds_for_s2) sNil
def C_bounds_for_t1 : DL.Env → R Out := fSeq (C_bounds_for_s1) (C_bounds_for_t2)
def C_bounds_for_t0 : DL.Env → R Out := fSeq (C_bounds_for_s0) (C_bounds_for_t1)
def C_bounds_for : List D → R D := fRunF 7 (C_bounds_for_t0)
theorem cf_bounds_for : FF_bounds_for = C_bounds_for := by kernel_rfl
def C_seen_of_s0 : DL.Env → R Out := (relS [2, 0] (sRet (fLc (i1 dItems (rdE 0)) (.one 2) (t2 (dCmp .In) (eTup [(e2 dIx (rdP 2) (kD (.int 0))), (e2 dIx (rdP 2) (kD (.int 2)))]) (rdP 1)) (rdE 2) [2])))
def C_seen_of_t0 : DL.Env → R Out := fSeq (C_seen_of_s0) sNil
def C_seen_of : List D → R D := fRun 3 (C_seen_of_t0)
theorem cf_seen_of : FF_seen_of = C_seen_of := by kernel_rfl
def C_do_have_s0 : DL.Env → R Out := (relS [1] (sRet (eB dAll [(fLc (i1 dItems (rdE 1)) (.one 3) (kT true) (fAnd (e2 (bCmp .In) (rdP 3) (rdP 0)) (e2 (bCmp .LtE) (e2 dIx (rdP 0) (rdP 3)) (rdP 2))) [3])])))
def C_do_have_t0 : DL.Env → R Out := fSeq (C_do_have_s0) sNil
def C_do_have : List D → R D := fRun 4 (C_do_have_t0)
theorem cf_do_have : FF_do_have = C_do_have := by kernel_rfl
def C_lots_of_s0 : DL.Env → R Out := (relS [] (sOwn 1 (eLst [(eTup [])])))
def C_lots_of_s1b_s0 : DL.Env → R Out := (relS [2, 1] (sSet 1 (e2 (dBin .Add) (rdP 1) (fLc (i1 dItems (rdE 1)) (.one 3) (kT true) (e2 (dBin .Add) (rdP 3) (eTup [(rdE 2)])) [3]))))
def C_lots_of_s1b_t0 : DL.Env → R Out := fSeq (C_lots_of_s1b_s0) sNil
def C_lots_of_s1 : DL.Env → R Out := (relS [0] (fFor (i1 dItems (rdE 0)) (.one 2) (C_lots_of_s1b_t0)))
def C_lots_of_s2 : DL.Env → R Out := (relS [1] (sRet (rdE 1)))
def C_lots_of_t2 : DL.Env → R Out := fSeq (C_lots_of_s2) sNil
def C_lots_of_t1 : DL.Env → R Out := fSeq (C_lots_of_s1) (C_lots_of_t2)
def C_lots_of_t0 : DL.Env → R Out := fSeq (C_lots_of_s0) (C_lots_of_t1)
def C_lots_of : List D → R D := fRun 4 (C_lots_of_t0)
theorem cf_lots_of : FF_lots_of = C_lots_of := by kernel_rfl
def C_clear_of_s0 : DL.Env → R Out := (relS [2, 0] (sRet (fLc (i1 dItems (rdE 0)) (.one 2) (tstAnd (t2 (dCmp .NotIn) (e2 dIx (rdP 2) (kD (.int 1))) (rdP 1)) (t2 (dCmp .NotIn) (e2 dIx (rdP 2) (kD (.int 2))) (rdP 1))) (rdE 2) [2])))
def C_clear_of_t0 : DL.Env → R Out := fSeq (C_clear_of_s0) sNil
def C_clear_of : List D → R D := fRun 3 (C_clear_of_t0)
theorem cf_clear_of : FF_clear_of = C_clear_of := by kernel_rfl
def C_straight_s0 : DL.Env → R Out := (relS [3, 0] (sRet (fLc (i1 dItems (rdE 0)) (.one 3) (tstAnd (t2 (dCmp .NotEq) (e2 dIx (rdP 3) (kD (.int 1))) (rdP 1)) (t2 (dCmp .NotEq) (e2 dIx (rdP 3) (kD (.int 2))) (rdP 2))) (rdE 3) [3])))
def C_straight_t0 : DL.Env → R Out := fSeq (C_straight_s0) sNil
def C_straight : List D → R D := fRun 4 (C_straight_t0)
theorem cf_straight : FF_straight = C_straight := by kernel_rfl
def C_wall_s0b_s0 : DL.Env → R Out := sNil
def C_wall_s0b_t0 : DL.Env → R Out := fSeq (C_wall_s0b_s0) sNil
def C_wall_s0 : DL.Env → R Out := (relS [] (whLoop (t1 dTru (kD (.bool true))) (C_wall_s0b_t0) 100000))
def C_wall_t0 : DL.Env → R Out := fSeq (C_wall_s0) sNil
def C_wall : List D → R D := fRun 1 (C_wall_t0)
theorem cf_wall : FF_wall = C_wall := by kernel_rfl
def C_turned_s0 : DL.Env → R Out := (relS [] (sOwn 4 (eLst [])))
def C_turned_s1b_s0 : DL.Env → R Out := (relS [5, 6, 3, 7] (fApp 4 (eTup [(rdE 5), (rdE 6), (fIf (t2 (dCmp .Eq) (rdP 5) (rdP 1)) (e2 (dBin .Add) (e2 (dBin .Add) (eSl (rdP 7) pN (pS (rdP 2))) (eTup [(rdE 3)])) (eSl (rdP 7) (pS (e2 (dBin .Add) (rdP 2) (kD (.int 1)))) pN)) (rdE 7))])))
def C_turned_s1b_t0 : DL.Env → R Out := fSeq (C_turned_s1b_s0) sNil
def C_turned_s1 : DL.Env → R Out := (relS [] (fFor (i1 dItems (e2 dIx (rdP 0) (kD (.int 2)))) (.many [5, 6, 7]) (C_turned_s1b_t0)))
def C_turned_s2 : DL.Env → R Out := (relS [] (sRet (e2 (dBin .Add) (eSl (rdP 0) pN (pS (kD (.int 2)))) (eTup [(eB dTuple [(rdP 4)]), (e2 dIx (rdP 0) (kD (.int 3)))]))))
def C_turned_t2 : DL.Env → R Out := fSeq (C_turned_s2) sNil
def C_turned_t1 : DL.Env → R Out := fSeq (C_turned_s1) (C_turned_t2)
def C_turned_t0 : DL.Env → R Out := fSeq (C_turned_s0) (C_turned_t1)
def C_turned : List D → R D := fRun 8 (C_turned_t0)
theorem cf_turned : FF_turned = C_turned := by kernel_rfl
def C_law_pick : List D → R D := FF_law_pick
def C_when_read_s0 : DL.Env → R Out := (relS [0] (sRet (fIf (t2 (dCmp .LtE) (rdP 0) (rdP 1)) (rdE 0) (kD .none))))
def C_when_read_t0 : DL.Env → R Out := fSeq (C_when_read_s0) sNil
def C_when_read : List D → R D := fRun 2 (C_when_read_t0)
theorem cf_when_read : FF_when_read = C_when_read := by kernel_rfl
def C_is_clear_s0 : DL.Env → R Out := (relS [0] (sRet (e1 dNot (eB dAny [(fLc (i1 dItems (rdE 0)) (.one 2) (kT true) (fOr (e2 (bCmp .In) (e2 dIx (rdP 2) (kD (.int 1))) (rdP 1)) (e2 (bCmp .In) (e2 dIx (rdP 2) (kD (.int 2))) (rdP 1))) [2])]))))
def C_is_clear_t0 : DL.Env → R Out := fSeq (C_is_clear_s0) sNil
def C_is_clear : List D → R D := fRun 3 (C_is_clear_t0)
theorem cf_is_clear : FF_is_clear = C_is_clear := by kernel_rfl
def C_held_back_s0 : DL.Env → R Out := (relS [] (fPar [true, true] [2, 3] (eArgs [(eB dDict [(rdP 1)]), (eLst [])])))
def C_held_back_s1b_s0 : DL.Env → R Out := (relS [4] (sSet 7 (fGet (rdP 2) (rdP 4) (kD (.int 0)))))
def C_held_back_s1b_s1 : DL.Env → R Out := (relS [4, 5] (fApp 3 (eTup [(rdE 4), (rdE 5), (e2 (dBin .Add) (e2 (dBin .Mult) (eTup [(e2 dIx (rdP 6) (kD (.int 0)))]) (rdP 7)) (eSl (rdP 6) pN (pS (e2 (dBin .Sub) (e2 (dBin .Add) (e2 dIx (rdP 0) (kD (.int 0))) (kD (.int 1))) (rdP 7)))))])))
def C_held_back_s1b_t1 : DL.Env → R Out := fSeq (C_held_back_s1b_s1) sNil
def C_held_back_s1b_t0 : DL.Env → R Out := fSeq (C_held_back_s1b_s0) (C_held_back_s1b_t1)
def C_held_back_s1 : DL.Env → R Out := (relS [] (fFor (i1 dItems (e2 dIx (rdP 0) (kD (.int 2)))) (.many [4, 5, 6]) (C_held_back_s1b_t0)))
def C_held_back_s2 : DL.Env → R Out := (relS [] (sRet (eTup [(e2 dIx (rdP 0) (kD (.int 0))), (e2 dIx (rdP 0) (kD (.int 1))), (eB dTuple [(rdP 3)]), (e2 dIx (rdP 0) (kD (.int 3)))])))
def C_held_back_t2 : DL.Env → R Out := fSeq (C_held_back_s2) sNil
def C_held_back_t1 : DL.Env → R Out := fSeq (C_held_back_s1) (C_held_back_t2)
def C_held_back_t0 : DL.Env → R Out := fSeq (C_held_back_s0) (C_held_back_t1)
def C_held_back : List D → R D := fRun 8 (C_held_back_t0)
theorem cf_held_back : FF_held_back = C_held_back := by kernel_rfl
def C_is_cell : List D → R D := FF_is_cell C_is_whole
def C_look_ship : List D → R D := FF_look_ship C_is_name C_plain_names
def C_look_hour : List D → R D := FF_look_hour C_is_whole
def C_sees_at : List D → R D := FF_sees_at C_is_in C_is_between
def C_ship_of : List D → R D := FF_ship_of C_plain_names
def C_is_of_form_s0 : DL.Env → R Out := (relS [] (sRet (fAnd (e1 (dIsi "tuple") (rdP 0)) (fAnd (e2 (bCmp .Eq) (eB dLen [(rdP 0)]) (kD (.int 3))) (eC 3 C_is_whole [(e2 dIx (rdP 0) (kD (.int 0))), (kD (.int 0)), (kD (.int 7))])))))
def C_is_of_form_t0 : DL.Env → R Out := fSeq (C_is_of_form_s0) sNil
def C_is_of_form : List D → R D := fRun 1 (C_is_of_form_t0)
theorem cf_is_of_form : FF_is_of_form C_is_whole = C_is_of_form := by kernel_rfl
def C_is_showings_s0 : DL.Env → R Out := (relS [1] (fIfS (tstOr (tstNot (t1 dTru (e1 (dIsi "list") (rdP 1)))) (tstNot (t1 dTru (eB dAll [(fLc (i1 dItems (rdE 1)) (.one 3) (kT true) (fAnd (e1 (dIsi "tuple") (rdP 3)) (e2 (bCmp .Eq) (eB dLen [(rdP 3)]) (kD (.int 2)))) [3])])))) (fSeq (relS [] (sRet (kD (.bool false)))) sNil) sNil))
def C_is_showings_s1 : DL.Env → R Out := (relS [0] (sSet 2 (eC 1 C_plain_names [(rdE 0)])))
def C_is_showings_s2 : DL.Env → R Out := (relS [1] (fIfS (tstNot (t1 dTru (eB dAll [(fLc (i1 dItems (rdE 1)) (.one 3) (kT true) (fAnd (eC 3 C_is_whole [(e2 dIx (rdP 3) (kD (.int 0))), (kD (.int 0)), (e2 dIx (rdP 0) (kD (.int 0)))]) (fAnd (eC 1 C_is_name [(e2 dIx (rdP 3) (kD (.int 1)))]) (e2 (bCmp .In) (e2 dIx (rdP 3) (kD (.int 1))) (rdP 2)))) [3])]))) (fSeq (relS [] (sRet (kD (.bool false)))) sNil) sNil))
def C_is_showings_s3 : DL.Env → R Out := (relS [1] (sRet (eC 1 C_is_rising [(rdE 1)])))
def C_is_showings_t3 : DL.Env → R Out := fSeq (C_is_showings_s3) sNil
def C_is_showings_t2 : DL.Env → R Out := fSeq (C_is_showings_s2) (C_is_showings_t3)
def C_is_showings_t1 : DL.Env → R Out := fSeq (C_is_showings_s1) (C_is_showings_t2)
def C_is_showings_t0 : DL.Env → R Out := fSeq (C_is_showings_s0) (C_is_showings_t1)
def C_is_showings : List D → R D := fRun 4 (C_is_showings_t0)
theorem cf_is_showings : FF_is_showings C_plain_names C_is_whole C_is_name C_is_rising = C_is_showings := by kernel_rfl
def C_are_names : List D → R D := FF_are_names C_is_name C_is_rising C_plain_names
def C_others_of_s0 : DL.Env → R Out := (relS [3, 0, 1, 2] (sRet (fLc (i1 dItems (eC 1 C_plain_names [(rdE 0)])) (.one 3) (t2 (dCmp .NotIn) (rdP 3) (eTup [(rdE 1), (rdE 2)])) (rdE 3) [3])))
def C_others_of_t0 : DL.Env → R Out := fSeq (C_others_of_s0) sNil
def C_others_of : List D → R D := fRun 4 (C_others_of_t0)
theorem cf_others_of : FF_others_of C_plain_names = C_others_of := by kernel_rfl
def C_comes_s0 : DL.Env → R Out := (relS [0, 1, 2] (sSet 5 (eC 3 C_spread [(rdE 0), (rdE 1), (rdE 2)])))
def C_comes_s1 : DL.Env → R Out := (relS [] (sRet (fAnd (e2 (bCmp .In) (rdP 3) (rdP 5)) (e2 (bCmp .LtE) (e2 dIx (rdP 5) (rdP 3)) (rdP 4)))))
def C_comes_t1 : DL.Env → R Out := fSeq (C_comes_s1) sNil
def C_comes_t0 : DL.Env → R Out := fSeq (C_comes_s0) (C_comes_t1)
def C_comes : List D → R D := fRun 6 (C_comes_t0)
theorem cf_comes : FF_comes C_spread = C_comes := by kernel_rfl
def C_rows_by_s0 : DL.Env → R Out := (relS [0, 7, 3] (sSet 5 (eC 2 C_clear_of [(rdE 0), (fLc (i1 dItems (rdE 3)) (.one 7) (t2 (dCmp .NotIn) (rdP 7) (rdP 4)) (rdE 7) [7])])))
def C_rows_by_s1 : DL.Env → R Out := (relS [6, 5] (sRet (fLc (i1 dItems (rdE 5)) (.one 6) (tstOr (t2 (dCmp .Eq) (rdP 4) (eTup [])) (tstOr (t2 (dCmp .NotEq) (e2 dIx (rdP 6) (kD (.int 1))) (rdP 2)) (t2 (dCmp .NotEq) (e2 dIx (rdP 6) (kD (.int 2))) (rdP 1)))) (rdE 6) [6])))
def C_rows_by_t1 : DL.Env → R Out := fSeq (C_rows_by_s1) sNil
def C_rows_by_t0 : DL.Env → R Out := fSeq (C_rows_by_s0) (C_rows_by_t1)
def C_rows_by : List D → R D := fRun 8 (C_rows_by_t0)
theorem cf_rows_by : FF_rows_by C_clear_of = C_rows_by := by kernel_rfl
def C_is_world_of_s0 : DL.Env → R Out := (relS [] (fIfS (tstOr (tstNot (t1 dTru (e1 (dIsi "tuple") (rdP 1)))) (t2 (dCmp .NotEq) (eB dLen [(rdP 1)]) (eB dLen [(e2 dIx (rdP 0) (kD (.int 2)))]))) (fSeq (relS [] (sRet (kD (.bool false)))) sNil) sNil))
def C_is_world_of_s1 : DL.Env → R Out := (relS [2, 1] (sRet (eB dAll [(fLc (i1 dItems (rdE 1)) (.one 2) (kT true) (eC 3 C_is_whole [(rdE 2), (kD (.int 0)), (e2 (dBin .Add) (e2 dIx (rdP 0) (kD (.int 0))) (kD (.int 1)))]) [2])])))
def C_is_world_of_t1 : DL.Env → R Out := fSeq (C_is_world_of_s1) sNil
def C_is_world_of_t0 : DL.Env → R Out := fSeq (C_is_world_of_s0) (C_is_world_of_t1)
def C_is_world_of : List D → R D := fRun 3 (C_is_world_of_t0)
theorem cf_is_world_of : FF_is_world_of C_is_whole = C_is_world_of := by kernel_rfl
def C_read_in_s0 : DL.Env → R Out := (relS [3, 3, 4, 1] (sRet (fLc (i1 dItems (rdE 1)) (.many [3, 4]) (kT true) (eTup [(rdE 3), (eC 2 C_when_read [(e2 dIx (rdP 2) (fMeth dIndex (rdP 0) (rdP 3))), (rdE 4)])]) [3, 4])))
def C_read_in_t0 : DL.Env → R Out := fSeq (C_read_in_s0) sNil
def C_read_in : List D → R D := fRun 5 (C_read_in_t0)
theorem cf_read_in : FF_read_in C_when_read = C_read_in := by kernel_rfl
def C_is_hour_of : List D → R D := FF_is_hour_of C_is_name C_plain_names C_is_whole
def C_fits_s0 : DL.Env → R Out := (relS [5, 0, 5, 3] (sOwn 4 (fLc (i1 dItems (rdE 0)) (.one 5) (t1 dTru (eC 2 C_is_clear [(rdE 5), (rdE 3)])) (rdE 5) [5])))
def C_fits_s1 : DL.Env → R Out := (relS [] (fIfS (t2 (dCmp .Is) (rdP 2) (kD .none)) (fSeq (relS [] (sRet (e2 (bCmp .Eq) (rdP 4) (eLst [])))) sNil) sNil))
def C_fits_s2 : DL.Env → R Out := (relS [5, 2, 4] (sRet (eB dAll [(fLc (i1 dItems (rdE 4)) (.one 5) (kT true) (e2 (bCmp .In) (eTup [(rdE 5), (rdE 2)]) (rdP 1)) [5])])))
def C_fits_t2 : DL.Env → R Out := fSeq (C_fits_s2) sNil
def C_fits_t1 : DL.Env → R Out := fSeq (C_fits_s1) (C_fits_t2)
def C_fits_t0 : DL.Env → R Out := fSeq (C_fits_s0) (C_fits_t1)
def C_fits : List D → R D := fRun 6 (C_fits_t0)
theorem cf_fits : FF_fits C_is_clear = C_fits := by kernel_rfl
def C_are_false_s0 : DL.Env → R Out := (relS [3, 1] (fIfS (tstOr (tstNot (t1 dTru (e1 (dIsi "tuple") (rdP 1)))) (tstOr (t2 (dCmp .Gt) (eB dLen [(rdP 1)]) (rdP 2)) (tstNot (t1 dTru (eB dAll [(fLc (i1 dItems (rdE 1)) (.one 3) (kT true) (eC 1 C_is_name [(rdE 3)]) [3])]))))) (fSeq (relS [] (sRet (kD (.bool false)))) sNil) sNil))
def C_are_false_s1 : DL.Env → R Out := (relS [1, 1] (sRet (fAnd (eC 1 C_is_rising [(rdE 1)]) (eB dAll [(fLc (i1 dItems (rdE 1)) (.one 3) (kT true) (e2 (bCmp .In) (rdP 3) (rdP 0)) [3])]))))
def C_are_false_t1 : DL.Env → R Out := fSeq (C_are_false_s1) sNil
def C_are_false_t0 : DL.Env → R Out := fSeq (C_are_false_s0) (C_are_false_t1)
def C_are_false : List D → R D := fRun 4 (C_are_false_t0)
theorem cf_are_false : FF_are_false C_is_name C_is_rising = C_are_false := by kernel_rfl
def C_are_delays_s0 : DL.Env → R Out := (relS [1] (fIfS (tstOr (tstNot (t1 dTru (e1 (dIsi "list") (rdP 1)))) (tstNot (t1 dTru (eB dAll [(fLc (i1 dItems (rdE 1)) (.one 5) (kT true) (fAnd (e1 (dIsi "tuple") (rdP 5)) (e2 (bCmp .Eq) (eB dLen [(rdP 5)]) (kD (.int 2)))) [5])])))) (fSeq (relS [] (sRet (kD (.bool false)))) sNil) sNil))
def C_are_delays_s1 : DL.Env → R Out := (relS [0] (sSet 2 (eC 1 C_plain_names [(rdE 0)])))
def C_are_delays_s2 : DL.Env → R Out := (relS [1] (fIfS (tstNot (t1 dTru (eB dAll [(fLc (i1 dItems (rdE 1)) (.one 5) (kT true) (fAnd (eC 1 C_is_name [(e2 dIx (rdP 5) (kD (.int 0)))]) (fAnd (e2 (bCmp .In) (e2 dIx (rdP 5) (kD (.int 0))) (rdP 2)) (eC 3 C_is_whole [(e2 dIx (rdP 5) (kD (.int 1))), (kD (.int 1)), (e2 dIx (rdP 0) (kD (.int 0)))]))) [5])]))) (fSeq (relS [] (sRet (kD (.bool false)))) sNil) sNil))
def C_are_delays_s3 : DL.Env → R Out := (relS [1] (sRet (eB dAll [(fLc (iB dZip [(rdE 1), (eSl (rdP 1) (pS (kD (.int 1))) pN)]) (.many [3, 4]) (kT true) (e2 (bCmp .Lt) (e2 dIx (rdP 3) (kD (.int 0))) (e2 dIx (rdP 4) (kD (.int 0)))) [3, 4])])))
def C_are_delays_t3 : DL.Env → R Out := fSeq (C_are_delays_s3) sNil
def C_are_delays_t2 : DL.Env → R Out := fSeq (C_are_delays_s2) (C_are_delays_t3)
def C_are_delays_t1 : DL.Env → R Out := fSeq (C_are_delays_s1) (C_are_delays_t2)
def C_are_delays_t0 : DL.Env → R Out := fSeq (C_are_delays_s0) (C_are_delays_t1)
def C_are_delays : List D → R D := fRun 6 (C_are_delays_t0)
theorem cf_are_delays : FF_are_delays C_plain_names C_is_name C_is_whole = C_are_delays := by kernel_rfl
def C_is_islands : List D → R D := FF_is_islands C_is_cell C_is_rising
def C_is_ship : List D → R D := FF_is_ship C_is_name C_is_whole C_is_cell
def C_is_mist : List D → R D := FF_is_mist C_is_whole C_is_cell
def C_plain_sightings : List D → R D := FF_plain_sightings C_sees_at
def C_is_plain_chain_s0 : DL.Env → R Out := (relS [] (fIfS (tstNot (t1 dTru (e1 (dIsi "list") (rdP 4)))) (fSeq (relS [] (sRet (kD (.bool false)))) sNil) sNil))
def C_is_plain_chain_s1 : DL.Env → R Out := (relS [] (fIfS (tstOr (t2 (dCmp .Eq) (rdP 1) (rdP 3)) (t2 (dCmp .Eq) (rdP 4) (eLst []))) (fSeq (relS [] (sRet (fAnd (e2 (bCmp .Eq) (rdP 1) (rdP 3)) (e2 (bCmp .Eq) (rdP 4) (eLst []))))) sNil) sNil))
def C_is_plain_chain_s2 : DL.Env → R Out := (relS [1, 2] (fPar [false, false] [5, 6] (eArgs [(rdE 1), (rdE 2)])))
def C_is_plain_chain_s3b_s0 : DL.Env → R Out := (relS [7] (fIfS (tstOr (tstNot (t1 dTru (eC 1 C_is_of_form [(rdE 7)]))) (tstOr (t2 (dCmp .NotIn) (rdP 7) (rdP 0)) (tstOr (t2 (dCmp .Lt) (e2 dIx (rdP 7) (kD (.int 0))) (rdP 6)) (t2 (dCmp .NotEq) (e2 dIx (rdP 7) (kD (.int 2))) (rdP 5))))) (fSeq (relS [] (sRet (kD (.bool false)))) sNil) sNil))
def C_is_plain_chain_s3b_s1 : DL.Env → R Out := (relS [] (fPar [false, false] [5, 6] (eArgs [(e2 dIx (rdP 7) (kD (.int 1))), (e2 (dBin .Add) (e2 dIx (rdP 7) (kD (.int 0))) (kD (.int 1)))])))
def C_is_plain_chain_s3b_t1 : DL.Env → R Out := fSeq (C_is_plain_chain_s3b_s1) sNil
def C_is_plain_chain_s3b_t0 : DL.Env → R Out := fSeq (C_is_plain_chain_s3b_s0) (C_is_plain_chain_s3b_t1)
def C_is_plain_chain_s3 : DL.Env → R Out := (relS [4] (fFor (i1 dItems (rdE 4)) (.one 7) (C_is_plain_chain_s3b_t0)))
def C_is_plain_chain_s4 : DL.Env → R Out := (relS [] (sRet (e2 (bCmp .Eq) (rdP 5) (rdP 3))))
def C_is_plain_chain_t4 : DL.Env → R Out := fSeq (C_is_plain_chain_s4) sNil
def C_is_plain_chain_t3 : DL.Env → R Out := fSeq (C_is_plain_chain_s3) (C_is_plain_chain_t4)
def C_is_plain_chain_t2 : DL.Env → R Out := fSeq (C_is_plain_chain_s2) (C_is_plain_chain_t3)
def C_is_plain_chain_t1 : DL.Env → R Out := fSeq (C_is_plain_chain_s1) (C_is_plain_chain_t2)
def C_is_plain_chain_t0 : DL.Env → R Out := fSeq (C_is_plain_chain_s0) (C_is_plain_chain_t1)
def C_is_plain_chain : List D → R D := fRun 8 (C_is_plain_chain_t0)
theorem cf_is_plain_chain : FF_is_plain_chain C_is_of_form = C_is_plain_chain := by kernel_rfl
def C_look_showings_s0 : DL.Env → R Out := (relS [0, 1] (fIfS (tstNot (t1 dTru (eC 2 C_is_showings [(rdE 0), (rdE 1)]))) (fSeq (sExc "NoShowings") sNil) sNil))
def C_look_showings_t0 : DL.Env → R Out := fSeq (C_look_showings_s0) sNil
def C_look_showings : List D → R D := fRun 2 (C_look_showings_t0)
theorem cf_look_showings : FF_look_showings C_is_showings = C_look_showings := by kernel_rfl
def C_are_worlds_of_s0 : DL.Env → R Out := (relS [] (fIfS (tstOr (tstNot (t1 dTru (e1 (dIsi "tuple") (rdP 1)))) (tstNot (fChain (dCmp .LtE) (dCmp .LtE) (kD (.int 1)) (eB dLen [(rdP 1)]) (kD (.int 24))))) (fSeq (relS [] (sRet (kD (.bool false)))) sNil) sNil))
def C_are_worlds_of_s1 : DL.Env → R Out := (relS [0, 2, 1, 1] (sRet (fAnd (eB dAll [(fLc (i1 dItems (rdE 1)) (.one 2) (kT true) (eC 2 C_is_world_of [(rdE 0), (rdE 2)]) [2])]) (eC 1 C_is_rising [(rdE 1)]))))
def C_are_worlds_of_t1 : DL.Env → R Out := fSeq (C_are_worlds_of_s1) sNil
def C_are_worlds_of_t0 : DL.Env → R Out := fSeq (C_are_worlds_of_s0) (C_are_worlds_of_t1)
def C_are_worlds_of : List D → R D := fRun 3 (C_are_worlds_of_t0)
theorem cf_are_worlds_of : FF_are_worlds_of C_is_world_of C_is_rising = C_are_worlds_of := by kernel_rfl
def C_look_world_s0 : DL.Env → R Out := (relS [0, 1] (fIfS (tstNot (t1 dTru (eC 2 C_is_world_of [(rdE 0), (rdE 1)]))) (fSeq (sExc "NoWorld") sNil) sNil))
def C_look_world_t0 : DL.Env → R Out := fSeq (C_look_world_s0) sNil
def C_look_world : List D → R D := fRun 2 (C_look_world_t0)
theorem cf_look_world : FF_look_world C_is_world_of = C_look_world := by kernel_rfl
def C_is_knower : List D → R D := FF_is_knower C_is_name C_plain_names C_are_names
def C_look_names_s0 : DL.Env → R Out := (relS [0, 1] (fIfS (tstNot (t1 dTru (eC 2 C_are_names [(rdE 0), (rdE 1)]))) (fSeq (sExc "NoGoals") sNil) sNil))
def C_look_names_t0 : DL.Env → R Out := fSeq (C_look_names_s0) sNil
def C_look_names : List D → R D := fRun 2 (C_look_names_t0)
theorem cf_look_names : FF_look_names C_are_names = C_look_names := by kernel_rfl
def C_is_fleet : List D → R D := FF_is_fleet C_is_whole C_is_islands C_is_ship C_is_rising C_is_mist
def C_plain_latest_s0 : DL.Env → R Out := (relS [0, 1, 2] (sOwn 3 (eC 3 C_bounds_for [(eC 1 C_plain_sightings [(rdE 0)]), (rdE 1), (rdE 2)])))
def C_plain_latest_s1 : DL.Env → R Out := (relS [] (fPut 3 (rdP 1) (eB dMin [(rdP 2), (e2 dIx (rdP 0) (kD (.int 0)))])))
def C_plain_latest_s2 : DL.Env → R Out := (relS [3] (sRet (e1 dSortItems (rdE 3))))
def C_plain_latest_t2 : DL.Env → R Out := fSeq (C_plain_latest_s2) sNil
def C_plain_latest_t1 : DL.Env → R Out := fSeq (C_plain_latest_s1) (C_plain_latest_t2)
def C_plain_latest_t0 : DL.Env → R Out := fSeq (C_plain_latest_s0) (C_plain_latest_t1)
def C_plain_latest : List D → R D := fRun 4 (C_plain_latest_t0)
theorem cf_plain_latest : FF_plain_latest C_bounds_for C_plain_sightings = C_plain_latest := by kernel_rfl
def C_tills_by_s0 : DL.Env → R Out := (relS [0, 3, 1, 2] (sOwn 4 (eC 3 C_bounds_for [(eC 2 C_seen_of [(eC 1 C_plain_sightings [(rdE 0)]), (rdE 3)]), (rdE 1), (rdE 2)])))
def C_tills_by_s1 : DL.Env → R Out := (relS [] (fPut 4 (rdP 1) (eB dMin [(rdP 2), (e2 dIx (rdP 0) (kD (.int 0)))])))
def C_tills_by_s2 : DL.Env → R Out := (relS [4] (sRet (e1 dSortItems (rdE 4))))
def C_tills_by_t2 : DL.Env → R Out := fSeq (C_tills_by_s2) sNil
def C_tills_by_t1 : DL.Env → R Out := fSeq (C_tills_by_s1) (C_tills_by_t2)
def C_tills_by_t0 : DL.Env → R Out := fSeq (C_tills_by_s0) (C_tills_by_t1)
def C_tills_by : List D → R D := fRun 5 (C_tills_by_t0)
theorem cf_tills_by : FF_tills_by C_bounds_for C_seen_of C_plain_sightings = C_tills_by := by kernel_rfl
def C_look_fleet : List D → R D := FF_look_fleet C_is_fleet
def C_names_of : List D → R D := FF_names_of C_look_fleet C_plain_names
def C_sees : List D → R D := FF_sees C_look_fleet C_look_hour C_look_ship C_sees_at C_ship_of
def C_sightings : List D → R D := FF_sightings C_look_fleet C_plain_sightings
def C_cleared : List D → R D := FF_cleared C_look_fleet
def C_earliest_s0 : DL.Env → R Out := (relS [0] (sExp (eC 1 C_look_fleet [(rdE 0)])))
def C_earliest_s1 : DL.Env → R Out := (relS [0, 1] (sExp (eC 2 C_look_ship [(rdE 0), (rdE 1)])))
def C_earliest_s2 : DL.Env → R Out := (relS [2] (sExp (eC 2 C_look_hour [(rdE 2), (e2 dIx (rdP 0) (kD (.int 0)))])))
def C_earliest_s3 : DL.Env → R Out := (relS [0, 1, 2] (sRet (e1 dSortItems (eC 3 C_spread [(eC 1 C_plain_sightings [(rdE 0)]), (rdE 1), (rdE 2)]))))
def C_earliest_t3 : DL.Env → R Out := fSeq (C_earliest_s3) sNil
def C_earliest_t2 : DL.Env → R Out := fSeq (C_earliest_s2) (C_earliest_t3)
def C_earliest_t1 : DL.Env → R Out := fSeq (C_earliest_s1) (C_earliest_t2)
def C_earliest_t0 : DL.Env → R Out := fSeq (C_earliest_s0) (C_earliest_t1)
def C_earliest : List D → R D := fRun 3 (C_earliest_t0)
theorem cf_earliest : FF_earliest C_look_fleet C_look_ship C_look_hour C_spread C_plain_sightings = C_earliest := by kernel_rfl
def C_look_ends_s0 : DL.Env → R Out := (relS [0] (sExp (eC 1 C_look_fleet [(rdE 0)])))
def C_look_ends_s1 : DL.Env → R Out := (relS [0, 1] (sExp (eC 2 C_look_ship [(rdE 0), (rdE 1)])))
def C_look_ends_s2 : DL.Env → R Out := (relS [0, 3] (sExp (eC 2 C_look_ship [(rdE 0), (rdE 3)])))
def C_look_ends_s3 : DL.Env → R Out := (relS [2] (sExp (eC 2 C_look_hour [(rdE 2), (e2 dIx (rdP 0) (kD (.int 0)))])))
def C_look_ends_t3 : DL.Env → R Out := fSeq (C_look_ends_s3) sNil
def C_look_ends_t2 : DL.Env → R Out := fSeq (C_look_ends_s2) (C_look_ends_t3)
def C_look_ends_t1 : DL.Env → R Out := fSeq (C_look_ends_s1) (C_look_ends_t2)
def C_look_ends_t0 : DL.Env → R Out := fSeq (C_look_ends_s0) (C_look_ends_t1)
def C_look_ends : List D → R D := fRun 4 (C_look_ends_t0)
theorem cf_look_ends : FF_look_ends C_look_fleet C_look_ship C_look_hour = C_look_ends := by kernel_rfl
def C_latest_s0 : DL.Env → R Out := (relS [0] (sExp (eC 1 C_look_fleet [(rdE 0)])))
def C_latest_s1 : DL.Env → R Out := (relS [0, 1] (sExp (eC 2 C_look_ship [(rdE 0), (rdE 1)])))
def C_latest_s2 : DL.Env → R Out := (relS [2] (sExp (eC 2 C_look_hour [(rdE 2), (e2 (dBin .Add) (e2 dIx (rdP 0) (kD (.int 0))) (kD (.int 1)))])))
def C_latest_s3 : DL.Env → R Out := (relS [0, 1, 2] (sRet (eC 3 C_plain_latest [(rdE 0), (rdE 1), (rdE 2)])))
def C_latest_t3 : DL.Env → R Out := fSeq (C_latest_s3) sNil
def C_latest_t2 : DL.Env → R Out := fSeq (C_latest_s2) (C_latest_t3)
def C_latest_t1 : DL.Env → R Out := fSeq (C_latest_s1) (C_latest_t2)
def C_latest_t0 : DL.Env → R Out := fSeq (C_latest_s0) (C_latest_t1)
def C_latest : List D → R D := fRun 3 (C_latest_t0)
theorem cf_latest : FF_latest C_look_fleet C_look_ship C_look_hour C_plain_latest = C_latest := by kernel_rfl
def C_by_showings_s0 : DL.Env → R Out := (relS [0] (sExp (eC 1 C_look_fleet [(rdE 0)])))
def C_by_showings_s1 : DL.Env → R Out := (relS [0, 1] (sExp (eC 2 C_look_ship [(rdE 0), (rdE 1)])))
def C_by_showings_s2 : DL.Env → R Out := (relS [2] (sExp (eC 2 C_look_hour [(rdE 2), (e2 dIx (rdP 0) (kD (.int 0)))])))
def C_by_showings_s3 : DL.Env → R Out := (relS [0, 3] (sExp (eC 2 C_look_showings [(rdE 0), (rdE 3)])))
def C_by_showings_s4 : DL.Env → R Out := (relS [0, 3, 1, 2] (sRet (e1 dSortItems (eC 3 C_spread [(eC 2 C_seen_of [(eC 1 C_plain_sightings [(rdE 0)]), (rdE 3)]), (rdE 1), (rdE 2)]))))
def C_by_showings_t4 : DL.Env → R Out := fSeq (C_by_showings_s4) sNil
def C_by_showings_t3 : DL.Env → R Out := fSeq (C_by_showings_s3) (C_by_showings_t4)
def C_by_showings_t2 : DL.Env → R Out := fSeq (C_by_showings_s2) (C_by_showings_t3)
def C_by_showings_t1 : DL.Env → R Out := fSeq (C_by_showings_s1) (C_by_showings_t2)
def C_by_showings_t0 : DL.Env → R Out := fSeq (C_by_showings_s0) (C_by_showings_t1)
def C_by_showings : List D → R D := fRun 4 (C_by_showings_t0)
theorem cf_by_showings : FF_by_showings C_look_fleet C_look_ship C_look_hour C_look_showings C_spread C_seen_of C_plain_sightings = C_by_showings := by kernel_rfl
def C_look_task_s0 : DL.Env → R Out := (relS [0] (sExp (eC 1 C_look_fleet [(rdE 0)])))
def C_look_task_s1 : DL.Env → R Out := (relS [0, 1] (sExp (eC 2 C_look_ship [(rdE 0), (rdE 1)])))
def C_look_task_s2 : DL.Env → R Out := (relS [0, 3] (fIfS (tstNot (t1 dTru (eC 2 C_are_names [(rdE 0), (rdE 3)]))) (fSeq (sExc "NoGoals") sNil) sNil))
def C_look_task_s3 : DL.Env → R Out := (relS [2] (sExp (eC 2 C_look_hour [(rdE 2), (e2 dIx (rdP 0) (kD (.int 0)))])))
def C_look_task_s4 : DL.Env → R Out := (relS [4] (sExp (eC 2 C_look_hour [(rdE 4), (e2 (dBin .Add) (e2 dIx (rdP 0) (kD (.int 0))) (kD (.int 1)))])))
def C_look_task_t4 : DL.Env → R Out := fSeq (C_look_task_s4) sNil
def C_look_task_t3 : DL.Env → R Out := fSeq (C_look_task_s3) (C_look_task_t4)
def C_look_task_t2 : DL.Env → R Out := fSeq (C_look_task_s2) (C_look_task_t3)
def C_look_task_t1 : DL.Env → R Out := fSeq (C_look_task_s1) (C_look_task_t2)
def C_look_task_t0 : DL.Env → R Out := fSeq (C_look_task_s0) (C_look_task_t1)
def C_look_task : List D → R D := fRun 5 (C_look_task_t0)
theorem cf_look_task : FF_look_task C_look_fleet C_look_ship C_are_names C_look_hour = C_look_task := by kernel_rfl
def C_look_asked_s0 : DL.Env → R Out := (relS [0] (sExp (eC 1 C_look_fleet [(rdE 0)])))
def C_look_asked_s1 : DL.Env → R Out := (relS [0, 1] (sExp (eC 2 C_look_ship [(rdE 0), (rdE 1)])))
def C_look_asked_s2 : DL.Env → R Out := (relS [0, 3] (sExp (eC 2 C_look_ship [(rdE 0), (rdE 3)])))
def C_look_asked_s3 : DL.Env → R Out := (relS [] (fIfS (t2 (dCmp .Eq) (rdP 3) (rdP 1)) (fSeq (sExc "NoShip") sNil) sNil))
def C_look_asked_s4 : DL.Env → R Out := (relS [2] (sExp (eC 2 C_look_hour [(rdE 2), (e2 dIx (rdP 0) (kD (.int 0)))])))
def C_look_asked_s5 : DL.Env → R Out := (relS [4] (sExp (eC 2 C_look_hour [(rdE 4), (e2 (dBin .Add) (e2 dIx (rdP 0) (kD (.int 0))) (kD (.int 1)))])))
def C_look_asked_t5 : DL.Env → R Out := fSeq (C_look_asked_s5) sNil
def C_look_asked_t4 : DL.Env → R Out := fSeq (C_look_asked_s4) (C_look_asked_t5)
def C_look_asked_t3 : DL.Env → R Out := fSeq (C_look_asked_s3) (C_look_asked_t4)
def C_look_asked_t2 : DL.Env → R Out := fSeq (C_look_asked_s2) (C_look_asked_t3)
def C_look_asked_t1 : DL.Env → R Out := fSeq (C_look_asked_s1) (C_look_asked_t2)
def C_look_asked_t0 : DL.Env → R Out := fSeq (C_look_asked_s0) (C_look_asked_t1)
def C_look_asked : List D → R D := fRun 5 (C_look_asked_t0)
theorem cf_look_asked : FF_look_asked C_look_fleet C_look_ship C_look_hour = C_look_asked := by kernel_rfl
def C_without_s0 : DL.Env → R Out := (relS [0] (sExp (eC 1 C_look_fleet [(rdE 0)])))
def C_without_s1 : DL.Env → R Out := (relS [0, 1] (sExp (eC 2 C_look_ship [(rdE 0), (rdE 1)])))
def C_without_s2 : DL.Env → R Out := (relS [] (fIfS (t2 (dCmp .Eq) (eB dLen [(e2 dIx (rdP 0) (kD (.int 2)))]) (kD (.int 1))) (fSeq (sExc "NoShip") sNil) sNil))
def C_without_s3 : DL.Env → R Out := (relS [2] (sRet (e2 (dBin .Add) (eSl (rdP 0) pN (pS (kD (.int 2)))) (eTup [(eB dTuple [(fLc (i1 dItems (e2 dIx (rdP 0) (kD (.int 2)))) (.one 2) (t2 (dCmp .NotEq) (e2 dIx (rdP 2) (kD (.int 0))) (rdP 1)) (rdE 2) [2])]), (e2 dIx (rdP 0) (kD (.int 3)))]))))
def C_without_t3 : DL.Env → R Out := fSeq (C_without_s3) sNil
def C_without_t2 : DL.Env → R Out := fSeq (C_without_s2) (C_without_t3)
def C_without_t1 : DL.Env → R Out := fSeq (C_without_s1) (C_without_t2)
def C_without_t0 : DL.Env → R Out := fSeq (C_without_s0) (C_without_t1)
def C_without : List D → R D := fRun 3 (C_without_t0)
theorem cf_without : FF_without C_look_fleet C_look_ship = C_without := by kernel_rfl
def C_look_both_s0 : DL.Env → R Out := (relS [0] (sExp (eC 1 C_look_fleet [(rdE 0)])))
def C_look_both_s1 : DL.Env → R Out := (relS [1] (sExp (eC 1 C_look_fleet [(rdE 1)])))
def C_look_both_s2 : DL.Env → R Out := (relS [0, 1] (fIfS (tstOr (t2 (dCmp .NotEq) (e2 dIx (rdP 0) (kD (.int 0))) (e2 dIx (rdP 1) (kD (.int 0)))) (t2 (dCmp .NotEq) (eC 1 C_plain_names [(rdE 0)]) (eC 1 C_plain_names [(rdE 1)]))) (fSeq (sExc "NoFleet") sNil) sNil))
def C_look_both_t2 : DL.Env → R Out := fSeq (C_look_both_s2) sNil
def C_look_both_t1 : DL.Env → R Out := fSeq (C_look_both_s1) (C_look_both_t2)
def C_look_both_t0 : DL.Env → R Out := fSeq (C_look_both_s0) (C_look_both_t1)
def C_look_both : List D → R D := fRun 2 (C_look_both_t0)
theorem cf_look_both : FF_look_both C_look_fleet C_plain_names = C_look_both := by kernel_rfl
def C_later_s0 : DL.Env → R Out := (relS [0] (sExp (eC 1 C_look_fleet [(rdE 0)])))
def C_later_s1 : DL.Env → R Out := (relS [1] (sExp (eC 2 C_look_hour [(rdE 1), (e2 dIx (rdP 0) (kD (.int 0)))])))
def C_later_s2 : DL.Env → R Out := (relS [9, 10] (sSet 2 (eB dTuple [(fLc (i1 dItems (e2 dIx (rdP 0) (kD (.int 2)))) (.many [9, 10, 11]) (kT true) (eTup [(rdE 9), (rdE 10), (eSl (rdP 11) (pS (rdP 1)) pN)]) [9, 10, 11])])))
def C_later_s3 : DL.Env → R Out := (relS [] (sOwn 3 (kD (.dict []))))
def C_later_s4b_s0 : DL.Env → R Out := (relS [] (fIfS (t2 (dCmp .GtE) (rdP 5) (rdP 1)) (fSeq (relS [6, 7, 8] (fPut 3 (eTup [(eB dMax [(kD (.int 0)), (e2 (dBin .Sub) (rdP 4) (rdP 1))]), (e2 (dBin .Sub) (rdP 5) (rdP 1)), (rdE 6), (rdE 7), (rdE 8)]) (kD (.bool true)))) sNil) sNil))
def C_later_s4b_t0 : DL.Env → R Out := fSeq (C_later_s4b_s0) sNil
def C_later_s4 : DL.Env → R Out := (relS [] (fFor (i1 dItems (e2 dIx (rdP 0) (kD (.int 3)))) (.many [4, 5, 6, 7, 8]) (C_later_s4b_t0)))
def C_later_s5 : DL.Env → R Out := (relS [2] (sRet (eTup [(e2 (dBin .Sub) (e2 dIx (rdP 0) (kD (.int 0))) (rdP 1)), (e2 dIx (rdP 0) (kD (.int 1))), (rdE 2), (eB dTuple [(eB dSorted [(rdP 3)])])])))
def C_later_t5 : DL.Env → R Out := fSeq (C_later_s5) sNil
def C_later_t4 : DL.Env → R Out := fSeq (C_later_s4) (C_later_t5)
def C_later_t3 : DL.Env → R Out := fSeq (C_later_s3) (C_later_t4)
def C_later_t2 : DL.Env → R Out := fSeq (C_later_s2) (C_later_t3)
def C_later_t1 : DL.Env → R Out := fSeq (C_later_s1) (C_later_t2)
def C_later_t0 : DL.Env → R Out := fSeq (C_later_s0) (C_later_t1)
def C_later : List D → R D := fRun 12 (C_later_t0)
theorem cf_later : FF_later C_look_fleet C_look_hour = C_later := by kernel_rfl
def C_is_world_s0 : DL.Env → R Out := (relS [0] (sExp (eC 1 C_look_fleet [(rdE 0)])))
def C_is_world_s1 : DL.Env → R Out := (relS [0, 1] (sRet (eC 2 C_is_world_of [(rdE 0), (rdE 1)])))
def C_is_world_t1 : DL.Env → R Out := fSeq (C_is_world_s1) sNil
def C_is_world_t0 : DL.Env → R Out := fSeq (C_is_world_s0) (C_is_world_t1)
def C_is_world : List D → R D := fRun 2 (C_is_world_t0)
theorem cf_is_world : FF_is_world C_look_fleet C_is_world_of = C_is_world := by kernel_rfl
def C_are_worlds_s0 : DL.Env → R Out := (relS [0] (sExp (eC 1 C_look_fleet [(rdE 0)])))
def C_are_worlds_s1 : DL.Env → R Out := (relS [0, 1] (sRet (eC 2 C_are_worlds_of [(rdE 0), (rdE 1)])))
def C_are_worlds_t1 : DL.Env → R Out := fSeq (C_are_worlds_s1) sNil
def C_are_worlds_t0 : DL.Env → R Out := fSeq (C_are_worlds_s0) (C_are_worlds_t1)
def C_are_worlds : List D → R D := fRun 2 (C_are_worlds_t0)
theorem cf_are_worlds : FF_are_worlds C_look_fleet C_are_worlds_of = C_are_worlds := by kernel_rfl
def C_read_by_s0 : DL.Env → R Out := (relS [0] (sExp (eC 1 C_look_fleet [(rdE 0)])))
def C_read_by_s1 : DL.Env → R Out := (relS [0, 1] (sExp (eC 2 C_look_world [(rdE 0), (rdE 1)])))
def C_read_by_s2 : DL.Env → R Out := (relS [0, 2] (sExp (eC 2 C_look_ship [(rdE 0), (rdE 2)])))
def C_read_by_s3 : DL.Env → R Out := (relS [3] (sExp (eC 2 C_look_hour [(rdE 3), (e2 (dBin .Add) (e2 dIx (rdP 0) (kD (.int 0))) (kD (.int 1)))])))
def C_read_by_s4 : DL.Env → R Out := (relS [0, 0, 2, 3, 1] (sRet (eC 3 C_read_in [(eC 1 C_plain_names [(rdE 0)]), (eC 3 C_plain_latest [(rdE 0), (rdE 2), (rdE 3)]), (rdE 1)])))
def C_read_by_t4 : DL.Env → R Out := fSeq (C_read_by_s4) sNil
def C_read_by_t3 : DL.Env → R Out := fSeq (C_read_by_s3) (C_read_by_t4)
def C_read_by_t2 : DL.Env → R Out := fSeq (C_read_by_s2) (C_read_by_t3)
def C_read_by_t1 : DL.Env → R Out := fSeq (C_read_by_s1) (C_read_by_t2)
def C_read_by_t0 : DL.Env → R Out := fSeq (C_read_by_s0) (C_read_by_t1)
def C_read_by : List D → R D := fRun 4 (C_read_by_t0)
theorem cf_read_by : FF_read_by C_look_fleet C_look_world C_look_ship C_look_hour C_read_in C_plain_names C_plain_latest = C_read_by := by kernel_rfl
def C_cant_tell_s0 : DL.Env → R Out := (relS [0] (sExp (eC 1 C_look_fleet [(rdE 0)])))
def C_cant_tell_s1 : DL.Env → R Out := (relS [0, 1] (sExp (eC 2 C_look_world [(rdE 0), (rdE 1)])))
def C_cant_tell_s2 : DL.Env → R Out := (relS [0, 2] (sExp (eC 2 C_look_world [(rdE 0), (rdE 2)])))
def C_cant_tell_s3 : DL.Env → R Out := (relS [0, 3] (sExp (eC 2 C_look_ship [(rdE 0), (rdE 3)])))
def C_cant_tell_s4 : DL.Env → R Out := (relS [4] (sExp (eC 2 C_look_hour [(rdE 4), (e2 (dBin .Add) (e2 dIx (rdP 0) (kD (.int 0))) (kD (.int 1)))])))
def C_cant_tell_s5 : DL.Env → R Out := (relS [0, 3, 4] (sSet 5 (eC 3 C_plain_latest [(rdE 0), (rdE 3), (rdE 4)])))
def C_cant_tell_s6 : DL.Env → R Out := (relS [0, 5, 1, 0, 5, 2] (sRet (e2 (bCmp .Eq) (eC 3 C_read_in [(eC 1 C_plain_names [(rdE 0)]), (rdE 5), (rdE 1)]) (eC 3 C_read_in [(eC 1 C_plain_names [(rdE 0)]), (rdE 5), (rdE 2)]))))
def C_cant_tell_t6 : DL.Env → R Out := fSeq (C_cant_tell_s6) sNil
def C_cant_tell_t5 : DL.Env → R Out := fSeq (C_cant_tell_s5) (C_cant_tell_t6)
def C_cant_tell_t4 : DL.Env → R Out := fSeq (C_cant_tell_s4) (C_cant_tell_t5)
def C_cant_tell_t3 : DL.Env → R Out := fSeq (C_cant_tell_s3) (C_cant_tell_t4)
def C_cant_tell_t2 : DL.Env → R Out := fSeq (C_cant_tell_s2) (C_cant_tell_t3)
def C_cant_tell_t1 : DL.Env → R Out := fSeq (C_cant_tell_s1) (C_cant_tell_t2)
def C_cant_tell_t0 : DL.Env → R Out := fSeq (C_cant_tell_s0) (C_cant_tell_t1)
def C_cant_tell : List D → R D := fRun 6 (C_cant_tell_t0)
theorem cf_cant_tell : FF_cant_tell C_look_fleet C_look_world C_look_ship C_look_hour C_plain_latest C_read_in C_plain_names = C_cant_tell := by kernel_rfl
def C_look_worlds_s0 : DL.Env → R Out := (relS [0] (sExp (eC 1 C_look_fleet [(rdE 0)])))
def C_look_worlds_s1 : DL.Env → R Out := (relS [0, 1] (fIfS (tstNot (t1 dTru (eC 2 C_are_worlds_of [(rdE 0), (rdE 1)]))) (fSeq (sExc "NoWorlds") sNil) sNil))
def C_look_worlds_s2 : DL.Env → R Out := (relS [0, 2] (fIfS (tstOr (tstNot (t1 dTru (eC 2 C_is_world_of [(rdE 0), (rdE 2)]))) (t2 (dCmp .NotIn) (rdP 2) (rdP 1))) (fSeq (sExc "NoWorld") sNil) sNil))
def C_look_worlds_t2 : DL.Env → R Out := fSeq (C_look_worlds_s2) sNil
def C_look_worlds_t1 : DL.Env → R Out := fSeq (C_look_worlds_s1) (C_look_worlds_t2)
def C_look_worlds_t0 : DL.Env → R Out := fSeq (C_look_worlds_s0) (C_look_worlds_t1)
def C_look_worlds : List D → R D := fRun 3 (C_look_worlds_t0)
theorem cf_look_worlds : FF_look_worlds C_look_fleet C_are_worlds_of C_is_world_of = C_look_worlds := by kernel_rfl
def C_read_by_showings_s0 : DL.Env → R Out := (relS [0] (sExp (eC 1 C_look_fleet [(rdE 0)])))
def C_read_by_showings_s1 : DL.Env → R Out := (relS [0, 1] (sExp (eC 2 C_look_world [(rdE 0), (rdE 1)])))
def C_read_by_showings_s2 : DL.Env → R Out := (relS [0, 2] (sExp (eC 2 C_look_ship [(rdE 0), (rdE 2)])))
def C_read_by_showings_s3 : DL.Env → R Out := (relS [3] (sExp (eC 2 C_look_hour [(rdE 3), (e2 (dBin .Add) (e2 dIx (rdP 0) (kD (.int 0))) (kD (.int 1)))])))
def C_read_by_showings_s4 : DL.Env → R Out := (relS [0, 4] (sExp (eC 2 C_look_showings [(rdE 0), (rdE 4)])))
def C_read_by_showings_s5 : DL.Env → R Out := (relS [0, 0, 2, 3, 4, 1] (sRet (eC 3 C_read_in [(eC 1 C_plain_names [(rdE 0)]), (eC 4 C_tills_by [(rdE 0), (rdE 2), (rdE 3), (rdE 4)]), (rdE 1)])))
def C_read_by_showings_t5 : DL.Env → R Out := fSeq (C_read_by_showings_s5) sNil
def C_read_by_showings_t4 : DL.Env → R Out := fSeq (C_read_by_showings_s4) (C_read_by_showings_t5)
def C_read_by_showings_t3 : DL.Env → R Out := fSeq (C_read_by_showings_s3) (C_read_by_showings_t4)
def C_read_by_showings_t2 : DL.Env → R Out := fSeq (C_read_by_showings_s2) (C_read_by_showings_t3)
def C_read_by_showings_t1 : DL.Env → R Out := fSeq (C_read_by_showings_s1) (C_read_by_showings_t2)
def C_read_by_showings_t0 : DL.Env → R Out := fSeq (C_read_by_showings_s0) (C_read_by_showings_t1)
def C_read_by_showings : List D → R D := fRun 5 (C_read_by_showings_t0)
theorem cf_read_by_showings : FF_read_by_showings C_look_fleet C_look_world C_look_ship C_look_hour C_look_showings C_read_in C_plain_names C_tills_by = C_read_by_showings := by kernel_rfl
def C_delayed_s0 : DL.Env → R Out := (relS [0] (sExp (eC 1 C_look_fleet [(rdE 0)])))
def C_delayed_s1 : DL.Env → R Out := (relS [0, 1] (fIfS (tstNot (t1 dTru (eC 2 C_are_delays [(rdE 0), (rdE 1)]))) (fSeq (sExc "NoDelays") sNil) sNil))
def C_delayed_s2 : DL.Env → R Out := (relS [0, 1] (sRet (eC 2 C_held_back [(rdE 0), (rdE 1)])))
def C_delayed_t2 : DL.Env → R Out := fSeq (C_delayed_s2) sNil
def C_delayed_t1 : DL.Env → R Out := fSeq (C_delayed_s1) (C_delayed_t2)
def C_delayed_t0 : DL.Env → R Out := fSeq (C_delayed_s0) (C_delayed_t1)
def C_delayed : List D → R D := fRun 2 (C_delayed_t0)
theorem cf_delayed : FF_delayed C_look_fleet C_are_delays C_held_back = C_delayed := by kernel_rfl
def C_is_chain_s0 : DL.Env → R Out := (relS [0, 1, 2, 3] (sExp (eC 4 C_look_ends [(rdE 0), (rdE 1), (rdE 2), (rdE 3)])))
def C_is_chain_s1 : DL.Env → R Out := (relS [0, 1, 2, 3, 4] (sRet (eC 5 C_is_plain_chain [(eC 1 C_plain_sightings [(rdE 0)]), (rdE 1), (rdE 2), (rdE 3), (rdE 4)])))
def C_is_chain_t1 : DL.Env → R Out := fSeq (C_is_chain_s1) sNil
def C_is_chain_t0 : DL.Env → R Out := fSeq (C_is_chain_s0) (C_is_chain_t1)
def C_is_chain : List D → R D := fRun 5 (C_is_chain_t0)
theorem cf_is_chain : FF_is_chain C_look_ends C_is_plain_chain C_plain_sightings = C_is_chain := by kernel_rfl
def C_bar_s0 : DL.Env → R Out := (relS [0, 1, 2, 3] (sExp (eC 4 C_look_ends [(rdE 0), (rdE 1), (rdE 2), (rdE 3)])))
def C_bar_s1 : DL.Env → R Out := (relS [4] (sExp (eC 2 C_look_hour [(rdE 4), (e2 (dBin .Add) (e2 dIx (rdP 0) (kD (.int 0))) (kD (.int 1)))])))
def C_bar_s2 : DL.Env → R Out := (relS [0, 1, 2] (sSet 5 (eC 3 C_spread [(eC 1 C_plain_sightings [(rdE 0)]), (rdE 1), (rdE 2)])))
def C_bar_s3 : DL.Env → R Out := (relS [5] (sRet (fIf (tstAnd (t2 (dCmp .In) (rdP 3) (rdP 5)) (t2 (dCmp .LtE) (e2 dIx (rdP 5) (rdP 3)) (rdP 4))) (kD .none) (e1 dSortItems (rdE 5)))))
def C_bar_t3 : DL.Env → R Out := fSeq (C_bar_s3) sNil
def C_bar_t2 : DL.Env → R Out := fSeq (C_bar_s2) (C_bar_t3)
def C_bar_t1 : DL.Env → R Out := fSeq (C_bar_s1) (C_bar_t2)
def C_bar_t0 : DL.Env → R Out := fSeq (C_bar_s0) (C_bar_t1)
def C_bar : List D → R D := fRun 6 (C_bar_t0)
theorem cf_bar : FF_bar C_look_ends C_look_hour C_spread C_plain_sightings = C_bar := by kernel_rfl
def C_is_bar_s0 : DL.Env → R Out := (relS [0, 1, 2, 3] (sExp (eC 4 C_look_ends [(rdE 0), (rdE 1), (rdE 2), (rdE 3)])))
def C_is_bar_s1 : DL.Env → R Out := (relS [4] (sExp (eC 2 C_look_hour [(rdE 4), (e2 (dBin .Add) (e2 dIx (rdP 0) (kD (.int 0))) (kD (.int 1)))])))
def C_is_bar_s2 : DL.Env → R Out := (relS [5] (fIfS (tstOr (tstNot (t1 dTru (e1 (dIsi "list") (rdP 5)))) (tstNot (t1 dTru (eB dAll [(fLc (i1 dItems (rdE 5)) (.one 11) (kT true) (fAnd (e1 (dIsi "tuple") (rdP 11)) (e2 (bCmp .Eq) (eB dLen [(rdP 11)]) (kD (.int 2)))) [11])])))) (fSeq (relS [] (sRet (kD (.bool false)))) sNil) sNil))
def C_is_bar_s3 : DL.Env → R Out := (relS [0] (sSet 6 (eC 1 C_plain_names [(rdE 0)])))
def C_is_bar_s4 : DL.Env → R Out := (relS [5] (fIfS (tstNot (t1 dTru (eB dAll [(fLc (i1 dItems (rdE 5)) (.one 11) (kT true) (fAnd (eC 1 C_is_name [(e2 dIx (rdP 11) (kD (.int 0)))]) (fAnd (e2 (bCmp .In) (e2 dIx (rdP 11) (kD (.int 0))) (rdP 6)) (eC 3 C_is_whole [(e2 dIx (rdP 11) (kD (.int 1))), (kD (.int 0)), (e2 (dBin .Add) (e2 dIx (rdP 0) (kD (.int 0))) (kD (.int 1)))]))) [11])]))) (fSeq (relS [] (sRet (kD (.bool false)))) sNil) sNil))
def C_is_bar_s5 : DL.Env → R Out := (relS [5] (fIfS (tstNot (t1 dTru (eB dAll [(fLc (iB dZip [(rdE 5), (eSl (rdP 5) (pS (kD (.int 1))) pN)]) (.many [12, 13]) (kT true) (e2 (bCmp .Lt) (e2 dIx (rdP 12) (kD (.int 0))) (e2 dIx (rdP 13) (kD (.int 0)))) [12, 13])]))) (fSeq (relS [] (sRet (kD (.bool false)))) sNil) sNil))
def C_is_bar_s6 : DL.Env → R Out := (relS [] (sOwn 7 (eB dDict [(rdP 5)])))
def C_is_bar_s7 : DL.Env → R Out := (relS [] (fIfS (tstOr (t2 (dCmp .NotIn) (rdP 1) (rdP 7)) (tstOr (t2 (dCmp .Gt) (e2 dIx (rdP 7) (rdP 1)) (rdP 2)) (tstAnd (t2 (dCmp .In) (rdP 3) (rdP 7)) (t2 (dCmp .LtE) (e2 dIx (rdP 7) (rdP 3)) (rdP 4))))) (fSeq (relS [] (sRet (kD (.bool false)))) sNil) sNil))
def C_is_bar_s8b_s0 : DL.Env → R Out := (relS [] (fIfS (tstAnd (t2 (dCmp .In) (rdP 10) (rdP 7)) (tstAnd (t2 (dCmp .LtE) (e2 dIx (rdP 7) (rdP 10)) (rdP 8)) (tstOr (t2 (dCmp .NotIn) (rdP 9) (rdP 7)) (t2 (dCmp .Gt) (e2 dIx (rdP 7) (rdP 9)) (e2 (dBin .Add) (rdP 8) (kD (.int 1))))))) (fSeq (relS [] (sRet (kD (.bool false)))) sNil) sNil))
def C_is_bar_s8b_t0 : DL.Env → R Out := fSeq (C_is_bar_s8b_s0) sNil
def C_is_bar_s8 : DL.Env → R Out := (relS [0] (fFor (i1 dItems (eC 1 C_plain_sightings [(rdE 0)])) (.many [8, 9, 10]) (C_is_bar_s8b_t0)))
def C_is_bar_s9 : DL.Env → R Out := (relS [] (sRet (kD (.bool true))))
def C_is_bar_t9 : DL.Env → R Out := fSeq (C_is_bar_s9) sNil
def C_is_bar_t8 : DL.Env → R Out := fSeq (C_is_bar_s8) (C_is_bar_t9)
def C_is_bar_t7 : DL.Env → R Out := fSeq (C_is_bar_s7) (C_is_bar_t8)
def C_is_bar_t6 : DL.Env → R Out := fSeq (C_is_bar_s6) (C_is_bar_t7)
def C_is_bar_t5 : DL.Env → R Out := fSeq (C_is_bar_s5) (C_is_bar_t6)
def C_is_bar_t4 : DL.Env → R Out := fSeq (C_is_bar_s4) (C_is_bar_t5)
def C_is_bar_t3 : DL.Env → R Out := fSeq (C_is_bar_s3) (C_is_bar_t4)
def C_is_bar_t2 : DL.Env → R Out := fSeq (C_is_bar_s2) (C_is_bar_t3)
def C_is_bar_t1 : DL.Env → R Out := fSeq (C_is_bar_s1) (C_is_bar_t2)
def C_is_bar_t0 : DL.Env → R Out := fSeq (C_is_bar_s0) (C_is_bar_t1)
def C_is_bar : List D → R D := fRun 14 (C_is_bar_t0)
theorem cf_is_bar : FF_is_bar C_look_ends C_look_hour C_plain_names C_is_name C_is_whole C_plain_sightings = C_is_bar := by kernel_rfl
def C_is_enough_s0 : DL.Env → R Out := (relS [0, 1, 2, 3, 4] (sExp (eC 5 C_look_task [(rdE 0), (rdE 1), (rdE 2), (rdE 3), (rdE 4)])))
def C_is_enough_s1 : DL.Env → R Out := (relS [0, 5] (fIfS (tstNot (t1 dTru (eC 2 C_is_showings [(rdE 0), (rdE 5)]))) (fSeq (relS [] (sRet (kD (.bool false)))) sNil) sNil))
def C_is_enough_s2 : DL.Env → R Out := (relS [0, 5, 1, 2, 3, 4] (sRet (eC 3 C_do_have [(eC 3 C_spread [(eC 2 C_seen_of [(eC 1 C_plain_sightings [(rdE 0)]), (rdE 5)]), (rdE 1), (rdE 2)]), (rdE 3), (rdE 4)])))
def C_is_enough_t2 : DL.Env → R Out := fSeq (C_is_enough_s2) sNil
def C_is_enough_t1 : DL.Env → R Out := fSeq (C_is_enough_s1) (C_is_enough_t2)
def C_is_enough_t0 : DL.Env → R Out := fSeq (C_is_enough_s0) (C_is_enough_t1)
def C_is_enough : List D → R D := fRun 6 (C_is_enough_t0)
theorem cf_is_enough : FF_is_enough C_look_task C_is_showings C_do_have C_spread C_seen_of C_plain_sightings = C_is_enough := by kernel_rfl
def C_must_s0 : DL.Env → R Out := (relS [0, 1, 2, 3, 4] (sExp (eC 5 C_look_asked [(rdE 0), (rdE 1), (rdE 2), (rdE 3), (rdE 4)])))
def C_must_s1 : DL.Env → R Out := (relS [0] (sSet 5 (eC 1 C_plain_sightings [(rdE 0)])))
def C_must_s2 : DL.Env → R Out := (relS [5, 1, 2, 3, 4] (fIfS (tstNot (t1 dTru (eC 5 C_comes [(rdE 5), (rdE 1), (rdE 2), (rdE 3), (rdE 4)]))) (fSeq (relS [] (sRet (kD .none))) sNil) sNil))
def C_must_s3 : DL.Env → R Out := (relS [0, 1, 3] (sSet 6 (eC 3 C_others_of [(rdE 0), (rdE 1), (rdE 3)])))
def C_must_s4 : DL.Env → R Out := (relS [7, 6, 5, 7, 1, 2, 3, 4] (sRet (fLc (i1 dItems (rdE 6)) (.one 7) (tstNot (t1 dTru (eC 5 C_comes [(eC 2 C_clear_of [(rdE 5), (eLst [(rdE 7)])]), (rdE 1), (rdE 2), (rdE 3), (rdE 4)]))) (rdE 7) [7])))
def C_must_t4 : DL.Env → R Out := fSeq (C_must_s4) sNil
def C_must_t3 : DL.Env → R Out := fSeq (C_must_s3) (C_must_t4)
def C_must_t2 : DL.Env → R Out := fSeq (C_must_s2) (C_must_t3)
def C_must_t1 : DL.Env → R Out := fSeq (C_must_s1) (C_must_t2)
def C_must_t0 : DL.Env → R Out := fSeq (C_must_s0) (C_must_t1)
def C_must : List D → R D := fRun 8 (C_must_t0)
theorem cf_must : FF_must C_look_asked C_plain_sightings C_comes C_others_of C_clear_of = C_must := by kernel_rfl
def C_least_cut_s0 : DL.Env → R Out := (relS [0, 1, 2, 3, 4] (sExp (eC 5 C_look_asked [(rdE 0), (rdE 1), (rdE 2), (rdE 3), (rdE 4)])))
def C_least_cut_s1 : DL.Env → R Out := (relS [0] (sSet 5 (eC 1 C_plain_sightings [(rdE 0)])))
def C_least_cut_s2 : DL.Env → R Out := (relS [0, 1, 3] (sSet 6 (eC 1 C_lots_of [(eC 3 C_others_of [(rdE 0), (rdE 1), (rdE 3)])])))
def C_least_cut_s3 : DL.Env → R Out := (relS [8, 6, 5, 8, 1, 2, 3, 4] (sOwn 7 (fLc (i1 dItems (rdE 6)) (.one 8) (tstNot (t1 dTru (eC 5 C_comes [(eC 2 C_clear_of [(rdE 5), (rdE 8)]), (rdE 1), (rdE 2), (rdE 3), (rdE 4)]))) (eTup [(eB dLen [(rdP 8)]), (rdE 8)]) [8])))
def C_least_cut_s4 : DL.Env → R Out := (relS [] (sRet (fIf (t2 (dCmp .NotEq) (rdP 7) (eLst [])) (e2 dIx (eB dMin [(rdP 7)]) (kD (.int 1))) (kD .none))))
def C_least_cut_t4 : DL.Env → R Out := fSeq (C_least_cut_s4) sNil
def C_least_cut_t3 : DL.Env → R Out := fSeq (C_least_cut_s3) (C_least_cut_t4)
def C_least_cut_t2 : DL.Env → R Out := fSeq (C_least_cut_s2) (C_least_cut_t3)
def C_least_cut_t1 : DL.Env → R Out := fSeq (C_least_cut_s1) (C_least_cut_t2)
def C_least_cut_t0 : DL.Env → R Out := fSeq (C_least_cut_s0) (C_least_cut_t1)
def C_least_cut : List D → R D := fRun 9 (C_least_cut_t0)
theorem cf_least_cut : FF_least_cut C_look_asked C_plain_sightings C_lots_of C_others_of C_comes C_clear_of = C_least_cut := by kernel_rfl
def C_is_cut_s0 : DL.Env → R Out := (relS [0, 1, 2, 3, 4] (sExp (eC 5 C_look_asked [(rdE 0), (rdE 1), (rdE 2), (rdE 3), (rdE 4)])))
def C_is_cut_s1 : DL.Env → R Out := (relS [7, 5, 5] (fIfS (tstOr (tstNot (t1 dTru (e1 (dIsi "tuple") (rdP 5)))) (tstOr (tstNot (t1 dTru (eB dAll [(fLc (i1 dItems (rdE 5)) (.one 7) (kT true) (eC 1 C_is_name [(rdE 7)]) [7])]))) (tstNot (t1 dTru (eC 1 C_is_rising [(rdE 5)]))))) (fSeq (relS [] (sRet (kD (.bool false)))) sNil) sNil))
def C_is_cut_s2 : DL.Env → R Out := (relS [0, 1, 3] (sSet 6 (eC 3 C_others_of [(rdE 0), (rdE 1), (rdE 3)])))
def C_is_cut_s3 : DL.Env → R Out := (relS [5] (fIfS (tstNot (t1 dTru (eB dAll [(fLc (i1 dItems (rdE 5)) (.one 7) (kT true) (e2 (bCmp .In) (rdP 7) (rdP 6)) [7])]))) (fSeq (relS [] (sRet (kD (.bool false)))) sNil) sNil))
def C_is_cut_s4 : DL.Env → R Out := (relS [0, 5, 1, 2, 3, 4] (sRet (e1 dNot (eC 5 C_comes [(eC 2 C_clear_of [(eC 1 C_plain_sightings [(rdE 0)]), (rdE 5)]), (rdE 1), (rdE 2), (rdE 3), (rdE 4)]))))
def C_is_cut_t4 : DL.Env → R Out := fSeq (C_is_cut_s4) sNil
def C_is_cut_t3 : DL.Env → R Out := fSeq (C_is_cut_s3) (C_is_cut_t4)
def C_is_cut_t2 : DL.Env → R Out := fSeq (C_is_cut_s2) (C_is_cut_t3)
def C_is_cut_t1 : DL.Env → R Out := fSeq (C_is_cut_s1) (C_is_cut_t2)
def C_is_cut_t0 : DL.Env → R Out := fSeq (C_is_cut_s0) (C_is_cut_t1)
def C_is_cut : List D → R D := fRun 8 (C_is_cut_t0)
theorem cf_is_cut : FF_is_cut C_look_asked C_is_name C_is_rising C_others_of C_comes C_clear_of C_plain_sightings = C_is_cut := by kernel_rfl
def C_parting_s0 : DL.Env → R Out := (relS [0, 1] (sExp (eC 2 C_look_both [(rdE 0), (rdE 1)])))
def C_parting_s1 : DL.Env → R Out := (relS [0, 1] (fPar [false, false] [2, 3] (eArgs [(eC 1 C_plain_sightings [(rdE 0)]), (eC 1 C_plain_sightings [(rdE 1)])])))
def C_parting_s2b_s0b_s0 : DL.Env → R Out := (relS [2, 4, 5, 3, 4, 5] (fPar [false, false] [6, 7] (eArgs [(eC 3 C_spread [(rdE 2), (rdE 4), (rdE 5)]), (eC 3 C_spread [(rdE 3), (rdE 4), (rdE 5)])])))
def C_parting_s2b_s0b_s1b_s0 : DL.Env → R Out := (relS [8, 8] (fIfS (t2 (dCmp .NotEq) (fGet (rdP 6) (rdP 8) (kD .none)) (fGet (rdP 7) (rdP 8) (kD .none))) (fSeq (relS [4, 5, 8] (sRet (eTup [(rdE 4), (rdE 5), (rdE 8)]))) sNil) sNil))
def C_parting_s2b_s0b_s1b_t0 : DL.Env → R Out := fSeq (C_parting_s2b_s0b_s1b_s0) sNil
def C_parting_s2b_s0b_s1 : DL.Env → R Out := (relS [0] (fFor (i1 dItems (eC 1 C_plain_names [(rdE 0)])) (.one 8) (C_parting_s2b_s0b_s1b_t0)))
def C_parting_s2b_s0b_t1 : DL.Env → R Out := fSeq (C_parting_s2b_s0b_s1) sNil
def C_parting_s2b_s0b_t0 : DL.Env → R Out := fSeq (C_parting_s2b_s0b_s0) (C_parting_s2b_s0b_t1)
def C_parting_s2b_s0 : DL.Env → R Out := (relS [] (fFor (iB dRng1 [(e2 (dBin .Add) (e2 dIx (rdP 0) (kD (.int 0))) (kD (.int 1)))]) (.one 5) (C_parting_s2b_s0b_t0)))
def C_parting_s2b_t0 : DL.Env → R Out := fSeq (C_parting_s2b_s0) sNil
def C_parting_s2 : DL.Env → R Out := (relS [0] (fFor (i1 dItems (eC 1 C_plain_names [(rdE 0)])) (.one 4) (C_parting_s2b_t0)))
def C_parting_s3 : DL.Env → R Out := (relS [] (sRet (kD .none)))
def C_parting_t3 : DL.Env → R Out := fSeq (C_parting_s3) sNil
def C_parting_t2 : DL.Env → R Out := fSeq (C_parting_s2) (C_parting_t3)
def C_parting_t1 : DL.Env → R Out := fSeq (C_parting_s1) (C_parting_t2)
def C_parting_t0 : DL.Env → R Out := fSeq (C_parting_s0) (C_parting_t1)
def C_parting : List D → R D := fRun 9 (C_parting_t0)
theorem cf_parting : FF_parting C_look_both C_plain_sightings C_plain_names C_spread = C_parting := by kernel_rfl
def C_are_delays_enough_s0 : DL.Env → R Out := (relS [0, 1, 2, 3, 4] (sExp (eC 5 C_look_ends [(rdE 0), (rdE 1), (rdE 2), (rdE 3), (rdE 4)])))
def C_are_delays_enough_s1 : DL.Env → R Out := (relS [0, 5, 0, 5, 1, 2, 3, 4] (sRet (fAnd (eC 2 C_are_delays [(rdE 0), (rdE 5)]) (eC 5 C_comes [(eC 1 C_plain_sightings [(eC 2 C_held_back [(rdE 0), (rdE 5)])]), (rdE 1), (rdE 2), (rdE 3), (rdE 4)]))))
def C_are_delays_enough_t1 : DL.Env → R Out := fSeq (C_are_delays_enough_s1) sNil
def C_are_delays_enough_t0 : DL.Env → R Out := fSeq (C_are_delays_enough_s0) (C_are_delays_enough_t1)
def C_are_delays_enough : List D → R D := fRun 6 (C_are_delays_enough_t0)
theorem cf_are_delays_enough : FF_are_delays_enough C_look_ends C_are_delays C_comes C_plain_sightings C_held_back = C_are_delays_enough := by kernel_rfl
def C_are_alike_s0 : DL.Env → R Out := (relS [0, 1] (sRet (e2 (bCmp .Is) (eC 2 C_parting [(rdE 0), (rdE 1)]) (kD .none))))
def C_are_alike_t0 : DL.Env → R Out := fSeq (C_are_alike_s0) sNil
def C_are_alike : List D → R D := fRun 2 (C_are_alike_t0)
theorem cf_are_alike : FF_are_alike C_parting = C_are_alike := by kernel_rfl
def C_first_chain_s0 (f_chain_by : List D → R D) : DL.Env → R Out := (relS [0, 1, 2, 3] (sExp (eC 4 C_look_ends [(rdE 0), (rdE 1), (rdE 2), (rdE 3)])))
def C_first_chain_s1 (f_chain_by : List D → R D) : DL.Env → R Out := (relS [0, 1, 2, 3] (sRet (eC 4 f_chain_by [(eC 1 C_plain_sightings [(rdE 0)]), (rdE 1), (rdE 2), (rdE 3)])))
def C_first_chain_t1 (f_chain_by : List D → R D) : DL.Env → R Out := fSeq (C_first_chain_s1 f_chain_by) sNil
def C_first_chain_t0 (f_chain_by : List D → R D) : DL.Env → R Out := fSeq (C_first_chain_s0 f_chain_by) (C_first_chain_t1 f_chain_by)
def C_first_chain (f_chain_by : List D → R D) : List D → R D := fRun 4 (C_first_chain_t0 f_chain_by)
theorem cf_first_chain (f_chain_by : List D → R D) : FF_first_chain C_look_ends f_chain_by C_plain_sightings = C_first_chain f_chain_by := by kernel_rfl
def C_fewest_s0 (f_step : List D → R D) : DL.Env → R Out := (relS [0, 1, 2, 3, 4] (sExp (eC 5 C_look_task [(rdE 0), (rdE 1), (rdE 2), (rdE 3), (rdE 4)])))
def C_fewest_s1 (f_step : List D → R D) : DL.Env → R Out := (relS [] (fIfS (t2 (dCmp .Gt) (rdP 2) (rdP 4)) (fSeq (relS [] (sRet (kD .none))) sNil) sNil))
def C_fewest_s2 (f_step : List D → R D) : DL.Env → R Out := (relS [0, 1] (fPar [false, true] [5, 6] (eArgs [(eC 1 C_plain_sightings [(rdE 0)]), (e2 dDict1 (eTup [(rdE 1)]) (eLst []))])))
def C_fewest_s3b_s0 (f_step : List D → R D) : DL.Env → R Out := (relS [5, 7, 6] (sSet 6 (eC 3 f_step [(rdE 5), (rdE 7), (rdE 6)])))
def C_fewest_s3b_t0 (f_step : List D → R D) : DL.Env → R Out := fSeq (C_fewest_s3b_s0 f_step) sNil
def C_fewest_s3 (f_step : List D → R D) : DL.Env → R Out := (relS [] (fFor (iB dRng2 [(rdP 2), (rdP 4)]) (.one 7) (C_fewest_s3b_t0 f_step)))
def C_fewest_s4 (f_step : List D → R D) : DL.Env → R Out := (relS [10, 6, 3] (sOwn 8 (fLc (i1 dPairs (rdE 6)) (.many [9, 10]) (t1 dTru (eB dAll [(fLc (i1 dItems (rdE 3)) (.one 11) (kT true) (e2 (bCmp .In) (rdP 11) (rdP 9)) [11])])) (eTup [(eB dLen [(rdP 10)]), (rdE 10)]) [9, 10])))
def C_fewest_s5 (f_step : List D → R D) : DL.Env → R Out := (relS [] (sRet (fIf (t2 (dCmp .NotEq) (rdP 8) (eLst [])) (e2 dIx (eB dMin [(rdP 8)]) (kD (.int 1))) (kD .none))))
def C_fewest_t5 (f_step : List D → R D) : DL.Env → R Out := fSeq (C_fewest_s5 f_step) sNil
def C_fewest_t4 (f_step : List D → R D) : DL.Env → R Out := fSeq (C_fewest_s4 f_step) (C_fewest_t5 f_step)
def C_fewest_t3 (f_step : List D → R D) : DL.Env → R Out := fSeq (C_fewest_s3 f_step) (C_fewest_t4 f_step)
def C_fewest_t2 (f_step : List D → R D) : DL.Env → R Out := fSeq (C_fewest_s2 f_step) (C_fewest_t3 f_step)
def C_fewest_t1 (f_step : List D → R D) : DL.Env → R Out := fSeq (C_fewest_s1 f_step) (C_fewest_t2 f_step)
def C_fewest_t0 (f_step : List D → R D) : DL.Env → R Out := fSeq (C_fewest_s0 f_step) (C_fewest_t1 f_step)
def C_fewest (f_step : List D → R D) : List D → R D := fRun 12 (C_fewest_t0 f_step)
theorem cf_fewest (f_step : List D → R D) : FF_fewest C_look_task C_plain_sightings f_step = C_fewest f_step := by kernel_rfl
def C_best_lots_s0 (f_best_lots : List D → R D) : DL.Env → R Out := (relS [] (sOwn 1 (eLst [])))
def C_best_lots_s1b_s0 (f_best_lots : List D → R D) : DL.Env → R Out := (relS [6, 6] (sOwn 4 (fLc (i1 dItems (eSl (rdP 0) (pS (e2 (dBin .Add) (rdP 2) (kD (.int 1)))) pN)) (.one 6) (tstNot (t1 dTru (eB dAny [(fLc (i1 dItems (rdE 6)) (.one 7) (kT true) (e2 (bCmp .In) (rdP 7) (rdP 3)) [7])]))) (rdE 6) [6])))
def C_best_lots_s1b_s1 (f_best_lots : List D → R D) : DL.Env → R Out := (relS [3, 4] (sSet 5 (e2 (dBin .Add) (eLst [(rdE 3)]) (eC 1 f_best_lots [(rdE 4)]))))
def C_best_lots_s1b_s2 (f_best_lots : List D → R D) : DL.Env → R Out := (relS [5, 1] (sSet 1 (fIf (t2 (dCmp .Gt) (eB dLen [(rdP 5)]) (eB dLen [(rdP 1)])) (rdE 5) (rdE 1))))
def C_best_lots_s1b_t2 (f_best_lots : List D → R D) : DL.Env → R Out := fSeq (C_best_lots_s1b_s2 f_best_lots) sNil
def C_best_lots_s1b_t1 (f_best_lots : List D → R D) : DL.Env → R Out := fSeq (C_best_lots_s1b_s1 f_best_lots) (C_best_lots_s1b_t2 f_best_lots)
def C_best_lots_s1b_t0 (f_best_lots : List D → R D) : DL.Env → R Out := fSeq (C_best_lots_s1b_s0 f_best_lots) (C_best_lots_s1b_t1 f_best_lots)
def C_best_lots_s1 (f_best_lots : List D → R D) : DL.Env → R Out := (relS [0] (fFor (iB dEnum [(rdE 0)]) (.many [2, 3]) (C_best_lots_s1b_t0 f_best_lots)))
def C_best_lots_s2 (f_best_lots : List D → R D) : DL.Env → R Out := (relS [1] (sRet (rdE 1)))
def C_best_lots_t2 (f_best_lots : List D → R D) : DL.Env → R Out := fSeq (C_best_lots_s2 f_best_lots) sNil
def C_best_lots_t1 (f_best_lots : List D → R D) : DL.Env → R Out := fSeq (C_best_lots_s1 f_best_lots) (C_best_lots_t2 f_best_lots)
def C_best_lots_t0 (f_best_lots : List D → R D) : DL.Env → R Out := fSeq (C_best_lots_s0 f_best_lots) (C_best_lots_t1 f_best_lots)
def C_best_lots (f_best_lots : List D → R D) : List D → R D := fRun 8 (C_best_lots_t0 f_best_lots)
theorem cf_best_lots (f_best_lots : List D → R D) : FF_best_lots f_best_lots = C_best_lots f_best_lots := by kernel_rfl
def C_most_apart_s0 (f_best_lots : List D → R D) (f_chain_by : List D → R D) : DL.Env → R Out := (relS [0, 1, 2, 3, 4] (sExp (eC 5 C_look_asked [(rdE 0), (rdE 1), (rdE 2), (rdE 3), (rdE 4)])))
def C_most_apart_s1 (f_best_lots : List D → R D) (f_chain_by : List D → R D) : DL.Env → R Out := (relS [0, 1, 3, 0, 1, 3] (fPar [false, false] [5, 6] (eArgs [(eC 3 C_straight [(eC 1 C_plain_sightings [(rdE 0)]), (rdE 1), (rdE 3)]), (eC 3 C_others_of [(rdE 0), (rdE 1), (rdE 3)])])))
def C_most_apart_s2 (f_best_lots : List D → R D) (f_chain_by : List D → R D) : DL.Env → R Out := (relS [8, 6, 5, 1, 3, 6, 8, 1, 2, 3, 4] (sOwn 7 (fLc (i1 dItems (eC 1 C_lots_of [(rdE 6)])) (.one 8) (t1 dTru (eC 5 C_comes [(eC 5 C_rows_by [(rdE 5), (rdE 1), (rdE 3), (rdE 6), (rdE 8)]), (rdE 1), (rdE 2), (rdE 3), (rdE 4)])) (rdE 8) [8])))
def C_most_apart_s3 (f_best_lots : List D → R D) (f_chain_by : List D → R D) : DL.Env → R Out := (relS [5, 1, 3, 6, 8, 1, 2, 3, 7] (sRet (fLc (i1 dItems (eC 1 f_best_lots [(rdE 7)])) (.one 8) (kT true) (eC 4 f_chain_by [(eC 5 C_rows_by [(rdE 5), (rdE 1), (rdE 3), (rdE 6), (rdE 8)]), (rdE 1), (rdE 2), (rdE 3)]) [8])))
def C_most_apart_t3 (f_best_lots : List D → R D) (f_chain_by : List D → R D) : DL.Env → R Out := fSeq (C_most_apart_s3 f_best_lots f_chain_by) sNil
def C_most_apart_t2 (f_best_lots : List D → R D) (f_chain_by : List D → R D) : DL.Env → R Out := fSeq (C_most_apart_s2 f_best_lots f_chain_by) (C_most_apart_t3 f_best_lots f_chain_by)
def C_most_apart_t1 (f_best_lots : List D → R D) (f_chain_by : List D → R D) : DL.Env → R Out := fSeq (C_most_apart_s1 f_best_lots f_chain_by) (C_most_apart_t2 f_best_lots f_chain_by)
def C_most_apart_t0 (f_best_lots : List D → R D) (f_chain_by : List D → R D) : DL.Env → R Out := fSeq (C_most_apart_s0 f_best_lots f_chain_by) (C_most_apart_t1 f_best_lots f_chain_by)
def C_most_apart (f_best_lots : List D → R D) (f_chain_by : List D → R D) : List D → R D := fRun 9 (C_most_apart_t0 f_best_lots f_chain_by)
theorem cf_most_apart (f_best_lots : List D → R D) (f_chain_by : List D → R D) : FF_most_apart C_look_asked C_straight C_plain_sightings C_others_of C_comes C_rows_by C_lots_of f_best_lots f_chain_by = C_most_apart f_best_lots f_chain_by := by kernel_rfl
def C_ship_in_s0 (f_number_in : List D → R D) (f_cell_in : List D → R D) : DL.Env → R Out := (relS [] (fIfS (t2 (dCmp .Lt) (eB dLen [(rdP 0)]) (kD (.int 3))) (fSeq (sExc "NoText") sNil) sNil))
def C_ship_in_s1 (f_number_in : List D → R D) (f_cell_in : List D → R D) : DL.Env → R Out := (relS [1] (sRet (eTup [(e2 dIx (rdP 0) (kD (.int 0))), (eC 1 f_number_in [(e2 dIx (rdP 0) (kD (.int 1)))]), (eB dTuple [(fLc (i1 dItems (eSl (rdP 0) (pS (kD (.int 2))) pN)) (.one 1) (kT true) (eC 1 f_cell_in [(rdE 1)]) [1])])])))
def C_ship_in_t1 (f_number_in : List D → R D) (f_cell_in : List D → R D) : DL.Env → R Out := fSeq (C_ship_in_s1 f_number_in f_cell_in) sNil
def C_ship_in_t0 (f_number_in : List D → R D) (f_cell_in : List D → R D) : DL.Env → R Out := fSeq (C_ship_in_s0 f_number_in f_cell_in) (C_ship_in_t1 f_number_in f_cell_in)
def C_ship_in (f_number_in : List D → R D) (f_cell_in : List D → R D) : List D → R D := fRun 2 (C_ship_in_t0 f_number_in f_cell_in)
theorem cf_ship_in (f_number_in : List D → R D) (f_cell_in : List D → R D) : FF_ship_in f_number_in f_cell_in = C_ship_in f_number_in f_cell_in := by kernel_rfl
def C_mist_in_s0 (f_number_in : List D → R D) (f_cell_in : List D → R D) : DL.Env → R Out := (relS [] (fIfS (t2 (dCmp .NotEq) (eB dLen [(rdP 0)]) (kD (.int 5))) (fSeq (sExc "NoText") sNil) sNil))
def C_mist_in_s1 (f_number_in : List D → R D) (f_cell_in : List D → R D) : DL.Env → R Out := (relS [] (sRet (eTup [(eC 1 f_number_in [(e2 dIx (rdP 0) (kD (.int 0)))]), (eC 1 f_number_in [(e2 dIx (rdP 0) (kD (.int 1)))]), (eC 1 f_cell_in [(e2 dIx (rdP 0) (kD (.int 2)))]), (eC 1 f_cell_in [(e2 dIx (rdP 0) (kD (.int 3)))]), (eC 1 f_number_in [(e2 dIx (rdP 0) (kD (.int 4)))])])))
def C_mist_in_t1 (f_number_in : List D → R D) (f_cell_in : List D → R D) : DL.Env → R Out := fSeq (C_mist_in_s1 f_number_in f_cell_in) sNil
def C_mist_in_t0 (f_number_in : List D → R D) (f_cell_in : List D → R D) : DL.Env → R Out := fSeq (C_mist_in_s0 f_number_in f_cell_in) (C_mist_in_t1 f_number_in f_cell_in)
def C_mist_in (f_number_in : List D → R D) (f_cell_in : List D → R D) : List D → R D := fRun 1 (C_mist_in_t0 f_number_in f_cell_in)
theorem cf_mist_in (f_number_in : List D → R D) (f_cell_in : List D → R D) : FF_mist_in f_number_in f_cell_in = C_mist_in f_number_in f_cell_in := by kernel_rfl
def C_fleet_text_s0 (f_plain_text : List D → R D) : DL.Env → R Out := (relS [0] (sExp (eC 1 C_look_fleet [(rdE 0)])))
def C_fleet_text_s1 (f_plain_text : List D → R D) : DL.Env → R Out := (relS [0] (sRet (eC 1 f_plain_text [(rdE 0)])))
def C_fleet_text_t1 (f_plain_text : List D → R D) : DL.Env → R Out := fSeq (C_fleet_text_s1 f_plain_text) sNil
def C_fleet_text_t0 (f_plain_text : List D → R D) : DL.Env → R Out := fSeq (C_fleet_text_s0 f_plain_text) (C_fleet_text_t1 f_plain_text)
def C_fleet_text (f_plain_text : List D → R D) : List D → R D := fRun 1 (C_fleet_text_t0 f_plain_text)
theorem cf_fleet_text (f_plain_text : List D → R D) : FF_fleet_text C_look_fleet f_plain_text = C_fleet_text f_plain_text := by kernel_rfl
def C_look_sentence_s0 (f_deep : List D → R D) : DL.Env → R Out := (relS [0, 1] (fIfS (t2 (dCmp .Is) (eC 3 f_deep [(rdE 0), (rdE 1), (e2 (dBin .Sub) (kD (.int 4)) (rdP 2))]) (kD .none)) (fSeq (sExc "NoSentence") sNil) sNil))
def C_look_sentence_t0 (f_deep : List D → R D) : DL.Env → R Out := fSeq (C_look_sentence_s0 f_deep) sNil
def C_look_sentence (f_deep : List D → R D) : List D → R D := fRun 3 (C_look_sentence_t0 f_deep)
theorem cf_look_sentence (f_deep : List D → R D) : FF_look_sentence f_deep = C_look_sentence f_deep := by kernel_rfl
def C_look_knower_s0 (f_look_sentence : List D → R D) : DL.Env → R Out := (relS [0, 1, 2] (sExp (eC 3 C_look_worlds [(rdE 0), (rdE 1), (rdE 2)])))
def C_look_knower_s1 (f_look_sentence : List D → R D) : DL.Env → R Out := (relS [0, 3] (sExp (eC 2 C_look_ship [(rdE 0), (rdE 3)])))
def C_look_knower_s2 (f_look_sentence : List D → R D) : DL.Env → R Out := (relS [4] (sExp (eC 2 C_look_hour [(rdE 4), (e2 (dBin .Add) (e2 dIx (rdP 0) (kD (.int 0))) (kD (.int 1)))])))
def C_look_knower_s3 (f_look_sentence : List D → R D) : DL.Env → R Out := (relS [0, 5] (sExp (eC 3 f_look_sentence [(rdE 0), (rdE 5), (kD (.int 0))])))
def C_look_knower_t3 (f_look_sentence : List D → R D) : DL.Env → R Out := fSeq (C_look_knower_s3 f_look_sentence) sNil
def C_look_knower_t2 (f_look_sentence : List D → R D) : DL.Env → R Out := fSeq (C_look_knower_s2 f_look_sentence) (C_look_knower_t3 f_look_sentence)
def C_look_knower_t1 (f_look_sentence : List D → R D) : DL.Env → R Out := fSeq (C_look_knower_s1 f_look_sentence) (C_look_knower_t2 f_look_sentence)
def C_look_knower_t0 (f_look_sentence : List D → R D) : DL.Env → R Out := fSeq (C_look_knower_s0 f_look_sentence) (C_look_knower_t1 f_look_sentence)
def C_look_knower (f_look_sentence : List D → R D) : List D → R D := fRun 6 (C_look_knower_t0 f_look_sentence)
theorem cf_look_knower (f_look_sentence : List D → R D) : FF_look_knower C_look_worlds C_look_ship C_look_hour f_look_sentence = C_look_knower f_look_sentence := by kernel_rfl
def C_look_doubters_s0 (f_look_sentence : List D → R D) : DL.Env → R Out := (relS [0, 1, 2] (sExp (eC 3 C_look_worlds [(rdE 0), (rdE 1), (rdE 2)])))
def C_look_doubters_s1 (f_look_sentence : List D → R D) : DL.Env → R Out := (relS [0, 3] (sExp (eC 2 C_look_names [(rdE 0), (rdE 3)])))
def C_look_doubters_s2 (f_look_sentence : List D → R D) : DL.Env → R Out := (relS [4] (sExp (eC 2 C_look_hour [(rdE 4), (e2 (dBin .Add) (e2 dIx (rdP 0) (kD (.int 0))) (kD (.int 1)))])))
def C_look_doubters_s3 (f_look_sentence : List D → R D) : DL.Env → R Out := (relS [0, 5] (sExp (eC 3 f_look_sentence [(rdE 0), (rdE 5), (kD (.int 0))])))
def C_look_doubters_t3 (f_look_sentence : List D → R D) : DL.Env → R Out := fSeq (C_look_doubters_s3 f_look_sentence) sNil
def C_look_doubters_t2 (f_look_sentence : List D → R D) : DL.Env → R Out := fSeq (C_look_doubters_s2 f_look_sentence) (C_look_doubters_t3 f_look_sentence)
def C_look_doubters_t1 (f_look_sentence : List D → R D) : DL.Env → R Out := fSeq (C_look_doubters_s1 f_look_sentence) (C_look_doubters_t2 f_look_sentence)
def C_look_doubters_t0 (f_look_sentence : List D → R D) : DL.Env → R Out := fSeq (C_look_doubters_s0 f_look_sentence) (C_look_doubters_t1 f_look_sentence)
def C_look_doubters (f_look_sentence : List D → R D) : List D → R D := fRun 6 (C_look_doubters_t0 f_look_sentence)
theorem cf_look_doubters (f_look_sentence : List D → R D) : FF_look_doubters C_look_worlds C_look_names C_look_hour f_look_sentence = C_look_doubters f_look_sentence := by kernel_rfl
def C_is_plain_s0 (f_is_plain : List D → R D) : DL.Env → R Out := (relS [] (fIfS (t2 (dCmp .Eq) (e2 dIx (rdP 0) (kD (.int 0))) (kD (.str "by"))) (fSeq (relS [] (sRet (kD (.bool true)))) sNil) sNil))
def C_is_plain_s1 (f_is_plain : List D → R D) : DL.Env → R Out := (relS [1] (sRet (fAnd (e2 (bCmp .In) (e2 dIx (rdP 0) (kD (.int 0))) (eTup [(kD (.str "not")), (kD (.str "and"))])) (eB dAll [(fLc (i1 dItems (eSl (rdP 0) (pS (kD (.int 1))) pN)) (.one 1) (kT true) (eC 1 f_is_plain [(rdE 1)]) [1])]))))
def C_is_plain_t1 (f_is_plain : List D → R D) : DL.Env → R Out := fSeq (C_is_plain_s1 f_is_plain) sNil
def C_is_plain_t0 (f_is_plain : List D → R D) : DL.Env → R Out := fSeq (C_is_plain_s0 f_is_plain) (C_is_plain_t1 f_is_plain)
def C_is_plain (f_is_plain : List D → R D) : List D → R D := fRun 2 (C_is_plain_t0 f_is_plain)
theorem cf_is_plain (f_is_plain : List D → R D) : FF_is_plain f_is_plain = C_is_plain f_is_plain := by kernel_rfl
def C_is_so_s0 (f_is_so : List D → R D) : DL.Env → R Out := (relS [] (fIfS (t2 (dCmp .Eq) (e2 dIx (rdP 2) (kD (.int 0))) (kD (.str "by"))) (fSeq (relS [] (sRet (e2 (bCmp .LtE) (e2 dIx (rdP 1) (fMeth dIndex (rdP 0) (e2 dIx (rdP 2) (kD (.int 1))))) (e2 dIx (rdP 2) (kD (.int 2)))))) sNil) sNil))
def C_is_so_s1 (f_is_so : List D → R D) : DL.Env → R Out := (relS [] (fIfS (t2 (dCmp .Eq) (e2 dIx (rdP 2) (kD (.int 0))) (kD (.str "not"))) (fSeq (relS [0, 1] (sRet (e1 dNot (eC 3 f_is_so [(rdE 0), (rdE 1), (e2 dIx (rdP 2) (kD (.int 1)))])))) sNil) sNil))
def C_is_so_s2 (f_is_so : List D → R D) : DL.Env → R Out := (relS [0, 1, 0, 1] (sRet (fAnd (eC 3 f_is_so [(rdE 0), (rdE 1), (e2 dIx (rdP 2) (kD (.int 1)))]) (eC 3 f_is_so [(rdE 0), (rdE 1), (e2 dIx (rdP 2) (kD (.int 2)))]))))
def C_is_so_t2 (f_is_so : List D → R D) : DL.Env → R Out := fSeq (C_is_so_s2 f_is_so) sNil
def C_is_so_t1 (f_is_so : List D → R D) : DL.Env → R Out := fSeq (C_is_so_s1 f_is_so) (C_is_so_t2 f_is_so)
def C_is_so_t0 (f_is_so : List D → R D) : DL.Env → R Out := fSeq (C_is_so_s0 f_is_so) (C_is_so_t1 f_is_so)
def C_is_so (f_is_so : List D → R D) : List D → R D := fRun 3 (C_is_so_t0 f_is_so)
theorem cf_is_so (f_is_so : List D → R D) : FF_is_so f_is_so = C_is_so f_is_so := by kernel_rfl
def C_look_plain_s0 (f_look_sentence : List D → R D) (f_is_plain : List D → R D) : DL.Env → R Out := (relS [0, 1, 2] (sExp (eC 3 C_look_worlds [(rdE 0), (rdE 1), (rdE 2)])))
def C_look_plain_s1 (f_look_sentence : List D → R D) (f_is_plain : List D → R D) : DL.Env → R Out := (relS [0, 3] (sExp (eC 2 C_look_ship [(rdE 0), (rdE 3)])))
def C_look_plain_s2 (f_look_sentence : List D → R D) (f_is_plain : List D → R D) : DL.Env → R Out := (relS [4] (sExp (eC 2 C_look_hour [(rdE 4), (e2 (dBin .Add) (e2 dIx (rdP 0) (kD (.int 0))) (kD (.int 1)))])))
def C_look_plain_s3 (f_look_sentence : List D → R D) (f_is_plain : List D → R D) : DL.Env → R Out := (relS [0, 5] (sExp (eC 3 f_look_sentence [(rdE 0), (rdE 5), (kD (.int 0))])))
def C_look_plain_s4 (f_look_sentence : List D → R D) (f_is_plain : List D → R D) : DL.Env → R Out := (relS [5] (fIfS (tstNot (t1 dTru (eC 1 f_is_plain [(rdE 5)]))) (fSeq (sExc "NoSentence") sNil) sNil))
def C_look_plain_t4 (f_look_sentence : List D → R D) (f_is_plain : List D → R D) : DL.Env → R Out := fSeq (C_look_plain_s4 f_look_sentence f_is_plain) sNil
def C_look_plain_t3 (f_look_sentence : List D → R D) (f_is_plain : List D → R D) : DL.Env → R Out := fSeq (C_look_plain_s3 f_look_sentence f_is_plain) (C_look_plain_t4 f_look_sentence f_is_plain)
def C_look_plain_t2 (f_look_sentence : List D → R D) (f_is_plain : List D → R D) : DL.Env → R Out := fSeq (C_look_plain_s2 f_look_sentence f_is_plain) (C_look_plain_t3 f_look_sentence f_is_plain)
def C_look_plain_t1 (f_look_sentence : List D → R D) (f_is_plain : List D → R D) : DL.Env → R Out := fSeq (C_look_plain_s1 f_look_sentence f_is_plain) (C_look_plain_t2 f_look_sentence f_is_plain)
def C_look_plain_t0 (f_look_sentence : List D → R D) (f_is_plain : List D → R D) : DL.Env → R Out := fSeq (C_look_plain_s0 f_look_sentence f_is_plain) (C_look_plain_t1 f_look_sentence f_is_plain)
def C_look_plain (f_look_sentence : List D → R D) (f_is_plain : List D → R D) : List D → R D := fRun 6 (C_look_plain_t0 f_look_sentence f_is_plain)
theorem cf_look_plain (f_look_sentence : List D → R D) (f_is_plain : List D → R D) : FF_look_plain C_look_worlds C_look_ship C_look_hour f_look_sentence f_is_plain = C_look_plain f_look_sentence f_is_plain := by kernel_rfl
def C_does_know_s0 (f_is_so : List D → R D) : DL.Env → R Out := (relS [0, 0, 3, 4, 6] (fPar [false, false] [7, 8] (eArgs [(eC 1 C_plain_names [(rdE 0)]), (eC 4 C_tills_by [(rdE 0), (rdE 3), (rdE 4), (rdE 6)])])))
def C_does_know_s1 (f_is_so : List D → R D) : DL.Env → R Out := (relS [7, 8, 2] (sSet 9 (eC 3 C_read_in [(rdE 7), (rdE 8), (rdE 2)])))
def C_does_know_s2 (f_is_so : List D → R D) : DL.Env → R Out := (relS [11, 1, 7, 8, 11] (sOwn 10 (fLc (i1 dItems (rdE 1)) (.one 11) (t2 (dCmp .Eq) (eC 3 C_read_in [(rdE 7), (rdE 8), (rdE 11)]) (rdP 9)) (rdE 11) [11])))
def C_does_know_s3 (f_is_so : List D → R D) : DL.Env → R Out := (relS [7, 11, 5, 10] (sRet (eB dAll [(fLc (i1 dItems (rdE 10)) (.one 11) (kT true) (eC 3 f_is_so [(rdE 7), (rdE 11), (rdE 5)]) [11])])))
def C_does_know_t3 (f_is_so : List D → R D) : DL.Env → R Out := fSeq (C_does_know_s3 f_is_so) sNil
def C_does_know_t2 (f_is_so : List D → R D) : DL.Env → R Out := fSeq (C_does_know_s2 f_is_so) (C_does_know_t3 f_is_so)
def C_does_know_t1 (f_is_so : List D → R D) : DL.Env → R Out := fSeq (C_does_know_s1 f_is_so) (C_does_know_t2 f_is_so)
def C_does_know_t0 (f_is_so : List D → R D) : DL.Env → R Out := fSeq (C_does_know_s0 f_is_so) (C_does_know_t1 f_is_so)
def C_does_know (f_is_so : List D → R D) : List D → R D := fRun 12 (C_does_know_t0 f_is_so)
theorem cf_does_know (f_is_so : List D → R D) : FF_does_know C_plain_names C_tills_by C_read_in f_is_so = C_does_know f_is_so := by kernel_rfl
def C_knows_by_s0 (f_look_plain : List D → R D) (f_does_know : List D → R D) : DL.Env → R Out := (relS [0, 1, 2, 3, 4, 5] (sExp (eC 6 f_look_plain [(rdE 0), (rdE 1), (rdE 2), (rdE 3), (rdE 4), (rdE 5)])))
def C_knows_by_s1 (f_look_plain : List D → R D) (f_does_know : List D → R D) : DL.Env → R Out := (relS [0, 6] (sExp (eC 2 C_look_showings [(rdE 0), (rdE 6)])))
def C_knows_by_s2 (f_look_plain : List D → R D) (f_does_know : List D → R D) : DL.Env → R Out := (relS [0, 1, 2, 3, 4, 5, 6] (sRet (eC 7 f_does_know [(rdE 0), (rdE 1), (rdE 2), (rdE 3), (rdE 4), (rdE 5), (rdE 6)])))
def C_knows_by_t2 (f_look_plain : List D → R D) (f_does_know : List D → R D) : DL.Env → R Out := fSeq (C_knows_by_s2 f_look_plain f_does_know) sNil
def C_knows_by_t1 (f_look_plain : List D → R D) (f_does_know : List D → R D) : DL.Env → R Out := fSeq (C_knows_by_s1 f_look_plain f_does_know) (C_knows_by_t2 f_look_plain f_does_know)
def C_knows_by_t0 (f_look_plain : List D → R D) (f_does_know : List D → R D) : DL.Env → R Out := fSeq (C_knows_by_s0 f_look_plain f_does_know) (C_knows_by_t1 f_look_plain f_does_know)
def C_knows_by (f_look_plain : List D → R D) (f_does_know : List D → R D) : List D → R D := fRun 7 (C_knows_by_t0 f_look_plain f_does_know)
theorem cf_knows_by (f_look_plain : List D → R D) (f_does_know : List D → R D) : FF_knows_by f_look_plain C_look_showings f_does_know = C_knows_by f_look_plain f_does_know := by kernel_rfl
def C_lots_of_size_s0 (f_lots_of_size : List D → R D) : DL.Env → R Out := (relS [] (fIfS (t2 (dCmp .Eq) (rdP 1) (kD (.int 0))) (fSeq (relS [] (sRet (eLst [(eLst [])]))) sNil) sNil))
def C_lots_of_size_s1 (f_lots_of_size : List D → R D) : DL.Env → R Out := (relS [] (sOwn 2 (eLst [])))
def C_lots_of_size_s2b_s0 (f_lots_of_size : List D → R D) : DL.Env → R Out := (relS [4] (fExt 2 (fLc (i1 dItems (eC 2 f_lots_of_size [(eSl (rdP 0) (pS (e2 (dBin .Add) (rdP 3) (kD (.int 1)))) pN), (e2 (dBin .Sub) (rdP 1) (kD (.int 1)))])) (.one 5) (kT true) (e2 (dBin .Add) (eLst [(rdE 4)]) (rdP 5)) [5])))
def C_lots_of_size_s2b_t0 (f_lots_of_size : List D → R D) : DL.Env → R Out := fSeq (C_lots_of_size_s2b_s0 f_lots_of_size) sNil
def C_lots_of_size_s2 (f_lots_of_size : List D → R D) : DL.Env → R Out := (relS [0] (fFor (iB dEnum [(rdE 0)]) (.many [3, 4]) (C_lots_of_size_s2b_t0 f_lots_of_size)))
def C_lots_of_size_s3 (f_lots_of_size : List D → R D) : DL.Env → R Out := (relS [2] (sRet (rdE 2)))
def C_lots_of_size_t3 (f_lots_of_size : List D → R D) : DL.Env → R Out := fSeq (C_lots_of_size_s3 f_lots_of_size) sNil
def C_lots_of_size_t2 (f_lots_of_size : List D → R D) : DL.Env → R Out := fSeq (C_lots_of_size_s2 f_lots_of_size) (C_lots_of_size_t3 f_lots_of_size)
def C_lots_of_size_t1 (f_lots_of_size : List D → R D) : DL.Env → R Out := fSeq (C_lots_of_size_s1 f_lots_of_size) (C_lots_of_size_t2 f_lots_of_size)
def C_lots_of_size_t0 (f_lots_of_size : List D → R D) : DL.Env → R Out := fSeq (C_lots_of_size_s0 f_lots_of_size) (C_lots_of_size_t1 f_lots_of_size)
def C_lots_of_size (f_lots_of_size : List D → R D) : List D → R D := fRun 6 (C_lots_of_size_t0 f_lots_of_size)
theorem cf_lots_of_size (f_lots_of_size : List D → R D) : FF_lots_of_size f_lots_of_size = C_lots_of_size f_lots_of_size := by kernel_rfl
def C_are_enough_s0 (f_look_plain : List D → R D) (f_does_know : List D → R D) : DL.Env → R Out := (relS [0, 1, 2, 3, 4, 5] (sExp (eC 6 f_look_plain [(rdE 0), (rdE 1), (rdE 2), (rdE 3), (rdE 4), (rdE 5)])))
def C_are_enough_s1 (f_look_plain : List D → R D) (f_does_know : List D → R D) : DL.Env → R Out := (relS [0, 6, 0, 1, 2, 3, 4, 5, 6] (sRet (fAnd (eC 2 C_is_showings [(rdE 0), (rdE 6)]) (eC 7 f_does_know [(rdE 0), (rdE 1), (rdE 2), (rdE 3), (rdE 4), (rdE 5), (rdE 6)]))))
def C_are_enough_t1 (f_look_plain : List D → R D) (f_does_know : List D → R D) : DL.Env → R Out := fSeq (C_are_enough_s1 f_look_plain f_does_know) sNil
def C_are_enough_t0 (f_look_plain : List D → R D) (f_does_know : List D → R D) : DL.Env → R Out := fSeq (C_are_enough_s0 f_look_plain f_does_know) (C_are_enough_t1 f_look_plain f_does_know)
def C_are_enough (f_look_plain : List D → R D) (f_does_know : List D → R D) : List D → R D := fRun 7 (C_are_enough_t0 f_look_plain f_does_know)
theorem cf_are_enough (f_look_plain : List D → R D) (f_does_know : List D → R D) : FF_are_enough f_look_plain C_is_showings f_does_know = C_are_enough f_look_plain f_does_know := by kernel_rfl
def C_all_chains_s0 (f_chains_of : List D → R D) : DL.Env → R Out := (relS [0, 1, 2, 3, 4] (sExp (eC 5 C_look_asked [(rdE 0), (rdE 1), (rdE 2), (rdE 3), (rdE 4)])))
def C_all_chains_s1 (f_chains_of : List D → R D) : DL.Env → R Out := (relS [0, 1, 2, 3, 4] (sRet (eC 5 f_chains_of [(rdE 0), (rdE 1), (rdE 2), (rdE 3), (rdE 4)])))
def C_all_chains_t1 (f_chains_of : List D → R D) : DL.Env → R Out := fSeq (C_all_chains_s1 f_chains_of) sNil
def C_all_chains_t0 (f_chains_of : List D → R D) : DL.Env → R Out := fSeq (C_all_chains_s0 f_chains_of) (C_all_chains_t1 f_chains_of)
def C_all_chains (f_chains_of : List D → R D) : List D → R D := fRun 5 (C_all_chains_t0 f_chains_of)
theorem cf_all_chains (f_chains_of : List D → R D) : FF_all_chains C_look_asked f_chains_of = C_all_chains f_chains_of := by kernel_rfl
def C_look_readings_s0 (f_chains_of : List D → R D) (f_are_readings : List D → R D) : DL.Env → R Out := (relS [0, 1, 2, 3, 4] (sExp (eC 5 C_look_asked [(rdE 0), (rdE 1), (rdE 2), (rdE 3), (rdE 4)])))
def C_look_readings_s1 (f_chains_of : List D → R D) (f_are_readings : List D → R D) : DL.Env → R Out := (relS [0, 1, 2, 3, 4] (sSet 7 (eC 5 f_chains_of [(rdE 0), (rdE 1), (rdE 2), (rdE 3), (rdE 4)])))
def C_look_readings_s2 (f_chains_of : List D → R D) (f_are_readings : List D → R D) : DL.Env → R Out := (relS [7, 5] (fIfS (tstNot (t1 dTru (eC 2 f_are_readings [(rdE 7), (rdE 5)]))) (fSeq (sExc "NoReadings") sNil) sNil))
def C_look_readings_s3 (f_chains_of : List D → R D) (f_are_readings : List D → R D) : DL.Env → R Out := (relS [6] (fIfS (tstNot (t1 dTru (eC 3 C_is_whole [(rdE 6), (kD (.int 0)), (kD (.int 3))]))) (fSeq (sExc "NoNumber") sNil) sNil))
def C_look_readings_s4 (f_chains_of : List D → R D) (f_are_readings : List D → R D) : DL.Env → R Out := (relS [7] (sRet (rdE 7)))
def C_look_readings_t4 (f_chains_of : List D → R D) (f_are_readings : List D → R D) : DL.Env → R Out := fSeq (C_look_readings_s4 f_chains_of f_are_readings) sNil
def C_look_readings_t3 (f_chains_of : List D → R D) (f_are_readings : List D → R D) : DL.Env → R Out := fSeq (C_look_readings_s3 f_chains_of f_are_readings) (C_look_readings_t4 f_chains_of f_are_readings)
def C_look_readings_t2 (f_chains_of : List D → R D) (f_are_readings : List D → R D) : DL.Env → R Out := fSeq (C_look_readings_s2 f_chains_of f_are_readings) (C_look_readings_t3 f_chains_of f_are_readings)
def C_look_readings_t1 (f_chains_of : List D → R D) (f_are_readings : List D → R D) : DL.Env → R Out := fSeq (C_look_readings_s1 f_chains_of f_are_readings) (C_look_readings_t2 f_chains_of f_are_readings)
def C_look_readings_t0 (f_chains_of : List D → R D) (f_are_readings : List D → R D) : DL.Env → R Out := fSeq (C_look_readings_s0 f_chains_of f_are_readings) (C_look_readings_t1 f_chains_of f_are_readings)
def C_look_readings (f_chains_of : List D → R D) (f_are_readings : List D → R D) : List D → R D := fRun 8 (C_look_readings_t0 f_chains_of f_are_readings)
theorem cf_look_readings (f_chains_of : List D → R D) (f_are_readings : List D → R D) : FF_look_readings C_look_asked f_chains_of f_are_readings C_is_whole = C_look_readings f_chains_of f_are_readings := by kernel_rfl
def C_is_tale_s0 (f_look_readings : List D → R D) (f_values_of : List D → R D) : DL.Env → R Out := (relS [0, 1, 2, 3, 4, 5, 6] (sSet 8 (eC 7 f_look_readings [(rdE 0), (rdE 1), (rdE 2), (rdE 3), (rdE 4), (rdE 5), (rdE 6)])))
def C_is_tale_s1 (f_look_readings : List D → R D) (f_values_of : List D → R D) : DL.Env → R Out := (relS [0, 1, 3, 6] (fIfS (tstOr (tstNot (t1 dTru (e1 (dIsi "tuple") (rdP 7)))) (tstOr (t2 (dCmp .NotEq) (eB dLen [(rdP 7)]) (kD (.int 2))) (tstNot (t1 dTru (eC 3 C_are_false [(eC 3 C_others_of [(rdE 0), (rdE 1), (rdE 3)]), (e2 dIx (rdP 7) (kD (.int 1))), (rdE 6)]))))) (fSeq (relS [] (sRet (kD (.bool false)))) sNil) sNil))
def C_is_tale_s2 (f_look_readings : List D → R D) (f_values_of : List D → R D) : DL.Env → R Out := (relS [5] (fIfS (tstAnd (t2 (dCmp .IsNot) (e2 dIx (rdP 7) (kD (.int 0))) (kD .none)) (tstOr (tstNot (t1 dTru (eC 1 C_is_name [(e2 dIx (rdP 7) (kD (.int 0)))]))) (t2 (dCmp .NotIn) (e2 dIx (rdP 7) (kD (.int 0))) (eC 1 f_values_of [(rdE 5)])))) (fSeq (relS [] (sRet (kD (.bool false)))) sNil) sNil))
def C_is_tale_s3 (f_look_readings : List D → R D) (f_values_of : List D → R D) : DL.Env → R Out := (relS [8, 5] (sRet (eC 4 C_fits [(rdE 8), (rdE 5), (e2 dIx (rdP 7) (kD (.int 0))), (e2 dIx (rdP 7) (kD (.int 1)))])))
def C_is_tale_t3 (f_look_readings : List D → R D) (f_values_of : List D → R D) : DL.Env → R Out := fSeq (C_is_tale_s3 f_look_readings f_values_of) sNil
def C_is_tale_t2 (f_look_readings : List D → R D) (f_values_of : List D → R D) : DL.Env → R Out := fSeq (C_is_tale_s2 f_look_readings f_values_of) (C_is_tale_t3 f_look_readings f_values_of)
def C_is_tale_t1 (f_look_readings : List D → R D) (f_values_of : List D → R D) : DL.Env → R Out := fSeq (C_is_tale_s1 f_look_readings f_values_of) (C_is_tale_t2 f_look_readings f_values_of)
def C_is_tale_t0 (f_look_readings : List D → R D) (f_values_of : List D → R D) : DL.Env → R Out := fSeq (C_is_tale_s0 f_look_readings f_values_of) (C_is_tale_t1 f_look_readings f_values_of)
def C_is_tale (f_look_readings : List D → R D) (f_values_of : List D → R D) : List D → R D := fRun 9 (C_is_tale_t0 f_look_readings f_values_of)
theorem cf_is_tale (f_look_readings : List D → R D) (f_values_of : List D → R D) : FF_is_tale f_look_readings C_are_false C_others_of C_is_name f_values_of C_fits = C_is_tale f_look_readings f_values_of := by kernel_rfl
def C_tales_s0 (f_look_readings : List D → R D) (f_values_of : List D → R D) : DL.Env → R Out := (relS [0, 1, 2, 3, 4, 5, 6] (sSet 7 (eC 7 f_look_readings [(rdE 0), (rdE 1), (rdE 2), (rdE 3), (rdE 4), (rdE 5), (rdE 6)])))
def C_tales_s1 (f_look_readings : List D → R D) (f_values_of : List D → R D) : DL.Env → R Out := (relS [11, 0, 1, 3] (sOwn 8 (eB dSorted [(fLc (i1 dItems (eC 1 C_lots_of [(eC 3 C_others_of [(rdE 0), (rdE 1), (rdE 3)])])) (.one 11) (t2 (dCmp .LtE) (eB dLen [(rdP 11)]) (rdP 6)) (rdE 11) [11])])))
def C_tales_s2 (f_look_readings : List D → R D) (f_values_of : List D → R D) : DL.Env → R Out := (relS [] (sOwn 9 (eLst [])))
def C_tales_s3b_s0 (f_look_readings : List D → R D) (f_values_of : List D → R D) : DL.Env → R Out := (relS [10, 11, 8, 7, 5, 10, 11] (fExt 9 (fLc (i1 dItems (rdE 8)) (.one 11) (t1 dTru (eC 4 C_fits [(rdE 7), (rdE 5), (rdE 10), (rdE 11)])) (eTup [(rdE 10), (rdE 11)]) [11])))
def C_tales_s3b_t0 (f_look_readings : List D → R D) (f_values_of : List D → R D) : DL.Env → R Out := fSeq (C_tales_s3b_s0 f_look_readings f_values_of) sNil
def C_tales_s3 (f_look_readings : List D → R D) (f_values_of : List D → R D) : DL.Env → R Out := (relS [5] (fFor (i1 dItems (e2 (dBin .Add) (eLst [(kD .none)]) (eC 1 f_values_of [(rdE 5)]))) (.one 10) (C_tales_s3b_t0 f_look_readings f_values_of)))
def C_tales_s4 (f_look_readings : List D → R D) (f_values_of : List D → R D) : DL.Env → R Out := (relS [9] (sRet (rdE 9)))
def C_tales_t4 (f_look_readings : List D → R D) (f_values_of : List D → R D) : DL.Env → R Out := fSeq (C_tales_s4 f_look_readings f_values_of) sNil
def C_tales_t3 (f_look_readings : List D → R D) (f_values_of : List D → R D) : DL.Env → R Out := fSeq (C_tales_s3 f_look_readings f_values_of) (C_tales_t4 f_look_readings f_values_of)
def C_tales_t2 (f_look_readings : List D → R D) (f_values_of : List D → R D) : DL.Env → R Out := fSeq (C_tales_s2 f_look_readings f_values_of) (C_tales_t3 f_look_readings f_values_of)
def C_tales_t1 (f_look_readings : List D → R D) (f_values_of : List D → R D) : DL.Env → R Out := fSeq (C_tales_s1 f_look_readings f_values_of) (C_tales_t2 f_look_readings f_values_of)
def C_tales_t0 (f_look_readings : List D → R D) (f_values_of : List D → R D) : DL.Env → R Out := fSeq (C_tales_s0 f_look_readings f_values_of) (C_tales_t1 f_look_readings f_values_of)
def C_tales (f_look_readings : List D → R D) (f_values_of : List D → R D) : List D → R D := fRun 12 (C_tales_t0 f_look_readings f_values_of)
theorem cf_tales (f_look_readings : List D → R D) (f_values_of : List D → R D) : FF_tales f_look_readings C_lots_of C_others_of f_values_of C_fits = C_tales f_look_readings f_values_of := by kernel_rfl
def C_stands_s0 (f_tales : List D → R D) : DL.Env → R Out := (relS [0, 1, 2, 3, 4, 5, 6] (sSet 7 (eC 7 f_tales [(rdE 0), (rdE 1), (rdE 2), (rdE 3), (rdE 4), (rdE 5), (rdE 6)])))
def C_stands_s1 (f_tales : List D → R D) : DL.Env → R Out := (relS [9, 7] (sOwn 8 (fLc (i1 dItems (rdE 7)) (.many [9, 10]) (kT true) (rdE 9) [9, 10])))
def C_stands_s2 (f_tales : List D → R D) : DL.Env → R Out := (relS [] (sRet (fIf (tstAnd (t2 (dCmp .NotEq) (rdP 8) (eLst [])) (tstAnd (t2 (dCmp .IsNot) (e2 dIx (rdP 8) (kD (.int 0))) (kD .none)) (t2 (dCmp .Eq) (e2 dIx (rdP 8) (e1 dNeg (kD (.int 1)))) (e2 dIx (rdP 8) (kD (.int 0)))))) (e2 dIx (rdP 8) (kD (.int 0))) (kD .none))))
def C_stands_t2 (f_tales : List D → R D) : DL.Env → R Out := fSeq (C_stands_s2 f_tales) sNil
def C_stands_t1 (f_tales : List D → R D) : DL.Env → R Out := fSeq (C_stands_s1 f_tales) (C_stands_t2 f_tales)
def C_stands_t0 (f_tales : List D → R D) : DL.Env → R Out := fSeq (C_stands_s0 f_tales) (C_stands_t1 f_tales)
def C_stands (f_tales : List D → R D) : List D → R D := fRun 11 (C_stands_t0 f_tales)
theorem cf_stands (f_tales : List D → R D) : FF_stands f_tales = C_stands f_tales := by kernel_rfl
def C_surely_false_s0 (f_tales : List D → R D) : DL.Env → R Out := (relS [0, 1, 2, 3, 4, 5, 6] (sSet 7 (eC 7 f_tales [(rdE 0), (rdE 1), (rdE 2), (rdE 3), (rdE 4), (rdE 5), (rdE 6)])))
def C_surely_false_s1 (f_tales : List D → R D) : DL.Env → R Out := (relS [0, 1, 3] (sSet 8 (eC 3 C_others_of [(rdE 0), (rdE 1), (rdE 3)])))
def C_surely_false_s2 (f_tales : List D → R D) : DL.Env → R Out := (relS [9, 8, 7] (sRet (fIf (t2 (dCmp .NotEq) (rdP 7) (eLst [])) (fLc (i1 dItems (rdE 8)) (.one 9) (t1 dTru (eB dAll [(fLc (i1 dItems (rdE 7)) (.many [10, 11]) (kT true) (e2 (bCmp .In) (rdP 9) (rdP 11)) [10, 11])])) (rdE 9) [9]) (kD .none))))
def C_surely_false_t2 (f_tales : List D → R D) : DL.Env → R Out := fSeq (C_surely_false_s2 f_tales) sNil
def C_surely_false_t1 (f_tales : List D → R D) : DL.Env → R Out := fSeq (C_surely_false_s1 f_tales) (C_surely_false_t2 f_tales)
def C_surely_false_t0 (f_tales : List D → R D) : DL.Env → R Out := fSeq (C_surely_false_s0 f_tales) (C_surely_false_t1 f_tales)
def C_surely_false (f_tales : List D → R D) : List D → R D := fRun 12 (C_surely_false_t0 f_tales)
theorem cf_surely_false (f_tales : List D → R D) : FF_surely_false f_tales C_others_of = C_surely_false f_tales := by kernel_rfl
def C_perhaps_false_s0 (f_tales : List D → R D) : DL.Env → R Out := (relS [0, 1, 2, 3, 4, 5, 6] (sSet 7 (eC 7 f_tales [(rdE 0), (rdE 1), (rdE 2), (rdE 3), (rdE 4), (rdE 5), (rdE 6)])))
def C_perhaps_false_s1 (f_tales : List D → R D) : DL.Env → R Out := (relS [0, 1, 3] (sSet 8 (eC 3 C_others_of [(rdE 0), (rdE 1), (rdE 3)])))
def C_perhaps_false_s2 (f_tales : List D → R D) : DL.Env → R Out := (relS [9, 8, 7] (sRet (fIf (t2 (dCmp .NotEq) (rdP 7) (eLst [])) (fLc (i1 dItems (rdE 8)) (.one 9) (t1 dTru (eB dAny [(fLc (i1 dItems (rdE 7)) (.many [10, 11]) (kT true) (e2 (bCmp .In) (rdP 9) (rdP 11)) [10, 11])])) (rdE 9) [9]) (kD .none))))
def C_perhaps_false_t2 (f_tales : List D → R D) : DL.Env → R Out := fSeq (C_perhaps_false_s2 f_tales) sNil
def C_perhaps_false_t1 (f_tales : List D → R D) : DL.Env → R Out := fSeq (C_perhaps_false_s1 f_tales) (C_perhaps_false_t2 f_tales)
def C_perhaps_false_t0 (f_tales : List D → R D) : DL.Env → R Out := fSeq (C_perhaps_false_s0 f_tales) (C_perhaps_false_t1 f_tales)
def C_perhaps_false (f_tales : List D → R D) : List D → R D := fRun 12 (C_perhaps_false_t0 f_tales)
theorem cf_perhaps_false (f_tales : List D → R D) : FF_perhaps_false f_tales C_others_of = C_perhaps_false f_tales := by kernel_rfl
def C_look_most_s0 (f_chains_of : List D → R D) : DL.Env → R Out := (relS [0, 1, 2, 3, 4] (sExp (eC 5 C_look_asked [(rdE 0), (rdE 1), (rdE 2), (rdE 3), (rdE 4)])))
def C_look_most_s1 (f_chains_of : List D → R D) : DL.Env → R Out := (relS [0, 1, 2, 3, 4] (sSet 6 (eC 5 f_chains_of [(rdE 0), (rdE 1), (rdE 2), (rdE 3), (rdE 4)])))
def C_look_most_s2 (f_chains_of : List D → R D) : DL.Env → R Out := (relS [5] (fIfS (tstNot (t1 dTru (eC 3 C_is_whole [(rdE 5), (kD (.int 0)), (kD (.int 3))]))) (fSeq (sExc "NoNumber") sNil) sNil))
def C_look_most_s3 (f_chains_of : List D → R D) : DL.Env → R Out := (relS [6] (sRet (rdE 6)))
def C_look_most_t3 (f_chains_of : List D → R D) : DL.Env → R Out := fSeq (C_look_most_s3 f_chains_of) sNil
def C_look_most_t2 (f_chains_of : List D → R D) : DL.Env → R Out := fSeq (C_look_most_s2 f_chains_of) (C_look_most_t3 f_chains_of)
def C_look_most_t1 (f_chains_of : List D → R D) : DL.Env → R Out := fSeq (C_look_most_s1 f_chains_of) (C_look_most_t2 f_chains_of)
def C_look_most_t0 (f_chains_of : List D → R D) : DL.Env → R Out := fSeq (C_look_most_s0 f_chains_of) (C_look_most_t1 f_chains_of)
def C_look_most (f_chains_of : List D → R D) : List D → R D := fRun 7 (C_look_most_t0 f_chains_of)
theorem cf_look_most (f_chains_of : List D → R D) : FF_look_most C_look_asked f_chains_of C_is_whole = C_look_most f_chains_of := by kernel_rfl
def C_is_safe_s0 (f_look_most : List D → R D) : DL.Env → R Out := (relS [0, 1, 2, 3, 4, 5] (fIfS (t2 (dCmp .Eq) (eC 6 f_look_most [(rdE 0), (rdE 1), (rdE 2), (rdE 3), (rdE 4), (rdE 5)]) (eLst [])) (fSeq (relS [] (sRet (kD (.bool false)))) sNil) sNil))
def C_is_safe_s1 (f_look_most : List D → R D) : DL.Env → R Out := (relS [0, 0, 1, 3, 1, 2, 3, 4] (fIfS (t1 dTru (eC 5 C_comes [(eC 2 C_clear_of [(eC 1 C_plain_sightings [(rdE 0)]), (eC 3 C_others_of [(rdE 0), (rdE 1), (rdE 3)])]), (rdE 1), (rdE 2), (rdE 3), (rdE 4)])) (fSeq (relS [] (sRet (kD (.bool true)))) sNil) sNil))
def C_is_safe_s2 (f_look_most : List D → R D) : DL.Env → R Out := (relS [0, 1, 2, 3, 4] (sRet (e2 (bCmp .Gt) (eB dLen [(eC 5 C_least_cut [(rdE 0), (rdE 1), (rdE 2), (rdE 3), (rdE 4)])]) (e2 (dBin .Mult) (kD (.int 2)) (rdP 5)))))
def C_is_safe_t2 (f_look_most : List D → R D) : DL.Env → R Out := fSeq (C_is_safe_s2 f_look_most) sNil
def C_is_safe_t1 (f_look_most : List D → R D) : DL.Env → R Out := fSeq (C_is_safe_s1 f_look_most) (C_is_safe_t2 f_look_most)
def C_is_safe_t0 (f_look_most : List D → R D) : DL.Env → R Out := fSeq (C_is_safe_s0 f_look_most) (C_is_safe_t1 f_look_most)
def C_is_safe (f_look_most : List D → R D) : List D → R D := fRun 6 (C_is_safe_t0 f_look_most)
theorem cf_is_safe (f_look_most : List D → R D) : FF_is_safe f_look_most C_comes C_clear_of C_plain_sightings C_others_of C_least_cut = C_is_safe f_look_most := by kernel_rfl
def C_rival_s0 (f_look_most : List D → R D) (f_is_safe : List D → R D) (f_values_of : List D → R D) : DL.Env → R Out := (relS [0, 1, 2, 3, 4, 5] (sSet 6 (eC 6 f_look_most [(rdE 0), (rdE 1), (rdE 2), (rdE 3), (rdE 4), (rdE 5)])))
def C_rival_s1 (f_look_most : List D → R D) (f_is_safe : List D → R D) (f_values_of : List D → R D) : DL.Env → R Out := (relS [0, 1, 2, 3, 4, 5] (fIfS (tstOr (t2 (dCmp .Eq) (rdP 6) (eLst [])) (t1 dTru (eC 6 f_is_safe [(rdE 0), (rdE 1), (rdE 2), (rdE 3), (rdE 4), (rdE 5)]))) (fSeq (relS [] (sRet (kD .none))) sNil) sNil))
def C_rival_s2 (f_look_most : List D → R D) (f_is_safe : List D → R D) (f_values_of : List D → R D) : DL.Env → R Out := (relS [0, 1, 2, 3, 4] (sSet 7 (eC 5 C_least_cut [(rdE 0), (rdE 1), (rdE 2), (rdE 3), (rdE 4)])))
def C_rival_s3 (f_look_most : List D → R D) (f_is_safe : List D → R D) (f_values_of : List D → R D) : DL.Env → R Out := (relS [] (fPar [false, false] [8, 9] (eArgs [(eSl (rdP 7) pN (pS (rdP 5))), (eSl (rdP 7) (pS (rdP 5)) pN)])))
def C_rival_s4 (f_look_most : List D → R D) (f_is_safe : List D → R D) (f_values_of : List D → R D) : DL.Env → R Out := (relS [] (sOwn 10 (eLst [])))
def C_rival_s5b_s0e_s0 (f_look_most : List D → R D) (f_is_safe : List D → R D) (f_values_of : List D → R D) : DL.Env → R Out := (relS [11, 9] (fIfS (t1 dTru (eC 2 C_is_clear [(rdE 11), (rdE 9)])) (fSeq (relS [11] (fApp 10 (eTup [(rdE 11), (kD (.str "thus"))]))) sNil) sNil))
def C_rival_s5b_s0e_t0 (f_look_most : List D → R D) (f_is_safe : List D → R D) (f_values_of : List D → R D) : DL.Env → R Out := fSeq (C_rival_s5b_s0e_s0 f_look_most f_is_safe f_values_of) sNil
def C_rival_s5b_s0 (f_look_most : List D → R D) (f_is_safe : List D → R D) (f_values_of : List D → R D) : DL.Env → R Out := (relS [11, 8] (fIfS (t1 dTru (eC 2 C_is_clear [(rdE 11), (rdE 8)])) (fSeq (relS [11] (fApp 10 (eTup [(rdE 11), (kD (.str "so"))]))) sNil) (C_rival_s5b_s0e_t0 f_look_most f_is_safe f_values_of)))
def C_rival_s5b_t0 (f_look_most : List D → R D) (f_is_safe : List D → R D) (f_values_of : List D → R D) : DL.Env → R Out := fSeq (C_rival_s5b_s0 f_look_most f_is_safe f_values_of) sNil
def C_rival_s5 (f_look_most : List D → R D) (f_is_safe : List D → R D) (f_values_of : List D → R D) : DL.Env → R Out := (relS [6] (fFor (i1 dItems (rdE 6)) (.one 11) (C_rival_s5b_t0 f_look_most f_is_safe f_values_of)))
def C_rival_s6 (f_look_most : List D → R D) (f_is_safe : List D → R D) (f_values_of : List D → R D) : DL.Env → R Out := (relS [13, 10] (sOwn 12 (fLc (i1 dItems (eTup [(kD (.str "so")), (kD (.str "thus"))])) (.one 13) (t2 (dCmp .In) (rdP 13) (eC 1 f_values_of [(rdE 10)])) (rdE 13) [13])))
def C_rival_s7 (f_look_most : List D → R D) (f_is_safe : List D → R D) (f_values_of : List D → R D) : DL.Env → R Out := (relS [] (fIfS (t2 (dCmp .Eq) (rdP 12) (eLst [(kD (.str "so")), (kD (.str "thus"))])) (fSeq (relS [10, 8, 9] (sRet (eTup [(rdE 10), (eTup [(kD (.str "so")), (rdE 8)]), (eTup [(kD (.str "thus")), (rdE 9)])]))) sNil) sNil))
def C_rival_s8 (f_look_most : List D → R D) (f_is_safe : List D → R D) (f_values_of : List D → R D) : DL.Env → R Out := (relS [10, 8, 9, 7] (sRet (eTup [(rdE 10), (eTup [(e2 dIx (rdP 12) (kD (.int 0))), (fIf (t2 (dCmp .Eq) (rdP 12) (eLst [(kD (.str "so"))])) (rdE 8) (rdE 9))]), (eTup [(kD .none), (rdE 7)])])))
def C_rival_t8 (f_look_most : List D → R D) (f_is_safe : List D → R D) (f_values_of : List D → R D) : DL.Env → R Out := fSeq (C_rival_s8 f_look_most f_is_safe f_values_of) sNil
def C_rival_t7 (f_look_most : List D → R D) (f_is_safe : List D → R D) (f_values_of : List D → R D) : DL.Env → R Out := fSeq (C_rival_s7 f_look_most f_is_safe f_values_of) (C_rival_t8 f_look_most f_is_safe f_values_of)
def C_rival_t6 (f_look_most : List D → R D) (f_is_safe : List D → R D) (f_values_of : List D → R D) : DL.Env → R Out := fSeq (C_rival_s6 f_look_most f_is_safe f_values_of) (C_rival_t7 f_look_most f_is_safe f_values_of)
def C_rival_t5 (f_look_most : List D → R D) (f_is_safe : List D → R D) (f_values_of : List D → R D) : DL.Env → R Out := fSeq (C_rival_s5 f_look_most f_is_safe f_values_of) (C_rival_t6 f_look_most f_is_safe f_values_of)
def C_rival_t4 (f_look_most : List D → R D) (f_is_safe : List D → R D) (f_values_of : List D → R D) : DL.Env → R Out := fSeq (C_rival_s4 f_look_most f_is_safe f_values_of) (C_rival_t5 f_look_most f_is_safe f_values_of)
def C_rival_t3 (f_look_most : List D → R D) (f_is_safe : List D → R D) (f_values_of : List D → R D) : DL.Env → R Out := fSeq (C_rival_s3 f_look_most f_is_safe f_values_of) (C_rival_t4 f_look_most f_is_safe f_values_of)
def C_rival_t2 (f_look_most : List D → R D) (f_is_safe : List D → R D) (f_values_of : List D → R D) : DL.Env → R Out := fSeq (C_rival_s2 f_look_most f_is_safe f_values_of) (C_rival_t3 f_look_most f_is_safe f_values_of)
def C_rival_t1 (f_look_most : List D → R D) (f_is_safe : List D → R D) (f_values_of : List D → R D) : DL.Env → R Out := fSeq (C_rival_s1 f_look_most f_is_safe f_values_of) (C_rival_t2 f_look_most f_is_safe f_values_of)
def C_rival_t0 (f_look_most : List D → R D) (f_is_safe : List D → R D) (f_values_of : List D → R D) : DL.Env → R Out := fSeq (C_rival_s0 f_look_most f_is_safe f_values_of) (C_rival_t1 f_look_most f_is_safe f_values_of)
def C_rival (f_look_most : List D → R D) (f_is_safe : List D → R D) (f_values_of : List D → R D) : List D → R D := fRun 14 (C_rival_t0 f_look_most f_is_safe f_values_of)
theorem cf_rival (f_look_most : List D → R D) (f_is_safe : List D → R D) (f_values_of : List D → R D) : FF_rival f_look_most f_is_safe C_least_cut C_is_clear f_values_of = C_rival f_look_most f_is_safe f_values_of := by kernel_rfl
def C_is_rival_s0 (f_look_most : List D → R D) (f_are_readings : List D → R D) (f_is_tale : List D → R D) : DL.Env → R Out := (relS [0, 1, 2, 3, 4, 5] (sSet 7 (eC 6 f_look_most [(rdE 0), (rdE 1), (rdE 2), (rdE 3), (rdE 4), (rdE 5)])))
def C_is_rival_s1 (f_look_most : List D → R D) (f_are_readings : List D → R D) (f_is_tale : List D → R D) : DL.Env → R Out := (relS [7] (fIfS (tstOr (tstNot (t1 dTru (e1 (dIsi "tuple") (rdP 6)))) (tstOr (t2 (dCmp .NotEq) (eB dLen [(rdP 6)]) (kD (.int 3))) (tstNot (t1 dTru (eC 2 f_are_readings [(rdE 7), (e2 dIx (rdP 6) (kD (.int 0)))]))))) (fSeq (relS [] (sRet (kD (.bool false)))) sNil) sNil))
def C_is_rival_s2 (f_look_most : List D → R D) (f_are_readings : List D → R D) (f_is_tale : List D → R D) : DL.Env → R Out := (relS [0, 1, 2, 3, 4, 5] (sSet 8 (eC 8 f_is_tale [(rdE 0), (rdE 1), (rdE 2), (rdE 3), (rdE 4), (e2 dIx (rdP 6) (kD (.int 0))), (rdE 5), (e2 dIx (rdP 6) (kD (.int 1)))])))
def C_is_rival_s3 (f_look_most : List D → R D) (f_are_readings : List D → R D) (f_is_tale : List D → R D) : DL.Env → R Out := (relS [8, 0, 1, 2, 3, 4, 5] (sRet (fAnd (rdP 8) (fAnd (eC 8 f_is_tale [(rdE 0), (rdE 1), (rdE 2), (rdE 3), (rdE 4), (e2 dIx (rdP 6) (kD (.int 0))), (rdE 5), (e2 dIx (rdP 6) (kD (.int 2)))]) (e2 (bCmp .NotEq) (e2 dIx (e2 dIx (rdP 6) (kD (.int 1))) (kD (.int 0))) (e2 dIx (e2 dIx (rdP 6) (kD (.int 2))) (kD (.int 0))))))))
def C_is_rival_t3 (f_look_most : List D → R D) (f_are_readings : List D → R D) (f_is_tale : List D → R D) : DL.Env → R Out := fSeq (C_is_rival_s3 f_look_most f_are_readings f_is_tale) sNil
def C_is_rival_t2 (f_look_most : List D → R D) (f_are_readings : List D → R D) (f_is_tale : List D → R D) : DL.Env → R Out := fSeq (C_is_rival_s2 f_look_most f_are_readings f_is_tale) (C_is_rival_t3 f_look_most f_are_readings f_is_tale)
def C_is_rival_t1 (f_look_most : List D → R D) (f_are_readings : List D → R D) (f_is_tale : List D → R D) : DL.Env → R Out := fSeq (C_is_rival_s1 f_look_most f_are_readings f_is_tale) (C_is_rival_t2 f_look_most f_are_readings f_is_tale)
def C_is_rival_t0 (f_look_most : List D → R D) (f_are_readings : List D → R D) (f_is_tale : List D → R D) : DL.Env → R Out := fSeq (C_is_rival_s0 f_look_most f_are_readings f_is_tale) (C_is_rival_t1 f_look_most f_are_readings f_is_tale)
def C_is_rival (f_look_most : List D → R D) (f_are_readings : List D → R D) (f_is_tale : List D → R D) : List D → R D := fRun 9 (C_is_rival_t0 f_look_most f_are_readings f_is_tale)
theorem cf_is_rival (f_look_most : List D → R D) (f_are_readings : List D → R D) (f_is_tale : List D → R D) : FF_is_rival f_look_most f_are_readings f_is_tale = C_is_rival f_look_most f_are_readings f_is_tale := by kernel_rfl
end DL
/-! What the program's defs on fleets answer, in plain Lean. -/
namespace DL
open PySem PySem.Spec PyProof.Rows L2
/-! ### data without dicts, of bounded depth -/
def okD : Nat → D → Bool
  | _, .none => true
  | _, .bool _ => true
  | _, .int _ => true
  | _, .str z => PyData.strOk z && decide (z.length ≤ 1000000)
  | n + 1, .list ds => ds.all (okD n)
  | n + 1, .tuple ds => ds.all (okD n)
  | _, _ => false
theorem okD_tup {n : Nat} {ds : List D} (h : okD n (.tuple ds) = true) : ∃ m, n = m + 1 ∧ ∀ d ∈ ds, okD m d = true := by
  cases n with
  | zero => simp [okD] at h
  | succ m => exact ⟨m, rfl, by simpa [okD] using h⟩
theorem okD_lst {n : Nat} {ds : List D} (h : okD n (.list ds) = true) : ∃ m, n = m + 1 ∧ ∀ d ∈ ds, okD m d = true := by
  cases n with
  | zero => simp [okD] at h
  | succ m => exact ⟨m, rfl, by simpa [okD] using h⟩
theorem canAll {ds : List D} (h : ∀ d ∈ ds, PyData.canLay0 d = true) : PyData.canLayAll0 ds = true := by
  induction ds with
  | nil => simp [PyData.canLayAll0]
  | cons d ds ih => simp [PyData.canLayAll0, h d (by simp), ih fun e he => h e (by simp [he])]
theorem depAll {ds : List D} {n : Nat} (h : ∀ d ∈ ds, PyData.depth d ≤ n) : PyData.depthAll ds ≤ n := by
  induction ds with
  | nil => simp [PyData.depthAll]
  | cons d ds ih =>
    simp only [PyData.depthAll]
    have h1 := h d (by simp)
    have h2 := ih fun e he => h e (by simp [he])
    omega
theorem okD_can : ∀ (n : Nat) (d : D), okD n d = true → PyData.canLay0 d = true ∧ PyData.depth d ≤ n
  | n, .none, _ => ⟨rfl, Nat.zero_le _⟩
  | n, .bool _, _ => ⟨rfl, Nat.zero_le _⟩
  | n, .int _, _ => ⟨rfl, Nat.zero_le _⟩
  | n, .str z, h => by
    have h : PyData.strOk z = true ∧ z.length ≤ 1000000 := by simpa [okD] using h
    exact ⟨by simpa [PyData.canLay0] using h.1, Nat.zero_le _⟩
  | 0, .list ds, h => by simp [okD] at h
  | 0, .tuple ds, h => by simp [okD] at h
  | n, .dict ds, h => by cases n <;> simp [okD] at h
  | n + 1, .list ds, h => by
    have h : ∀ d ∈ ds, okD n d = true := by simpa [okD] using h
    have q := fun d hd => okD_can n d (h d hd)
    refine ⟨?_, ?_⟩
    · simp only [PyData.canLay0]
      exact canAll fun d hd => (q d hd).1
    · simp only [PyData.depth]
      have := depAll fun d hd => (q d hd).2
      omega
  | n + 1, .tuple ds, h => by
    have h : ∀ d ∈ ds, okD n d = true := by simpa [okD] using h
    have q := fun d hd => okD_can n d (h d hd)
    refine ⟨?_, ?_⟩
    · simp only [PyData.canLay0]
      exact canAll fun d hd => (q d hd).1
    · simp only [PyData.depth]
      have := depAll fun d hd => (q d hd).2
      omega
theorem okD_shaped {n : Nat} {d : D} (h : okD n d = true) (hn : n ≤ 64) : SeqAt.shaped d = true := by
  have := okD_can n d h
  simp [SeqAt.shaped, this.1]
  omega
theorem okD_scr {n : Nat} {d : D} (h : okD n d = true) : isScr d = none := scr_not (okD_can n d h).1
theorem dIsi_ok {n : Nat} {d : D} (t : String) (h : okD n d = true) : dIsi t d = .ok (.bool (isiB t d)) := by
  unfold dIsi
  rw [okD_scr h]
theorem okD_mono : ∀ {n m : Nat} {d : D}, okD n d = true → n ≤ m → okD m d = true := by
  intro n
  induction n with
  | zero =>
    intro m d h hm
    cases d <;> first | (cases m <;> simpa [okD] using h) | (simp [okD] at h)
  | succ n ih =>
    intro m d h hm
    obtain ⟨k, rfl⟩ : ∃ k, m = k + 1 := ⟨m - 1, by omega⟩
    cases d with
    | list ds => simp [okD] at h ⊢; exact fun d hd => ih (h d hd) (by omega)
    | tuple ds => simp [okD] at h ⊢; exact fun d hd => ih (h d hd) (by omega)
    | dict ds => simp [okD] at h
    | _ => simpa [okD] using h
/-! ### is_whole -/
def isWholeB (t : D) (l m : Int) : Bool := match t with
  | .int i => decide (l ≤ i) && decide (i ≤ m)
  | _ => false
theorem sp_is_whole {n : Nat} {t : D} {l m : Int} (h : okD n t = true) : FF_is_whole [t, .int l, .int m] = .ok (.bool (isWholeB t l m)) := by
  cases t with
  | dict k => cases n <;> simp [okD] at h
  | _ => simp [FF_is_whole, rdP_succ, isWholeB]
/-! ### is_name -/
def small : List Nat := ("abcdefghijklmnopqrstuvwxyz" : Str).cps.toList
def isNameB : D → Bool
  | .str z => decide ((1 : Int) ≤ z.length) && decide ((z.length : Int) ≤ 6) && z.cps.toList.all fun c => decide (c ∈ small)
  | _ => false
theorem dIn_sign (c : Nat) (z : Str) : dIn (.str ⟨#[c]⟩) (.str z) = .ok (decide (c ∈ z.cps.toList)) := rfl
theorem dCmp_in (x y : D) : dCmp .In x y = dIn x y := rfl
theorem dCmp_notin (x y : D) : dCmp .NotIn x y = dIn x y >>= fun b => .ok (!b) := rfl
theorem sp_is_name {n : Nat} {t : D} (h : okD n t = true) : FF_is_name [t] = .ok (.bool (isNameB t)) := by
  cases t with
  | dict k => cases n <;> simp [okD] at h
  | str z =>
    have hz : PyData.strOk z = true ∧ z.length ≤ 1000000 := by simpa [okD] using h
    have hl : z.length ≤ sizeLine := Nat.le_trans hz.2 (by decide)
    have key : lcLoop (.one 1) (kT true) (e2 (bCmp .In) (rdP 1) (kD (.str "abcdefghijklmnopqrstuvwxyz"))) [.va (.str z), .un] (signs z) = .ok (z.cps.toList.map fun c => .bool (decide (c ∈ small))) := by
      refine lc_map (fun c => .str ⟨#[c]⟩) _ _ fun c _ => ?_
      simp [rdP_succ, dCmp_in, dIn_sign, small]
    simp [FF_is_name, hl, key, isNameB, Bool.and_assoc]
  | _ => simp [FF_is_name, isNameB]
/-! ### is_cell -/
def isCellB : D → Bool
  | .tuple [a, b] => isWholeB a 0 9 && isWholeB b 0 9
  | _ => false
abbrev SpWhole (W : List D → R D) : Prop := ∀ {n : Nat} {t : D} {l m : Int}, okD n t = true → W [t, .int l, .int m] = .ok (.bool (isWholeB t l m))
theorem all_eq_two {p : D → Bool} : ∀ ds : List D, (decide ((ds.length : Int) = 2) && ds.all p) = (match ds with | [a, b] => p a && p b | _ => false)
  | [] => rfl
  | [a] => by simp
  | [a, b] => by simp
  | a :: b :: c :: r => by
    have : ¬ (((a :: b :: c :: r).length : Nat) : Int) = 2 := by simp only [List.length_cons]; omega
    rw [decide_eq_false this]
    rfl
theorem sp_is_cell {W : List D → R D} (hW : SpWhole W) {n : Nat} {t : D} (h : okD n t = true) : FF_is_cell W [t] = .ok (.bool (isCellB t)) := by
  cases t with
  | dict k => cases n <;> simp [okD] at h
  | tuple ds =>
    obtain ⟨m, rfl, hd⟩ := okD_tup h
    have key : lcLoop (.one 1) (kT true) (eC 3 W [(rdE 1), (kD (.int 0)), (kD (.int 9))]) [.va (.tuple ds), .un] ds = .ok (ds.map fun d => .bool (isWholeB d 0 9)) := by
      refine lc_one _ fun d hx => ?_
      simp [hW (hd d hx)]
    simp [FF_is_cell, key, relR1_succ]
    exact (all_eq_two ds).trans (by rcases ds with _ | ⟨a, _ | ⟨b, _ | ⟨c, r⟩⟩⟩ <;> rfl)
  | _ => simp [FF_is_cell, isCellB, relR1_succ]
/-! ### is_rising -/
def risingB : List D → Bool
  | a :: b :: r => PySem.W.dataLt a b && risingB (b :: r)
  | _ => true
/-- two that can be put in order -/
def ordB (x y : D) : Bool := SeqAt.shaped x && SeqAt.shaped y && PySem.W.alike x y && !isNon x
theorem dLt_ord {x y : D} (h : ordB x y = true) : dCmp .Lt x y = .ok (PySem.W.dataLt x y) := by
  simp only [ordB, Bool.and_eq_true, Bool.not_eq_true'] at h
  obtain ⟨⟨⟨h1, h2⟩, h3⟩, h4⟩ := h
  show dLt x y = _
  cases x with
  | none => simp [isNon] at h4
  | int i =>
    cases y with
    | int j => simp [dLt, PySem.W.dataLt_int]
    | _ => simp [PySem.W.alike] at h3
  | str i =>
    cases y with
    | str j => simp [dLt, PySem.W.dataLt_str]
    | _ => simp [PySem.W.alike] at h3
  | _ => simp [dLt, h1, h2, h3]
def tails (ds : List D) : List (D × D) := ds.zip (ds.drop 1)
theorem tails_all : ∀ ds : List D, (tails ds).all (fun p => PySem.W.dataLt p.1 p.2) = risingB ds
  | [] => rfl
  | [a] => rfl
  | a :: b :: r => by
    have := tails_all (b :: r)
    simp only [tails, List.drop_succ_cons, List.drop_zero, List.zip_cons_cons, List.all_cons, risingB] at this ⊢
    rw [this]
theorem cutD_one (ds : List D) : cutD ds (some 1) none = ds.drop 1 := by
  unfold cutD HT.sIx
  cases ds with
  | nil => rfl
  | cons d ds => simp
theorem rise_loop {ρ : Env} {ds : List D} (hl : 3 ≤ ρ.length) (h : ∀ p ∈ tails ds, ordB p.1 p.2 = true) :
    lcLoop (.many [1, 2]) (kT true) (e2 (bCmp .Lt) (rdP 1) (rdP 2)) ρ (pairs ds (ds.drop 1)) = .ok ((tails ds).map fun p => .bool (PySem.W.dataLt p.1 p.2)) := by
  obtain ⟨s0, s1, s2, ρ, rfl⟩ : ∃ s0 s1 s2 r, ρ = s0 :: s1 :: s2 :: r := by
    match ρ, hl with
    | s0 :: s1 :: s2 :: r, _ => exact ⟨s0, s1, s2, r, rfl⟩
  refine lc_map (fun p : D × D => .tuple [p.1, p.2]) _ _ fun p hp => ?_
  simp [fTg, setMany, rdP_succ, dLt_ord (h p hp)]
theorem sp_is_rising {ds : List D} (h : ∀ p ∈ tails ds, ordB p.1 p.2 = true) : FF_is_rising [.tuple ds] = .ok (.bool (risingB ds)) ∧ FF_is_rising [.list ds] = .ok (.bool (risingB ds)) := by
  have k1 := rise_loop (ρ := [.va (.tuple ds), .un, .un]) (by simp) h
  have k2 := rise_loop (ρ := [.va (.list ds), .un, .un]) (by simp) h
  rw [List.drop_one] at k1 k2
  constructor <;> simp [FF_is_rising, dSl, cutD_one, k1, k2, tails_all]
theorem tails_mem {ds : List D} {p : D × D} (h : p ∈ tails ds) : p.1 ∈ ds ∧ p.2 ∈ ds := by
  have := List.of_mem_zip (a := p.1) (b := p.2) h
  exact ⟨this.1, List.mem_of_mem_drop this.2⟩
/-! ### is_islands -/
theorem isWholeB_int {t : D} {l m : Int} (h : isWholeB t l m = true) : ∃ i, t = .int i ∧ l ≤ i ∧ i ≤ m := by
  cases t with
  | int i =>
    simp only [isWholeB, Bool.and_eq_true, decide_eq_true_eq] at h
    exact ⟨i, rfl, h.1, h.2⟩
  | _ => simp [isWholeB] at h
theorem isCellB_eq {t : D} (h : isCellB t = true) : ∃ x y, t = .tuple [.int x, .int y] ∧ 0 ≤ x ∧ x ≤ 9 ∧ 0 ≤ y ∧ y ≤ 9 := by
  unfold isCellB at h
  split at h
  · rename_i a b
    simp only [Bool.and_eq_true] at h
    obtain ⟨x, rfl, h1, h2⟩ := isWholeB_int h.1
    obtain ⟨y, rfl, h3, h4⟩ := isWholeB_int h.2
    exact ⟨x, y, rfl, h1, h2, h3, h4⟩
  · cases h
theorem cell_ord {a b : D} (h : isCellB a = true) (h' : isCellB b = true) : ordB a b = true := by
  obtain ⟨x, y, rfl, _⟩ := isCellB_eq h
  obtain ⟨u, v, rfl, _⟩ := isCellB_eq h'
  rfl
def isIslandsB : D → Bool
  | .tuple ds => decide (ds.length ≤ 12) && (ds.all isCellB && risingB ds)
  | _ => false
abbrev Sp1 (F : List D → R D) (g : D → Bool) : Prop := ∀ {n : Nat} {t : D}, okD n t = true → F [t] = .ok (.bool (g t))
abbrev SpRise (F : List D → R D) : Prop := ∀ {ds : List D}, (∀ p ∈ tails ds, ordB p.1 p.2 = true) → F [.tuple ds] = .ok (.bool (risingB ds)) ∧ F [.list ds] = .ok (.bool (risingB ds))
theorem sp_is_islands {C S : List D → R D} (hC : Sp1 C isCellB) (hS : SpRise S) {n : Nat} {t : D} (h : okD n t = true) : FF_is_islands C S [t] = .ok (.bool (isIslandsB t)) := by
  cases t with
  | dict k => cases n <;> simp [okD] at h
  | tuple ds =>
    obtain ⟨m, rfl, hd⟩ := okD_tup h
    have key : lcLoop (.one 1) (kT true) (eC 1 C [(rdE 1)]) [.va (.tuple ds), .un] ds = .ok (ds.map fun d => .bool (isCellB d)) := by
      refine lc_one _ fun d hx => ?_
      simp [hC (hd d hx)]
    by_cases hl : ds.length ≤ 12
    · have hl' : ¬ (12 : Int) < ds.length := by omega
      cases ha : ds.all isCellB with
      | true =>
        have hr := hS (ds := ds) fun p hp => by
          have := tails_mem hp
          rw [List.all_eq_true] at ha
          exact cell_ord (ha _ this.1) (ha _ this.2)
        simp [FF_is_islands, key, relR1_succ, hl', ha, isIslandsB, hl, hr.1]
      | false => simp [FF_is_islands, key, relR1_succ, hl', ha, isIslandsB]
    · have hl' : (12 : Int) < ds.length := by omega
      simp [FF_is_islands, key, relR1_succ, hl', isIslandsB, hl]
  | _ => simp [FF_is_islands, isIslandsB, relR1_succ]
/-! ### is_ship -/
def isShipB (last : Int) (isl : List D) : D → Bool
  | .tuple [n, s, .tuple c] => isNameB n && (isWholeB s 0 9 && (decide ((c.length : Int) = last + 1) && c.all fun d => isCellB d && !isl.any fun z => PyData.eqv z d))
  | _ => false
theorem dIn_tup {x : D} {ds : List D} (h : SeqAt.shaped x = true) (h' : SeqAt.shaped (.tuple ds) = true) : dIn x (.tuple ds) = .ok (ds.any fun z => PyData.eqv z x) := by
  unfold dIn
  split
  · rename_i e; cases e
  · rename_i e; cases e
  · rename_i e; cases e; simp [h, h']
  · rename_i e; cases e
  · rename_i e1 e2 e3 e4
    first
      | exact absurd rfl (e1 _)
      | exact absurd rfl (e2 _)
      | exact absurd rfl (e3 _)
      | exact absurd rfl (e4 _)
theorem atI_nat {α : Type} {xs : List α} {i : Nat} (h : i < xs.length) : L2.atI xs (i : Int) = some xs[i] := by
  unfold L2.atI L2.ixN
  rw [if_pos (by omega), if_pos (by omega)]
  simp [h]
theorem dIx_tup {ds : List D} {i : Nat} {d : D} (h : ds[i]? = some d) : dIx (.tuple ds) (.int i) = .ok d := by
  obtain ⟨h1, h2⟩ := List.getElem?_eq_some_iff.mp h
  simp only [dIx, atI_nat h1, h2]
theorem dIx_lst {ds : List D} {i : Nat} {d : D} (h : ds[i]? = some d) : dIx (.list ds) (.int i) = .ok d := by
  obtain ⟨h1, h2⟩ := List.getElem?_eq_some_iff.mp h
  simp only [dIx, atI_nat h1, h2]
@[simp] theorem dIx_t0 (a : D) (r : List D) : dIx (.tuple (a :: r)) (.int 0) = .ok a := dIx_tup (i := 0) rfl
@[simp] theorem dIx_t1 (a b : D) (r : List D) : dIx (.tuple (a :: b :: r)) (.int 1) = .ok b := dIx_tup (i := 1) rfl
@[simp] theorem dIx_t2 (a b c : D) (r : List D) : dIx (.tuple (a :: b :: c :: r)) (.int 2) = .ok c := dIx_tup (i := 2) rfl
@[simp] theorem dIx_t3 (a b c d : D) (r : List D) : dIx (.tuple (a :: b :: c :: d :: r)) (.int 3) = .ok d := dIx_tup (i := 3) rfl
@[simp] theorem dIx_t4 (a b c d e : D) (r : List D) : dIx (.tuple (a :: b :: c :: d :: e :: r)) (.int 4) = .ok e := dIx_tup (i := 4) rfl
theorem cell_shaped {a : D} (h : isCellB a = true) : SeqAt.shaped a = true := by
  obtain ⟨x, y, rfl, _⟩ := isCellB_eq h
  rfl
theorem sp_is_ship {N W C : List D → R D} (hN : Sp1 N isNameB) (hW : SpWhole W) (hC : Sp1 C isCellB) {n : Nat} {t : D} {last : Int} {isl : List D} (h : okD n t = true) (hi : isIslandsB (.tuple isl) = true) :
    FF_is_ship N W C [.int last, .tuple isl, t] = .ok (.bool (isShipB last isl t)) := by
  have hsi : SeqAt.shaped (.tuple isl) = true := by
    simp only [isIslandsB, Bool.and_eq_true, List.all_eq_true] at hi
    have h1 : PyData.canLayAll0 isl = true := canAll fun d hd => by
      obtain ⟨x, y, rfl, _⟩ := isCellB_eq (hi.2.1 d hd)
      rfl
    have h2 : PyData.depthAll isl ≤ 1 := depAll fun d hd => by
      obtain ⟨x, y, rfl, _⟩ := isCellB_eq (hi.2.1 d hd)
      exact Nat.le_refl 1
    have h3 : PyData.depthAll isl + 1 ≤ 64 := by omega
    simp [SeqAt.shaped, PyData.canLay0, h1, PyData.depth, h3]
  cases t with
  | dict k => cases n <;> simp [okD] at h
  | tuple ds =>
    obtain ⟨m, rfl, hd⟩ := okD_tup h
    match ds, hd with
    | [], _ => simp [FF_is_ship, isShipB, rdP_succ]
    | [a], _ => simp [FF_is_ship, isShipB, rdP_succ]
    | [a, b], _ => simp [FF_is_ship, isShipB, rdP_succ]
    | a :: b :: c :: d :: r, _ =>
      have : ¬ ((r.length : Int) + 1 + 1 + 1 + 1 = 3) := by omega
      simp [FF_is_ship, isShipB, rdP_succ, this]
    | [a, b, c], hd =>
      have h1 := hd a (by simp)
      have h2 := hd b (by simp)
      have h3 := hd c (by simp)
      cases c with
      | tuple ds =>
        obtain ⟨q, rfl, hds⟩ := okD_tup h3
        have key : lcLoop (.one 4) (kT true) (fAnd (eC 1 C [(rdE 4)]) (e2 (bCmp .NotIn) (rdP 4) (rdP 1))) [.va (.int last), .va (.tuple isl), .va (.tuple [a, b, .tuple ds]), .va (.tuple ds), .un] ds = .ok (ds.map fun d => .bool (isCellB d && !isl.any fun z => PyData.eqv z d)) := by
          refine lc_one _ fun d hx => ?_
          cases hc : isCellB d with
          | false => simp [hC (hds d hx), hc, rdE_succ, rdP_succ]
          | true => simp [hC (hds d hx), hc, rdE_succ, rdP_succ, dCmp_notin, dIn_tup (cell_shaped hc) hsi]
        cases hn : isNameB a <;> cases hw : isWholeB b 0 9 <;> by_cases hl : (ds.length : Int) = last + 1 <;>
          simp [FF_is_ship, isShipB, rdP_succ, rdE_succ, hN h1, hW h2, hn, hw, hl, relR1_succ, key]
      | dict k => cases m <;> simp [okD] at h3
      | _ =>
        cases hn : isNameB a <;> cases hw : isWholeB b 0 9 <;>
          simp [FF_is_ship, isShipB, rdP_succ, rdE_succ, hN h1, hW h2, hn, hw, relR1_succ]
  | _ => simp [FF_is_ship, isShipB, rdP_succ]
/-! ### is_mist -/
def isMistB (last : Int) : D → Bool
  | .tuple [f, u, a, b, m] => isWholeB f 0 last && (match f with | .int i => isWholeB u i last | _ => false) && isWholeB m 0 9 && isCellB a && isCellB b && (match a, b with | .tuple [.int x, .int y], .tuple [.int v, .int w] => decide (x ≤ v) && decide (y ≤ w) | _, _ => false)
  | _ => false
theorem sp_is_mist {W C : List D → R D} (hW : SpWhole W) (hC : Sp1 C isCellB) {n : Nat} {t : D} {last : Int} (h : okD n t = true) : FF_is_mist W C [.int last, t] = .ok (.bool (isMistB last t)) := by
  cases t with
  | dict k => cases n <;> simp [okD] at h
  | tuple ds =>
    obtain ⟨m, rfl, hd⟩ := okD_tup h
    match ds, hd with
    | [], _ => simp [FF_is_mist, isMistB, rdP_succ]
    | [a], _ => simp [FF_is_mist, isMistB, rdP_succ]
    | [a, b], _ => simp [FF_is_mist, isMistB, rdP_succ]
    | [a, b, c], _ => simp [FF_is_mist, isMistB, rdP_succ]
    | [a, b, c, d], _ => simp [FF_is_mist, isMistB, rdP_succ]
    | a :: b :: c :: d :: e :: f :: r, _ =>
      have : ¬ ((r.length : Int) + 1 + 1 + 1 + 1 + 1 + 1 = 5) := by omega
      simp [FF_is_mist, isMistB, rdP_succ, this]
    | [f, u, a, b, m], hd =>
      have h1 := hd f (by simp)
      have h2 := hd u (by simp)
      have h3 := hd a (by simp)
      have h4 := hd b (by simp)
      have h5 := hd m (by simp)
      cases hf : isWholeB f 0 last with
      | false => simp [FF_is_mist, isMistB, rdP_succ, rdE_succ, relR1_succ, fTg, setMany, hW h1, hf]
      | true =>
        obtain ⟨i, rfl, _⟩ := isWholeB_int hf
        cases hu : isWholeB u i last <;> cases hm : isWholeB m 0 9 <;> cases ha : isCellB a <;> cases hb : isCellB b <;>
          first
          | (simp [FF_is_mist, isMistB, rdP_succ, rdE_succ, relR1_succ, fTg, setMany, hW h1, hf, hW h2, hu, hW h5, hm, hC h3, ha, hC h4, hb]; done)
          | (obtain ⟨x, y, rfl, _⟩ := isCellB_eq ha
             obtain ⟨v, w, rfl, _⟩ := isCellB_eq hb
             simp [FF_is_mist, isMistB, rdP_succ, rdE_succ, relR1_succ, fTg, setMany, hW h1, hf, hW h2, hu, hW h5, hm, hC h3, ha, hC h4, hb])
  | _ => simp [FF_is_mist, isMistB, rdP_succ]
/-! ### is_fleet -/
def fstD : D → D
  | .tuple (a :: _) => a
  | _ => .none
def isFleetB : D → Bool
  | .tuple [.int last, .tuple isl, .tuple ships, .tuple mists] =>
    isWholeB (.int last) 0 7 && (isIslandsB (.tuple isl) && ((decide ((1 : Int) ≤ ships.length) && decide ((ships.length : Int) ≤ 5)) && (ships.all (isShipB last isl) && (risingB (ships.map fstD) &&
      (decide ((mists.length : Int) ≤ 4) && (mists.all (isMistB last) && risingB mists))))))
  | _ => false
theorem isShipB_eq {last : Int} {isl : List D} {t : D} (h : isShipB last isl t = true) : ∃ z s c, t = .tuple [.str z, .int s, .tuple c] ∧ isNameB (.str z) = true := by
  unfold isShipB at h
  split at h
  · rename_i n s c
    simp only [Bool.and_eq_true] at h
    obtain ⟨i, rfl, _⟩ := isWholeB_int h.2.1
    cases n with
    | str z => exact ⟨z, i, c, rfl, h.1⟩
    | _ => simp [isNameB] at h
  · cases h
theorem small_ok : ∀ c ∈ small, c < 1114112 := by decide +kernel
theorem name_ok {z : Str} (h : isNameB (.str z) = true) : PyData.strOk z = true ∧ z.length ≤ 6 := by
  simp only [isNameB, Bool.and_eq_true, decide_eq_true_eq, List.all_eq_true] at h
  refine ⟨?_, by omega⟩
  unfold PyData.strOk
  rw [← Array.all_toList, List.all_eq_true]
  intro c hc
  exact decide_eq_true (small_ok c (h.2 c hc))
theorem name_ord {z y : Str} (h : isNameB (.str z) = true) (h' : isNameB (.str y) = true) : ordB (.str z) (.str y) = true := by
  simp [ordB, SeqAt.shaped, PyData.canLay0, PyData.depth, PySem.W.alike, isNon, (name_ok h).1, (name_ok h').1]
theorem isMistB_eq {last : Int} {t : D} (h : isMistB last t = true) : ∃ f u x y v w m : Int, t = .tuple [.int f, .int u, .tuple [.int x, .int y], .tuple [.int v, .int w], .int m] ∧ 0 ≤ f ∧ f ≤ u ∧ u ≤ last ∧ 0 ≤ m ∧ m ≤ 9 ∧ 0 ≤ x ∧ x ≤ v ∧ v ≤ 9 ∧ 0 ≤ y ∧ y ≤ w ∧ w ≤ 9 := by
  unfold isMistB at h
  split at h
  · rename_i f u a b m
    simp only [Bool.and_eq_true] at h
    obtain ⟨⟨⟨⟨⟨h1, h2⟩, h3⟩, h4⟩, h5⟩, h6⟩ := h
    obtain ⟨i, rfl, q1, q2⟩ := isWholeB_int h1
    obtain ⟨j, rfl, q3, q4⟩ := isWholeB_int h2
    obtain ⟨k, rfl, q5, q6⟩ := isWholeB_int h3
    obtain ⟨x, y, rfl, q7, q8, q9, q10⟩ := isCellB_eq h4
    obtain ⟨v, w, rfl, r7, r8, r9, r10⟩ := isCellB_eq h5
    simp only [Bool.and_eq_true, decide_eq_true_eq] at h6
    exact ⟨i, j, x, y, v, w, k, rfl, q1, q3, q4, q5, q6, q7, h6.1, r8, q9, h6.2, r10⟩
  · cases h
theorem mist_ord {last : Int} {a b : D} (h : isMistB last a = true) (h' : isMistB last b = true) : ordB a b = true := by
  obtain ⟨_, _, _, _, _, _, _, rfl, _⟩ := isMistB_eq h
  obtain ⟨_, _, _, _, _, _, _, rfl, _⟩ := isMistB_eq h'
  rfl
theorem tails_map (f : D → D) : ∀ ds : List D, tails (ds.map f) = (tails ds).map fun p => (f p.1, f p.2) := fun ds => by
  unfold tails
  rw [← List.map_drop, List.zip_map]
  rfl
abbrev SpShip (F : List D → R D) : Prop := ∀ {n : Nat} {t : D} {last : Int} {isl : List D}, okD n t = true → isIslandsB (.tuple isl) = true → F [.int last, .tuple isl, t] = .ok (.bool (isShipB last isl t))
abbrev SpMist (F : List D → R D) : Prop := ∀ {n : Nat} {t : D} {last : Int}, okD n t = true → F [.int last, t] = .ok (.bool (isMistB last t))
theorem sp_is_fleet {W I P S M : List D → R D} (hW : SpWhole W) (hI : Sp1 I isIslandsB) (hP : SpShip P) (hS : SpRise S) (hM : SpMist M) {n : Nat} {t : D} (h : okD n t = true) : FF_is_fleet W I P S M [t] = .ok (.bool (isFleetB t)) := by
  cases t with
  | dict k => cases n <;> simp [okD] at h
  | tuple ds =>
    obtain ⟨m, rfl, hd⟩ := okD_tup h
    match ds, hd with
    | [], _ => simp [FF_is_fleet, isFleetB, rdP_succ]
    | [a], _ => simp [FF_is_fleet, isFleetB, rdP_succ]
    | [a, b], _ => simp [FF_is_fleet, isFleetB, rdP_succ]
    | [a, b, c], _ => simp [FF_is_fleet, isFleetB, rdP_succ]
    | a :: b :: c :: d :: e :: r, _ =>
      have : ¬ ((r.length : Int) + 1 + 1 + 1 + 1 + 1 = 4) := by omega
      simp [FF_is_fleet, isFleetB, rdP_succ, this]
    | [f, i, p, q], hd =>
      have h1 := hd f (by simp)
      have h2 := hd i (by simp)
      have h3 := hd p (by simp)
      have h4 := hd q (by simp)
      cases hf : isWholeB f 0 7 with
      | false =>
        have e : isFleetB (.tuple [f, i, p, q]) = false := by
          unfold isFleetB
          split
          · rename_i e; cases e; rw [hf]; rfl
          · rfl
        rw [e]
        simp [FF_is_fleet, rdP_succ, rdE_succ, relR1_succ, fTg, setMany, hW h1, hf]
      | true =>
        obtain ⟨last, rfl, _⟩ := isWholeB_int hf
        cases hi : isIslandsB i with
        | false =>
          have e : isFleetB (.tuple [.int last, i, p, q]) = false := by
            unfold isFleetB
            split
            · rename_i e; cases e; rw [hi]; simp
            · rfl
          rw [e]
          simp [FF_is_fleet, rdP_succ, rdE_succ, relR1_succ, fTg, setMany, hW h1, hf, hI h2, hi]
        | true =>
          cases i with
          | tuple isl =>
            cases p with
            | tuple ps =>
              obtain ⟨m', rfl, hps⟩ := okD_tup h3
              by_cases hl : (1 : Int) ≤ ps.length ∧ (ps.length : Int) ≤ 5
              · have key : lcLoop (.one 5) (kT true) (eC 3 P [(rdE 1), (rdE 2), (rdE 5)]) [.va (.tuple [.int last, .tuple isl, .tuple ps, q]), .va (.int last), .va (.tuple isl), .va (.tuple ps), .va q, .un, .un] ps = .ok (ps.map fun d => .bool (isShipB last isl d)) := by
                  refine lc_one _ fun d hx => ?_
                  simp [rdE_succ, hP (hps d hx) hi]
                cases ha : ps.all (isShipB last isl) with
                | false =>
                  have e : isFleetB (.tuple [.int last, .tuple isl, .tuple ps, q]) = false := by
                    unfold isFleetB
                    split
                    · rename_i e; cases e; simp [ha]
                    · rfl
                  rw [e]
                  simp [FF_is_fleet, rdP_succ, rdE_succ, relR1_succ, fTg, setMany, hW h1, hf, hI h2, hi, hl, key, ha]
                | true =>
                  have ha' := List.all_eq_true.mp ha
                  have key2 : lcLoop (.one 5) (kT true) (e2 dIx (rdP 5) (kD (.int 0))) [.va (.tuple [.int last, .tuple isl, .tuple ps, q]), .va (.int last), .va (.tuple isl), .va (.tuple ps), .va q, .un, .un] ps = .ok (ps.map fstD) := by
                    refine lc_one _ fun d hx => ?_
                    obtain ⟨z, s, c, rfl, _⟩ := isShipB_eq (ha' d hx)
                    simp [rdP_succ, fstD]
                  have hr := hS (ds := ps.map fstD) fun p hp => by
                    rw [tails_map] at hp
                    obtain ⟨r, hr, rfl⟩ := List.mem_map.mp hp
                    have := tails_mem hr
                    obtain ⟨z, s, c, e1, hz⟩ := isShipB_eq (ha' _ this.1)
                    obtain ⟨z', s', c', e2, hz'⟩ := isShipB_eq (ha' _ this.2)
                    rw [e1, e2]
                    exact name_ord hz hz'
                  cases hn : risingB (ps.map fstD) with
                  | false =>
                    have e : isFleetB (.tuple [.int last, .tuple isl, .tuple ps, q]) = false := by
                      unfold isFleetB
                      split
                      · rename_i e; cases e; simp [hn]
                      · rfl
                    rw [e]
                    simp [FF_is_fleet, rdP_succ, rdE_succ, relR1_succ, fTg, setMany, hW h1, hf, hI h2, hi, hl, key, ha, key2, hr.2, hn]
                  | true =>
                    cases q with
                    | tuple ms =>
                      obtain ⟨m2, _, hms⟩ := okD_tup h4
                      have key3 : lcLoop (.one 6) (kT true) (eC 2 M [(rdE 1), (rdE 6)]) [.va (.tuple [.int last, .tuple isl, .tuple ps, .tuple ms]), .va (.int last), .va (.tuple isl), .va (.tuple ps), .va (.tuple ms), .un, .un] ms = .ok (ms.map fun d => .bool (isMistB last d)) := by
                        refine lc_one _ fun d hx => ?_
                        simp [rdE_succ, hM (hms d hx)]
                      by_cases hl4 : (ms.length : Int) ≤ 4
                      · have hl4' : ¬ (4 : Int) < ms.length := by omega
                        cases hma : ms.all (isMistB last) with
                        | false => simp [FF_is_fleet, isFleetB, rdP_succ, rdE_succ, relR1_succ, fTg, setMany, hW h1, hf, hI h2, hi, hl, key, ha, key2, hr.2, hn, key3, hl4, hl4', hma]
                        | true =>
                          have hma' := List.all_eq_true.mp hma
                          have hr2 := hS (ds := ms) fun p hp => by
                            have := tails_mem hp
                            exact mist_ord (hma' _ this.1) (hma' _ this.2)
                          simp [FF_is_fleet, isFleetB, rdP_succ, rdE_succ, relR1_succ, fTg, setMany, hW h1, hf, hI h2, hi, hl, key, ha, key2, hr.2, hn, key3, hl4, hl4', hma, hr2.1]
                      · have hl4' : (4 : Int) < ms.length := by omega
                        simp [FF_is_fleet, isFleetB, rdP_succ, rdE_succ, relR1_succ, fTg, setMany, hW h1, hf, hI h2, hi, hl, key, ha, key2, hr.2, hn, key3, hl4, hl4']
                    | dict k => simp [okD] at h4
                    | _ => simp [FF_is_fleet, isFleetB, rdP_succ, rdE_succ, relR1_succ, fTg, setMany, hW h1, hf, hI h2, hi, hl, key, ha, key2, hr.2, hn]
              · have e : isFleetB (.tuple [.int last, .tuple isl, .tuple ps, q]) = false := by
                  unfold isFleetB
                  split
                  · rename_i e; cases e
                    have : (decide ((1 : Int) ≤ ps.length) && decide ((ps.length : Int) ≤ 5)) = false := by
                      rw [← Bool.decide_and]; exact decide_eq_false hl
                    rw [this]
                    simp
                  · rfl
                rw [e]
                by_cases hl1 : (1 : Int) ≤ ps.length
                · have hl2 : ¬ (ps.length : Int) ≤ 5 := fun h => hl ⟨hl1, h⟩
                  simp [FF_is_fleet, rdP_succ, rdE_succ, relR1_succ, fTg, setMany, hW h1, hf, hI h2, hi, hl1, hl2]
                · simp [FF_is_fleet, rdP_succ, rdE_succ, relR1_succ, fTg, setMany, hW h1, hf, hI h2, hi, hl1]
            | dict k => cases m <;> simp [okD] at h3
            | _ => simp [FF_is_fleet, isFleetB, rdP_succ, rdE_succ, relR1_succ, fTg, setMany, hW h1, hf, hI h2, hi]
          | _ => simp [isIslandsB] at hi
  | _ => simp [FF_is_fleet, isFleetB, rdP_succ]
/-! ### names -/
theorem sp_look_fleet {F : List D → R D} (hF : Sp1 F isFleetB) {n : Nat} {t : D} (h : okD n t = true) : FF_look_fleet F [t] = if isFleetB t then .ok .none else .exc "NoFleet" := by
  cases e : isFleetB t <;> simp [FF_look_fleet, hF h, e]
theorem sp_plain_names {last isl ms : D} {ps : List D} (h : ∀ d ∈ ps, ∃ a r, d = .tuple (a :: r)) : FF_plain_names [.tuple [last, isl, .tuple ps, ms]] = .ok (.list (ps.map fstD)) := by
  have key : lcLoop (.one 1) (kT true) (e2 dIx (rdP 1) (kD (.int 0))) [.va (.tuple [last, isl, .tuple ps, ms]), .un] ps = .ok (ps.map fstD) := by
    refine lc_one _ fun d hx => ?_
    obtain ⟨a, r, rfl⟩ := h d hx
    simp [rdP_succ, fstD]
  simp [FF_plain_names, key]
/-! ### the closed forms -/
theorem sC_whole : SpWhole C_is_whole := fun h => sp_is_whole h
theorem sC_name : Sp1 C_is_name isNameB := fun h => sp_is_name h
theorem sC_cell : Sp1 C_is_cell isCellB := fun h => sp_is_cell sC_whole h
theorem sC_rise : SpRise C_is_rising := fun h => sp_is_rising h
theorem sC_islands : Sp1 C_is_islands isIslandsB := fun h => sp_is_islands sC_cell sC_rise h
theorem sC_ship : SpShip C_is_ship := fun h h' => sp_is_ship sC_name sC_whole sC_cell h h'
theorem sC_mist : SpMist C_is_mist := fun h => sp_is_mist sC_whole sC_cell h
theorem sC_fleet : Sp1 C_is_fleet isFleetB := fun h => sp_is_fleet sC_whole sC_islands sC_ship sC_rise sC_mist h
theorem sC_look {n : Nat} {t : D} (h : okD n t = true) : C_look_fleet [t] = if isFleetB t then .ok .none else .exc "NoFleet" := sp_look_fleet sC_fleet h
end DL
/-! What the laws draw from a script. -/
namespace DL
open PySem PySem.Spec PyProof.Rows L2
theorem log2_small {n : Nat} (h : n < 2 ^ 64) : n.log2 < 9000 := by
  by_cases h0 : n = 0
  · subst h0; decide
  · have := (Nat.log2_lt h0).mpr h
    omega
theorem dDiv_int {i j : Int} (h : 0 < j) (h1 : j < 2 ^ 64) : dBin .FloorDiv (.int i) (.int j) = .ok (.int (i / j)) := by
  have : j.natAbs.log2 < 9000 := log2_small (by omega)
  simp only [dBin, decide_eq_true h, decide_eq_true this, Bool.and_self, if_true]
theorem dMod_int {i j : Int} (h : 0 < j) : dBin .Mod (.int i) (.int j) = .ok (.int (i % j)) := if_pos h
theorem dMul_l {i j : Int} (h : smallI i = true) : dBin .Mult (.int i) (.int j) = .ok (.int (i * j)) := by simp [dBin, h]
theorem dMul_r {i j : Int} (h : smallI j = true) : dBin .Mult (.int i) (.int j) = .ok (.int (i * j)) := by simp [dBin, h]
theorem smallI_of {i : Int} (h : 0 ≤ i) (h1 : i < 2 ^ 64) : smallI i = true := by
  simp only [smallI, Bool.and_eq_true, decide_eq_true_eq]
  omega
theorem dPow_18 : dBin .Pow (.int 10) (.int 18) = .ok (.int 1000000000000000000) := rfl
theorem dMul_1 (j : Int) : dBin .Mult (.int 7) (.int j) = .ok (.int (7 * j)) := dMul_l (by decide)
theorem dMul_2 (j : Int) : dBin .Mult (.int 6553) (.int j) = .ok (.int (6553 * j)) := dMul_l (by decide)
theorem dMul_3 (j : Int) : dBin .Mult (.int j) (.int 69069) = .ok (.int (j * 69069)) := dMul_r (by decide)
theorem dMul_4 (j : Int) : dBin .Mult (.int 104723) (.int j) = .ok (.int (104723 * j)) := dMul_l (by decide)
theorem dMul_5 (j : Int) : dBin .Mult (.int j) (.int 31) = .ok (.int (j * 31)) := dMul_r (by decide)
theorem dMul_6 (j : Int) : dBin .Mult (.int 6151) (.int j) = .ok (.int (6151 * j)) := dMul_l (by decide)
theorem dMul_7 (j : Int) : dBin .Mult (.int j) (.int 40692) = .ok (.int (j * 40692)) := dMul_r (by decide)
theorem dEq_scr (ns : List Int) : dCmp .NotEq (scr ns) (.list []) = .ok (!ns.isEmpty) := by
  show (dEq (scr ns) (.list []) >>= fun b => .ok (!b)) = _
  simp [dEq, scr]
theorem dLen_scr (ns : List Int) : dLen [scr ns] = .ok (.int ns.length) := by simp [dLen, scr]
theorem dIx_scr {ns : List Int} {i : Nat} (h : i < ns.length) : dIx (scr ns) (.int i) = .ok (.int ns[i]) := by
  have : L2.atI (ns.map PyData.int) (i : Int) = some (.int ns[i]) := by
    rw [atI_nat (by simpa using h)]
    simp
  simp only [dIx, scr, this]
theorem wh_draw {s k m c : Slot} : ∀ (fuel : Nat) (turn rest : Int), turn < fuel → ∃ turn' rest' : Int, whLoop (tstAnd (t2 (dCmp .Gt) (rdP 5) (kD (.int 0))) (t2 (dCmp .Gt) (rdP 4) (kD (.int 0)))) (fSeq (relS [] (sSet 5 (e2 (dBin .FloorDiv) (rdP 5) (kD (.int 1000000)))))
        (fSeq (relS [] (sSet 4 (e2 (dBin .Sub) (rdP 4) (kD (.int 1))))) sNil)) (fuel + 1) [s, k, m, c, .va (.int turn), .va (.int rest)] = .ok (.nx [s, k, m, c, .va (.int turn'), .va (.int rest')])
  | fuel, turn, rest, h => by
    by_cases h1 : 0 < rest
    · by_cases h2 : 0 < turn
      · match fuel, h with
        | 0, h => exact absurd h (by simp; omega)
        | fuel + 1, h =>
          obtain ⟨t', r', e⟩ := wh_draw (s := s) (k := k) (m := m) (c := c) fuel (turn - 1) (rest / 1000000) (by omega)
          refine ⟨t', r', ?_⟩
          rw [whLoop]
          simp [rdP_succ, h1, h2, dDiv_int (i := rest) (j := 1000000) (by decide) (by decide), e]
      · refine ⟨turn, rest, ?_⟩
        rw [whLoop]
        simp [rdP_succ, h1, h2]
    · refine ⟨turn, rest, ?_⟩
      rw [whLoop]
      simp [rdP_succ, h1]
theorem drawn_tail (ns : List Int) {k many : Int} (hm : 0 < many) (cell : Int) (s4 s5 : Slot) : ∃ a : Int, 0 ≤ a ∧ a < many ∧ (FF_law_drawn_t2 [.va (scr ns), .va (.int k), .va (.int many), .va (.int cell), s4, s5] >>= fOut) = .ok (.int a) := by
  generalize hc : (cell % 2147483563 * 69069 + 104723 * (k + 1)) % 2147483563 = c1
  generalize hd : (c1 * c1 + c1 / 3) % 2147483399 = c2
  have b1 : 0 ≤ c1 ∧ c1 < 2147483563 := by omega
  have b2 : 0 ≤ c2 ∧ c2 < 2147483399 := ⟨by rw [← hd]; exact Int.emod_nonneg _ (by decide), by rw [← hd]; exact Int.emod_lt_of_pos _ (by decide)⟩
  refine ⟨(c2 * c2 + c2 / 7) % 2147483647 / 11 % many, Int.emod_nonneg _ (by omega), Int.emod_lt_of_pos _ hm, ?_⟩
  simp [FF_law_drawn_t2, FF_law_drawn_t3, FF_law_drawn_t4, FF_law_drawn_s2, FF_law_drawn_s3, FF_law_drawn_s4, rdP_succ, dMod_int (j := 2147483563) (by decide), dMul_3, dMul_4, hc, dMul_l (smallI_of b1.1 (by omega)), dDiv_int (j := 3) (by decide) (by decide), dMod_int (j := 2147483399) (by decide), hd,
      dMul_l (smallI_of b2.1 (by omega)), dDiv_int (j := 7) (by decide) (by decide), dMod_int (j := 2147483647) (by decide), dDiv_int (j := 11) (by decide) (by decide), dMod_int hm]
theorem sp_drawn (ns : List Int) {k many : Int} (hns : ns.length ≤ 63) (hk : 0 ≤ k) (hk2 : k < 99999) (hm : 0 < many) : ∃ a : Int, 0 ≤ a ∧ a < many ∧ FF_law_drawn [scr ns, .int k, .int many] = .ok (.int a) := by
  cases ns with
  | nil =>
    obtain ⟨a, h1, h2, h3⟩ := drawn_tail [] (k := k) hm (7 * k) .un .un
    refine ⟨a, h1, h2, ?_⟩
    rw [← h3]
    simp [FF_law_drawn, FF_law_drawn_t0, FF_law_drawn_t1, FF_law_drawn_s0, FF_law_drawn_s1, rdP_succ, dMul_1, dEq_scr]
  | cons n ns =>
    have hl : 0 < ((n :: ns).length : Int) := by simp only [List.length_cons]; omega
    have hmod : k % ((n :: ns).length : Int) = ((k % ((n :: ns).length : Int)).toNat : Int) := (Int.toNat_of_nonneg (Int.emod_nonneg _ (by omega))).symm
    have hlt : (k % ((n :: ns).length : Int)).toNat < (n :: ns).length := by
      have := Int.emod_lt_of_pos k hl
      omega
    have hdl := dDiv_int (i := k) hl (by omega)
    generalize hcell : (n :: ns)[(k % ((n :: ns).length : Int)).toNat] = cell
    have hix : dIx (scr (n :: ns)) (.int (k % ((n :: ns).length : Int))) = .ok (.int cell) := by
      rw [hmod, dIx_scr hlt, ← hcell]
    have hml := dMod_int (i := k) hl
    generalize hturn : k / ((n :: ns).length : Int) = turn at hdl
    have hnl := dLen_scr (n :: ns)
    generalize hll : ((n :: ns).length : Int) = ll at hdl hml hix hnl
    have h0 : turn ≤ k := by rw [← hturn]; exact Int.ediv_le_self _ hk
    have hd18 := dDiv_int (i := cell) (j := 1000000000000000000) (by decide) (by decide)
    by_cases hc : 1000000000000000000 ≤ cell ∧ turn < 60
    · obtain ⟨turn', rest', hw⟩ := wh_draw (s := .va (scr (n :: ns))) (k := .va (.int k)) (m := .va (.int many)) (c := .va (.int cell)) 99999 turn (cell / 1000000000000000000) (by omega)
      by_cases hr : 0 < rest'
      · refine ⟨rest' % 1000000 % many, Int.emod_nonneg _ (by omega), Int.emod_lt_of_pos _ hm, ?_⟩
        simp [FF_law_drawn, FF_law_drawn_t0, FF_law_drawn_t1, FF_law_drawn_s0, FF_law_drawn_s1, rdP_succ, dMul_1, dEq_scr, hnl, hml, hix, hdl, dPow_18, hc.1, hc.2, hd18, hw, hr, dMod_int (i := rest') (j := 1000000) (by decide), dMod_int hm]
      · obtain ⟨a, h1, h2, h3⟩ := drawn_tail (n :: ns) (k := k) hm (cell + 6553 * turn) (.va (.int turn')) (.va (.int rest'))
        refine ⟨a, h1, h2, ?_⟩
        rw [← h3]
        simp [FF_law_drawn, FF_law_drawn_t0, FF_law_drawn_t1, FF_law_drawn_s0, FF_law_drawn_s1, rdP_succ, dMul_1, dMul_2, dEq_scr, hnl, hml, hix, hdl, dPow_18, hc.1, hc.2, hd18, hw, hr]
    · obtain ⟨a, h1, h2, h3⟩ := drawn_tail (n :: ns) (k := k) hm (cell + 6553 * turn) (.va (.int turn)) .un
      refine ⟨a, h1, h2, ?_⟩
      rw [← h3]
      have hc' : (decide (1000000000000000000 ≤ cell) && decide (turn < 60)) = false := by rw [← Bool.decide_and]; exact decide_eq_false hc
      by_cases hq : 1000000000000000000 ≤ cell
      · have hq2 : ¬ turn < 60 := fun h => hc ⟨hq, h⟩
        simp [FF_law_drawn, FF_law_drawn_t0, FF_law_drawn_t1, FF_law_drawn_s0, FF_law_drawn_s1, rdP_succ, dMul_1, dMul_2, dEq_scr, hnl, hml, hix, hdl, dPow_18, hq, hq2]
      · simp [FF_law_drawn, FF_law_drawn_t0, FF_law_drawn_t1, FF_law_drawn_s0, FF_law_drawn_s1, rdP_succ, dMul_1, dMul_2, dEq_scr, hnl, hml, hix, hdl, dPow_18, hq]
def drw (ns : List Int) (k many : Int) : Int := match C_law_drawn [scr ns, .int k, .int many] with
  | .ok (.int a) => a
  | _ => 0
theorem drw_ok (ns : List Int) {k many : Int} (hns : ns.length ≤ 63) (hk : 0 ≤ k) (hk2 : k < 99999) (hm : 0 < many) : C_law_drawn [scr ns, .int k, .int many] = .ok (.int (drw ns k many)) ∧ 0 ≤ drw ns k many ∧ drw ns k many < many := by
  obtain ⟨a, h1, h2, h3⟩ := sp_drawn ns hns hk hk2 hm
  have h3 : C_law_drawn [scr ns, .int k, .int many] = .ok (.int a) := h3
  have : drw ns k many = a := by unfold drw; rw [h3]
  rw [this]
  exact ⟨h3, h1, h2⟩
/-! ### pick -/
theorem wh_pick {s k m c u : Slot} : ∀ (fuel : Nat) (turn rest : Int), turn < fuel → ∃ turn' rest' : Int, whLoop (tstAnd (t2 (dCmp .Gt) (rdP 4) (kD (.int 0))) (t2 (dCmp .Gt) (rdP 5) (kD (.int 0)))) (fSeq (relS [] (fPar [false, false] [4, 5] (eArgs [(e2 (dBin .FloorDiv) (rdP 4) (kD (.int 840))), (e2 (dBin .Sub) (rdP 5) (kD (.int 1)))])))
    sNil) (fuel + 1) [s, k, m, c, .va (.int rest), .va (.int turn), u] = .ok (.nx [s, k, m, c, .va (.int rest'), .va (.int turn'), u])
  | fuel, turn, rest, h => by
    by_cases h1 : 0 < rest
    · by_cases h2 : 0 < turn
      · match fuel, h with
        | 0, h => exact absurd h (by simp; omega)
        | fuel + 1, h =>
          obtain ⟨t', r', e⟩ := wh_pick (s := s) (k := k) (m := m) (c := c) (u := u) fuel (turn - 1) (rest / 840) (by omega)
          refine ⟨t', r', ?_⟩
          rw [whLoop]
          simp [rdP_succ, h1, h2, dDiv_int (i := rest) (j := 840) (by decide) (by decide), e, setFl]
      · refine ⟨turn, rest, ?_⟩
        rw [whLoop]
        simp [rdP_succ, h1, h2]
    · refine ⟨turn, rest, ?_⟩
      rw [whLoop]
      simp [rdP_succ, h1]
theorem sp_pick (ns : List Int) {k many : Int} (hns : ns.length ≤ 63) (hk : 0 ≤ k) (hk2 : k < 99999) (hm : 0 < many) : ∃ a : Int, 0 ≤ a ∧ a < many ∧ FF_law_pick [scr ns, .int k, .int many] = .ok (.int a) := by
  have e0 : ∃ cell : Int, FF_law_pick_s0 [.va (scr ns), .va (.int k), .va (.int many), .un, .un, .un, .un] = .ok (.nx [.va (scr ns), .va (.int k), .va (.int many), .va (.int cell), .un, .un, .un]) := by
    cases ns with
    | nil => exact ⟨0, by simp [FF_law_pick_s0, dEq_scr]⟩
    | cons n ns =>
      have hl : 0 < ((n :: ns).length : Int) := by simp only [List.length_cons]; omega
      have hmod : k % ((n :: ns).length : Int) = ((k % ((n :: ns).length : Int)).toNat : Int) := (Int.toNat_of_nonneg (Int.emod_nonneg _ (by omega))).symm
      have hlt : (k % ((n :: ns).length : Int)).toNat < (n :: ns).length := by
        have := Int.emod_lt_of_pos k hl
        omega
      generalize hcell : (n :: ns)[(k % ((n :: ns).length : Int)).toNat] = cell
      have hix : dIx (scr (n :: ns)) (.int (k % ((n :: ns).length : Int))) = .ok (.int cell) := by
        rw [hmod, dIx_scr hlt, ← hcell]
      have hml := dMod_int (i := k) hl
      have hnl := dLen_scr (n :: ns)
      generalize hll : ((n :: ns).length : Int) = ll at hml hix hnl
      exact ⟨cell, by simp [FF_law_pick_s0, dEq_scr, hnl, rdP_succ, hml, hix]⟩
  obtain ⟨cell, e0⟩ := e0
  have e1 : ∃ turn : Int, turn ≤ k ∧ FF_law_pick_s1 [.va (scr ns), .va (.int k), .va (.int many), .va (.int cell), .un, .un, .un] = .ok (.nx [.va (scr ns), .va (.int k), .va (.int many), .va (.int cell), .va (.int (cell / 1000000000000000000)), .va (.int turn), .un]) := by
    have hnl := dLen_scr ns
    generalize hl : (if (1 : Int) > (ns.length : Int) then (1 : Int) else (ns.length : Int)) = l
    have hl0 : 0 < l ∧ l < 2 ^ 64 := by
      rw [← hl]
      by_cases h : (1 : Int) > (ns.length : Int)
      · rw [if_pos h]; decide
      · rw [if_neg h]; omega
    have hmx : dMax [.int ns.length, .int 1] = .ok (.int l) := by rw [← hl]; rfl
    refine ⟨k / l, Int.ediv_le_self _ hk, ?_⟩
    simp [FF_law_pick_s1, rdP_succ, hnl, hmx, dPow_18, dDiv_int (i := cell) (j := 1000000000000000000) (by decide) (by decide), dDiv_int (i := k) hl0.1 hl0.2, setFl]
  obtain ⟨turn, ht, e1⟩ := e1
  obtain ⟨turn', rest', hw⟩ := wh_pick (s := .va (scr ns)) (k := .va (.int k)) (m := .va (.int many)) (c := .va (.int cell)) (u := .un) 99999 turn (cell / 1000000000000000000) (by omega)
  have e2 : FF_law_pick_s2 [.va (scr ns), .va (.int k), .va (.int many), .va (.int cell), .va (.int (cell / 1000000000000000000)), .va (.int turn), .un] = .ok (.nx [.va (scr ns), .va (.int k), .va (.int many), .va (.int cell), .va (.int rest'), .va (.int turn'), .un]) := by
    unfold FF_law_pick_s2
    rw [relS_ap, relR_nil]
    exact hw
  by_cases hr : 0 < rest'
  · refine ⟨rest' % 840 % many, Int.emod_nonneg _ (by omega), Int.emod_lt_of_pos _ hm, ?_⟩
    have e3 : FF_law_pick_s3 [.va (scr ns), .va (.int k), .va (.int many), .va (.int cell), .va (.int rest'), .va (.int turn'), .un] = .ok (.rt (.int (rest' % 840 % many))) := by
      simp [FF_law_pick_s3, rdP_succ, hr, dMod_int (i := rest') (j := 840) (by decide), dMod_int hm]
    unfold FF_law_pick
    rw [fRun_ap]
    show FF_law_pick_t0 [.va (scr ns), .va (.int k), .va (.int many), .un, .un, .un, .un] >>= fOut = _
    rw [FF_law_pick_t0, seq_nx e0, FF_law_pick_t1, seq_nx e1, FF_law_pick_t2, seq_nx e2, FF_law_pick_t3, seq_rt e3]
    rfl
  · have e3 : FF_law_pick_s3 [.va (scr ns), .va (.int k), .va (.int many), .va (.int cell), .va (.int rest'), .va (.int turn'), .un] = .ok (.nx [.va (scr ns), .va (.int k), .va (.int many), .va (.int cell), .va (.int rest'), .va (.int turn'), .un]) := by
      simp [FF_law_pick_s3, rdP_succ, hr]
    generalize hd : (cell * 31 + 6151 * (k + 1)) * 40692 % 2147483399 = dr
    have b2 : 0 ≤ dr ∧ dr < 2147483399 := ⟨by rw [← hd]; exact Int.emod_nonneg _ (by decide), by rw [← hd]; exact Int.emod_lt_of_pos _ (by decide)⟩
    have e4 : FF_law_pick_s4 [.va (scr ns), .va (.int k), .va (.int many), .va (.int cell), .va (.int rest'), .va (.int turn'), .un] = .ok (.nx [.va (scr ns), .va (.int k), .va (.int many), .va (.int cell), .va (.int rest'), .va (.int turn'), .va (.int dr)]) := by
      simp [FF_law_pick_s4, rdP_succ, dMul_5, dMul_6, dMul_7, dMod_int (j := 2147483399) (by decide), hd]
    refine ⟨(dr * dr + dr / 31) % 2147483629 % many, Int.emod_nonneg _ (by omega), Int.emod_lt_of_pos _ hm, ?_⟩
    have e5 : FF_law_pick_s5 [.va (scr ns), .va (.int k), .va (.int many), .va (.int cell), .va (.int rest'), .va (.int turn'), .va (.int dr)] = .ok (.rt (.int ((dr * dr + dr / 31) % 2147483629 % many))) := by
      simp [FF_law_pick_s5, rdP_succ, dMul_l (smallI_of b2.1 (by omega)), dDiv_int (j := 31) (by decide) (by decide), dMod_int (j := 2147483629) (by decide), dMod_int hm]
    unfold FF_law_pick
    rw [fRun_ap]
    show FF_law_pick_t0 [.va (scr ns), .va (.int k), .va (.int many), .un, .un, .un, .un] >>= fOut = _
    rw [FF_law_pick_t0, seq_nx e0, FF_law_pick_t1, seq_nx e1, FF_law_pick_t2, seq_nx e2, FF_law_pick_t3, seq_nx e3, FF_law_pick_t4, seq_nx e4, FF_law_pick_t5, seq_rt e5]
    rfl
def pk (ns : List Int) (k many : Int) : Int := match C_law_pick [scr ns, .int k, .int many] with
  | .ok (.int a) => a
  | _ => 0
theorem pk_ok (ns : List Int) {k many : Int} (hns : ns.length ≤ 63) (hk : 0 ≤ k) (hk2 : k < 99999) (hm : 0 < many) : C_law_pick [scr ns, .int k, .int many] = .ok (.int (pk ns k many)) ∧ 0 ≤ pk ns k many ∧ pk ns k many < many := by
  obtain ⟨a, h1, h2, h3⟩ := sp_pick ns hns hk hk2 hm
  have h3 : C_law_pick [scr ns, .int k, .int many] = .ok (.int a) := h3
  have : pk ns k many = a := by unfold pk; rw [h3]
  rw [this]
  exact ⟨h3, h1, h2⟩
end DL
/-! Fleets as plain records. -/
namespace DL
open PySem PySem.Spec PyProof.Rows L2
abbrev Cell := Nat × Nat
def cellD (p : Cell) : D := .tuple [.int p.1, .int p.2]
structure Ship where
  name : Str
  sight : Nat
  course : List Cell
def Ship.D (s : Ship) : DL.D := .tuple [.str s.name, .int s.sight, .tuple (s.course.map cellD)]
structure Mist where
  first : Nat
  til : Nat
  a : Cell
  b : Cell
  most : Nat
def Mist.D (m : Mist) : DL.D := .tuple [.int m.first, .int m.til, cellD m.a, cellD m.b, .int m.most]
structure Fl where
  last : Nat
  isl : List Cell
  ships : List Ship
  mists : List Mist
def Fl.D (F : Fl) : DL.D := .tuple [.int F.last, .tuple (F.isl.map cellD), .tuple (F.ships.map Ship.D), .tuple (F.mists.map Mist.D)]
def Fl.names (F : Fl) : List Str := F.ships.map Ship.name
def nmD (xs : List Str) : List DL.D := xs.map .str
structure Fl.Ok (F : Fl) : Prop where
  last : F.last ≤ 7
  isl : F.isl.length ≤ 12
  islc : ∀ c ∈ F.isl, c.1 ≤ 9 ∧ c.2 ≤ 9
  islr : risingB (F.isl.map cellD) = true
  many : 1 ≤ F.ships.length ∧ F.ships.length ≤ 5
  name : ∀ s ∈ F.ships, isNameB (.str s.name) = true
  sight : ∀ s ∈ F.ships, s.sight ≤ 9
  len : ∀ s ∈ F.ships, s.course.length = F.last + 1
  cell : ∀ s ∈ F.ships, ∀ c ∈ s.course, c.1 ≤ 9 ∧ c.2 ≤ 9 ∧ c ∉ F.isl
  rise : risingB (F.ships.map fun s => .str s.name) = true
  mmany : F.mists.length ≤ 4
  mist : ∀ m ∈ F.mists, m.first ≤ m.til ∧ m.til ≤ F.last ∧ m.a.1 ≤ m.b.1 ∧ m.a.2 ≤ m.b.2 ∧ m.b.1 ≤ 9 ∧ m.b.2 ≤ 9 ∧ m.most ≤ 9
  mrise : risingB (F.mists.map Mist.D) = true
theorem isCell_D {p : Cell} : isCellB (cellD p) = (decide (p.1 ≤ 9) && decide (p.2 ≤ 9)) := by
  have h1 : decide ((0 : Int) ≤ p.1) = true := decide_eq_true (by omega)
  have h2 : decide ((0 : Int) ≤ p.2) = true := decide_eq_true (by omega)
  have h3 : decide ((p.1 : Int) ≤ 9) = decide (p.1 ≤ 9) := decide_eq_decide.mpr (by omega)
  have h4 : decide ((p.2 : Int) ≤ 9) = decide (p.2 ≤ 9) := decide_eq_decide.mpr (by omega)
  simp only [isCellB, cellD, isWholeB, h1, h2, h3, h4, Bool.true_and]
theorem cell_inj {p q : Cell} : cellD p = cellD q ↔ p = q := by
  obtain ⟨a, b⟩ := p
  obtain ⟨c, d⟩ := q
  simp [cellD]
  omega
theorem eqv_cell (p q : Cell) : PyData.eqv (cellD p) (cellD q) = decide (p = q) := by
  obtain ⟨a, b⟩ := p
  obtain ⟨c, d⟩ := q
  simp only [cellD, PyData.eqv, PyData.eqvAll, Bool.and_true]
  rw [Bool.eq_iff_iff]
  simp
  omega
theorem any_cell (isl : List Cell) (p : Cell) : (isl.map cellD).any (fun z => PyData.eqv z (cellD p)) = decide (p ∈ isl) := by
  rw [Bool.eq_iff_iff]
  simp only [List.any_map, List.any_eq_true, Function.comp, eqv_cell, decide_eq_true_eq]
  constructor
  · rintro ⟨x, hx, rfl⟩; exact hx
  · intro h; exact ⟨p, h, rfl⟩
theorem Fl.Ok.fleet {F : Fl} (h : F.Ok) : isFleetB F.D = true := by
  have e1 : isIslandsB (.tuple (F.isl.map cellD)) = true := by
    simp only [isIslandsB, List.length_map, Bool.and_eq_true, decide_eq_true_eq, List.all_map, List.all_eq_true]
    refine ⟨h.isl, fun c hc => ?_, h.islr⟩
    simp only [Function.comp, isCell_D, Bool.and_eq_true, decide_eq_true_eq]
    exact h.islc c hc
  have e2 : (F.ships.map Ship.D).all (isShipB F.last (F.isl.map cellD)) = true := by
    simp only [List.all_map, List.all_eq_true]
    intro s hs
    have hl := h.len s hs
    have hsi := h.sight s hs
    simp only [Function.comp, Ship.D, isShipB, h.name s hs, Bool.true_and, List.length_map, List.all_map, Bool.and_eq_true, decide_eq_true_eq, List.all_eq_true, isWholeB, isCell_D, any_cell, Bool.not_eq_true', decide_eq_false_iff_not]
    refine ⟨⟨by omega, by omega⟩, by omega, fun c hc => ?_⟩
    have := h.cell s hs c hc
    exact ⟨⟨this.1, this.2.1⟩, this.2.2⟩
  have e3 : (F.ships.map Ship.D).map fstD = F.ships.map fun s => .str s.name := by
    rw [List.map_map]
    rfl
  have e4 : (F.mists.map Mist.D).all (isMistB F.last) = true := by
    simp only [List.all_map, List.all_eq_true]
    intro m hm
    have := h.mist m hm
    simp only [Function.comp, Mist.D, isMistB, isCellB, isWholeB, cellD, Bool.and_eq_true, decide_eq_true_eq]
    omega
  have h1 : (F.last : Int) ≤ 7 := by have := h.last; omega
  have h2 : (1 : Int) ≤ F.ships.length := by have := h.many; omega
  have h3 : (F.ships.length : Int) ≤ 5 := by have := h.many; omega
  have h4 : (F.mists.length : Int) ≤ 4 := by have := h.mmany; omega
  simp only [Fl.D, isFleetB, isWholeB, e1, e2, e3, h.rise, e4, h.mrise, List.length_map, decide_eq_true h1, decide_eq_true h2, decide_eq_true h3, decide_eq_true h4, Bool.and_true, decide_eq_true (Int.natCast_nonneg F.last)]
theorem str_okD {z : Str} (h : isNameB (.str z) = true) (n : Nat) : okD n (.str z) = true := by
  have := name_ok h
  cases n <;> (simp [okD, this.1]; omega)
theorem Fl.Ok.okD {F : Fl} (h : F.Ok) : okD 8 F.D = true := by
  have e1 : ∀ s ∈ F.ships, DL.okD 6 s.D = true := fun s hs => by
    have := name_ok (h.name s hs)
    simp [Ship.D, DL.okD, this.1, cellD]
    omega
  simp [Fl.D, DL.okD, cellD, Mist.D]
  exact e1
theorem Fl.Ok.C {F : Fl} (h : F.Ok) : C_is_fleet [F.D] = .ok (.bool true) := by rw [sC_fleet h.okD, h.fleet]
theorem Fl.Ok.look {F : Fl} (h : F.Ok) : C_look_fleet [F.D] = .ok .none := by rw [sC_look h.okD, h.fleet]; rfl
theorem C_names (F : Fl) : C_plain_names [F.D] = .ok (.list (nmD F.names)) := by
  unfold C_plain_names
  unfold Fl.D
  rw [sp_plain_names]
  · simp only [List.map_map, nmD, Fl.names]
    rfl
  · intro d hd
    obtain ⟨s, _, rfl⟩ := List.mem_map.mp hd
    exact ⟨_, _, rfl⟩
/-! ### a loop with an invariant -/
theorem for_inv {tg : Tg} {fb : Env → R Out} (P : Nat → Env → Prop) : ∀ {ds : List D} {ρ : Env} (n : Nat), P n ρ → (∀ i d ρ, ds[i]? = some d → P (n + i) ρ → ∃ ρ1 ρ', fTg tg d ρ = .ok ρ1 ∧ fb ρ1 = .ok (.nx ρ') ∧ P (n + i + 1) ρ') →
    ∃ ρ', forLoop tg fb ds ρ = .ok (.nx ρ') ∧ P (n + ds.length) ρ'
  | [], ρ, n, h, _ => ⟨ρ, rfl, h⟩
  | d :: ds, ρ, n, h, hs => by
    obtain ⟨ρ1, ρ', h1, h2, h3⟩ := hs 0 d ρ rfl h
    obtain ⟨ρ2, h4, h5⟩ := for_inv P (ds := ds) (ρ := ρ') (n + 1) h3 fun i e ρ he hp => by
      have := hs (i + 1) e ρ (by simpa using he) (by rw [show n + (i + 1) = n + 1 + i by omega]; exact hp)
      rw [show n + 1 + i + 1 = n + (i + 1) + 1 by omega]
      exact this
    refine ⟨ρ2, ?_, by rw [show n + (d :: ds).length = n + 1 + ds.length by simp; omega]; exact h5⟩
    simp only [forLoop, h1, R.ok_bind, h2, h4]
theorem app_ok {i : Nat} {fe : Env → R D} {ρ : Env} {ds : List D} {d : D} (h1 : ρ[i]? = some (.ow (.list ds))) (h2 : fe ρ = .ok d) (h3 : ds.length < 1000000) : fApp i fe ρ = .ok (.nx (ρ.set i (.ow (.list (ds ++ [d]))))) := by
  unfold fApp
  rw [h1]
  simp only [h2, R.ok_bind]
  rw [if_pos h3]
end DL
/-! The fleets that the earlier laws draw. -/
namespace DL
open PySem PySem.Spec PyProof.Rows L2 NS
/-! ### sorted(set(..)) in plain words -/
theorem nub_len : ∀ ds : List D, (nubD ds).length ≤ ds.length
  | [] => Nat.le_refl _
  | d :: ds => by
    have := nub_len ds
    unfold nubD
    split <;> simp <;> omega
theorem mem_keyB {ds : List D} (h : ds.all memB = true) {d : D} (hd : d ∈ ds) : keyB d = true := by
  have := List.all_eq_true.mp h d hd
  simp only [memB, Bool.and_eq_true] at this
  exact this.1.1
theorem rising_pw : ∀ ds : List D, (ds.Pairwise fun a b => PySem.W.dataLt a b = true) → risingB ds = true
  | [], _ => rfl
  | [_], _ => rfl
  | a :: b :: r, h => by
    have := List.pairwise_cons.mp h
    simp only [risingB, Bool.and_eq_true]
    exact ⟨this.1 b (by simp), rising_pw (b :: r) this.2⟩
theorem sortset_ok {ds : List D} (hl : ds.length < 64) (hm : ds.all memB = true) (ho : ordOk ds = true) : ∃ rs : List D, dSortSet [.list ds] = .ok (.list rs) ∧ (∀ d, d ∈ rs ↔ d ∈ ds) ∧ risingB rs = true ∧ rs.length ≤ ds.length := by
  refine ⟨sortD (nubD ds), by simp only [dSortSet, decide_eq_true hl, hm, ho, Bool.and_self, if_true], fun d => ⟨fun h => nub_sub ((sortD_perm _).mem_iff.mp h), fun h => ?_⟩, ?_, ?_⟩
  · obtain ⟨e, he, q⟩ := List.mem_map.mp (nub_all h)
    have : e = d := key_inj e d (mem_keyB hm (nub_sub he)) (mem_keyB hm h) q
    rw [← this]
    exact (sortD_perm _).mem_iff.mpr he
  · refine rising_pw _ ?_
    have nd : (sortD (nubD ds)).Nodup := by
      refine (sortD_perm _).nodup_iff.mpr ?_
      have := nub_nodup ds
      exact List.Pairwise.of_map keyOf (fun _ _ hne e => hne (congrArg keyOf e)) this
    have al := (ordOk_of ho).1
    refine List.Pairwise.imp_of_mem (fun {a b} ha hb h => ?_) ((sortD_sorted (nubD ds)).and nd)
    cases e : PySem.W.dataLt a b with
    | true => rfl
    | false =>
      have ha' := nub_sub ((sortD_perm _).mem_iff.mp ha)
      have hb' := nub_sub ((sortD_perm _).mem_iff.mp hb)
      exact absurd (toks_key (al.1 a ha' b hb') (mem_keyB hm ha') (mem_keyB hm hb') (lex_total (O := itemOrd) _ _ e h.1)) h.2
  · rw [(sortD_perm _).length_eq]
    exact nub_len ds
theorem unmap {α : Type} (f : α → D) : ∀ {ds : List D}, (∀ d ∈ ds, ∃ x, d = f x) → ∃ xs : List α, ds = xs.map f
  | [], _ => ⟨[], rfl⟩
  | d :: ds, h => by
    obtain ⟨x, rfl⟩ := h d (by simp)
    obtain ⟨xs, rfl⟩ := unmap f (ds := ds) fun e he => h e (by simp [he])
    exact ⟨x :: xs, rfl⟩
theorem cells_ord (cs : List Cell) : ordOk (cs.map cellD) = true := by
  have h1 : alikeAllB (cs.map cellD) = true := by
    simp only [alikeAllB, Bool.and_eq_true, List.all_map, List.all_eq_true]
    exact ⟨fun x _ => by simp only [Function.comp, List.all_eq_true]; exact fun _ _ => rfl, fun _ _ => rfl⟩
  have h2 : PyData.canLayAll0 (cs.map cellD) = true := canAll fun d hd => by
    obtain ⟨c, _, rfl⟩ := List.mem_map.mp hd
    rfl
  have h3 : PyData.depthAll (cs.map cellD) ≤ 1 := depAll fun d hd => by
    obtain ⟨c, _, rfl⟩ := List.mem_map.mp hd
    exact Nat.le_refl 1
  simp only [ordOk, h1, h2, Bool.and_eq_true, decide_eq_true_eq]
  exact ⟨⟨trivial, trivial⟩, by omega⟩
theorem mists_ordOk (ms : List Mist) : ordOk (ms.map Mist.D) = true := by
  have h1 : alikeAllB (ms.map Mist.D) = true := by
    simp only [alikeAllB, Bool.and_eq_true, List.all_map, List.all_eq_true]
    exact ⟨fun x _ => by simp only [Function.comp, List.all_eq_true]; exact fun _ _ => rfl, fun _ _ => rfl⟩
  have h2 : PyData.canLayAll0 (ms.map Mist.D) = true := canAll fun d hd => by
    obtain ⟨c, _, rfl⟩ := List.mem_map.mp hd
    rfl
  have h3 : PyData.depthAll (ms.map Mist.D) ≤ 2 := depAll fun d hd => by
    obtain ⟨c, _, rfl⟩ := List.mem_map.mp hd
    exact Nat.le_refl 2
  simp only [ordOk, h1, h2, Bool.and_eq_true, decide_eq_true_eq]
  exact ⟨⟨trivial, trivial⟩, by omega⟩
theorem cells_set {cs : List Cell} (h : cs.length < 64) : ∃ is : List Cell, dSortSet [.list (cs.map cellD)] = .ok (.list (is.map cellD)) ∧ (∀ c, c ∈ is ↔ c ∈ cs) ∧ risingB (is.map cellD) = true ∧ is.length ≤ cs.length := by
  obtain ⟨rs, h1, h2, h3, h4⟩ := sortset_ok (ds := cs.map cellD) (by simpa using h) (by simp only [List.all_map, List.all_eq_true]; exact fun _ _ => rfl) (cells_ord cs)
  obtain ⟨is, rfl⟩ := unmap cellD fun d hd => by
    obtain ⟨c, _, e⟩ := List.mem_map.mp ((h2 d).mp hd)
    exact ⟨c, e.symm⟩
  refine ⟨is, h1, fun c => ?_, h3, by simpa using h4⟩
  have := h2 (cellD c)
  simp only [List.mem_map, cell_inj] at this
  simpa using this
theorem mist_inj {m n : Mist} (h : m.D = n.D) : m = n := by
  obtain ⟨a, b, ⟨c, d⟩, ⟨e, f⟩, g⟩ := m
  obtain ⟨a', b', ⟨c', d'⟩, ⟨e', f'⟩, g'⟩ := n
  simp [Mist.D, cellD] at h
  obtain ⟨h1, h2, ⟨h3, h4⟩, ⟨h5, h6⟩, h7⟩ := h
  have e1 : a = a' := by omega
  have e2 : b = b' := by omega
  have e3 : c = c' := by omega
  have e4 : d = d' := by omega
  have e5 : e = e' := by omega
  have e6 : f = f' := by omega
  have e7 : g = g' := by omega
  subst e1 e2 e3 e4 e5 e6 e7
  rfl
theorem mists_set {ms : List Mist} (h : ms.length < 64) : ∃ ns : List Mist, dSortSet [.list (ms.map Mist.D)] = .ok (.list (ns.map Mist.D)) ∧ (∀ m, m ∈ ns ↔ m ∈ ms) ∧ risingB (ns.map Mist.D) = true ∧ ns.length ≤ ms.length := by
  obtain ⟨rs, h1, h2, h3, h4⟩ := sortset_ok (ds := ms.map Mist.D) (by simpa using h) (by simp only [List.all_map, List.all_eq_true]; exact fun _ _ => rfl) (mists_ordOk ms)
  obtain ⟨is, rfl⟩ := unmap Mist.D fun d hd => by
    obtain ⟨c, _, e⟩ := List.mem_map.mp ((h2 d).mp hd)
    exact ⟨c, e.symm⟩
  refine ⟨is, h1, fun m => ?_, h3, by simpa using h4⟩
  constructor
  · intro hm
    obtain ⟨c, hc, e⟩ := List.mem_map.mp ((h2 m.D).mp (List.mem_map_of_mem hm))
    rw [← mist_inj e]; exact hc
  · intro hm
    obtain ⟨c, hc, e⟩ := List.mem_map.mp ((h2 m.D).mpr (List.mem_map_of_mem hm))
    rw [← mist_inj e]; exact hc
def FF_law_fleet_s6 (f_law_drawn : List D → R D) : DL.Env → R Out := (relS [3] (sRet (eTup [(rdE 3), (eB dTuple [(rdP 12)]), (eB dTuple [(rdP 4)]), (eB dTuple [(eB dSortSet [(rdP 13)])])])))
def FF_law_fleet_t6 (f_law_drawn : List D → R D) : DL.Env → R Out := fSeq (FF_law_fleet_s6 f_law_drawn) sNil
def FF_law_fleet_s5 (f_law_drawn : List D → R D) : DL.Env → R Out := (relS [0] (fFor (iB dRng1 [(eC 3 f_law_drawn [(rdE 0), (e2 (dBin .Add) (rdP 1) (kD (.int 8))), (kD (.int 3))])]) (.one 6) (fSeq (relS [0] (sSet 14 (eC 3 f_law_drawn [(rdE 0), (e2 (dBin .Add) (e2 (dBin .Add) (rdP 1) (kD (.int 90))) (e2 (dBin .Mult) (kD (.int 6)) (rdP 6))), (e2 (dBin .Add) (rdP 3) (kD (.int 1)))])))
  (fSeq (relS [0] (sSet 15 (e2 (dBin .Add) (rdP 14) (eC 3 f_law_drawn [(rdE 0), (e2 (dBin .Add) (e2 (dBin .Add) (rdP 1) (kD (.int 91))) (e2 (dBin .Mult) (kD (.int 6)) (rdP 6))), (e2 (dBin .Add) (e2 (dBin .Sub) (rdP 3) (rdP 14)) (kD (.int 1)))]))))
  (fSeq (relS [0, 0] (fPar [false, false] [8, 9] (eArgs [(eC 3 f_law_drawn [(rdE 0), (e2 (dBin .Add) (e2 (dBin .Add) (rdP 1) (kD (.int 92))) (e2 (dBin .Mult) (kD (.int 6)) (rdP 6))), (kD (.int 5))]), (eC 3 f_law_drawn [(rdE 0), (e2 (dBin .Add) (e2 (dBin .Add) (rdP 1) (kD (.int 93))) (e2 (dBin .Mult) (kD (.int 6)) (rdP 6))), (kD (.int 5))])])))
  (fSeq (relS [0, 0] (fPar [false, false] [16, 17] (eArgs [(eC 3 f_law_drawn [(rdE 0), (e2 (dBin .Add) (e2 (dBin .Add) (rdP 1) (kD (.int 94))) (e2 (dBin .Mult) (kD (.int 6)) (rdP 6))), (kD (.int 4))]), (eC 3 f_law_drawn [(rdE 0), (e2 (dBin .Add) (e2 (dBin .Add) (rdP 1) (kD (.int 95))) (e2 (dBin .Mult) (kD (.int 6)) (rdP 6))), (kD (.int 3))])])))
  (fSeq (relS [14, 15, 8, 9, 17] (fApp 13 (eTup [(rdE 14), (rdE 15), (eTup [(rdE 8), (rdE 9)]), (eTup [(e2 (dBin .Add) (rdP 8) (rdP 16)), (e2 (dBin .Add) (rdP 9) (rdP 16))]), (rdE 17)])))
  sNil)))))))
def FF_law_fleet_t5 (f_law_drawn : List D → R D) : DL.Env → R Out := fSeq (FF_law_fleet_s5 f_law_drawn) (FF_law_fleet_t6 f_law_drawn)
def FF_law_fleet_s4 (f_law_drawn : List D → R D) : DL.Env → R Out := (relS [] (sOwn 13 (eLst [])))
def FF_law_fleet_t4 (f_law_drawn : List D → R D) : DL.Env → R Out := fSeq (FF_law_fleet_s4 f_law_drawn) (FF_law_fleet_t5 f_law_drawn)
def FF_law_fleet_s3 (f_law_drawn : List D → R D) : DL.Env → R Out := (relS [18, 12] (sOwn 12 (eB dSortSet [(fLc (i1 dItems (rdE 12)) (.one 18) (t2 (dCmp .NotIn) (rdP 18) (rdP 5)) (rdE 18) [18])])))
def FF_law_fleet_t3 (f_law_drawn : List D → R D) : DL.Env → R Out := fSeq (FF_law_fleet_s3 f_law_drawn) (FF_law_fleet_t4 f_law_drawn)
def FF_law_fleet_s2 (f_law_drawn : List D → R D) : DL.Env → R Out := (relS [0, 0] (sOwn 12 (fLc (iB dRng1 [(kD (.int 3))]) (.one 6) (kT true) (eTup [(eC 3 f_law_drawn [(rdE 0), (e2 (dBin .Add) (e2 (dBin .Add) (rdP 1) (kD (.int 2))) (rdP 6)), (kD (.int 6))]), (eC 3 f_law_drawn [(rdE 0), (e2 (dBin .Add) (e2 (dBin .Add) (rdP 1) (kD (.int 5))) (rdP 6)), (kD (.int 5))])]) [6])))
def FF_law_fleet_t2 (f_law_drawn : List D → R D) : DL.Env → R Out := fSeq (FF_law_fleet_s2 f_law_drawn) (FF_law_fleet_t3 f_law_drawn)
def FF_law_fleet_s1 (f_law_drawn : List D → R D) : DL.Env → R Out := (relS [0] (fFor (iB dRng1 [(e2 (dBin .Add) (kD (.int 2)) (eC 3 f_law_drawn [(rdE 0), (e2 (dBin .Add) (rdP 1) (kD (.int 1))), (e2 (dBin .Sub) (rdP 2) (kD (.int 1)))]))]) (.one 6) (fSeq (relS [] (sSet 7 (e2 (dBin .Add) (e2 (dBin .Add) (rdP 1) (kD (.int 10))) (e2 (dBin .Mult) (kD (.int 14)) (rdP 6)))))
  (fSeq (relS [0, 7, 0] (fPar [false, false, true] [8, 9, 10] (eArgs [(eC 3 f_law_drawn [(rdE 0), (rdE 7), (kD (.int 5))]), (eC 3 f_law_drawn [(rdE 0), (e2 (dBin .Add) (rdP 7) (kD (.int 1))), (kD (.int 4))]), (eLst [])])))
  (fSeq (relS [] (fFor (iB dRng1 [(e2 (dBin .Add) (rdP 3) (kD (.int 1)))]) (.one 11) (fSeq (relS [0] (sSet 8 (eB dMax [(kD (.int 0)), (eB dMin [(kD (.int 9)), (e2 (dBin .Sub) (e2 (dBin .Add) (rdP 8) (eC 3 f_law_drawn [(rdE 0), (e2 (dBin .Add) (e2 (dBin .Add) (rdP 7) (kD (.int 3))) (rdP 11)), (kD (.int 3))])) (kD (.int 1)))])])))
    (fSeq (relS [0] (sSet 9 (eB dMax [(kD (.int 0)), (eB dMin [(kD (.int 9)), (e2 (dBin .Add) (rdP 9) (e2 (dBin .FloorDiv) (eC 3 f_law_drawn [(rdE 0), (e2 (dBin .Add) (e2 (dBin .Add) (rdP 7) (kD (.int 8))) (rdP 11)), (kD (.int 3))]) (kD (.int 2))))])])))
    (fSeq (relS [8, 9] (fApp 10 (eTup [(rdE 8), (rdE 9)])))
    sNil)))))
  (fSeq (relS [] (sSet 5 (e2 (dBin .Add) (rdP 5) (rdP 10))))
  (fSeq (relS [0] (fApp 4 (eTup [(e2 dIx (kD (.str "abcde")) (rdP 6)), (e2 dIx (eLst [(kD (.int 0)), (kD (.int 1)), (kD (.int 1)), (kD (.int 2)), (kD (.int 3))]) (eC 3 f_law_drawn [(rdE 0), (e2 (dBin .Add) (rdP 7) (kD (.int 2))), (kD (.int 5))])), (eB dTuple [(rdP 10)])])))
  sNil)))))))
def FF_law_fleet_t1 (f_law_drawn : List D → R D) : DL.Env → R Out := fSeq (FF_law_fleet_s1 f_law_drawn) (FF_law_fleet_t2 f_law_drawn)
def FF_law_fleet_s0 (f_law_drawn : List D → R D) : DL.Env → R Out := (relS [0, 1] (fPar [false, true, true] [3, 4, 5] (eArgs [(e2 (dBin .Add) (kD (.int 1)) (eC 3 f_law_drawn [(rdE 0), (rdE 1), (kD (.int 5))])), (eLst []), (eLst [])])))
def FF_law_fleet_t0 (f_law_drawn : List D → R D) : DL.Env → R Out := fSeq (FF_law_fleet_s0 f_law_drawn) (FF_law_fleet_t1 f_law_drawn)
def FF_law_fleet (f_law_drawn : List D → R D) : List D → R D := fRun 19 (FF_law_fleet_t0 f_law_drawn)
def C_law_fleet : List D → R D := FF_law_fleet C_law_drawn
abbrev DR : List D → R D := C_law_drawn
def f1_in : Env → R Out := (fSeq (relS [0] (sSet 8 (eB dMax [(kD (.int 0)), (eB dMin [(kD (.int 9)), (e2 (dBin .Sub) (e2 (dBin .Add) (rdP 8) (eC 3 DR [(rdE 0), (e2 (dBin .Add) (e2 (dBin .Add) (rdP 7) (kD (.int 3))) (rdP 11)), (kD (.int 3))])) (kD (.int 1)))])])))
    (fSeq (relS [0] (sSet 9 (eB dMax [(kD (.int 0)), (eB dMin [(kD (.int 9)), (e2 (dBin .Add) (rdP 9) (e2 (dBin .FloorDiv) (eC 3 DR [(rdE 0), (e2 (dBin .Add) (e2 (dBin .Add) (rdP 7) (kD (.int 8))) (rdP 11)), (kD (.int 3))]) (kD (.int 2))))])])))
    (fSeq (relS [8, 9] (fApp 10 (eTup [(rdE 8), (rdE 9)])))
    sNil)))
def f1_out : Env → R Out := (fSeq (relS [] (sSet 7 (e2 (dBin .Add) (e2 (dBin .Add) (rdP 1) (kD (.int 10))) (e2 (dBin .Mult) (kD (.int 14)) (rdP 6)))))
  (fSeq (relS [0, 7, 0] (fPar [false, false, true] [8, 9, 10] (eArgs [(eC 3 DR [(rdE 0), (rdE 7), (kD (.int 5))]), (eC 3 DR [(rdE 0), (e2 (dBin .Add) (rdP 7) (kD (.int 1))), (kD (.int 4))]), (eLst [])])))
  (fSeq (relS [] (fFor (iB dRng1 [(e2 (dBin .Add) (rdP 3) (kD (.int 1)))]) (.one 11) f1_in))
  (fSeq (relS [] (sSet 5 (e2 (dBin .Add) (rdP 5) (rdP 10))))
  (fSeq (relS [0] (fApp 4 (eTup [(e2 dIx (kD (.str "abcde")) (rdP 6)), (e2 dIx (eLst [(kD (.int 0)), (kD (.int 1)), (kD (.int 1)), (kD (.int 2)), (kD (.int 3))]) (eC 3 DR [(rdE 0), (e2 (dBin .Add) (rdP 7) (kD (.int 2))), (kD (.int 5))])), (eB dTuple [(rdP 10)])])))
  sNil)))))
def f1_mist : Env → R Out := (fSeq (relS [0] (sSet 14 (eC 3 DR [(rdE 0), (e2 (dBin .Add) (e2 (dBin .Add) (rdP 1) (kD (.int 90))) (e2 (dBin .Mult) (kD (.int 6)) (rdP 6))), (e2 (dBin .Add) (rdP 3) (kD (.int 1)))])))
  (fSeq (relS [0] (sSet 15 (e2 (dBin .Add) (rdP 14) (eC 3 DR [(rdE 0), (e2 (dBin .Add) (e2 (dBin .Add) (rdP 1) (kD (.int 91))) (e2 (dBin .Mult) (kD (.int 6)) (rdP 6))), (e2 (dBin .Add) (e2 (dBin .Sub) (rdP 3) (rdP 14)) (kD (.int 1)))]))))
  (fSeq (relS [0, 0] (fPar [false, false] [8, 9] (eArgs [(eC 3 DR [(rdE 0), (e2 (dBin .Add) (e2 (dBin .Add) (rdP 1) (kD (.int 92))) (e2 (dBin .Mult) (kD (.int 6)) (rdP 6))), (kD (.int 5))]), (eC 3 DR [(rdE 0), (e2 (dBin .Add) (e2 (dBin .Add) (rdP 1) (kD (.int 93))) (e2 (dBin .Mult) (kD (.int 6)) (rdP 6))), (kD (.int 5))])])))
  (fSeq (relS [0, 0] (fPar [false, false] [16, 17] (eArgs [(eC 3 DR [(rdE 0), (e2 (dBin .Add) (e2 (dBin .Add) (rdP 1) (kD (.int 94))) (e2 (dBin .Mult) (kD (.int 6)) (rdP 6))), (kD (.int 4))]), (eC 3 DR [(rdE 0), (e2 (dBin .Add) (e2 (dBin .Add) (rdP 1) (kD (.int 95))) (e2 (dBin .Mult) (kD (.int 6)) (rdP 6))), (kD (.int 3))])])))
  (fSeq (relS [14, 15, 8, 9, 17] (fApp 13 (eTup [(rdE 14), (rdE 15), (eTup [(rdE 8), (rdE 9)]), (eTup [(e2 (dBin .Add) (rdP 8) (rdP 16)), (e2 (dBin .Add) (rdP 9) (rdP 16))]), (rdE 17)])))
  sNil)))))
theorem s1_eq : FF_law_fleet_s1 C_law_drawn = relS [0] (fFor (iB dRng1 [(e2 (dBin .Add) (kD (.int 2)) (eC 3 DR [(rdE 0), (e2 (dBin .Add) (rdP 1) (kD (.int 1))), (e2 (dBin .Sub) (rdP 2) (kD (.int 1)))]))]) (.one 6) f1_out) := rfl
theorem s5_eq : FF_law_fleet_s5 C_law_drawn = relS [0] (fFor (iB dRng1 [(eC 3 DR [(rdE 0), (e2 (dBin .Add) (rdP 1) (kD (.int 8))), (kD (.int 3))])]) (.one 6) f1_mist) := rfl
/-- between 0 and 9 -/
theorem clamp (v : Int) : ∃ n : Nat, n ≤ 9 ∧ ∃ u : Int, dMin [.int 9, .int v] = .ok (.int u) ∧ dMax [.int 0, .int u] = .ok (.int n) := by
  by_cases h : v < 9
  · by_cases h0 : v > 0
    · exact ⟨v.toNat, by omega, v, by simp [dMin, h], by simp [dMax, h0]; omega⟩
    · exact ⟨0, by omega, v, by simp [dMin, h], by simp [dMax, h0]⟩
  · exact ⟨9, by omega, 9, by simp [dMin, h], by simp [dMax]⟩
theorem rng1 {n : Nat} (h : n ≤ 1000000) : dRng1 [.int n] = .ok ((List.range n).map fun (i : Nat) => .int i) := by
  simp only [dRng1, rngD]
  rw [if_pos]
  · simp
  · simp only [Bool.and_eq_true, decide_eq_true_eq]; omega
abbrev E1 (ns : List Int) (a : Int) (m : Slot) (l : Nat) (s4 s5 s6 : Slot) (h : Int) (s8 s9 s10 s11 : Slot) : Env := [.va (scr ns), .va (.int a), m, .va (.int l), s4, s5, s6, .va (.int h), s8, s9, s10, s11, .un, .un, .un, .un, .un, .un, .un]
theorem f1_inner (ns : List Int) (hn : ns.length ≤ 63) {a h : Int} (h0 : 0 ≤ h) (h1 : h < 95000) (m s4 s5 s6 z : Slot) {l : Nat} (hl : l ≤ 5) {x y : Nat} : ∃ (cs : List Cell) (s8 s9 s11 : Slot), cs.length = l + 1 ∧ (∀ c ∈ cs, c.1 ≤ 9 ∧ c.2 ≤ 9) ∧
    forLoop (.one 11) f1_in ((List.range (l + 1)).map fun (j : Nat) => .int j) (E1 ns a m l s4 s5 s6 h (.va (.int x)) (.va (.int y)) (.ow (.list [])) z) = .ok (.nx (E1 ns a m l s4 s5 s6 h s8 s9 (.ow (.list (cs.map cellD))) s11)) := by
  obtain ⟨ρ', e, cs, x', y', s11, hc, hcc, rfl⟩ := for_inv (tg := .one 11) (fb := f1_in) (fun j ρ => ∃ (cs : List Cell) (x y : Nat) (s11 : Slot), cs.length = j ∧ (∀ c ∈ cs, c.1 ≤ 9 ∧ c.2 ≤ 9) ∧ ρ = E1 ns a m l s4 s5 s6 h (.va (.int x)) (.va (.int y)) (.ow (.list (cs.map cellD))) s11)
    (ds := (List.range (l + 1)).map fun (j : Nat) => .int j) (ρ := E1 ns a m l s4 s5 s6 h (.va (.int x)) (.va (.int y)) (.ow (.list [])) z) 0 ⟨[], x, y, z, rfl, fun _ z => (nomatch z), rfl⟩ (by
      rintro j d ρ hd ⟨cs, x, y, s11, hc, hcc, rfl⟩
      have hj : j < l + 1 := by simpa using (List.getElem?_eq_some_iff.mp hd).1
      have hd : d = .int j := by
        have := hd
        simp [hj] at this
        exact this.symm
      subst hd
      simp only [Nat.zero_add] at hc ⊢
      obtain ⟨e1, p0, p1⟩ := drw_ok ns (k := h + 3 + (j : Int)) (many := 3) hn (by omega) (by omega) (by decide)
      obtain ⟨e2, q0, q1⟩ := drw_ok ns (k := h + 8 + (j : Int)) (many := 3) hn (by omega) (by omega) (by decide)
      obtain ⟨x2, hx2, u, k1, k2⟩ := clamp ((x : Int) + drw ns (h + 3 + (j : Int)) 3 - 1)
      obtain ⟨y2, hy2, v, k3, k4⟩ := clamp ((y : Int) + drw ns (h + 8 + (j : Int)) 3 / 2)
      refine ⟨_, _, rfl, ?_, cs ++ [(x2, y2)], x2, y2, .va (.int j), by simp [hc], ?_, rfl⟩
      · unfold f1_in
        simp only [E1, List.set]
        rw [seq_nx (F := relS [0] _) (ρ' := E1 ns a m l s4 s5 s6 h (.va (.int x2)) (.va (.int y)) (.ow (.list (cs.map cellD))) (.va (.int j))) (by
          simp -implicitDefEqProofs only [relS_ap, relR_cons, relR_nil, relR1_0va, sSet_ap, eB_ap, eArgs_cons, eArgs_nil, kD_ap, e2_ap, rdP_succ, rdP_zero, eC_ap, rdE_zero, R.ok_bind, dAdd_int, dSub_int, ari_3, e1, k1, k2, List.set])]
        rw [seq_nx (F := relS [0] _) (ρ' := E1 ns a m l s4 s5 s6 h (.va (.int x2)) (.va (.int y2)) (.ow (.list (cs.map cellD))) (.va (.int j))) (by
          simp -implicitDefEqProofs only [relS_ap, relR_cons, relR_nil, relR1_0va, sSet_ap, eB_ap, eArgs_cons, eArgs_nil, kD_ap, e2_ap, rdP_succ, rdP_zero, eC_ap, rdE_zero, R.ok_bind, dAdd_int, dDiv_int (j := 2) (by decide) (by decide), ari_3, e2, k3, k4, List.set])]
        refine seq_nx (F := relS [8, 9] _) (G := sNil) ?_
        rw [relS_ap]
        have hrel : relR [8, 9] (E1 ns a m l s4 s5 s6 h (.va (.int x2)) (.va (.int y2)) (.ow (.list (cs.map cellD))) (.va (.int j))) = E1 ns a m l s4 s5 s6 h (.va (.int x2)) (.va (.int y2)) (.ow (.list (cs.map cellD))) (.va (.int j)) := by
          simp -implicitDefEqProofs only [relR_cons, relR_nil, relR1_succ, relR1_0va]
        rw [hrel, app_ok (ds := cs.map cellD) (d := cellD (x2, y2)) rfl ?_ (by simp; omega)]
        · simp -implicitDefEqProofs only [List.set, List.map_append, List.map_cons, List.map_nil]
        · simp -implicitDefEqProofs only [eTup_ap, eArgs_cons, eArgs_nil, rdE_succ, rdE_zero, R.ok_bind, okLen_2, cellD]
      · intro c hx
        rcases List.mem_append.mp hx with hx | hx
        · exact hcc c hx
        · rw [List.mem_singleton.mp hx]; exact ⟨hx2, hy2⟩)
  refine ⟨cs, _, _, s11, ?_, hcc, e⟩
  simpa using hc
def abc5 : List Str := [⟨#[97]⟩, ⟨#[98]⟩, ⟨#[99]⟩, ⟨#[100]⟩, ⟨#[101]⟩]
/-- what the outer loop has made -/
structure Made1 (last : Nat) (n : Nat) (ships : List Ship) (used : List Cell) : Prop where
  names : ships.map Ship.name = abc5.take n
  sight : ∀ s ∈ ships, s.sight ≤ 3
  len : ∀ s ∈ ships, s.course.length = last + 1
  cell : ∀ s ∈ ships, ∀ c ∈ s.course, c.1 ≤ 9 ∧ c.2 ≤ 9 ∧ c ∈ used
  few : used.length ≤ 6 * n
theorem letter {k : Nat} (h : k < 5) : dIx (.str "abcde") (.int k) = .ok (.str (abc5.getD k ⟨#[]⟩)) := by
  match k, h with
  | 0, _ => kernel_rfl
  | 1, _ => kernel_rfl
  | 2, _ => kernel_rfl
  | 3, _ => kernel_rfl
  | 4, _ => kernel_rfl
theorem sight1 {a : Int} (a0 : 0 ≤ a) (a1 : a < 5) : ∃ t : Nat, t ≤ 3 ∧ dIx (.list [.int 0, .int 1, .int 1, .int 2, .int 3]) (.int a) = .ok (.int t) := by
  have h : a = 0 ∨ a = 1 ∨ a = 2 ∨ a = 3 ∨ a = 4 := by omega
  rcases h with rfl | rfl | rfl | rfl | rfl
  · exact ⟨0, by decide, by kernel_rfl⟩
  · exact ⟨1, by decide, by kernel_rfl⟩
  · exact ⟨1, by decide, by kernel_rfl⟩
  · exact ⟨2, by decide, by kernel_rfl⟩
  · exact ⟨3, by decide, by kernel_rfl⟩
abbrev E0 (ns : List Int) (a : Int) (m : Slot) (l : Nat) (s4 s5 s6 s7 s8 s9 s10 s11 : Slot) : Env := [.va (scr ns), .va (.int a), m, .va (.int l), s4, s5, s6, s7, s8, s9, s10, s11, .un, .un, .un, .un, .un, .un, .un]
/-- a slot that holds the list -/
def Holds (s : Slot) (d : D) : Prop := s = .va d ∨ s = .ow d
theorem Holds.rd {s : Slot} {d : D} {ρ : Env} (h : Holds s d) : rdP 0 (s :: ρ) = .ok d := by rcases h with rfl | rfl <;> rfl
theorem f1_outer (ns : List Int) (hn : ns.length ≤ 63) {a : Int} (a0 : 0 ≤ a) (a1 : a < 90000) (m : Slot) {l n : Nat} (hl : l ≤ 5) (hnn : n ≤ 5) : ∃ (ships : List Ship) (used : List Cell) (s5 s6 s7 s8 s9 s10 s11 : Slot), Made1 l n ships used ∧ Holds s5 (.list (used.map cellD)) ∧
    forLoop (.one 6) f1_out ((List.range n).map fun (j : Nat) => .int j) (E0 ns a m l (.ow (.list [])) (.ow (.list [])) .un .un .un .un .un .un) = .ok (.nx (E0 ns a m l (.ow (.list (ships.map Ship.D))) s5 s6 s7 s8 s9 s10 s11)) := by
  obtain ⟨ρ', e, ships, used, s5, s6, s7, s8, s9, s10, s11, md, hs5, rfl⟩ := for_inv (tg := .one 6) (fb := f1_out) (fun j ρ => ∃ (ships : List Ship) (used : List Cell) (s5 s6 s7 s8 s9 s10 s11 : Slot), Made1 l j ships used ∧ Holds s5 (.list (used.map cellD)) ∧ ρ = E0 ns a m l (.ow (.list (ships.map Ship.D))) s5 s6 s7 s8 s9 s10 s11)
    (ds := (List.range n).map fun (j : Nat) => .int j) (ρ := E0 ns a m l (.ow (.list [])) (.ow (.list [])) .un .un .un .un .un .un) 0
    ⟨[], [], .ow (.list []), .un, .un, .un, .un, .un, .un, ⟨rfl, fun _ z => (nomatch z), fun _ z => (nomatch z), fun _ z => (nomatch z), by simp⟩, .inr rfl, rfl⟩ (by
      rintro j d ρ hd ⟨ships, used, s5, s6, s7, s8, s9, s10, s11, md, hs5, rfl⟩
      have hj : j < n := by simpa using (List.getElem?_eq_some_iff.mp hd).1
      have hd : d = .int j := by
        have := hd
        simp [hj] at this
        exact this.symm
      subst hd
      simp only [Nat.zero_add] at md ⊢
      obtain ⟨h, hh⟩ : ∃ h : Int, h = a + 10 + 14 * (j : Int) := ⟨_, rfl⟩
      have h0 : 0 ≤ h := by omega
      have h1 : h < 95000 := by omega
      obtain ⟨e1, p0, p1⟩ := drw_ok ns (k := h) (many := 5) hn (by omega) (by omega) (by decide)
      obtain ⟨e2, q0, q1⟩ := drw_ok ns (k := h + 1) (many := 4) hn (by omega) (by omega) (by decide)
      obtain ⟨e3, r0, r1⟩ := drw_ok ns (k := h + 2) (many := 5) hn (by omega) (by omega) (by decide)
      obtain ⟨x, hx⟩ : ∃ x : Nat, drw ns h 5 = x := ⟨(drw ns h 5).toNat, by omega⟩
      obtain ⟨y, hy⟩ : ∃ y : Nat, drw ns (h + 1) 4 = y := ⟨(drw ns (h + 1) 4).toNat, by omega⟩
      obtain ⟨t, ht, hti⟩ := sight1 r0 r1
      rw [hx] at e1
      rw [hy] at e2
      obtain ⟨cs, s8', s9', s11', hcl, hcc, ein⟩ := f1_inner ns hn h0 h1 (a := a) m (.ow (.list (ships.map Ship.D))) s5 (.va (.int j)) s11 hl (x := x) (y := y)
      have hm14 : dBin .Mult (.int 14) (.int j) = .ok (.int (14 * j)) := dMul_l (by decide)
      have hr : dRng1 [.int ((l : Int) + 1)] = .ok ((List.range (l + 1)).map fun (j : Nat) => .int j) := by
        rw [show (l : Int) + 1 = ((l + 1 : Nat) : Int) by omega]
        exact rng1 (by omega)
      have hsl : ships.length = j := by
        have := congrArg List.length md.names
        simp [abc5] at this
        omega
      have hadd : dBin .Add (.list (used.map cellD)) (.list (cs.map cellD)) = .ok (.list ((used ++ cs).map cellD)) := by
        have : (used.map cellD).length + (cs.map cellD).length ≤ sizeLine := by
          have := md.few
          rw [sizeLine_eq]
          simp
          omega
        simp only [dBin, if_pos this, List.map_append]
      have hlet := letter (k := j) (by omega)
      refine ⟨_, _, rfl, ?_, ships ++ [⟨abc5.getD j ⟨#[]⟩, t, cs⟩], used ++ cs, .va (.list ((used ++ cs).map cellD)), .va (.int j), .va (.int h), s8', s9', .ow (.list (cs.map cellD)), s11', ⟨?_, ?_, ?_, ?_, ?_⟩, .inl rfl, rfl⟩
      · unfold f1_out
        simp only [E0, List.set]
        rw [seq_nx (F := relS [] _) (ρ' := E0 ns a m l (.ow (.list (ships.map Ship.D))) s5 (.va (.int j)) (.va (.int h)) s8 s9 s10 s11) (by
          rw [hh]
          simp -implicitDefEqProofs only [relS_ap, relR_nil, sSet_ap, e2_ap, rdP_succ, rdP_zero, kD_ap, R.ok_bind, dAdd_int, hm14, List.set])]
        rw [seq_nx (F := relS [0, 7, 0] _) (ρ' := E0 ns a m l (.ow (.list (ships.map Ship.D))) s5 (.va (.int j)) (.va (.int h)) (.va (.int x)) (.va (.int y)) (.ow (.list [])) s11) (by
          simp -implicitDefEqProofs only [relS_ap, relR_cons, relR_nil, relR1_0va, relR1_succ, fPar_ap, eArgs_cons, eArgs_nil, eC_ap, rdE_zero, rdE_succ, kD_ap, R.ok_bind, ari_3, e1, e2_ap, rdP_succ, rdP_zero, dAdd_int, e2, eLst_ap, okLen_nil, setFl, List.set])]
        rw [seq_nx (F := relS [] _) (ρ' := E0 ns a m l (.ow (.list (ships.map Ship.D))) s5 (.va (.int j)) (.va (.int h)) s8' s9' (.ow (.list (cs.map cellD))) s11') (by
          rw [relS_ap, relR_nil, fFor_ap]
          have e0 : (iB dRng1 [(DL.e2 (dBin .Add) (rdP 3) (kD (.int 1)))]) (E0 ns a m l (.ow (.list (ships.map Ship.D))) s5 (.va (.int j)) (.va (.int h)) (.va (.int x)) (.va (.int y)) (.ow (.list [])) s11) = .ok ((List.range (l + 1)).map fun (j : Nat) => .int j) := by
            simp -implicitDefEqProofs only [iB_ap, eArgs_cons, eArgs_nil, e2_ap, rdP_succ, rdP_zero, kD_ap, R.ok_bind, dAdd_int, hr]
          rw [e0, R.ok_bind]
          exact ein)]
        rw [seq_nx (F := relS [] _) (ρ' := E0 ns a m l (.ow (.list (ships.map Ship.D))) (.va (.list ((used ++ cs).map cellD))) (.va (.int j)) (.va (.int h)) s8' s9' (.ow (.list (cs.map cellD))) s11') (by
          simp -implicitDefEqProofs only [relS_ap, relR_nil, sSet_ap, e2_ap, rdP_succ, rdP_zero_ow, hs5.rd, R.ok_bind, hadd, List.set])]
        refine seq_nx (F := relS [0] _) (G := sNil) ?_
        rw [relS_ap, relR_cons, relR1_0va, relR_nil, app_ok (ds := ships.map Ship.D) (d := Ship.D ⟨abc5.getD j ⟨#[]⟩, t, cs⟩) rfl ?_ (by simp; omega)]
        · simp -implicitDefEqProofs only [List.set, List.map_append, List.map_cons, List.map_nil]
        · simp -implicitDefEqProofs only [eTup_ap, eArgs_cons, eArgs_nil, e2_ap, kD_ap, rdP_succ, rdP_zero, R.ok_bind, hlet, eLst_ap, okLen_5, eC_ap, rdE_zero, dAdd_int, ari_3, e3, hti, eB_ap, rdP_zero_ow, dTuple_list, okLen_3, Ship.D]
      · rw [List.map_append, md.names]
        have hj5 : j < abc5.length := by simp [abc5]; omega
        rw [List.take_succ_eq_append_getElem hj5]
        simp [List.getD_eq_getElem?_getD, List.getElem?_eq_getElem hj5]
      · intro s hs
        rcases List.mem_append.mp hs with hs | hs
        · exact md.sight s hs
        · rw [List.mem_singleton.mp hs]; exact ht
      · intro s hs
        rcases List.mem_append.mp hs with hs | hs
        · exact md.len s hs
        · rw [List.mem_singleton.mp hs]; exact hcl
      · intro s hs c hc
        rcases List.mem_append.mp hs with hs | hs
        · have := md.cell s hs c hc
          exact ⟨this.1, this.2.1, List.mem_append_left _ this.2.2⟩
        · rw [List.mem_singleton.mp hs] at hc
          have := hcc c hc
          exact ⟨this.1, this.2, List.mem_append_right _ hc⟩
      · have := md.few
        rw [List.length_append, hcl]
        omega)
  refine ⟨ships, used, s5, s6, s7, s8, s9, s10, s11, ?_, hs5, e⟩
  simpa using md
end DL
/-! The fleets that the earlier laws draw: islands, mists, the whole. -/
namespace DL
open PySem PySem.Spec PyProof.Rows L2 NS
theorem dIn_l1 {x : D} {ds : List D} (h : SeqAt.shaped x = true) (h' : SeqAt.shaped (.list ds) = true) : dIn x (.list ds) = .ok (ds.any fun z => PyData.eqv z x) := by
  unfold dIn
  split
  · rename_i e; cases e
  · rename_i e; cases e; simp [h, h']
  · rename_i e; cases e
  · rename_i e; cases e
  · rename_i e1 e2 e3 e4
    first
      | exact absurd rfl (e1 _)
      | exact absurd rfl (e2 _)
      | exact absurd rfl (e3 _)
      | exact absurd rfl (e4 _)
theorem shaped_cells (cs : List Cell) : SeqAt.shaped (.list (cs.map cellD)) = true := okD_shaped (n := 4) (by simp [okD, cellD]) (by decide)
theorem shaped_cell (c : Cell) : SeqAt.shaped (cellD c) = true := okD_shaped (n := 4) (by simp [okD, cellD]) (by decide)
abbrev E2 (ns : List Int) (a : Int) (m : Slot) (l : Nat) (s4 s5 s6 s7 s8 s9 s10 s11 s12 s13 s14 s15 s16 s17 s18 : Slot) : Env := [.va (scr ns), .va (.int a), m, .va (.int l), s4, s5, s6, s7, s8, s9, s10, s11, s12, s13, s14, s15, s16, s17, s18]
theorem f1_s0 (ns : List Int) (hn : ns.length ≤ 63) {a : Int} (a0 : 0 ≤ a) (a1 : a < 90000) (m : D) : ∃ l : Nat, 1 ≤ l ∧ l ≤ 5 ∧
    FF_law_fleet_s0 C_law_drawn [.va (scr ns), .va (.int a), .va m, .un, .un, .un, .un, .un, .un, .un, .un, .un, .un, .un, .un, .un, .un, .un, .un] = .ok (.nx (E0 ns a (.va m) l (.ow (.list [])) (.ow (.list [])) .un .un .un .un .un .un)) := by
  obtain ⟨e, p0, p1⟩ := drw_ok ns (k := a) (many := 5) hn (by omega) (by omega) (by decide)
  refine ⟨(1 + drw ns a 5).toNat, by omega, by omega, ?_⟩
  have ht : ((1 + drw ns a 5).toNat : Int) = 1 + drw ns a 5 := by omega
  unfold FF_law_fleet_s0
  simp -implicitDefEqProofs only [relS_ap, relR_cons, relR_nil, relR1_0va, relR1_succ, fPar_ap, eArgs_cons, eArgs_nil, eC_ap, rdE_zero, rdE_succ, kD_ap, R.ok_bind, ari_3, e, e2_ap, dAdd_int, eLst_ap, okLen_nil, setFl, List.set, E0, ht]
theorem f1_s1 (ns : List Int) (hn : ns.length ≤ 63) {a : Int} (a0 : 0 ≤ a) (a1 : a < 90000) {m l : Nat} (hm : 2 ≤ m) (hm5 : m ≤ 5) (hl : l ≤ 5) : ∃ (n : Nat) (ships : List Ship) (used : List Cell) (s5 s6 s7 s8 s9 s10 s11 : Slot), 2 ≤ n ∧ n ≤ m ∧ Made1 l n ships used ∧ Holds s5 (.list (used.map cellD)) ∧
    FF_law_fleet_s1 C_law_drawn (E0 ns a (.va (.int m)) l (.ow (.list [])) (.ow (.list [])) .un .un .un .un .un .un) = .ok (.nx (E0 ns a (.va (.int m)) l (.ow (.list (ships.map Ship.D))) s5 s6 s7 s8 s9 s10 s11)) := by
  obtain ⟨e, p0, p1⟩ := drw_ok ns (k := a + 1) (many := (m : Int) - 1) hn (by omega) (by omega) (by omega)
  obtain ⟨n, hnn⟩ : ∃ n : Nat, 2 + drw ns (a + 1) ((m : Int) - 1) = n := ⟨(2 + drw ns (a + 1) ((m : Int) - 1)).toNat, by omega⟩
  obtain ⟨ships, used, s5, s6, s7, s8, s9, s10, s11, md, h5, e1⟩ := f1_outer ns hn a0 a1 (.va (.int m)) hl (n := n) (by omega)
  refine ⟨n, ships, used, s5, s6, s7, s8, s9, s10, s11, by omega, by omega, md, h5, ?_⟩
  rw [s1_eq, relS_ap, relR_cons, relR1_0va, relR_nil, fFor_ap]
  have e0 : (iB dRng1 [(e2 (dBin .Add) (kD (.int 2)) (eC 3 DR [(rdE 0), (e2 (dBin .Add) (rdP 1) (kD (.int 1))), (e2 (dBin .Sub) (rdP 2) (kD (.int 1)))]))]) (E0 ns a (.va (.int m)) l (.ow (.list [])) (.ow (.list [])) .un .un .un .un .un .un) = .ok ((List.range n).map fun (j : Nat) => .int j) := by
    simp -implicitDefEqProofs only [iB_ap, eArgs_cons, eArgs_nil, e2_ap, rdP_succ, rdP_zero, rdE_zero, kD_ap, R.ok_bind, dAdd_int, dSub_int, eC_ap, ari_3, e, hnn, rng1 (n := n) (by omega)]
  rw [e0, R.ok_bind]
  exact e1
theorem f1_s2 (ns : List Int) (hn : ns.length ≤ 63) {a : Int} (a0 : 0 ≤ a) (a1 : a < 90000) (m : Slot) (l : Nat) (s4 s5 s6 s7 s8 s9 s10 s11 : Slot) : ∃ cs : List Cell, cs.length = 3 ∧ (∀ c ∈ cs, c.1 ≤ 5 ∧ c.2 ≤ 4) ∧
    FF_law_fleet_s2 C_law_drawn (E0 ns a m l s4 s5 s6 s7 s8 s9 s10 s11) = .ok (.nx (E2 ns a m l s4 s5 s6 s7 s8 s9 s10 s11 (.ow (.list (cs.map cellD))) .un .un .un .un .un .un)) := by
  let g : Nat → Cell := fun j => ((drw ns (a + 2 + (j : Int)) 6).toNat, (drw ns (a + 5 + (j : Int)) 5).toNat)
  refine ⟨(List.range 3).map g, by simp, ?_, ?_⟩
  · intro c hc
    obtain ⟨j, hj, rfl⟩ := List.mem_map.mp hc
    have hj : j < 3 := List.mem_range.mp hj
    obtain ⟨_, q0, q1⟩ := drw_ok ns (k := a + 2 + (j : Int)) (many := 6) hn (by omega) (by omega) (by decide)
    obtain ⟨_, r0, r1⟩ := drw_ok ns (k := a + 5 + (j : Int)) (many := 5) hn (by omega) (by omega) (by decide)
    simp only [g]
    omega
  · have key : lcLoop (.one 6) (kT true) (eTup [(eC 3 C_law_drawn [(rdE 0), (e2 (dBin .Add) (e2 (dBin .Add) (rdP 1) (kD (.int 2))) (rdP 6)), (kD (.int 6))]), (eC 3 C_law_drawn [(rdE 0), (e2 (dBin .Add) (e2 (dBin .Add) (rdP 1) (kD (.int 5))) (rdP 6)), (kD (.int 5))])]) (E0 ns a m l s4 s5 .un s7 s8 s9 s10 s11) ((List.range 3).map fun (j : Nat) => .int j) = .ok (((List.range 3).map g).map cellD) := by
      rw [List.map_map]
      refine lc_map (fun j : Nat => .int j) (fun j => cellD (g j)) _ fun j hj => ?_
      have hj : j < 3 := List.mem_range.mp hj
      obtain ⟨e1, q0, q1⟩ := drw_ok ns (k := a + 2 + (j : Int)) (many := 6) hn (by omega) (by omega) (by decide)
      obtain ⟨e2, r0, r1⟩ := drw_ok ns (k := a + 5 + (j : Int)) (many := 5) hn (by omega) (by omega) (by decide)
      have t1 : ((drw ns (a + 2 + (j : Int)) 6).toNat : Int) = drw ns (a + 2 + (j : Int)) 6 := by omega
      have t2 : ((drw ns (a + 5 + (j : Int)) 5).toNat : Int) = drw ns (a + 5 + (j : Int)) 5 := by omega
      simp -implicitDefEqProofs [rdP_succ, rdE_succ, e1, e2, g, cellD, t1, t2]
    have hr : dRng1 [.int 3] = .ok ((List.range 3).map fun (j : Nat) => .int j) := rng1 (n := 3) (by decide)
    unfold FF_law_fleet_s2
    simp -implicitDefEqProofs only [relS_ap, relR_cons, relR_nil, relR1_0va, sOwn_ap, fLc_ap, iB_ap, eArgs_cons, eArgs_nil, kD_ap, R.ok_bind, hr, wipeR_cons, wipeR_nil, List.set, key, calm_ok]
theorem f1_s3 (ns : List Int) (a : Int) (m : Slot) (l : Nat) (s4 s5 s6 s7 s8 s9 s10 s11 : Slot) {used cs : List Cell} (hc : cs.length < 64) (h5 : Holds s5 (.list (used.map cellD))) : ∃ is : List Cell, (∀ c, c ∈ is ↔ c ∈ cs ∧ c ∉ used) ∧ risingB (is.map cellD) = true ∧ is.length ≤ cs.length ∧
    FF_law_fleet_s3 C_law_drawn (E2 ns a m l s4 s5 s6 s7 s8 s9 s10 s11 (.ow (.list (cs.map cellD))) .un .un .un .un .un .un) = .ok (.nx (E2 ns a m l s4 s5 s6 s7 s8 s9 s10 s11 (.ow (.list (is.map cellD))) .un .un .un .un .un .un)) := by
  obtain ⟨is, e, h1, h2, h3⟩ := cells_set (cs := cs.filter fun c => decide (c ∉ used)) (Nat.lt_of_le_of_lt (List.length_filter_le _ _) hc)
  refine ⟨is, fun c => by rw [h1, List.mem_filter]; simp, h2, Nat.le_trans h3 (List.length_filter_le _ _), ?_⟩
  have key : lcLoop (.one 18) (t2 (dCmp .NotIn) (rdP 18) (rdP 5)) (rdE 18) (E2 ns a m l s4 s5 s6 s7 s8 s9 s10 s11 (.va (.list (cs.map cellD))) .un .un .un .un .un .un) (cs.map cellD) = .ok ((cs.filter fun c => decide (c ∉ used)).map cellD) := by
    refine lc_filter cellD (fun c => decide (c ∉ used)) cellD cs fun c _ => ⟨_, rfl, ?_, fun _ => ?_⟩
    · simp -implicitDefEqProofs only [List.set, t2_ap, rdP_succ, rdP_zero, h5.rd, R.ok_bind, dCmp_notin, dIn_l1 (shaped_cell c) (shaped_cells used), any_cell]
      simp
    · simp -implicitDefEqProofs only [List.set, rdE_succ, rdE_zero]
  unfold FF_law_fleet_s3
  simp -implicitDefEqProofs only [relS_ap, relR_cons, relR_nil, relR1_succ, relR1_0un, relR1_0ow, sOwn_ap, eB_ap, eArgs_cons, eArgs_nil, fLc_ap, i1_ap, rdE_succ, rdE_zero, dItems, R.ok_bind, wipeR_cons, wipeR_nil, List.set, key, calm_ok, e]
theorem f1_s4 (ns : List Int) (a : Int) (m : Slot) (l : Nat) (s4 s5 s6 s7 s8 s9 s10 s11 s12 : Slot) : FF_law_fleet_s4 C_law_drawn (E2 ns a m l s4 s5 s6 s7 s8 s9 s10 s11 s12 .un .un .un .un .un .un) = .ok (.nx (E2 ns a m l s4 s5 s6 s7 s8 s9 s10 s11 s12 (.ow (.list [])) .un .un .un .un .un)) := by
  unfold FF_law_fleet_s4
  simp -implicitDefEqProofs only [relS_ap, relR_nil, sOwn_ap, eLst_ap, eArgs_nil, R.ok_bind, okLen_nil, List.set]
def MistOk (l : Nat) (m : Mist) : Prop := m.first ≤ m.til ∧ m.til ≤ l ∧ m.a.1 ≤ m.b.1 ∧ m.a.2 ≤ m.b.2 ∧ m.b.1 ≤ 9 ∧ m.b.2 ≤ 9 ∧ m.most ≤ 9
theorem f1_mists (ns : List Int) (hn : ns.length ≤ 63) {a : Int} (a0 : 0 ≤ a) (a1 : a < 90000) (m : Slot) {l n : Nat} (hl : l ≤ 5) (hnn : n ≤ 2) (s4 s5 z6 s7 z8 z9 s10 s11 s12 : Slot) : ∃ (ms : List Mist) (s6 s8 s9 s14 s15 s16 s17 : Slot), ms.length = n ∧ (∀ m ∈ ms, MistOk l m) ∧
    forLoop (.one 6) f1_mist ((List.range n).map fun (j : Nat) => .int j) (E2 ns a m l s4 s5 z6 s7 z8 z9 s10 s11 s12 (.ow (.list [])) .un .un .un .un .un) = .ok (.nx (E2 ns a m l s4 s5 s6 s7 s8 s9 s10 s11 s12 (.ow (.list (ms.map Mist.D))) s14 s15 s16 s17 .un)) := by
  obtain ⟨ρ', e, ms, s6, s8, s9, s14, s15, s16, s17, hc, hcc, rfl⟩ := for_inv (tg := .one 6) (fb := f1_mist) (fun j ρ => ∃ (ms : List Mist) (s6 s8 s9 s14 s15 s16 s17 : Slot), ms.length = j ∧ (∀ m ∈ ms, MistOk l m) ∧ ρ = E2 ns a m l s4 s5 s6 s7 s8 s9 s10 s11 s12 (.ow (.list (ms.map Mist.D))) s14 s15 s16 s17 .un)
    (ds := (List.range n).map fun (j : Nat) => .int j) (ρ := E2 ns a m l s4 s5 z6 s7 z8 z9 s10 s11 s12 (.ow (.list [])) .un .un .un .un .un) 0 ⟨[], z6, z8, z9, .un, .un, .un, .un, rfl, fun _ z => (nomatch z), rfl⟩ (by
      rintro j d ρ hd ⟨ms, s6, s8, s9, s14, s15, s16, s17, hc, hcc, rfl⟩
      have hj : j < n := by simpa using (List.getElem?_eq_some_iff.mp hd).1
      have hd : d = .int j := by
        have := hd
        simp [hj] at this
        exact this.symm
      subst hd
      simp only [Nat.zero_add] at hc ⊢
      have hm6 : dBin .Mult (.int 6) (.int j) = .ok (.int (6 * j)) := dMul_l (by decide)
      obtain ⟨e1, p0, p1⟩ := drw_ok ns (k := a + 90 + 6 * (j : Int)) (many := (l : Int) + 1) hn (by omega) (by omega) (by omega)
      obtain ⟨f, hf⟩ : ∃ f : Nat, drw ns (a + 90 + 6 * (j : Int)) ((l : Int) + 1) = f := ⟨(drw ns (a + 90 + 6 * (j : Int)) ((l : Int) + 1)).toNat, by omega⟩
      rw [hf] at e1 p0 p1
      obtain ⟨e2, q0, q1⟩ := drw_ok ns (k := a + 91 + 6 * (j : Int)) (many := (l : Int) - f + 1) hn (by omega) (by omega) (by omega)
      obtain ⟨u, hu⟩ : ∃ u : Nat, (f : Int) + drw ns (a + 91 + 6 * (j : Int)) ((l : Int) - f + 1) = u := ⟨((f : Int) + drw ns (a + 91 + 6 * (j : Int)) ((l : Int) - f + 1)).toNat, by omega⟩
      obtain ⟨e3, r0, r1⟩ := drw_ok ns (k := a + 92 + 6 * (j : Int)) (many := 5) hn (by omega) (by omega) (by decide)
      obtain ⟨x, hx⟩ : ∃ x : Nat, drw ns (a + 92 + 6 * (j : Int)) 5 = x := ⟨(drw ns (a + 92 + 6 * (j : Int)) 5).toNat, by omega⟩
      rw [hx] at e3 r0 r1
      obtain ⟨e4, t0, t1⟩ := drw_ok ns (k := a + 93 + 6 * (j : Int)) (many := 5) hn (by omega) (by omega) (by decide)
      obtain ⟨y, hy⟩ : ∃ y : Nat, drw ns (a + 93 + 6 * (j : Int)) 5 = y := ⟨(drw ns (a + 93 + 6 * (j : Int)) 5).toNat, by omega⟩
      rw [hy] at e4 t0 t1
      obtain ⟨e5, v0, v1⟩ := drw_ok ns (k := a + 94 + 6 * (j : Int)) (many := 4) hn (by omega) (by omega) (by decide)
      obtain ⟨o, ho⟩ : ∃ o : Nat, drw ns (a + 94 + 6 * (j : Int)) 4 = o := ⟨(drw ns (a + 94 + 6 * (j : Int)) 4).toNat, by omega⟩
      rw [ho] at e5 v0 v1
      obtain ⟨e6, w0, w1⟩ := drw_ok ns (k := a + 95 + 6 * (j : Int)) (many := 3) hn (by omega) (by omega) (by decide)
      obtain ⟨b, hb⟩ : ∃ b : Nat, drw ns (a + 95 + 6 * (j : Int)) 3 = b := ⟨(drw ns (a + 95 + 6 * (j : Int)) 3).toNat, by omega⟩
      rw [hb] at e6 w0 w1
      refine ⟨_, _, rfl, ?_, ms ++ [⟨f, u, (x, y), (x + o, y + o), b⟩], .va (.int j), .va (.int x), .va (.int y), .va (.int f), .va (.int u), .va (.int o), .va (.int b), by simp [hc], ?_, rfl⟩
      · unfold f1_mist
        simp only [E2, List.set]
        rw [seq_nx (F := relS [0] _) (ρ' := E2 ns a m l s4 s5 (.va (.int j)) s7 s8 s9 s10 s11 s12 (.ow (.list (ms.map Mist.D))) (.va (.int f)) s15 s16 s17 .un) (by
          simp -implicitDefEqProofs only [relS_ap, relR_cons, relR_nil, relR1_0va, sSet_ap, eArgs_cons, eArgs_nil, kD_ap, e2_ap, rdP_succ, rdP_zero, eC_ap, rdE_zero, R.ok_bind, dAdd_int, hm6, ari_3, e1, List.set])]
        rw [seq_nx (F := relS [0] _) (ρ' := E2 ns a m l s4 s5 (.va (.int j)) s7 s8 s9 s10 s11 s12 (.ow (.list (ms.map Mist.D))) (.va (.int f)) (.va (.int u)) s16 s17 .un) (by
          simp -implicitDefEqProofs only [relS_ap, relR_cons, relR_nil, relR1_0va, sSet_ap, eArgs_cons, eArgs_nil, kD_ap, e2_ap, rdP_succ, rdP_zero, eC_ap, rdE_zero, R.ok_bind, dAdd_int, dSub_int, hm6, ari_3, e2, hu, List.set])]
        rw [seq_nx (F := relS [0, 0] _) (ρ' := E2 ns a m l s4 s5 (.va (.int j)) s7 (.va (.int x)) (.va (.int y)) s10 s11 s12 (.ow (.list (ms.map Mist.D))) (.va (.int f)) (.va (.int u)) s16 s17 .un) (by
          simp -implicitDefEqProofs only [relS_ap, relR_cons, relR_nil, relR1_0va, fPar_ap, setFl, eArgs_cons, eArgs_nil, kD_ap, e2_ap, rdP_succ, rdP_zero, eC_ap, rdE_zero, R.ok_bind, dAdd_int, hm6, ari_3, e3, e4, List.set])]
        rw [seq_nx (F := relS [0, 0] _) (ρ' := E2 ns a m l s4 s5 (.va (.int j)) s7 (.va (.int x)) (.va (.int y)) s10 s11 s12 (.ow (.list (ms.map Mist.D))) (.va (.int f)) (.va (.int u)) (.va (.int o)) (.va (.int b)) .un) (by
          simp -implicitDefEqProofs only [relS_ap, relR_cons, relR_nil, relR1_0va, fPar_ap, setFl, eArgs_cons, eArgs_nil, kD_ap, e2_ap, rdP_succ, rdP_zero, eC_ap, rdE_zero, R.ok_bind, dAdd_int, hm6, ari_3, e5, e6, List.set])]
        refine seq_nx (F := relS [14, 15, 8, 9, 17] _) (G := sNil) ?_
        rw [relS_ap]
        have hrel : relR [14, 15, 8, 9, 17] (E2 ns a m l s4 s5 (.va (.int j)) s7 (.va (.int x)) (.va (.int y)) s10 s11 s12 (.ow (.list (ms.map Mist.D))) (.va (.int f)) (.va (.int u)) (.va (.int o)) (.va (.int b)) .un) = E2 ns a m l s4 s5 (.va (.int j)) s7 (.va (.int x)) (.va (.int y)) s10 s11 s12 (.ow (.list (ms.map Mist.D))) (.va (.int f)) (.va (.int u)) (.va (.int o)) (.va (.int b)) .un := by
          simp -implicitDefEqProofs only [relR_cons, relR_nil, relR1_succ, relR1_0va]
        rw [hrel, app_ok (ds := ms.map Mist.D) (d := Mist.D ⟨f, u, (x, y), (x + o, y + o), b⟩) rfl ?_ (by simp; omega)]
        · simp -implicitDefEqProofs only [List.set, List.map_append, List.map_cons, List.map_nil]
        · have c1 : ((x + o : Nat) : Int) = (x : Int) + o := by omega
          have c2 : ((y + o : Nat) : Int) = (y : Int) + o := by omega
          simp -implicitDefEqProofs only [eTup_ap, eArgs_cons, eArgs_nil, rdE_succ, rdE_zero, rdP_succ, rdP_zero, e2_ap, dAdd_int, R.ok_bind, okLen_2, okLen_5, Mist.D, cellD, c1, c2]
      · intro c hx'
        rcases List.mem_append.mp hx' with hx' | hx'
        · exact hcc c hx'
        · rw [List.mem_singleton.mp hx']
          simp only [MistOk]
          omega)
  refine ⟨ms, s6, s8, s9, s14, s15, s16, s17, ?_, hcc, e⟩
  simpa using hc
theorem f1_s5 (ns : List Int) (hn : ns.length ≤ 63) {a : Int} (a0 : 0 ≤ a) (a1 : a < 90000) (m : Slot) {l : Nat} (hl : l ≤ 5) (s4 s5 z6 s7 z8 z9 s10 s11 s12 : Slot) : ∃ (ms : List Mist) (s6 s8 s9 s14 s15 s16 s17 : Slot), ms.length ≤ 2 ∧ (∀ m ∈ ms, MistOk l m) ∧
    FF_law_fleet_s5 C_law_drawn (E2 ns a m l s4 s5 z6 s7 z8 z9 s10 s11 s12 (.ow (.list [])) .un .un .un .un .un) = .ok (.nx (E2 ns a m l s4 s5 s6 s7 s8 s9 s10 s11 s12 (.ow (.list (ms.map Mist.D))) s14 s15 s16 s17 .un)) := by
  obtain ⟨e, p0, p1⟩ := drw_ok ns (k := a + 8) (many := 3) hn (by omega) (by omega) (by decide)
  obtain ⟨n, hnn⟩ : ∃ n : Nat, drw ns (a + 8) 3 = n := ⟨(drw ns (a + 8) 3).toNat, by omega⟩
  obtain ⟨ms, s6, s8, s9, s14, s15, s16, s17, h1, h2, e1⟩ := f1_mists ns hn a0 a1 m hl (n := n) (by omega) s4 s5 z6 s7 z8 z9 s10 s11 s12
  refine ⟨ms, s6, s8, s9, s14, s15, s16, s17, by omega, h2, ?_⟩
  rw [s5_eq, relS_ap, relR_cons, relR1_0va, relR_nil, fFor_ap]
  have e0 : (iB dRng1 [(eC 3 DR [(rdE 0), (e2 (dBin .Add) (rdP 1) (kD (.int 8))), (kD (.int 3))])]) (E2 ns a m l s4 s5 z6 s7 z8 z9 s10 s11 s12 (.ow (.list [])) .un .un .un .un .un) = .ok ((List.range n).map fun (j : Nat) => .int j) := by
    simp -implicitDefEqProofs only [iB_ap, eArgs_cons, eArgs_nil, e2_ap, rdP_succ, rdP_zero, rdE_zero, kD_ap, R.ok_bind, dAdd_int, eC_ap, ari_3, e, hnn, rng1 (n := n) (by omega)]
  rw [e0, R.ok_bind]
  exact e1
theorem f1_s6 (ns : List Int) (a : Int) (m : Slot) (l : Nat) (s5 s6 s7 s8 s9 s10 s11 s14 s15 s16 s17 s18 : Slot) (is : List Cell) (ships : List Ship) {ms : List Mist} (h : ms.length < 64) : ∃ ns' : List Mist, (∀ m, m ∈ ns' ↔ m ∈ ms) ∧ risingB (ns'.map Mist.D) = true ∧ ns'.length ≤ ms.length ∧
    FF_law_fleet_s6 C_law_drawn (E2 ns a m l (.ow (.list (ships.map Ship.D))) s5 s6 s7 s8 s9 s10 s11 (.ow (.list (is.map cellD))) (.ow (.list (ms.map Mist.D))) s14 s15 s16 s17 s18) = .ok (.rt (Fl.D ⟨l, is, ships, ns'⟩)) := by
  obtain ⟨ns', e, h1, h2, h3⟩ := mists_set h
  refine ⟨ns', h1, h2, h3, ?_⟩
  unfold FF_law_fleet_s6
  simp -implicitDefEqProofs only [relS_ap, relR_cons, relR_nil, relR1_succ, relR1_0va, sRet_ap, eTup_ap, eArgs_cons, eArgs_nil, rdE_succ, rdE_zero, eB_ap, rdP_succ, rdP_zero_ow, R.ok_bind, dTuple_list, e, okLen_4, Fl.D]
theorem abc_ok : ∀ n : Nat, n ≤ 5 → ((abc5.take n).all fun z => isNameB (.str z)) = true ∧ risingB ((abc5.take n).map .str) = true := by
  intro n hn
  match n, hn with
  | 0, _ => decide +kernel
  | 1, _ => decide +kernel
  | 2, _ => decide +kernel
  | 3, _ => decide +kernel
  | 4, _ => decide +kernel
  | 5, _ => decide +kernel
/-- what a drawn fleet of the earlier laws is -/
structure Drawn1 (F : Fl) (most : Nat) : Prop where
  ok : F.Ok
  last : 1 ≤ F.last ∧ F.last ≤ 5
  many : 2 ≤ F.ships.length ∧ F.ships.length ≤ most
  names : F.names = abc5.take F.ships.length
theorem sp_fleet1 (ns : List Int) (hn : ns.length ≤ 63) {a : Int} {most : Nat} (h0 : 0 ≤ a) (h1 : a < 90000) (hm : 2 ≤ most) (hm5 : most ≤ 5) : ∃ F : Fl, Drawn1 F most ∧ C_law_fleet [scr ns, .int a, .int most] = .ok F.D := by
  obtain ⟨l, l1, l5, e0⟩ := f1_s0 ns hn h0 h1 (.int most)
  obtain ⟨n, ships, used, s5, s6, s7, s8, s9, s10, s11, n2, nm, md, hu, e1⟩ := f1_s1 ns hn h0 h1 hm hm5 l5
  obtain ⟨cs, cl, cc, e2⟩ := f1_s2 ns hn h0 h1 (.va (.int most)) l (.ow (.list (ships.map Ship.D))) s5 s6 s7 s8 s9 s10 s11
  obtain ⟨is, im, ir, il, e3⟩ := f1_s3 ns a (.va (.int most)) l (.ow (.list (ships.map Ship.D))) s5 s6 s7 s8 s9 s10 s11 (cs := cs) (by omega) hu
  obtain ⟨ms, t6, t8, t9, t14, t15, t16, t17, ml, mo, e5⟩ := f1_s5 ns hn h0 h1 (.va (.int most)) l5 (.ow (.list (ships.map Ship.D))) s5 s6 s7 s8 s9 s10 s11 (.ow (.list (is.map cellD)))
  obtain ⟨ms', mm, mr, ml', e6⟩ := f1_s6 ns a (.va (.int most)) l s5 t6 s7 t8 t9 s10 s11 t14 t15 t16 t17 .un is ships (ms := ms) (by omega)
  have hsl : ships.length = n := by
    have := congrArg List.length md.names
    simp [abc5] at this
    omega
  have hfo := abc_ok n (by omega)
  refine ⟨⟨l, is, ships, ms'⟩, ⟨{
    last := by show l ≤ 7; omega
    isl := by show is.length ≤ 12; omega
    islc := fun c hc => by have := cc c ((im c).mp hc).1; omega
    islr := ir
    many := by show 1 ≤ ships.length ∧ ships.length ≤ 5; omega
    name := fun s hs => by
      have : s.name ∈ abc5.take n := by rw [← md.names]; exact List.mem_map_of_mem hs
      exact List.all_eq_true.mp hfo.1 _ this
    sight := fun s hs => by have := md.sight s hs; omega
    len := md.len
    cell := fun s hs c hc => by
      have := md.cell s hs c hc
      exact ⟨this.1, this.2.1, fun hi => ((im c).mp hi).2 this.2.2⟩
    rise := by
      have e : (ships.map fun s => PyData.str s.name) = (abc5.take n).map .str := by rw [← md.names, List.map_map]; rfl
      show risingB (ships.map fun s => PyData.str s.name) = true
      rw [e]
      exact hfo.2
    mmany := by show ms'.length ≤ 4; omega
    mist := fun m hm => mo m ((mm m).mp hm)
    mrise := mr }, ⟨l1, l5⟩, ⟨by show 2 ≤ ships.length; omega, by show ships.length ≤ most; omega⟩, by show ships.map Ship.name = abc5.take ships.length; rw [md.names, hsl]⟩, ?_⟩
  unfold C_law_fleet FF_law_fleet
  rw [fRun_ap]
  show FF_law_fleet_t0 C_law_drawn [.va (scr ns), .va (.int a), .va (.int most), .un, .un, .un, .un, .un, .un, .un, .un, .un, .un, .un, .un, .un, .un, .un, .un] >>= fOut = _
  rw [FF_law_fleet_t0, seq_nx e0, FF_law_fleet_t1, seq_nx e1, FF_law_fleet_t2, seq_nx e2, FF_law_fleet_t3, seq_nx e3, FF_law_fleet_t4, seq_nx (f1_s4 _ _ _ _ _ _ _ _ _ _ _ _ _), FF_law_fleet_t5, seq_nx e5, FF_law_fleet_t6, seq_rt e6]
  rfl
end DL
/-! Who sees whom, in plain words. -/
namespace DL
open PySem PySem.Spec PyProof.Rows L2
theorem dMin_ii (a b : Int) : dMin [.int a, .int b] = .ok (.int (min a b)) := by
  simp only [dMin, R.ok.injEq, PyData.int.injEq]
  split <;> omega
theorem dMax_ii (a b : Int) : dMax [.int a, .int b] = .ok (.int (max a b)) := by
  simp only [dMax, R.ok.injEq, PyData.int.injEq]
  split <;> omega
theorem dAbs_i (a : Int) : dAbs [.int a] = .ok (.int (a.natAbs : Int)) := by
  simp only [dAbs, R.ok.injEq, PyData.int.injEq]
  split <;> omega
/-! ### order and names -/
theorem rise_pw : ∀ ds : List D, risingB ds = true → ds.Pairwise fun a b => PySem.W.dataLt a b = true
  | [], _ => .nil
  | [_], _ => by simp
  | a :: b :: r, h => by
    simp only [risingB, Bool.and_eq_true] at h
    have ih := rise_pw (b :: r) h.2
    refine List.pairwise_cons.mpr ⟨fun c hc => ?_, ih⟩
    rcases List.mem_cons.mp hc with rfl | hc
    · exact h.1
    · exact lex_trans (O := itemOrd) _ _ _ h.1 ((List.pairwise_cons.mp ih).1 c hc)
theorem lt_ne {a b : D} (h : PySem.W.dataLt a b = true) : a ≠ b := by
  rintro rfl
  have := lex_irrefl (O := itemOrd) (PySem.W.keyToks a)
  unfold PySem.W.dataLt at h
  rw [this] at h
  cases h
theorem rise_nodup {ds : List D} (h : risingB ds = true) : ds.Nodup := (rise_pw ds h).imp lt_ne
theorem Fl.Ok.nd {F : Fl} (h : F.Ok) : F.names.Nodup := by
  have := rise_nodup h.rise
  have e : (F.ships.map fun s => PyData.str s.name) = F.names.map PyData.str := by simp [Fl.names]
  rw [e] at this
  exact List.Pairwise.of_map _ (fun a b hne e => hne (by rw [e])) this
theorem nd_inj {α β : Type} {f : α → β} : ∀ {xs : List α}, (xs.map f).Nodup → ∀ {a b : α}, a ∈ xs → b ∈ xs → f a = f b → a = b
  | [], _, _, _, ha, _, _ => nomatch ha
  | x :: xs, h, a, b, ha, hb, e => by
    simp only [List.map_cons, List.nodup_cons, List.mem_map, not_exists, not_and] at h
    rcases List.mem_cons.mp ha with e1 | h1 <;> rcases List.mem_cons.mp hb with e2 | h2
    · rw [e1, e2]
    · subst e1; exact absurd e.symm (h.1 b h2)
    · subst e2; exact absurd e (h.1 a h1)
    · exact nd_inj h.2 h1 h2 e
theorem Fl.Ok.inj {F : Fl} (h : F.Ok) {s t : Ship} (hs : s ∈ F.ships) (ht : t ∈ F.ships) (e : s.name = t.name) : s = t := nd_inj (f := Ship.name) h.nd hs ht e
theorem ship_okD {F : Fl} (h : F.Ok) {s : Ship} (hs : s ∈ F.ships) : okD 6 s.D = true := by
  have := name_ok (h.name s hs)
  simp [Ship.D, okD, this.1, cellD]
  omega
theorem eqv_name {F : Fl} (h : F.Ok) {s t : Ship} (hs : s ∈ F.ships) (ht : t ∈ F.ships) : PyData.eqv s.D t.D = decide (s.name = t.name) := by
  by_cases e : s.name = t.name
  · have := h.inj hs ht e
    subst this
    rw [SeqAt.eqv_refl s.D (okD_can 6 _ (ship_okD h hs)).1]
    simp
  · simp [Ship.D, PyData.eqv, PyData.eqvAll, e]
theorem dEq_ok {n m : Nat} {x y : D} (hx : okD n x = true) (hy : okD m y = true) (hn : n ≤ 64) (hm : m ≤ 64) : dCmp .Eq x y = .ok (PyData.eqv x y) := by
  show dEq x y = _
  have s1 := okD_shaped hx hn
  have s2 := okD_shaped hy hm
  cases x with
  | dict k => cases n <;> simp [okD] at hx
  | _ => simp only [dEq, s1, s2, Bool.and_self, if_true]
theorem dNe_ok {n m : Nat} {x y : D} (hx : okD n x = true) (hy : okD m y = true) (hn : n ≤ 64) (hm : m ≤ 64) : dCmp .NotEq x y = .ok (!PyData.eqv x y) := by
  show (dEq x y >>= fun b => .ok (!b)) = _
  have := dEq_ok hx hy hn hm
  have this : dEq x y = _ := this
  rw [this]
  rfl
/-! ### cells -/
def inB (m : Mist) (c : Cell) : Bool := (decide ((m.a.1 : Int) ≤ c.1) && decide ((c.1 : Int) ≤ m.b.1)) && (decide ((m.a.2 : Int) ≤ c.2) && decide ((c.2 : Int) ≤ m.b.2))
theorem C_in (m : Mist) (c : Cell) : C_is_in [m.D, cellD c] = .ok (.bool (inB m c)) := by
  unfold C_is_in FF_is_in
  simp -implicitDefEqProofs [rdP_succ, rdE_succ, Mist.D, cellD, setFl, inB]
def btwB (a b c : Cell) : Bool := !(decide (a = c) || decide (b = c)) && (decide ((((c.1 : Int) - a.1) * ((b.2 : Int) - a.2)) = (((c.2 : Int) - a.2) * ((b.1 : Int) - a.1))) &&
  ((decide (min (a.1 : Int) b.1 ≤ c.1) && decide ((c.1 : Int) ≤ max (a.1 : Int) b.1)) && (decide (min (a.2 : Int) b.2 ≤ c.2) && decide ((c.2 : Int) ≤ max (a.2 : Int) b.2))))
theorem C_btw {a b c : Cell} (ha : a.1 ≤ 9 ∧ a.2 ≤ 9) (hb : b.1 ≤ 9 ∧ b.2 ≤ 9) (hc : c.1 ≤ 9 ∧ c.2 ≤ 9) : C_is_between [cellD a, cellD b, cellD c] = .ok (.bool (btwB a b c)) := by
  have e0 : dCmp .In (cellD c) (.tuple [cellD a, cellD b]) = .ok (decide (a = c) || decide (b = c)) := by
    rw [dCmp_in, dIn_tup (shaped_cell c) (okD_shaped (n := 4) (by simp [okD, cellD]) (by decide))]
    simp [eqv_cell]
  have m1 : dBin .Mult (.int ((c.1 : Int) - a.1)) (.int ((b.2 : Int) - a.2)) = .ok (.int (((c.1 : Int) - a.1) * ((b.2 : Int) - a.2))) := dMul_l (by simp [smallI]; omega)
  have m2 : dBin .Mult (.int ((c.2 : Int) - a.2)) (.int ((b.1 : Int) - a.1)) = .ok (.int (((c.2 : Int) - a.2) * ((b.1 : Int) - a.1))) := dMul_l (by simp [smallI]; omega)
  unfold C_is_between FF_is_between
  cases q : (decide (a = c) || decide (b = c)) with
  | true =>
    have e0 : dCmp .In (.tuple [.int c.1, .int c.2]) (.tuple [.tuple [.int a.1, .int a.2], .tuple [.int b.1, .int b.2]]) = .ok true := by rw [q] at e0; exact e0
    simp -implicitDefEqProofs only [btwB, q]
    simp -implicitDefEqProofs [rdP_succ, rdE_succ, relR1_succ, cellD, e0]
  | false =>
    have e0 : dCmp .In (.tuple [.int c.1, .int c.2]) (.tuple [.tuple [.int a.1, .int a.2], .tuple [.int b.1, .int b.2]]) = .ok false := by rw [q] at e0; exact e0
    simp -implicitDefEqProofs only [btwB, q]
    by_cases h : (((c.1 : Int) - a.1) * ((b.2 : Int) - a.2)) = (((c.2 : Int) - a.2) * ((b.1 : Int) - a.1))
    · simp -implicitDefEqProofs [rdP_succ, rdE_succ, relR1_succ, cellD, e0, m1, m2, h, dMin_ii, dMax_ii]
    · simp -implicitDefEqProofs [rdP_succ, rdE_succ, relR1_succ, cellD, e0, m1, m2, h]
def apart (a b : Cell) : Int := max ((((a.1 : Int) - b.1).natAbs : Int)) ((((a.2 : Int) - b.2).natAbs : Int))
/-- at an hour -/
def Ship.at (s : Ship) (h : Nat) : Cell := s.course.getD h (0, 0)
def hidB (h : Nat) (a b : Cell) (m : Mist) : Bool := (decide ((m.first : Int) ≤ h) && decide ((h : Int) ≤ m.til)) && ((inB m a || inB m b) && decide ((m.most : Int) < apart a b))
def seesB (F : Fl) (h : Nat) (s t : Ship) : Bool := !(decide (s.name = t.name) || decide ((s.sight : Int) < apart (s.at h) (t.at h))) && (!F.mists.any (hidB h (s.at h) (t.at h)) && !F.isl.any (btwB (s.at h) (t.at h)))
theorem lastSet_set {i : Nat} : ∀ {ds : List D} {ρ : Env} {s0 : Slot}, ρ[i]? = some s0 → ∃ s, lastSet i ρ ds = ρ.set i s
  | [], ρ, s0, h => ⟨s0, by
      obtain ⟨h1, h2⟩ := List.getElem?_eq_some_iff.mp h
      rw [← h2, List.set_getElem_self]; rfl⟩
  | d :: ds, ρ, s0, h => by
    obtain ⟨h1, _⟩ := List.getElem?_eq_some_iff.mp h
    obtain ⟨s, e⟩ := lastSet_set (i := i) (ds := ds) (ρ := ρ.set i (.va d)) (s0 := .va d) (by simp [h1])
    exact ⟨s, by simp only [lastSet, e, List.set_set]⟩
theorem for_ret {α : Type} {i : Nat} {fb : Env → R Out} (emb : α → D) (p : α → Bool) (r : D) : ∀ {xs : List α} {ρ : Env}, (∀ x ∈ xs, fb (ρ.set i (.va (emb x))) = if p x then .ok (.rt r) else .ok (.nx (ρ.set i (.va (emb x))))) →
    forLoop (.one i) fb (xs.map emb) ρ = if xs.any p then .ok (.rt r) else .ok (.nx (lastSet i ρ (xs.map emb)))
  | [], ρ, _ => rfl
  | x :: xs, ρ, h => by
    have h1 := h x (by simp)
    have ih := for_ret emb p r (xs := xs) (ρ := ρ.set i (.va (emb x))) fun y hy => by
      rw [List.set_set]
      exact h y (by simp [hy])
    cases q : p x with
    | true =>
      simp only [List.map_cons, forLoop, fTg_one, R.ok_bind, h1, q, if_true, List.any_cons, Bool.true_or]
    | false =>
      rw [q] at h1
      simp only [Bool.false_eq_true, if_false] at h1
      simp only [List.map_cons, forLoop, fTg_one, R.ok_bind, h1, q, List.any_cons, Bool.false_or, ih, lastSet]
theorem course_at {F : Fl} (h : F.Ok) {s : Ship} (hs : s ∈ F.ships) {k : Nat} (hk : k ≤ F.last) : dIx (.tuple (s.course.map cellD)) (.int k) = .ok (cellD (s.at k)) ∧ (s.at k).1 ≤ 9 ∧ (s.at k).2 ≤ 9 ∧ s.at k ∈ s.course := by
  have hl := h.len s hs
  have hlt : k < s.course.length := by omega
  have e : s.at k = s.course[k] := by simp [Ship.at, List.getD_eq_getElem?_getD, List.getElem?_eq_getElem hlt]
  have hm : s.at k ∈ s.course := by rw [e]; exact List.getElem_mem hlt
  have := h.cell s hs _ hm
  exact ⟨dIx_tup (by rw [e]; simp [hlt]), this.1, this.2.1, hm⟩
abbrev V9 (F : Fl) (k : Nat) (s t : Ship) (s4 s5 s6 s7 s8 : Slot) : Env := [.va F.D, .va (.int k), .va s.D, .va t.D, s4, s5, s6, s7, s8]
def sa3 : Env → R Out := (fSeq (relS [7, 4, 7, 5] (fIfS (tstAnd (fChain (dCmp .LtE) (dCmp .LtE) (e2 dIx (rdP 7) (kD (.int 0))) (rdP 1) (e2 dIx (rdP 7) (kD (.int 1)))) (tstAnd (tstOr (t1 dTru (eC 2 C_is_in [(rdE 7), (rdE 4)])) (t1 dTru (eC 2 C_is_in [(rdE 7), (rdE 5)]))) (t2 (dCmp .Gt) (rdP 6) (e2 dIx (rdP 7) (kD (.int 4)))))) (fSeq (relS [] (sRet (kD (.bool false))))
      sNil) sNil))
    sNil)
theorem sa3_ok (F : Fl) (k : Nat) (s t : Ship) (a b : Cell) (m : Mist) : sa3 (V9 F k s t (.va (cellD a)) (.va (cellD b)) (.va (.int (apart a b))) (.va m.D) .un) = if hidB k a b m then .ok (.rt (.bool false)) else .ok (.nx (V9 F k s t (.va (cellD a)) (.va (cellD b)) (.va (.int (apart a b))) (.va m.D) .un)) := by
  have i0 : dIx m.D (.int 0) = .ok (.int m.first) := by kernel_rfl
  have i1 : dIx m.D (.int 1) = .ok (.int m.til) := by kernel_rfl
  have i4 : dIx m.D (.int 4) = .ok (.int m.most) := by kernel_rfl
  unfold sa3 hidB
  by_cases h1 : m.first ≤ k <;> by_cases h2 : k ≤ m.til <;> cases h3 : inB m a <;> cases h4 : inB m b <;> by_cases h5 : (m.most : Int) < apart a b <;>
    simp -implicitDefEqProofs [rdP_succ, rdE_succ, relR1_succ, i0, i1, i4, h1, h2, C_in, h3, h4, h5]
theorem C_sees_at_ok {F : Fl} (h : F.Ok) {s t : Ship} (hs : s ∈ F.ships) (ht : t ∈ F.ships) {k : Nat} (hk : k ≤ F.last) : C_sees_at [F.D, .int k, s.D, t.D] = .ok (.bool (seesB F k s t)) := by
  obtain ⟨c1, c2, c3, c4⟩ := course_at h hs hk
  obtain ⟨d1, d2, d3, d4⟩ := course_at h ht hk
  have eq1 : dCmp .Eq s.D t.D = .ok (decide (s.name = t.name)) := by rw [dEq_ok (ship_okD h hs) (ship_okD h ht) (by decide) (by decide), eqv_name h hs ht]
  have j2 : ∀ s : Ship, dIx s.D (.int 2) = .ok (.tuple (s.course.map cellD)) := fun s => by kernel_rfl
  have j1 : dIx s.D (.int 1) = .ok (.int s.sight) := by kernel_rfl
  have f3 : dIx F.D (.int 3) = .ok (.tuple (F.mists.map Mist.D)) := by kernel_rfl
  have f1 : dIx F.D (.int 1) = .ok (.tuple (F.isl.map cellD)) := by kernel_rfl
  unfold C_sees_at FF_sees_at
  rw [fRun_ap]
  show (fSeq _ _) (V9 F k s t .un .un .un .un .un) >>= fOut = _
  rw [seq_nx (F := relS [] _) (ρ' := V9 F k s t (.va (cellD (s.at k))) (.va (cellD (t.at k))) .un .un .un) (by
    simp -implicitDefEqProofs only [relS_ap, relR_nil, fPar_ap, eArgs_cons, eArgs_nil, e2_ap, rdP_succ, rdP_zero, kD_ap, R.ok_bind, j2, c1, d1, setFl, List.set])]
  rw [seq_nx (F := relS [] _) (ρ' := V9 F k s t (.va (cellD (s.at k))) (.va (cellD (t.at k))) (.va (.int (apart (s.at k) (t.at k)))) .un .un) (by
    simp -implicitDefEqProofs only [relS_ap, relR_nil, sSet_ap, eB_ap, eArgs_cons, eArgs_nil, e2_ap, rdP_succ, rdP_zero, kD_ap, R.ok_bind, cellD, dIx_t0, dIx_t1, dSub_int, dAbs_i, dMax_ii, List.set, apart])]
  cases q : (decide (s.name = t.name) || decide ((s.sight : Int) < apart (s.at k) (t.at k))) with
  | true =>
    rw [seq_rt (F := relS [] _) (d := .bool false) (by
      rcases Bool.or_eq_true_iff.mp q with q | q <;> simp -implicitDefEqProofs [rdP_succ, rdE_succ, eq1, j1, q])]
    simp [seesB, q]
  | false =>
    have q' := Bool.or_eq_false_iff.mp q
    rw [seq_nx (F := relS [] _) (ρ' := V9 F k s t (.va (cellD (s.at k))) (.va (cellD (t.at k))) (.va (.int (apart (s.at k) (t.at k)))) .un .un) (by
      simp -implicitDefEqProofs [rdP_succ, rdE_succ, eq1, j1, q'.1, q'.2])]
    have loop : forLoop (.one 7) sa3 (F.mists.map Mist.D) (V9 F k s t (.va (cellD (s.at k))) (.va (cellD (t.at k))) (.va (.int (apart (s.at k) (t.at k)))) .un .un) = _ :=
      for_ret Mist.D (hidB k (s.at k) (t.at k)) (.bool false) fun m _ => sa3_ok F k s t (s.at k) (t.at k) m
    have it : (i1 dItems (e2 dIx (rdP 0) (kD (.int 3)))) (V9 F k s t (.va (cellD (s.at k))) (.va (cellD (t.at k))) (.va (.int (apart (s.at k) (t.at k)))) .un .un) = .ok (F.mists.map Mist.D) := by
      simp -implicitDefEqProofs only [i1_ap, e2_ap, rdP_zero, kD_ap, R.ok_bind, f3, dItems_tuple]
    cases q2 : F.mists.any (hidB k (s.at k) (t.at k)) with
    | true =>
      rw [q2] at loop
      rw [seq_rt (F := relS [] (fFor _ _ _)) (d := .bool false) (by
        rw [relS_ap, relR_nil, fFor_ap, it, R.ok_bind]
        exact loop)]
      simp [seesB, q2]
    | false =>
      rw [q2] at loop
      obtain ⟨s7, e7⟩ := lastSet_set (i := 7) (ds := F.mists.map Mist.D) (ρ := V9 F k s t (.va (cellD (s.at k))) (.va (cellD (t.at k))) (.va (.int (apart (s.at k) (t.at k)))) .un .un) (s0 := .un) rfl
      rw [e7] at loop
      rw [seq_nx (F := relS [] (fFor _ _ _)) (ρ' := V9 F k s t (.va (cellD (s.at k))) (.va (cellD (t.at k))) (.va (.int (apart (s.at k) (t.at k)))) s7 .un) (by
        rw [relS_ap, relR_nil, fFor_ap, it, R.ok_bind]
        exact loop)]
      have key : lcLoop (.one 8) (kT true) (eC 3 C_is_between [(rdE 4), (rdE 5), (rdE 8)]) (V9 F k s t (.va (cellD (s.at k))) (.va (cellD (t.at k))) (.va (.int (apart (s.at k) (t.at k)))) s7 .un) (F.isl.map cellD) = .ok (F.isl.map fun c => .bool (btwB (s.at k) (t.at k) c)) := by
        refine lc_map cellD (fun c => .bool (btwB (s.at k) (t.at k) c)) _ fun c hc => ?_
        have := h.islc c hc
        simp -implicitDefEqProofs [rdP_succ, rdE_succ, C_btw ⟨c2, c3⟩ ⟨d2, d3⟩ this]
      rw [seq_rt (F := relS [4, 5, 8] _) (d := .bool (!F.isl.any (btwB (s.at k) (t.at k)))) (by
        simp -implicitDefEqProofs only [relS_ap, relR_cons, relR_nil, relR1_succ, relR1_0va, relR1_0un, sRet_ap, e1_ap, eB_ap, eArgs_cons, eArgs_nil, fLc_ap, i1_ap, e2_ap, rdP_zero, kD_ap, R.ok_bind, f1, dItems_tuple, wipeR_cons, wipeR_nil, List.set, key, calm_ok, dAny_map, dNot_bool])]
      simp [seesB, q, q2]
/-! ### all sightings -/
abbrev Row := Nat × Str × Str
def rowD (r : Row) : D := .tuple [.int r.1, .str r.2.1, .str r.2.2]
def rowsOf (F : Fl) (h : Nat) (s : Ship) : List Row := (F.ships.filter (seesB F h s)).map fun t => (h, s.name, t.name)
def rowsAt (F : Fl) (h : Nat) : List Row := F.ships.flatMap (rowsOf F h)
def rows (F : Fl) : List Row := (List.range (F.last + 1)).flatMap (rowsAt F)
theorem flatMap_le {α β : Type} {f : α → List β} {m : Nat} : ∀ {xs : List α}, (∀ x ∈ xs, (f x).length ≤ m) → (xs.flatMap f).length ≤ xs.length * m
  | [], _ => by simp
  | x :: xs, h => by
    have h1 := h x (by simp)
    have ih := flatMap_le (xs := xs) fun y hy => h y (by simp [hy])
    rw [List.flatMap_cons, List.length_append, List.length_cons, Nat.add_mul]
    omega
theorem rowsOf_le {F : Fl} (h : F.Ok) (k : Nat) (s : Ship) : (rowsOf F k s).length ≤ 5 := by
  have := h.many.2
  have := List.length_filter_le (seesB F k s) F.ships
  simp only [rowsOf, List.length_map]
  omega
theorem rowsAt_le {F : Fl} (h : F.Ok) (k : Nat) : (rowsAt F k).length ≤ 25 := by
  have h1 := h.many.2
  have := flatMap_le (f := rowsOf F k) (m := 5) (xs := F.ships) fun s _ => rowsOf_le h k s
  simp only [rowsAt]
  omega
theorem rows_le {F : Fl} (h : F.Ok) : (rows F).length ≤ 200 := by
  have h1 := h.last
  have := flatMap_le (f := rowsAt F) (m := 25) (xs := List.range (F.last + 1)) fun s _ => rowsAt_le h s
  simp only [rows, List.length_range] at *
  omega
/-- a loop that gathers -/
theorem for_acc {α β : Type} {i : Nat} {fb : Env → R Out} (emb : α → D) (g : α → List D) (mk : List D → β → Env) : ∀ {xs : List α}, (∀ acc b x, x ∈ xs → acc.length + (g x).length ≤ 10000 → ∃ b', fb ((mk acc b).set i (.va (emb x))) = .ok (.nx (mk (acc ++ g x) b'))) →
    ∀ acc b, acc.length + (xs.flatMap g).length ≤ 10000 → ∃ b', forLoop (.one i) fb (xs.map emb) (mk acc b) = .ok (.nx (mk (acc ++ xs.flatMap g) b'))
  | [], _, acc, b, _ => ⟨b, by simp [forLoop]⟩
  | x :: xs, h, acc, b, hl => by
    rw [List.flatMap_cons, List.length_append] at hl
    obtain ⟨b1, e1⟩ := h acc b x (by simp) (by omega)
    obtain ⟨b2, e2⟩ := for_acc (i := i) (fb := fb) emb g mk (xs := xs) (fun acc b y hy => h acc b y (by simp [hy])) (acc ++ g x) b1 (by rw [List.length_append]; omega)
    refine ⟨b2, ?_⟩
    simp only [List.map_cons, forLoop, fTg_one, R.ok_bind, e1, e2, List.flatMap_cons, List.append_assoc]
def ps3 : Env → R Out := (fSeq (relS [0, 2, 3, 4] (fIfS (t1 dTru (eC 4 C_sees_at [(rdE 0), (rdE 2), (rdE 3), (rdE 4)])) (fSeq (relS [2] (fApp 1 (eTup [(rdE 2), (e2 dIx (rdP 3) (kD (.int 0))), (e2 dIx (rdP 4) (kD (.int 0)))])))
          sNil) sNil))
        sNil)
def ps2 : Env → R Out := (fSeq (relS [] (fFor (i1 dItems (e2 dIx (rdP 0) (kD (.int 2)))) (.one 4) ps3))
      sNil)
def ps1 : Env → R Out := (fSeq (relS [] (fFor (i1 dItems (e2 dIx (rdP 0) (kD (.int 2)))) (.one 3) ps2))
    sNil)
theorem ix_n (s : Ship) : dIx s.D (.int 0) = .ok (.str s.name) := by kernel_rfl
theorem ix_ships (F : Fl) : dIx F.D (.int 2) = .ok (.tuple (F.ships.map Ship.D)) := by kernel_rfl
theorem ix_last (F : Fl) : dIx F.D (.int 0) = .ok (.int F.last) := by kernel_rfl
theorem ps3_ok {F : Fl} (h : F.Ok) {k : Nat} (hk : k ≤ F.last) {s t : Ship} (hs : s ∈ F.ships) (ht : t ∈ F.ships) (acc : List D) (hl : acc.length ≤ 10000) : ps3 [.va F.D, .ow (.list acc), .va (.int k), .va s.D, .va t.D] = .ok (.nx [.va F.D, .ow (.list (acc ++ (if seesB F k s t then [rowD (k, s.name, t.name)] else []))), .va (.int k), .va s.D, .va t.D]) := by
  have e := C_sees_at_ok h hs ht hk
  unfold ps3
  refine seq_nx (F := relS [0, 2, 3, 4] _) (G := sNil) ?_
  cases q : seesB F k s t with
  | false =>
    rw [q] at e
    simp -implicitDefEqProofs [rdP_succ, rdE_succ, relR1_succ, e]
  | true =>
    rw [q] at e
    have hr : relR [0, 2, 3, 4] [.va F.D, .ow (.list acc), .va (.int k), .va s.D, .va t.D] = [.va F.D, .ow (.list acc), .va (.int k), .va s.D, .va t.D] := by
      simp -implicitDefEqProofs only [relR_cons, relR_nil, relR1_succ, relR1_0va]
    have hr2 : relR [2] [.va F.D, .ow (.list acc), .va (.int k), .va s.D, .va t.D] = [.va F.D, .ow (.list acc), .va (.int k), .va s.D, .va t.D] := by
      simp -implicitDefEqProofs only [relR_cons, relR_nil, relR1_succ, relR1_0va]
    have ht : (t1 dTru (eC 4 C_sees_at [(rdE 0), (rdE 2), (rdE 3), (rdE 4)])) [.va F.D, .ow (.list acc), .va (.int k), .va s.D, .va t.D] = .ok true := by
      simp -implicitDefEqProofs [rdP_succ, rdE_succ, e]
    rw [relS_ap, hr, fIfS_ap, ht, R.ok_bind]
    simp only [if_true]
    refine seq_nx (F := relS [2] _) (G := sNil) ?_
    rw [relS_ap, hr2, app_ok (ds := acc) (d := rowD (k, s.name, t.name)) rfl ?_ (by omega)]
    · simp only [List.set]
    · simp -implicitDefEqProofs only [eTup_ap, eArgs_cons, eArgs_nil, rdE_succ, rdE_zero, e2_ap, rdP_succ, rdP_zero, kD_ap, R.ok_bind, ix_n, okLen_3, rowD]
theorem filter_flat {α β : Type} (p : α → Bool) (f : α → β) : ∀ xs : List α, xs.flatMap (fun x => if p x then [f x] else []) = (xs.filter p).map f
  | [] => rfl
  | x :: xs => by
    rw [List.flatMap_cons, filter_flat p f xs]
    cases q : p x <;> simp [q]
theorem ps2_ok {F : Fl} (h : F.Ok) {k : Nat} (hk : k ≤ F.last) {s : Ship} (hs : s ∈ F.ships) (acc : List D) (s4 : Slot) (hl : acc.length + (rowsOf F k s).length ≤ 10000) : ∃ s4', ps2 [.va F.D, .ow (.list acc), .va (.int k), .va s.D, s4] = .ok (.nx [.va F.D, .ow (.list (acc ++ (rowsOf F k s).map rowD)), .va (.int k), .va s.D, s4']) := by
  have eq : F.ships.flatMap (fun t => if seesB F k s t then [rowD (k, s.name, t.name)] else []) = (rowsOf F k s).map rowD := by
    rw [filter_flat, rowsOf, List.map_map]
    rfl
  obtain ⟨b', e⟩ := for_acc (i := 4) (fb := ps3) Ship.D (fun t => if seesB F k s t then [rowD (k, s.name, t.name)] else []) (fun acc (b : Slot) => [.va F.D, .ow (.list acc), .va (.int k), .va s.D, b]) (xs := F.ships)
    (fun acc b t ht hl => ⟨.va t.D, ps3_ok h hk hs ht acc (by omega)⟩) acc s4 (by rw [eq, List.length_map]; exact hl)
  rw [eq] at e
  refine ⟨b', ?_⟩
  unfold ps2
  refine seq_nx (F := relS [] _) (G := sNil) ?_
  have it : (i1 dItems (e2 dIx (rdP 0) (kD (.int 2)))) [.va F.D, .ow (.list acc), .va (.int k), .va s.D, s4] = .ok (F.ships.map Ship.D) := by
    simp -implicitDefEqProofs only [i1_ap, e2_ap, rdP_zero, kD_ap, R.ok_bind, ix_ships, dItems_tuple]
  rw [relS_ap, relR_nil, fFor_ap, it, R.ok_bind]
  exact e
theorem ps1_ok {F : Fl} (h : F.Ok) {k : Nat} (hk : k ≤ F.last) (acc : List D) (b : Slot × Slot) (hl : acc.length + (rowsAt F k).length ≤ 10000) : ∃ b' : Slot × Slot, ps1 [.va F.D, .ow (.list acc), .va (.int k), b.1, b.2] = .ok (.nx [.va F.D, .ow (.list (acc ++ (rowsAt F k).map rowD)), .va (.int k), b'.1, b'.2]) := by
  have eq : F.ships.flatMap (fun s => (rowsOf F k s).map rowD) = (rowsAt F k).map rowD := by rw [rowsAt, List.map_flatMap]
  obtain ⟨b', e⟩ := for_acc (i := 3) (fb := ps2) Ship.D (fun s => (rowsOf F k s).map rowD) (fun acc (b : Slot × Slot) => [.va F.D, .ow (.list acc), .va (.int k), b.1, b.2]) (xs := F.ships)
    (fun acc b s hs hl => by
      obtain ⟨s4', e⟩ := ps2_ok h hk hs acc b.2 (by rw [List.length_map] at hl; exact hl)
      exact ⟨(.va s.D, s4'), e⟩) acc b (by rw [eq, List.length_map]; exact hl)
  rw [eq] at e
  refine ⟨b', ?_⟩
  unfold ps1
  refine seq_nx (F := relS [] _) (G := sNil) ?_
  have it : (i1 dItems (e2 dIx (rdP 0) (kD (.int 2)))) [.va F.D, .ow (.list acc), .va (.int k), b.1, b.2] = .ok (F.ships.map Ship.D) := by
    simp -implicitDefEqProofs only [i1_ap, e2_ap, rdP_zero, kD_ap, R.ok_bind, ix_ships, dItems_tuple]
  rw [relS_ap, relR_nil, fFor_ap, it, R.ok_bind]
  exact e
theorem C_plain_sightings_ok {F : Fl} (h : F.Ok) : C_plain_sightings [F.D] = .ok (.list ((rows F).map rowD)) := by
  have hl := h.last
  have eq : (List.range (F.last + 1)).flatMap (fun k => (rowsAt F k).map rowD) = (rows F).map rowD := by rw [rows, List.map_flatMap]
  obtain ⟨b', e⟩ := for_acc (i := 2) (fb := ps1) (fun k : Nat => .int k) (fun k => (rowsAt F k).map rowD) (fun acc (b : Slot × Slot × Slot) => [.va F.D, .ow (.list acc), b.1, b.2.1, b.2.2]) (xs := List.range (F.last + 1))
    (fun acc b k hk hl => by
      obtain ⟨b2, e⟩ := ps1_ok h (k := k) (by have := List.mem_range.mp hk; omega) acc b.2 (by rw [List.length_map] at hl; exact hl)
      exact ⟨(.va (.int k), b2), e⟩) [] (.un, .un, .un) (by rw [eq, List.length_map]; have := rows_le h; simp; omega)
  rw [eq, List.nil_append] at e
  unfold C_plain_sightings FF_plain_sightings
  rw [fRun_ap]
  show (fSeq _ _) [.va F.D, .un, .un, .un, .un] >>= fOut = _
  rw [seq_nx (F := relS [] _) (ρ' := [.va F.D, .ow (.list []), .un, .un, .un]) (by
    simp -implicitDefEqProofs only [relS_ap, relR_nil, sOwn_ap, eLst_ap, eArgs_nil, R.ok_bind, okLen_nil, List.set])]
  have hr : (iB dRng1 [(e2 (dBin .Add) (e2 dIx (rdP 0) (kD (.int 0))) (kD (.int 1)))]) [.va F.D, .ow (.list []), .un, .un, .un] = .ok ((List.range (F.last + 1)).map fun (j : Nat) => .int j) := by
    have := rng1 (n := F.last + 1) (by omega)
    simp -implicitDefEqProofs only [iB_ap, eArgs_cons, eArgs_nil, e2_ap, rdP_zero, kD_ap, R.ok_bind, ix_last, dAdd_int]
    exact this
  rw [seq_nx (F := relS [] (fFor _ _ _)) (ρ' := [.va F.D, .ow (.list ((rows F).map rowD)), b'.1, b'.2.1, b'.2.2]) (by
    rw [relS_ap, relR_nil, fFor_ap, hr, R.ok_bind]
    exact e)]
  simp -implicitDefEqProofs [rdP_succ, rdE_succ, relR1_succ]
theorem C_sightings_ok {F : Fl} (h : F.Ok) : C_sightings [F.D] = .ok (.list ((rows F).map rowD)) := by
  unfold C_sightings FF_sightings
  simp -implicitDefEqProofs [h.look, C_plain_sightings_ok h]
end DL
/-! sees(..), asked by names. -/
namespace DL
open PySem PySem.Spec PyProof.Rows L2
theorem C_look_hour_ok {k l : Nat} (h : k ≤ l) : C_look_hour [.int k, .int l] = .ok .none := by
  have e : C_is_whole [.int k, .int 0, .int l] = .ok (.bool true) := by
    rw [sC_whole (n := 1) rfl]
    simp [isWholeB]
    exact h
  unfold C_look_hour FF_look_hour
  simp -implicitDefEqProofs [rdP_succ, rdE_succ, relR1_succ, e]
theorem eqv_st (a b : Str) : PyData.eqv (.str a) (.str b) = decide (a = b) := by
  rw [Bool.eq_iff_iff]
  simp [PyData.eqv]
theorem any_st (nm : List Str) (z : Str) : (nmD nm).any (fun y => PyData.eqv y (.str z)) = decide (z ∈ nm) := by
  rw [Bool.eq_iff_iff]
  simp only [nmD, List.any_map, List.any_eq_true, Function.comp, eqv_st, decide_eq_true_eq]
  constructor
  · rintro ⟨x, hx, rfl⟩; exact hx
  · intro h; exact ⟨z, h, rfl⟩
theorem nm_ok3 {F : Fl} (h : F.Ok) : okD 3 (.list (nmD F.names)) = true := by
  simp only [okD, List.all_eq_true]
  intro d hd
  obtain ⟨x, hx, rfl⟩ := List.mem_map.mp hd
  obtain ⟨s, hs, rfl⟩ := List.mem_map.mp hx
  exact str_okD (h.name s hs) _
theorem C_look_ship_ok {F : Fl} (h : F.Ok) {s : Ship} (hs : s ∈ F.ships) : C_look_ship [F.D, .str s.name] = .ok .none := by
  have e : C_is_name [.str s.name] = .ok (.bool true) := by rw [sC_name (n := 3) (str_okD (h.name s hs) _), h.name s hs]
  have hm : s.name ∈ F.names := List.mem_map_of_mem hs
  have e2 : dCmp .NotIn (.str s.name) (.list (nmD F.names)) = .ok false := by
    rw [dCmp_notin, dIn_l1 (okD_shaped (n := 3) (str_okD (h.name s hs) _) (by decide)) (okD_shaped (nm_ok3 h) (by decide)), any_st, decide_eq_true hm]
    rfl
  unfold C_look_ship FF_look_ship
  simp -implicitDefEqProofs [rdP_succ, rdE_succ, relR1_succ, e, C_names, e2]
theorem C_ship_of_ok {F : Fl} (h : F.Ok) {s : Ship} (hs : s ∈ F.ships) : C_ship_of [F.D, .str s.name] = .ok s.D := by
  have hm : s.name ∈ F.names := List.mem_map_of_mem hs
  have h1 := okD_shaped (n := 3) (str_okD (h.name s hs) 3) (by decide)
  have h2 := okD_shaped (nm_ok3 h) (by decide)
  obtain ⟨j, hj, hd⟩ : ∃ j : Nat, F.ships[j]? = some s ∧ dIndex (nmD F.names) (.str s.name) = .ok (.int j) := by
    cases q : (nmD F.names).findIdx? fun z => PyData.eqv z (.str s.name) with
    | none =>
      have := List.findIdx?_eq_none_iff.mp q (.str s.name) (List.mem_map_of_mem hm)
      rw [eqv_st] at this
      simp at this
    | some j =>
      obtain ⟨q1, q2, q3⟩ := List.findIdx?_eq_some_iff_getElem.mp q
      have hj : j < F.ships.length := by simpa [nmD, Fl.names] using q1
      refine ⟨j, ?_, by simp only [dIndex, h1, h2, Bool.and_self, if_true, q]⟩
      have e : F.ships[j].name = s.name := by
        have : (nmD F.names)[j] = .str F.ships[j].name := by simp [nmD, Fl.names]
        rw [this, eqv_st] at q2
        simpa using q2
      rw [List.getElem?_eq_getElem hj, h.inj (List.getElem_mem hj) hs e]
  have hx : dIx (.tuple (F.ships.map Ship.D)) (.int j) = .ok s.D := dIx_tup (by rw [List.getElem?_map, hj]; rfl)
  have hf : (fMeth dIndex (eC 1 C_plain_names [(rdE 0)]) (rdP 1)) [.va F.D, .va (.str s.name)] = .ok (.int j) := by
    rw [fMeth_ok (ds := nmD F.names) (by simp -implicitDefEqProofs [C_names])]
    simp -implicitDefEqProofs only [rdP_succ, rdP_zero, R.ok_bind, hd]
  unfold C_ship_of FF_ship_of
  simp -implicitDefEqProofs only [fRun_ap]
  show (fSeq _ _) [.va F.D, .va (.str s.name)] >>= fOut = _
  rw [seq_rt (F := relS [0, 1] _) (d := s.D) (by
    simp -implicitDefEqProofs only [relS_ap, relR_cons, relR_nil, relR1_0va, relR1_succ, sRet_ap, e2_ap, rdP_zero, kD_ap, R.ok_bind, ix_ships, hf, hx])]
  rfl
theorem C_sees_ok {F : Fl} (h : F.Ok) {s t : Ship} (hs : s ∈ F.ships) (ht : t ∈ F.ships) {k : Nat} (hk : k ≤ F.last) : C_sees [F.D, .int k, .str s.name, .str t.name] = .ok (.bool (seesB F k s t)) := by
  unfold C_sees FF_sees
  simp -implicitDefEqProofs [rdP_succ, rdE_succ, relR1_succ, h.look, ix_last, C_look_hour_ok hk, C_look_ship_ok h hs, C_look_ship_ok h ht, C_ship_of_ok h hs, C_ship_of_ok h ht, C_sees_at_ok h hs ht hk]
end DL
/-! Sightings: plain laws. -/
namespace DL
open PySem PySem.Spec PyProof.Rows L2 NS
theorem mem_rows {F : Fl} {r : Row} : r ∈ rows F ↔ ∃ k, k ≤ F.last ∧ ∃ s ∈ F.ships, ∃ t ∈ F.ships, seesB F k s t = true ∧ r = (k, s.name, t.name) := by
  simp only [rows, rowsAt, rowsOf, List.mem_flatMap, List.mem_range, List.mem_map, List.mem_filter]
  constructor
  · rintro ⟨k, hk, s, hs, t, ⟨ht, h⟩, rfl⟩
    exact ⟨k, by omega, s, hs, t, ht, h, rfl⟩
  · rintro ⟨k, hk, s, hs, t, ht, h, rfl⟩
    exact ⟨k, by omega, s, hs, t, ⟨ht, h⟩, rfl⟩
theorem flatMap_congr' {α β : Type} {f g : α → List β} : ∀ {xs : List α}, (∀ x ∈ xs, f x = g x) → xs.flatMap f = xs.flatMap g
  | [], _ => rfl
  | x :: xs, h => by rw [List.flatMap_cons, List.flatMap_cons, h x (by simp), flatMap_congr' fun y hy => h y (by simp [hy])]
theorem filter_congr' {α : Type} {p q : α → Bool} : ∀ {xs : List α}, (∀ x ∈ xs, p x = q x) → xs.filter p = xs.filter q
  | [], _ => rfl
  | x :: xs, h => by
    have := h x (by simp)
    rw [List.filter_cons, List.filter_cons, this, filter_congr' fun y hy => h y (by simp [hy])]
theorem rows_congr {F G : Fl} (φ : Ship → Ship) (hl : G.last = F.last) (hs : G.ships = F.ships.map φ) (hn : ∀ s, (φ s).name = s.name) (h : ∀ k, k ≤ F.last → ∀ s ∈ F.ships, ∀ t ∈ F.ships, seesB G k (φ s) (φ t) = seesB F k s t) : rows G = rows F := by
  unfold rows
  rw [hl]
  refine flatMap_congr' fun k hk => ?_
  have hk : k ≤ F.last := by have := List.mem_range.mp hk; omega
  unfold rowsAt
  rw [hs, List.flatMap_map]
  refine flatMap_congr' fun s hss => ?_
  simp only [rowsOf, hs, List.filter_map, List.map_map, hn]
  rw [filter_congr' (p := seesB G k (φ s) ∘ φ) (q := seesB F k s) fun t ht => h k hk s hss t ht]
  refine List.map_congr_left fun t _ => ?_
  simp only [Function.comp, hn]
theorem rows_sub {F G : Fl} (φ : Ship → Ship) (hl : G.last = F.last) (hs : G.ships = F.ships.map φ) (hn : ∀ s, (φ s).name = s.name) (h : ∀ k, k ≤ F.last → ∀ s ∈ F.ships, ∀ t ∈ F.ships, seesB F k s t = true → seesB G k (φ s) (φ t) = true) : ∀ r ∈ rows F, r ∈ rows G := by
  intro r hr
  obtain ⟨k, hk, s, hss, t, htt, hh, rfl⟩ := mem_rows.mp hr
  refine mem_rows.mpr ⟨k, by omega, φ s, by rw [hs]; exact List.mem_map_of_mem hss, φ t, by rw [hs]; exact List.mem_map_of_mem htt, h k hk s hss t htt hh, by rw [hn, hn]⟩
/-! ### the geometry -/
def flip (way : Nat) (c : Cell) : Cell := if way = 0 then (9 - c.1, c.2) else (c.2, c.1)
abbrev In9 (c : Cell) : Prop := c.1 ≤ 9 ∧ c.2 ≤ 9
theorem flip_9 {way : Nat} {c : Cell} (h : In9 c) : In9 (flip way c) := by
  unfold flip In9 at *
  split <;> simp <;> omega
theorem flip_inj {way : Nat} {a b : Cell} (ha : In9 a) (hb : In9 b) (e : flip way a = flip way b) : a = b := by
  obtain ⟨a1, a2⟩ := a
  obtain ⟨b1, b2⟩ := b
  unfold flip In9 at *
  split at e <;> simp at e ha hb ⊢ <;> omega
theorem flip_eq {way : Nat} {a b : Cell} (ha : In9 a) (hb : In9 b) : decide (flip way a = flip way b) = decide (a = b) := decide_eq_decide.mpr ⟨flip_inj ha hb, fun e => by rw [e]⟩
theorem apart_flip {way : Nat} {a b : Cell} (ha : In9 a) (hb : In9 b) : apart (flip way a) (flip way b) = apart a b := by
  obtain ⟨a1, a2⟩ := a
  obtain ⟨b1, b2⟩ := b
  unfold flip apart In9 at *
  split <;> simp at ha hb ⊢ <;> omega
theorem apart_comm (a b : Cell) : apart a b = apart b a := by
  unfold apart
  omega
theorem apart_self (a : Cell) : apart a a = 0 := by
  unfold apart
  simp
theorem btw_flip {way : Nat} {a b c : Cell} (ha : In9 a) (hb : In9 b) (hc : In9 c) : btwB (flip way a) (flip way b) (flip way c) = btwB a b c := by
  unfold btwB
  rw [flip_eq ha hc, flip_eq hb hc]
  obtain ⟨a1, a2⟩ := a
  obtain ⟨b1, b2⟩ := b
  obtain ⟨c1, c2⟩ := c
  unfold flip In9 at *
  simp only at ha hb hc
  congr 1
  split
  · simp only
    have e1 : ((9 - a1 : Nat) : Int) = 9 - a1 := by omega
    have e2 : ((9 - b1 : Nat) : Int) = 9 - b1 := by omega
    have e3 : ((9 - c1 : Nat) : Int) = 9 - c1 := by omega
    rw [e1, e2, e3]
    congr 1
    · refine decide_eq_decide.mpr ?_
      grind
    · congr 1
      rw [← Bool.decide_and, ← Bool.decide_and]
      refine decide_eq_decide.mpr ?_
      omega
  · simp only
    rw [Bool.and_comm (decide (min (a2 : Int) b2 ≤ c2) && _)]
    congr 1
    refine decide_eq_decide.mpr ?_
    grind
theorem btw_comm (a b c : Cell) : btwB a b c = btwB b a c := by
  obtain ⟨a1, a2⟩ := a
  obtain ⟨b1, b2⟩ := b
  obtain ⟨c1, c2⟩ := c
  unfold btwB
  simp only
  rw [Bool.or_comm, Int.min_comm (a1 : Int), Int.max_comm (a1 : Int), Int.min_comm (a2 : Int), Int.max_comm (a2 : Int)]
  congr 2
  refine decide_eq_decide.mpr ?_
  grind
theorem btw_self (a c : Cell) : btwB a a c = false := by
  obtain ⟨a1, a2⟩ := a
  obtain ⟨c1, c2⟩ := c
  unfold btwB
  by_cases h : a1 = c1 ∧ a2 = c2
  · simp [h]
  · simp
    omega
/-! ### mists in a mirror -/
def flipM (way : Nat) (m : Mist) : Mist := ⟨m.first, m.til, (min (flip way m.a).1 (flip way m.b).1, min (flip way m.a).2 (flip way m.b).2), (max (flip way m.a).1 (flip way m.b).1, max (flip way m.a).2 (flip way m.b).2), m.most⟩
theorem in_flip {way l : Nat} {m : Mist} (hm : MistOk l m) {c : Cell} (hc : In9 c) : inB (flipM way m) (flip way c) = inB m c := by
  obtain ⟨f, u, ⟨a1, a2⟩, ⟨b1, b2⟩, mo⟩ := m
  obtain ⟨c1, c2⟩ := c
  unfold MistOk at hm
  unfold inB flipM flip In9 at *
  simp only at hm hc ⊢
  split
  · simp only
    rw [← Bool.decide_and, ← Bool.decide_and, ← Bool.decide_and, ← Bool.decide_and, ← Bool.decide_and, ← Bool.decide_and]
    refine decide_eq_decide.mpr ?_
    omega
  · simp only
    rw [← Bool.decide_and, ← Bool.decide_and, ← Bool.decide_and, ← Bool.decide_and, ← Bool.decide_and, ← Bool.decide_and]
    refine decide_eq_decide.mpr ?_
    omega
theorem hid_flip {way l k : Nat} {m : Mist} (hm : MistOk l m) {a b : Cell} (ha : In9 a) (hb : In9 b) : hidB k (flip way a) (flip way b) (flipM way m) = hidB k a b m := by
  unfold hidB
  rw [in_flip hm ha, in_flip hm hb, apart_flip ha hb]
  rfl
theorem flipM_inj {way l : Nat} {m n : Mist} (hm : MistOk l m) (hn : MistOk l n) (e : flipM way m = flipM way n) : m = n := by
  obtain ⟨f, u, ⟨a1, a2⟩, ⟨b1, b2⟩, mo⟩ := m
  obtain ⟨f', u', ⟨c1, c2⟩, ⟨d1, d2⟩, mo'⟩ := n
  unfold MistOk at hm hn
  unfold flipM flip at e
  simp only at hm hn
  split at e <;> simp at e ⊢ <;> omega
theorem flipM_ok {way l : Nat} {m : Mist} (hm : MistOk l m) : MistOk l (flipM way m) := by
  obtain ⟨f, u, ⟨a1, a2⟩, ⟨b1, b2⟩, mo⟩ := m
  unfold MistOk at *
  unfold flipM flip
  simp only at hm ⊢
  split <;> simp <;> omega
def flipS (way : Nat) (s : Ship) : Ship := ⟨s.name, s.sight, s.course.map (flip way)⟩
theorem flipS_at {way : Nat} {s : Ship} {k : Nat} (h : k < s.course.length) : (flipS way s).at k = flip way (s.at k) := by
  simp [Ship.at, flipS, List.getD_eq_getElem?_getD, List.getElem?_eq_getElem h]
theorem any_perm {α : Type} {p : α → Bool} {xs ys : List α} (h : xs.Perm ys) : xs.any p = ys.any p := by
  rw [Bool.eq_iff_iff]
  simp only [List.any_eq_true]
  constructor <;> rintro ⟨x, hx, hp⟩
  · exact ⟨x, h.mem_iff.mp hx, hp⟩
  · exact ⟨x, h.mem_iff.mpr hx, hp⟩
theorem any_congr' {α β : Type} {p : α → Bool} {q : β → Bool} {f : α → β} : ∀ {xs : List α}, (∀ x ∈ xs, q (f x) = p x) → (xs.map f).any q = xs.any p
  | [], _ => rfl
  | x :: xs, h => by rw [List.map_cons, List.any_cons, List.any_cons, h x (by simp), any_congr' fun y hy => h y (by simp [hy])]
theorem perm_unmap {α β : Type} {f : α → β} (hf : ∀ a b, f a = f b → a = b) {xs ys : List α} (h : (xs.map f).Perm (ys.map f)) : xs.Perm ys := by
  cases xs with
  | nil =>
    have := h.length_eq
    cases ys with
    | nil => exact .nil
    | cons => simp at this
  | cons a xs =>
    obtain ⟨g, hg⟩ : ∃ g : β → α, ∀ x, g (f x) = x := by
      classical
      refine ⟨fun b => if hx : ∃ x, f x = b then hx.choose else a, fun x => ?_⟩
      have hx : ∃ y, f y = f x := ⟨x, rfl⟩
      simp only [hx, dite_true]
      exact hf _ _ hx.choose_spec
    have := h.map g
    rw [List.map_map, List.map_map] at this
    have e : g ∘ f = id := funext hg
    rw [e, List.map_id, List.map_id] at this
    exact this
/-- G is F in a mirror -/
structure Mirr (way : Nat) (F G : Fl) : Prop where
  last : G.last = F.last
  ships : G.ships = F.ships.map (flipS way)
  isl : G.isl.Perm (F.isl.map (flip way))
  mists : G.mists.Perm (F.mists.map (flipM way))
theorem Fl.Ok.at9 {F : Fl} (h : F.Ok) {s : Ship} (hs : s ∈ F.ships) {k : Nat} (hk : k ≤ F.last) : In9 (s.at k) := by
  have := course_at h hs hk
  exact ⟨this.2.1, this.2.2.1⟩
theorem sees_flip {way : Nat} {F G : Fl} (h : F.Ok) (m : Mirr way F G) {k : Nat} (hk : k ≤ F.last) {s t : Ship} (hs : s ∈ F.ships) (ht : t ∈ F.ships) : seesB G k (flipS way s) (flipS way t) = seesB F k s t := by
  have ls := h.len s hs
  have lt := h.len t ht
  have a9 := h.at9 hs hk
  have b9 := h.at9 ht hk
  unfold seesB
  rw [flipS_at (by omega), flipS_at (by omega), apart_flip a9 b9, any_perm m.mists, any_perm m.isl,
    any_congr' (p := hidB k (s.at k) (t.at k)) fun x hx => hid_flip (h.mist x hx) a9 b9,
    any_congr' (p := btwB (s.at k) (t.at k)) fun x hx => btw_flip a9 b9 (h.islc x hx)]
  rfl
theorem rows_flip {way : Nat} {F G : Fl} (h : F.Ok) (m : Mirr way F G) : rows G = rows F := rows_congr (flipS way) m.last m.ships (fun _ => rfl) fun k hk s hs t ht => sees_flip h m hk hs ht
/-! ### sorted lists rise -/
theorem sort_rise {ds : List D} (hk : ∀ d ∈ ds, keyB d = true) (ho : ordOk ds = true) (nd : ds.Nodup) : risingB (sortD ds) = true := by
  refine rising_pw _ ?_
  have al := (ordOk_of ho).1
  refine List.Pairwise.imp_of_mem (fun {a b} ha hb h => ?_) ((sortD_sorted ds).and ((sortD_perm ds).nodup_iff.mpr nd))
  cases e : PySem.W.dataLt a b with
  | true => rfl
  | false =>
    have ha' := (sortD_perm ds).mem_iff.mp ha
    have hb' := (sortD_perm ds).mem_iff.mp hb
    exact absurd (toks_key (al.1 a ha' b hb') (hk a ha') (hk b hb') (lex_total (O := itemOrd) _ _ e h.1)) h.2
theorem sort_cells (cs : List Cell) (nd : cs.Nodup) : ∃ is : List Cell, dSorted [.list (cs.map cellD)] = .ok (.list (is.map cellD)) ∧ is.Perm cs ∧ risingB (is.map cellD) = true := by
  have ho := cells_ord cs
  have hs : sortOk (cs.map cellD) = true := by
    simp only [sortOk, ho, Bool.true_and, Bool.or_eq_true, List.all_map, List.all_eq_true]
    exact .inl fun _ _ => rfl
  have ndD : (cs.map cellD).Nodup := List.Pairwise.map _ (fun a b h e => h (cell_inj.mp e)) nd
  have hr := sort_rise (ds := cs.map cellD) (fun d hd => by obtain ⟨c, _, rfl⟩ := List.mem_map.mp hd; rfl) ho ndD
  have hp := sortD_perm (cs.map cellD)
  obtain ⟨is, e⟩ := unmap cellD (ds := sortD (cs.map cellD)) fun d hd => by
    obtain ⟨c, _, e⟩ := List.mem_map.mp (hp.mem_iff.mp hd)
    exact ⟨c, e.symm⟩
  refine ⟨is, by simp only [dSorted, hs, if_true, e], ?_, by rw [← e]; exact hr⟩
  rw [e] at hp
  exact perm_unmap (fun a b => cell_inj.mp) hp
theorem sort_mists (cs : List Mist) (nd : cs.Nodup) : ∃ is : List Mist, dSorted [.list (cs.map Mist.D)] = .ok (.list (is.map Mist.D)) ∧ is.Perm cs ∧ risingB (is.map Mist.D) = true := by
  have ho := mists_ordOk cs
  have hs : sortOk (cs.map Mist.D) = true := by
    simp only [sortOk, ho, Bool.true_and, Bool.or_eq_true, List.all_map, List.all_eq_true]
    exact .inl fun _ _ => rfl
  have ndD : (cs.map Mist.D).Nodup := List.Pairwise.map _ (fun a b h e => h (mist_inj e)) nd
  have hr := sort_rise (ds := cs.map Mist.D) (fun d hd => by obtain ⟨c, _, rfl⟩ := List.mem_map.mp hd; rfl) ho ndD
  have hp := sortD_perm (cs.map Mist.D)
  obtain ⟨is, e⟩ := unmap Mist.D (ds := sortD (cs.map Mist.D)) fun d hd => by
    obtain ⟨c, _, e⟩ := List.mem_map.mp (hp.mem_iff.mp hd)
    exact ⟨c, e.symm⟩
  refine ⟨is, by simp only [dSorted, hs, if_true, e], ?_, by rw [← e]; exact hr⟩
  rw [e] at hp
  exact perm_unmap (fun a b => mist_inj) hp
theorem nd_map {α β : Type} {f : α → β} {xs : List α} (nd : xs.Nodup) (h : ∀ a ∈ xs, ∀ b ∈ xs, f a = f b → a = b) : (xs.map f).Nodup := by
  refine List.pairwise_map.mpr ?_
  exact List.Pairwise.imp_of_mem (fun {a b} ha hb hne e => hne (h a ha b hb e)) nd
theorem isl_nd {F : Fl} (h : F.Ok) : F.isl.Nodup := by
  have := rise_nodup h.islr
  exact List.Pairwise.of_map _ (fun a b hne e => hne (by rw [e])) this
theorem mists_nd {F : Fl} (h : F.Ok) : F.mists.Nodup := by
  have := rise_nodup h.mrise
  exact List.Pairwise.of_map _ (fun a b hne e => hne (by rw [e])) this
theorem mirr_ok {way : Nat} {F G : Fl} (h : F.Ok) (m : Mirr way F G) (r1 : risingB (G.isl.map cellD) = true) (r2 : risingB (G.mists.map Mist.D) = true) : G.Ok where
  last := by rw [m.last]; exact h.last
  isl := by rw [m.isl.length_eq, List.length_map]; exact h.isl
  islc := fun c hc => by
    obtain ⟨d, hd, rfl⟩ := List.mem_map.mp (m.isl.mem_iff.mp hc)
    exact flip_9 (h.islc d hd)
  islr := r1
  many := by rw [m.ships, List.length_map]; exact h.many
  name := fun s hs => by
    rw [m.ships] at hs
    obtain ⟨t, ht, rfl⟩ := List.mem_map.mp hs
    exact h.name t ht
  sight := fun s hs => by
    rw [m.ships] at hs
    obtain ⟨t, ht, rfl⟩ := List.mem_map.mp hs
    exact h.sight t ht
  len := fun s hs => by
    rw [m.ships] at hs
    obtain ⟨t, ht, rfl⟩ := List.mem_map.mp hs
    rw [m.last]
    simp only [flipS, List.length_map]
    exact h.len t ht
  cell := fun s hs c hc => by
    rw [m.ships] at hs
    obtain ⟨t, ht, rfl⟩ := List.mem_map.mp hs
    obtain ⟨d, hd, rfl⟩ := List.mem_map.mp (show c ∈ t.course.map (flip way) from hc)
    have q := h.cell t ht d hd
    have q9 : In9 d := ⟨q.1, q.2.1⟩
    have := flip_9 (way := way) q9
    refine ⟨this.1, this.2, fun hi => ?_⟩
    obtain ⟨e, he, ee⟩ := List.mem_map.mp (m.isl.mem_iff.mp hi)
    rw [flip_inj (h.islc e he) q9 ee] at he
    exact q.2.2 he
  rise := by
    have : (G.ships.map fun s => PyData.str s.name) = F.ships.map fun s => PyData.str s.name := by
      rw [m.ships, List.map_map]
      rfl
    rw [this]
    exact h.rise
  mmany := by rw [m.mists.length_eq, List.length_map]; exact h.mmany
  mist := fun x hx => by
    obtain ⟨y, hy, rfl⟩ := List.mem_map.mp (m.mists.mem_iff.mp hx)
    rw [m.last]
    exact flipM_ok (h.mist y hy)
  mrise := r2
/-! ### other fleets -/
theorem sees_mono {F G : Fl} {k : Nat} {s t s' t' : Ship} (e1 : s'.name = s.name) (e2 : t'.name = t.name) (e3 : s'.course = s.course) (e4 : t'.course = t.course) (hs : s.sight ≤ s'.sight) (hm : ∀ m ∈ G.mists, m ∈ F.mists) (hi : ∀ c ∈ G.isl, c ∈ F.isl) (h : seesB F k s t = true) : seesB G k s' t' = true := by
  have a1 : s'.at k = s.at k := by unfold Ship.at; rw [e3]
  have a2 : t'.at k = t.at k := by unfold Ship.at; rw [e4]
  unfold seesB at *
  rw [a1, a2, e1, e2]
  simp only [Bool.and_eq_true, Bool.not_eq_true', Bool.or_eq_false_iff, decide_eq_false_iff_not, List.any_eq_false] at h ⊢
  refine ⟨⟨h.1.1, by omega⟩, fun m hmm => h.2.1 m (hm m hmm), fun c hc => h.2.2 c (hi c hc)⟩
theorem sees_comm {F : Fl} {k : Nat} {s t : Ship} (e : s.sight = t.sight) : seesB F k s t = seesB F k t s := by
  have e1 : ∀ m, hidB k (s.at k) (t.at k) m = hidB k (t.at k) (s.at k) m := fun m => by
    unfold hidB
    rw [apart_comm, Bool.or_comm]
  have e2 : (btwB (s.at k) (t.at k)) = btwB (t.at k) (s.at k) := funext fun c => btw_comm _ _ c
  unfold seesB
  rw [funext e1, e2, apart_comm, e]
  congr 3
  exact decide_eq_decide.mpr eq_comm
theorem sees_same {F : Fl} {k : Nat} {s t : Ship} (hn : s.name ≠ t.name) (e : s.at k = t.at k) : seesB F k s t = true := by
  unfold seesB
  rw [e, apart_self]
  simp only [Bool.and_eq_true, Bool.not_eq_true', Bool.or_eq_false_iff, decide_eq_false_iff_not, List.any_eq_false]
  refine ⟨⟨hn, by omega⟩, fun m _ => ?_, fun c _ => by rw [btw_self]; simp⟩
  unfold hidB
  rw [apart_self]
  simp
theorem sees_other {F : Fl} {k : Nat} {s t : Ship} (h : seesB F k s t = true) : s.name ≠ t.name := by
  unfold seesB at h
  simp only [Bool.and_eq_true, Bool.not_eq_true', Bool.or_eq_false_iff, decide_eq_false_iff_not] at h
  exact h.1.1
/-! ### the rows rise -/
theorem row_lt1 {r q : Row} (h : r.1 < q.1) : PySem.W.dataLt (rowD r) (rowD q) = true := by
  have e : ∀ r : Row, PySem.W.keyToks (rowD r) = [.inl 1] ++ (.inl r.1 :: [.inl 1, .inr r.2.1.cps.toList, .inl 1, .inr r.2.2.cps.toList, .inl 0]) := fun r => by simp [rowD, PySem.W.keyToks, PySem.W.keyToksAll]
  unfold PySem.W.dataLt
  rw [e r, e q, PySem.W.lex_pre, lex_diff (O := itemOrd) (fun e => by have := Sum.inl.inj e; omega)]
  show decide ((r.1 : Int) < q.1) = true
  exact decide_eq_true (by omega)
theorem row_lt2 {k : Nat} {a b c d : Str} (h : PySem.W.dataLt (.str a) (.str b) = true) : PySem.W.dataLt (rowD (k, a, c)) (rowD (k, b, d)) = true := by
  have e : ∀ a c : Str, PySem.W.keyToks (rowD (k, a, c)) = [.inl 1, .inl k, .inl 1] ++ (.inr a.cps.toList :: [.inl 1, .inr c.cps.toList, .inl 0]) := fun a c => by simp [rowD, PySem.W.keyToks, PySem.W.keyToksAll]
  have hne : (.inr a.cps.toList : Int ⊕ List Nat) ≠ .inr b.cps.toList := fun e => by
    unfold PySem.W.dataLt PySem.W.keyToks at h
    rw [e, lex_irrefl (O := itemOrd)] at h
    cases h
  unfold PySem.W.dataLt at *
  rw [e a c, e b d, PySem.W.lex_pre, PySem.W.lex_atom hne]
  simpa [PySem.W.keyToks] using h
theorem row_lt3 {k : Nat} {a c d : Str} (h : PySem.W.dataLt (.str c) (.str d) = true) : PySem.W.dataLt (rowD (k, a, c)) (rowD (k, a, d)) = true := by
  have e : ∀ c : Str, PySem.W.keyToks (rowD (k, a, c)) = [.inl 1, .inl k, .inl 1, .inr a.cps.toList, .inl 1] ++ (.inr c.cps.toList :: [.inl 0]) := fun c => by simp [rowD, PySem.W.keyToks, PySem.W.keyToksAll]
  have hne : (.inr c.cps.toList : Int ⊕ List Nat) ≠ .inr d.cps.toList := fun e => by
    unfold PySem.W.dataLt PySem.W.keyToks at h
    rw [e, lex_irrefl (O := itemOrd)] at h
    cases h
  unfold PySem.W.dataLt at *
  rw [e c, e d, PySem.W.lex_pre, PySem.W.lex_atom hne]
  simpa [PySem.W.keyToks] using h
theorem Fl.Ok.pw {F : Fl} (h : F.Ok) : F.ships.Pairwise fun s t => PySem.W.dataLt (.str s.name) (.str t.name) = true := List.pairwise_map.mp (rise_pw _ h.rise)
theorem rows_pw {F : Fl} (h : F.Ok) : (rows F).Pairwise fun r q => PySem.W.dataLt (rowD r) (rowD q) = true := by
  unfold rows
  refine List.pairwise_flatMap.mpr ⟨fun k _ => ?_, ?_⟩
  · unfold rowsAt
    refine List.pairwise_flatMap.mpr ⟨fun s _ => ?_, ?_⟩
    · unfold rowsOf
      refine List.pairwise_map.mpr ?_
      exact (h.pw.filter _).imp fun hh => row_lt3 hh
    · refine h.pw.imp fun {s t} hh r hr q hq => ?_
      simp only [rowsOf, List.mem_map] at hr hq
      obtain ⟨u, _, rfl⟩ := hr
      obtain ⟨v, _, rfl⟩ := hq
      exact row_lt2 hh
  · refine List.pairwise_lt_range.imp fun {i j} hij r hr q hq => ?_
    simp only [rowsAt, rowsOf, List.mem_flatMap, List.mem_map] at hr hq
    obtain ⟨s, _, u, _, rfl⟩ := hr
    obtain ⟨t, _, v, _, rfl⟩ := hq
    exact row_lt1 hij
theorem row_str {F : Fl} (h : F.Ok) {r : Row} (hr : r ∈ rows F) : isNameB (.str r.2.1) = true ∧ isNameB (.str r.2.2) = true ∧ r.1 ≤ F.last := by
  obtain ⟨k, hk, s, hs, t, ht, _, rfl⟩ := mem_rows.mp hr
  exact ⟨h.name s hs, h.name t ht, hk⟩
theorem row_ok {F : Fl} (h : F.Ok) {r : Row} (hr : r ∈ rows F) : okD 3 (rowD r) = true := by
  have := row_str h hr
  have h1 := name_ok this.1
  have h2 := name_ok this.2.1
  simp [okD, rowD, h1.1, h2.1]
  omega
theorem rows_okD {F : Fl} (h : F.Ok) : okD 4 (.list ((rows F).map rowD)) = true := by
  simp only [okD, List.all_eq_true]
  intro d hd
  obtain ⟨r, hr, rfl⟩ := List.mem_map.mp hd
  exact row_ok h hr
theorem row_inj {r q : Row} (h : rowD r = rowD q) : r = q := by
  obtain ⟨a, b, c⟩ := r
  obtain ⟨d, e, f⟩ := q
  simp [rowD] at h ⊢
  exact ⟨by omega, h.2⟩
theorem eqv_row (r q : Row) : PyData.eqv (rowD r) (rowD q) = decide (r = q) := by
  obtain ⟨a, b, c⟩ := r
  obtain ⟨d, e, f⟩ := q
  simp only [rowD, PyData.eqv, PyData.eqvAll, Bool.and_true]
  rw [Bool.eq_iff_iff]
  simp
  omega
theorem any_row (rs : List Row) (r : Row) : (rs.map rowD).any (fun z => PyData.eqv z (rowD r)) = decide (r ∈ rs) := by
  rw [Bool.eq_iff_iff]
  simp only [List.any_map, List.any_eq_true, Function.comp, eqv_row, decide_eq_true_eq]
  constructor
  · rintro ⟨x, hx, rfl⟩; exact hx
  · intro h; exact ⟨r, h, rfl⟩
theorem rows_ord {F : Fl} (h : F.Ok) : ordOk ((rows F).map rowD) = true := by
  have h1 : alikeAllB ((rows F).map rowD) = true := by
    simp only [alikeAllB, Bool.and_eq_true, List.all_map, List.all_eq_true]
    exact ⟨fun x _ => by simp only [Function.comp, List.all_eq_true]; exact fun _ _ => rfl, fun _ _ => rfl⟩
  have h2 : PyData.canLayAll0 ((rows F).map rowD) = true := canAll fun d hd => by
    obtain ⟨c, hc, rfl⟩ := List.mem_map.mp hd
    exact (okD_can 3 _ (row_ok h hc)).1
  have h3 : PyData.depthAll ((rows F).map rowD) ≤ 3 := depAll fun d hd => by
    obtain ⟨c, hc, rfl⟩ := List.mem_map.mp hd
    exact (okD_can 3 _ (row_ok h hc)).2
  simp only [ordOk, h1, h2, Bool.and_eq_true, decide_eq_true_eq]
  exact ⟨⟨trivial, trivial⟩, by omega⟩
theorem lt_asym {a b : D} (h : PySem.W.dataLt a b = true) : PySem.W.dataLt b a = false := by
  cases e : PySem.W.dataLt b a with
  | false => rfl
  | true => exact absurd rfl (lt_ne (lex_trans (O := itemOrd) _ _ _ h e : PySem.W.dataLt a a = true))
theorem rows_sorted {F : Fl} (h : F.Ok) : dSorted [.list ((rows F).map rowD)] = .ok (.list ((rows F).map rowD)) := by
  have hs : sortOk ((rows F).map rowD) = true := by
    simp only [sortOk, rows_ord h, Bool.true_and, Bool.or_eq_true, List.all_map, List.all_eq_true]
    exact .inl fun _ _ => rfl
  have e : sortD ((rows F).map rowD) = (rows F).map rowD := by
    refine sortD_eq (List.Perm.refl _) (List.pairwise_map.mpr ((rows_pw h).imp lt_asym)) fun a ha b hb e => ?_
    obtain ⟨r, _, rfl⟩ := List.mem_map.mp ha
    obtain ⟨q, _, rfl⟩ := List.mem_map.mp hb
    obtain ⟨a1, a2, a3⟩ := r
    obtain ⟨b1, b2, b3⟩ := q
    simp [rowD, PySem.W.keyToks, PySem.W.keyToksAll] at e ⊢
    exact ⟨by omega, PySem.W.str_of_cps (by rw [e.2.1]), PySem.W.str_of_cps (by rw [e.2.2])⟩
  simp only [dSorted, hs, if_true, e]
end DL
/-! Spreading over sightings, in plain words. -/
namespace DL
open PySem PySem.Spec PyProof.Rows L2
abbrev Tab := List (Str × Nat)
def spStep (t : Tab) (r : Row) : Tab := match t.lookup r.2.2 with
  | some e => if e ≤ r.1 ∧ t.lookup r.2.1 = none then t ++ [(r.2.1, r.1 + 1)] else t
  | none => t
def spreadT (rs : List Row) (s : Str) (h : Nat) : Tab := rs.foldl spStep [(s, h)]
def bdStep (t : Tab) (r : Row) : Tab := match t.lookup r.2.1 with
  | some b => if r.1 + 1 ≤ b ∧ t.lookup r.2.2 = none then t ++ [(r.2.2, r.1)] else t
  | none => t
def boundsT (rs : List Row) (g : Str) (b : Nat) : Tab := rs.reverse.foldl bdStep [(g, b)]
/-- x has the word by t -/
inductive Has (rs : List Row) (s : Str) (h : Nat) : Str → Nat → Prop
  | here {t : Nat} : h ≤ t → Has rs s h s t
  | step {x y : Str} {w t t' : Nat} : Has rs s h y t' → t' ≤ w → (w, x, y) ∈ rs → w + 1 ≤ t → Has rs s h x t
theorem lk_app (t : Tab) (k : Str) (v : Nat) (x : Str) : (t ++ [(k, v)]).lookup x = match t.lookup x with | some e => some e | none => if x = k then some v else none := by
  induction t with
  | nil =>
    by_cases h : x = k
    · simp [List.lookup, h]
    · have h' : (x == k) = false := by simp [h]
      simp [List.lookup, h, h']
  | cons p t ih =>
    obtain ⟨a, b⟩ := p
    by_cases h : x = a
    · subst h; simp [List.lookup]
    · have h' : (x == a) = false := by simp [h]
      simp only [List.cons_append, List.lookup, h', ih]
section
variable {rs : List Row} {s : Str} {h : Nat}
theorem Has.ge {x : Str} {t : Nat} (H : Has rs s h x t) : h ≤ t := by
  induction H with
  | here h => exact h
  | step _ h1 _ h2 ih => omega
theorem Has.mono {x : Str} {t u : Nat} (H : Has rs s h x t) (k : t ≤ u) : Has rs s h x u := by
  cases H with
  | here e => exact .here (by omega)
  | step a b c d => exact .step a b c (by omega)
theorem Has.trans {x y : Str} {t u : Nat} (H : Has rs s h x t) (K : Has rs x t y u) : Has rs s h y u := by
  induction K with
  | here e => exact H.mono e
  | step _ b c d ih => exact .step ih b c d
theorem Has.sub {rs' : List Row} (hs : ∀ r ∈ rs, r ∈ rs') {x : Str} {t : Nat} (H : Has rs s h x t) : Has rs' s h x t := by
  induction H with
  | here e => exact .here e
  | step _ b c d ih => exact .step ih b (hs _ c) d
theorem Has.early {h' : Nat} (k : h' ≤ h) {x : Str} {t : Nat} (H : Has rs s h x t) : Has rs s h' x t := by
  induction H with
  | here e => exact .here (by omega)
  | step _ b c d ih => exact .step ih b c d
theorem Has.front {x y : Str} {w t u : Nat} (r : (w, x, y) ∈ rs) (k : t ≤ w) (H : Has rs x (w + 1) s u) : Has rs y t s u := Has.trans (.step (.here k) (Nat.le_refl _) r (Nat.le_refl _)) H
end
/-! ### the table that is closed -/
def Closed (rs : List Row) (t : Tab) : Prop := ∀ r ∈ rs, ∀ e, t.lookup r.2.2 = some e → e ≤ r.1 → ∃ e', t.lookup r.2.1 = some e' ∧ e' ≤ r.1 + 1
abbrev ByHour (rs : List Row) : Prop := rs.Pairwise fun a b => a.1 ≤ b.1
structure SpInv (all pre : List Row) (s : Str) (h : Nat) (t : Tab) : Prop where
  base : t.lookup s = some h
  nd : (t.map (·.1)).Nodup
  sound : ∀ x e, t.lookup x = some e → Has all s h x e
  src : ∀ x e, t.lookup x = some e → (x = s ∧ e = h) ∨ ∃ r ∈ pre, e = r.1 + 1 ∧ x = r.2.1
  closed : Closed pre t
theorem lk_none {t : Tab} {x : Str} : t.lookup x = none ↔ x ∉ t.map (·.1) := by
  induction t with
  | nil => simp
  | cons p t ih =>
    obtain ⟨a, b⟩ := p
    by_cases h : x = a
    · subst h; simp [List.lookup]
    · have h' : (x == a) = false := by simp [h]
      simp only [List.lookup, h', ih, List.map_cons, List.mem_cons, h, false_or]
theorem nd_app {t : Tab} {k : Str} {v : Nat} (nd : (t.map (·.1)).Nodup) (hk : t.lookup k = none) : ((t ++ [(k, v)]).map (·.1)).Nodup := by
  rw [List.map_append, List.nodup_append]
  refine ⟨nd, by simp, fun a ha b hb e => ?_⟩
  simp at hb
  subst e
  rw [hb] at ha
  exact (lk_none.mp hk) ha
theorem spStep_lk {t : Tab} {r : Row} {x : Str} {e : Nat} (h : t.lookup x = some e) : (spStep t r).lookup x = some e := by
  unfold spStep
  split
  · split
    · rw [lk_app, h]
    · exact h
  · exact h
theorem SpInv.step {all pre : List Row} {s : Str} {h : Nat} {t : Tab} {r : Row} (I : SpInv all pre s h t) (hr : r ∈ all) (le : ∀ q ∈ pre, q.1 ≤ r.1) : SpInv all (pre ++ [r]) s h (spStep t r) := by
  obtain ⟨w, x, y⟩ := r
  have old : ∀ z e, t.lookup z = some e → (spStep t (w, x, y)).lookup z = some e := fun z e => spStep_lk
  by_cases c : ∃ e, t.lookup y = some e ∧ e ≤ w ∧ t.lookup x = none
  · obtain ⟨e, c1, c2, c3⟩ := c
    have es : spStep t (w, x, y) = t ++ [(x, w + 1)] := by simp [spStep, c1, c2, c3]
    have lk : ∀ z e', (spStep t (w, x, y)).lookup z = some e' → t.lookup z = some e' ∨ (z = x ∧ e' = w + 1) := fun z e' q => by
      rw [es, lk_app] at q
      split at q
      · rename_i q'; exact .inl (q'.trans q)
      · split at q
        · rename_i q'; cases q; exact .inr ⟨q', rfl⟩
        · cases q
    refine ⟨old _ _ I.base, by rw [es]; exact nd_app I.nd c3, fun z e' q => ?_, fun z e' q => ?_, fun q hq e' k1 k2 => ?_⟩
    · rcases lk z e' q with q | ⟨rfl, rfl⟩
      · exact I.sound z e' q
      · exact .step (I.sound y e c1) c2 hr (Nat.le_refl _)
    · rcases lk z e' q with q | ⟨rfl, rfl⟩
      · rcases I.src z e' q with q | ⟨r, h1, h2⟩
        · exact .inl q
        · exact .inr ⟨r, by simp [h1], h2⟩
      · exact .inr ⟨(w, z, y), by simp, rfl, rfl⟩
    · rcases List.mem_append.mp hq with hq | hq
      · have := le q hq
        rcases lk _ e' k1 with k1 | ⟨k1, rfl⟩
        · obtain ⟨e2, g1, g2⟩ := I.closed q hq e' k1 k2
          exact ⟨e2, old _ _ g1, g2⟩
        · have le2 : q.1 ≤ w := this
          omega
      · simp at hq
        subst hq
        refine ⟨w + 1, ?_, Nat.le_refl _⟩
        rw [es, lk_app, c3]
        simp
  · have es : spStep t (w, x, y) = t := by
      unfold spStep
      split
      · rename_i e he
        split
        · rename_i k; exact absurd ⟨e, he, k.1, k.2⟩ c
        · rfl
      · rfl
    rw [es]
    refine ⟨I.base, I.nd, I.sound, fun z e' q => ?_, fun q hq e' k1 k2 => ?_⟩
    · rcases I.src z e' q with q | ⟨r, h1, h2⟩
      · exact .inl q
      · exact .inr ⟨r, by simp [h1], h2⟩
    · rcases List.mem_append.mp hq with hq | hq
      · exact I.closed q hq e' k1 k2
      · simp at hq
        subst hq
        cases hx : t.lookup x with
        | none => exact absurd ⟨e', k1, k2, hx⟩ c
        | some e2 =>
          refine ⟨e2, rfl, ?_⟩
          have hge : h ≤ e' := (I.sound y e' k1).ge
          rcases I.src x e2 hx with ⟨_, q⟩ | ⟨r, h1, h2, _⟩
          · simp at k2; show e2 ≤ w + 1; omega
          · have := le r h1; show e2 ≤ w + 1; simp at this; omega
theorem spread_inv {all : List Row} {s : Str} {h : Nat} (so : ByHour all) : SpInv all all s h (spreadT all s h) := by
  have gen : ∀ (suf pre : List Row) (t : Tab), all = pre ++ suf → SpInv all pre s h t → SpInv all all s h (suf.foldl spStep t) := by
    intro suf
    induction suf with
    | nil => intro pre t e I; rw [List.append_nil] at e; subst e; exact I
    | cons r suf ih =>
      intro pre t e I
      refine ih (pre ++ [r]) _ (by rw [e]; simp) (I.step (by rw [e]; simp) fun q hq => ?_)
      rw [e] at so
      have := (List.pairwise_append.mp so).2.2 q hq r (by simp)
      exact this
  exact gen all [] _ rfl ⟨by simp [List.lookup], by simp, fun x e q => by
    by_cases k : x = s
    · subst k; simp [List.lookup] at q; subst q; exact .here (Nat.le_refl _)
    · have k' : (x == s) = false := by simp [k]
      simp [List.lookup, k'] at q, fun x e q => by
    by_cases k : x = s
    · subst k; simp [List.lookup] at q; exact .inl ⟨rfl, q.symm⟩
    · have k' : (x == s) = false := by simp [k]
      simp [List.lookup, k'] at q, fun r hr => by simp at hr⟩
theorem closed_has {rs : List Row} {t : Tab} {s : Str} {h h0 : Nat} (c : Closed rs t) (b : t.lookup s = some h0) (hb : h0 ≤ h) {x : Str} {u : Nat} (H : Has rs s h x u) : ∃ e, t.lookup x = some e ∧ e ≤ u := by
  induction H with
  | here e => exact ⟨h0, b, by omega⟩
  | step _ h1 h2 h3 ih =>
    obtain ⟨e, g1, g2⟩ := ih
    obtain ⟨e', k1, k2⟩ := c _ h2 e g1 (by omega)
    exact ⟨e', k1, by simp at k2; omega⟩
/-- the least hour -/
theorem spread_iff {rs : List Row} (so : ByHour rs) {s x : Str} {h u : Nat} : Has rs s h x u ↔ ∃ e, (spreadT rs s h).lookup x = some e ∧ e ≤ u :=
  ⟨fun H => closed_has (spread_inv so).closed (spread_inv so).base (Nat.le_refl _) H, fun ⟨e, h1, h2⟩ => ((spread_inv so).sound x e h1).mono h2⟩
/-! ### the other side -/
def ClosedB (rs : List Row) (t : Tab) : Prop := ∀ r ∈ rs, ∀ e, t.lookup r.2.1 = some e → r.1 + 1 ≤ e → ∃ e', t.lookup r.2.2 = some e' ∧ r.1 ≤ e'
structure BdInv (all pre : List Row) (g : Str) (b : Nat) (t : Tab) : Prop where
  base : t.lookup g = some b
  nd : (t.map (·.1)).Nodup
  sound : ∀ x e, t.lookup x = some e → Has all x e g b
  src : ∀ x e, t.lookup x = some e → (x = g ∧ e = b) ∨ ∃ r ∈ pre, e = r.1 ∧ x = r.2.2
  closed : ClosedB pre t
theorem bdStep_lk {t : Tab} {r : Row} {x : Str} {e : Nat} (h : t.lookup x = some e) : (bdStep t r).lookup x = some e := by
  unfold bdStep
  split
  · split
    · rw [lk_app, h]
    · exact h
  · exact h
theorem BdInv.step {all pre : List Row} {g : Str} {b : Nat} {t : Tab} {r : Row} (I : BdInv all pre g b t) (hr : r ∈ all) (le : ∀ q ∈ pre, r.1 ≤ q.1) : BdInv all (pre ++ [r]) g b (bdStep t r) := by
  obtain ⟨w, x, y⟩ := r
  have old : ∀ z e, t.lookup z = some e → (bdStep t (w, x, y)).lookup z = some e := fun z e => bdStep_lk
  by_cases c : ∃ e, t.lookup x = some e ∧ w + 1 ≤ e ∧ t.lookup y = none
  · obtain ⟨e, c1, c2, c3⟩ := c
    have es : bdStep t (w, x, y) = t ++ [(y, w)] := by simp [bdStep, c1, c3]; omega
    have lk : ∀ z e', (bdStep t (w, x, y)).lookup z = some e' → t.lookup z = some e' ∨ (z = y ∧ e' = w) := fun z e' q => by
      rw [es, lk_app] at q
      split at q
      · rename_i q'; exact .inl (q'.trans q)
      · split at q
        · rename_i q'; cases q; exact .inr ⟨q', rfl⟩
        · cases q
    refine ⟨old _ _ I.base, by rw [es]; exact nd_app I.nd c3, fun z e' q => ?_, fun z e' q => ?_, fun q hq e' k1 k2 => ?_⟩
    · rcases lk z e' q with q | ⟨rfl, rfl⟩
      · exact I.sound z e' q
      · exact Has.trans (.step (.here (Nat.le_refl _)) (Nat.le_refl _) hr c2) (I.sound x e c1)
    · rcases lk z e' q with q | ⟨rfl, rfl⟩
      · rcases I.src z e' q with q | ⟨r, h1, h2⟩
        · exact .inl q
        · exact .inr ⟨r, by simp [h1], h2⟩
      · exact .inr ⟨(e', x, z), by simp, rfl, rfl⟩
    · rcases List.mem_append.mp hq with hq | hq
      · have := le q hq
        rcases lk _ e' k1 with k1 | ⟨k1, rfl⟩
        · obtain ⟨e2, g1, g2⟩ := I.closed q hq e' k1 k2
          exact ⟨e2, old _ _ g1, g2⟩
        · simp at this k2; omega
      · simp at hq
        subst hq
        refine ⟨w, ?_, Nat.le_refl _⟩
        rw [es, lk_app, c3]
        simp
  · have es : bdStep t (w, x, y) = t := by
      unfold bdStep
      split
      · rename_i e he
        split
        · rename_i k; exact absurd ⟨e, he, k.1, k.2⟩ c
        · rfl
      · rfl
    rw [es]
    refine ⟨I.base, I.nd, I.sound, fun z e' q => ?_, fun q hq e' k1 k2 => ?_⟩
    · rcases I.src z e' q with q | ⟨r, h1, h2⟩
      · exact .inl q
      · exact .inr ⟨r, by simp [h1], h2⟩
    · rcases List.mem_append.mp hq with hq | hq
      · exact I.closed q hq e' k1 k2
      · simp at hq
        subst hq
        cases hy : t.lookup y with
        | none => exact absurd ⟨e', k1, k2, hy⟩ c
        | some e2 =>
          refine ⟨e2, rfl, ?_⟩
          have hge : e' ≤ b := (I.sound x e' k1).ge
          rcases I.src y e2 hy with ⟨_, q⟩ | ⟨r, h1, h2, _⟩
          · simp at k2; show w ≤ e2; omega
          · have := le r h1; show w ≤ e2; simp at this; omega
theorem bounds_inv {all : List Row} {g : Str} {b : Nat} (so : ByHour all) : BdInv all all.reverse g b (boundsT all g b) := by
  have so' : all.reverse.Pairwise fun a b => b.1 ≤ a.1 := List.pairwise_reverse.mpr so
  have gen : ∀ (suf pre : List Row) (t : Tab), all.reverse = pre ++ suf → BdInv all pre g b t → BdInv all all.reverse g b (suf.foldl bdStep t) := by
    intro suf
    induction suf with
    | nil => intro pre t e I; rw [List.append_nil] at e; rw [e]; exact I
    | cons r suf ih =>
      intro pre t e I
      have hm : r ∈ all := List.mem_reverse.mp (by rw [e]; simp)
      refine ih (pre ++ [r]) _ (by rw [e]; simp) (I.step hm fun q hq => ?_)
      rw [e] at so'
      exact (List.pairwise_append.mp so').2.2 q hq r (by simp)
  exact gen all.reverse [] _ rfl ⟨by simp [List.lookup], by simp, fun x e q => by
    by_cases k : x = g
    · subst k; simp [List.lookup] at q; subst q; exact .here (Nat.le_refl _)
    · have k' : (x == g) = false := by simp [k]
      simp [List.lookup, k'] at q, fun x e q => by
    by_cases k : x = g
    · subst k; simp [List.lookup] at q; exact .inl ⟨rfl, q.symm⟩
    · have k' : (x == g) = false := by simp [k]
      simp [List.lookup, k'] at q, fun r hr => by simp at hr⟩
theorem closedB_has {rs : List Row} {t : Tab} {x : Str} {h : Nat} (c : ClosedB rs t) {z : Str} {u : Nat} (H : Has rs x h z u) : (∃ b, t.lookup z = some b ∧ u ≤ b) → ∃ b, t.lookup x = some b ∧ h ≤ b := by
  induction H with
  | here e => exact fun ⟨b, h1, h2⟩ => ⟨b, h1, by omega⟩
  | step _ h1 h2 h3 ih =>
    rintro ⟨b, k1, k2⟩
    obtain ⟨e', g1, g2⟩ := c _ h2 b k1 (by simp; omega)
    exact ih ⟨e', g1, by simp at g2; omega⟩
theorem bounds_iff {rs : List Row} (so : ByHour rs) {g x : Str} {h b : Nat} : Has rs x h g b ↔ ∃ e, (boundsT rs g b).lookup x = some e ∧ h ≤ e :=
  ⟨fun H => closedB_has (fun r hr => (bounds_inv so).closed r (List.mem_reverse.mpr hr)) H ⟨b, (bounds_inv so).base, Nat.le_refl _⟩, fun ⟨e, h1, h2⟩ => ((bounds_inv so).sound x e h1).early h2⟩
/-! ### who is met -/
theorem spread_mem {rs : List Row} (so : ByHour rs) {s x : Str} {h e : Nat} (q : (spreadT rs s h).lookup x = some e) : (x = s ∧ e = h) ∨ ∃ r ∈ rs, e = r.1 + 1 ∧ x = r.2.1 := (spread_inv so).src x e q
theorem bounds_mem {rs : List Row} (so : ByHour rs) {s x : Str} {h e : Nat} (q : (boundsT rs s h).lookup x = some e) : (x = s ∧ e = h) ∨ ∃ r ∈ rs, e = r.1 ∧ x = r.2.2 := by
  rcases (bounds_inv so).src x e q with q | ⟨r, h1, h2⟩
  · exact .inl q
  · exact .inr ⟨r, List.mem_reverse.mp h1, h2⟩
theorem spread_len (rs : List Row) : ∀ t : Tab, (rs.foldl spStep t).length ≤ t.length + rs.length := by
  induction rs with
  | nil => intro t; simp
  | cons r rs ih =>
    intro t
    have h1 : (spStep t r).length ≤ t.length + 1 := by
      unfold spStep
      split
      · split <;> simp
      · omega
    have := ih (spStep t r)
    simp only [List.foldl_cons, List.length_cons]
    omega
theorem bounds_len (rs : List Row) : ∀ t : Tab, (rs.foldl bdStep t).length ≤ t.length + rs.length := by
  induction rs with
  | nil => intro t; simp
  | cons r rs ih =>
    intro t
    have h1 : (bdStep t r).length ≤ t.length + 1 := by
      unfold bdStep
      split
      · split <;> simp
      · omega
    have := ih (bdStep t r)
    simp only [List.foldl_cons, List.length_cons]
    omega
theorem rows_hour {F : Fl} : ByHour (rows F) := by
  unfold rows ByHour
  rw [List.pairwise_flatMap]
  refine ⟨fun k _ => ?_, ?_⟩
  · have : ∀ r ∈ rowsAt F k, r.1 = k := fun r hr => by
      obtain ⟨s, _, hr⟩ := List.mem_flatMap.mp hr
      obtain ⟨t, _, rfl⟩ := List.mem_map.mp hr
      rfl
    exact List.pairwise_iff_forall_sublist.mpr fun {a b} h => by
      have := h.subset
      rw [‹∀ r ∈ rowsAt F k, r.1 = k› a (this (by simp)), ‹∀ r ∈ rowsAt F k, r.1 = k› b (this (by simp))]
      exact Nat.le_refl _
  · refine List.Pairwise.imp (R := fun a b => a < b) (fun {a b} h r hr q hq => ?_) List.pairwise_lt_range
    obtain ⟨s, _, hr⟩ := List.mem_flatMap.mp hr
    obtain ⟨t, _, rfl⟩ := List.mem_map.mp hr
    obtain ⟨s', _, hq⟩ := List.mem_flatMap.mp hq
    obtain ⟨t', _, rfl⟩ := List.mem_map.mp hq
    show a ≤ b
    omega
/-- sightings taken out of others stay in order -/
theorem byHour_filter {rs : List Row} (so : ByHour rs) (p : Row → Bool) : ByHour (rs.filter p) := so.sublist List.filter_sublist
end DL
/-! Tables as dicts; what spread, bounds_for, earliest, latest tell. -/
namespace DL
open PySem PySem.Spec PyProof.Rows L2
def pairD (p : Str × Nat) : D := .tuple [.str p.1, .int p.2]
def tabD (t : Tab) : List (D × D) := t.map fun p => (.str p.1, .int p.2)
theorem lookD_tab (x : Str) : ∀ t : Tab, lookD (tabD t) (.str x) = (t.lookup x).map fun e => .int (e : Nat)
  | [] => rfl
  | (a, b) :: t => by
    have ih := lookD_tab x t
    by_cases h : x = a
    · subst h; simp [lookD, tabD, keyEqB, List.lookup]
    · have h' : (x == a) = false := by simp [h]
      have h2 : ¬ a = x := fun e => h e.symm
      simp only [List.lookup, h']
      rw [← ih]
      simp [lookD, tabD, keyEqB, h2]
theorem dkB_tab (t : Tab) : dkB (tabD t) = true := by
  simp only [dkB, tabD, List.all_map, List.all_eq_true]
  exact fun _ _ => rfl
theorem any_tab (x : Str) (t : Tab) : ((tabD t).any fun kv => keyEqB kv.1 (.str x)) = (t.lookup x).isSome := by
  induction t with
  | nil => rfl
  | cons p t ih =>
    obtain ⟨a, b⟩ := p
    have e1 : ((tabD ((a, b) :: t)).any fun kv => keyEqB kv.1 (.str x)) = (decide (a = x) || ((tabD t).any fun kv => keyEqB kv.1 (.str x))) := rfl
    rw [e1, ih]
    by_cases h : x = a
    · subst h; simp [List.lookup]
    · have h' : (x == a) = false := by simp [h]
      simp [List.lookup, h', show ¬ a = x from fun e => h e.symm]
def updT (t : Tab) (x : Str) (e : Nat) : Tab := t.map fun p => if p.1 = x then (p.1, e) else p
def putT (t : Tab) (x : Str) (e : Nat) : Tab := if (t.lookup x).isSome then updT t x e else t ++ [(x, e)]
theorem putD_tab (t : Tab) (x : Str) (e : Nat) : putD (tabD t) (.str x) (.int e) = tabD (putT t x e) := by
  unfold putD putT
  rw [any_tab]
  split
  · simp only [tabD, updT, List.map_map]
    refine List.map_congr_left fun p _ => ?_
    by_cases h : p.1 = x <;> simp [keyEqB, h]
  · simp [tabD]
theorem lk_upd (t : Tab) (x : Str) (e : Nat) (y : Str) : (updT t x e).lookup y = if y = x then (t.lookup x).map fun _ => e else t.lookup y := by
  induction t with
  | nil => by_cases h : y = x <;> simp [updT, h]
  | cons p t ih =>
    obtain ⟨a, b⟩ := p
    have eu : updT ((a, b) :: t) x e = (if a = x then (a, e) else (a, b)) :: updT t x e := rfl
    rw [eu]
    by_cases h1 : a = x
    · subst h1
      by_cases h2 : y = a
      · subst h2; simp [List.lookup]
      · have h' : (y == a) = false := by simp [h2]
        rw [if_pos rfl]
        simp only [List.lookup, h', ih, h2, if_false]
    · rw [if_neg h1]
      by_cases h2 : y = a
      · subst h2; simp [List.lookup, h1]
      · have h' : (y == a) = false := by simp [h2]
        have h3 : (x == a) = false := by simp [show ¬ x = a from fun z => h1 z.symm]
        simp only [List.lookup, h', ih, h3]
theorem lk_put (t : Tab) (x : Str) (e : Nat) (y : Str) : (putT t x e).lookup y = if y = x then some e else t.lookup y := by
  unfold putT
  split
  · rename_i h
    rw [lk_upd]
    obtain ⟨v, hv⟩ := Option.isSome_iff_exists.mp h
    rw [hv]
    rfl
  · rename_i h
    have hn : t.lookup x = none := Option.not_isSome_iff_eq_none.mp h
    rw [lk_app]
    by_cases q : y = x
    · subst q; simp [hn]
    · cases t.lookup y <;> simp [q]
theorem keys_upd (t : Tab) (x : Str) (e : Nat) : (updT t x e).map (·.1) = t.map (·.1) := by
  simp only [updT, List.map_map]
  refine List.map_congr_left fun p _ => ?_
  by_cases h : p.1 = x <;> simp [h]
theorem nd_put {t : Tab} (nd : (t.map (·.1)).Nodup) (x : Str) (e : Nat) : ((putT t x e).map (·.1)).Nodup := by
  unfold putT
  split
  · rw [keys_upd]; exact nd
  · rename_i h
    exact nd_app nd (Option.not_isSome_iff_eq_none.mp h)
theorem len_put (t : Tab) (x : Str) (e : Nat) : (putT t x e).length ≤ t.length + 1 := by
  unfold putT updT
  split <;> simp
theorem dIn_d {kds : List (D × D)} {x : Str} (h : dkB kds = true) : dIn (.str x) (.dict kds) = .ok (lookD kds (.str x)).isSome := by
  unfold dIn
  split
  · rename_i e; cases e
  · rename_i e; cases e
  · rename_i e; cases e
  · rename_i e; cases e; simp [h, keyOfD]
  · rename_i n1 n2 n3 n4; first | exact (n1 _ rfl).elim | exact (n2 _ rfl).elim | exact (n3 _ rfl).elim | exact (n4 _ rfl rfl).elim
theorem in_tab (t : Tab) (x : Str) : dCmp .In (.str x) (.dict (tabD t)) = .ok (t.lookup x).isSome := by
  rw [dCmp_in, dIn_d (dkB_tab t), lookD_tab]
  simp
theorem notin_tab (t : Tab) (x : Str) : dCmp .NotIn (.str x) (.dict (tabD t)) = .ok (!(t.lookup x).isSome) := by
  rw [dCmp_notin, dIn_d (dkB_tab t), lookD_tab]
  simp
theorem ix_d {kds : List (D × D)} {x : Str} {d : D} (h : lookD kds (.str x) = some d) : dIx (.dict kds) (.str x) = .ok d := by
  unfold dIx
  split
  · rename_i e _; cases e
  · rename_i e _; cases e
  · rename_i e _; cases e
  · rename_i e; cases e
  · rename_i e1 e2
    cases e1
    cases e2
    rw [h]
  · rename_i e; cases e
  · rename_i n1 n2 n3 n4 n5 n6; exact (n5 _ _ rfl rfl).elim
theorem ix_tab {t : Tab} {x : Str} {e : Nat} (h : t.lookup x = some e) : dIx (.dict (tabD t)) (.str x) = .ok (.int e) := ix_d (by rw [lookD_tab, h]; rfl)
theorem get_tab (t : Tab) (x : Str) (z : D) : dGet2 (tabD t) (.str x) z = .ok (((t.lookup x).map fun e => (.int (e : Nat) : D)).getD z) := by
  simp [dGet2, dkB_tab, keyOfD, lookD_tab]
/-! ### loops -/
theorem fTg_3 {ρ : Env} (i j k : Nat) (a b c : D) : fTg (.many [i, j, k]) (.tuple [a, b, c]) ρ = .ok (((ρ.set i (.va a)).set j (.va b)).set k (.va c)) := (rfl)
theorem fTg_2 {ρ : Env} (i j : Nat) (a b : D) : fTg (.many [i, j]) (.tuple [a, b]) ρ = .ok ((ρ.set i (.va a)).set j (.va b)) := (rfl)
/-- a loop that carries a state -/
theorem for_fold {α β : Type} {tg : Tg} {fb : Env → R Out} (emb : α → D) (f : β → α → β) (P : List α → β → Env → Prop) : ∀ (xs : List α) (b : β) (ρ : Env), P xs b ρ → (∀ (b : β) (x : α) (r : List α) (ρ : Env), (∀ y ∈ x :: r, y ∈ xs) → P (x :: r) b ρ → ∃ ρ1 ρ', fTg tg (emb x) ρ = .ok ρ1 ∧ (fb ρ1 = .ok (.nx ρ') ∨ fb ρ1 = .ok (.ct ρ')) ∧ P r (f b x) ρ') →
    ∃ ρ', forLoop tg fb (xs.map emb) ρ = .ok (.nx ρ') ∧ P [] (xs.foldl f b) ρ'
  | [], b, ρ, h, _ => ⟨ρ, rfl, h⟩
  | x :: xs, b, ρ, h, hs => by
    obtain ⟨ρ1, ρ2, h1, h2, h3⟩ := hs b x xs ρ (fun y hy => hy) h
    obtain ⟨ρ3, h4, h5⟩ := for_fold emb f P xs (f b x) ρ2 h3 fun b y r ρ hy => hs b y r ρ fun z hz => List.mem_cons_of_mem _ (hy z hz)
    refine ⟨ρ3, ?_, h5⟩
    rcases h2 with h2 | h2 <;> simp only [List.map_cons, forLoop, h1, R.ok_bind, h2, h4]
/-- a loop in which each turn goes on -/
theorem for_all {α : Type} {tg : Tg} {fb : Env → R Out} (emb : α → D) (P : Env → Prop) {xs : List α} {ρ : Env} (h : P ρ) (hs : ∀ (x : α) (ρ : Env), x ∈ xs → P ρ → ∃ ρ1 ρ', fTg tg (emb x) ρ = .ok ρ1 ∧ fb ρ1 = .ok (.nx ρ') ∧ P ρ') : ∃ ρ', forLoop tg fb (xs.map emb) ρ = .ok (.nx ρ') ∧ P ρ' := by
  obtain ⟨ρ', h1, h2⟩ := for_fold (β := Unit) (tg := tg) (fb := fb) emb (fun _ _ => ()) (fun _ _ => P) xs () ρ h fun _ x r ρ hx hp => by
    obtain ⟨ρ1, ρ', g1, g2, g3⟩ := hs x ρ (hx x (by simp)) hp
    exact ⟨ρ1, ρ', g1, .inl g2, g3⟩
  exact ⟨ρ', h1, h2⟩
/-! ### spread -/
abbrev rowE (ρ : Env) (r : Row) : Env := ((ρ.set 4 (.va (.int r.1))).set 5 (.va (.str r.2.1))).set 6 (.va (.str r.2.2))
theorem spread_body {t : Tab} {r : Row} {ρ : Env} (hl : ρ.length = 7) (h3 : ρ[3]? = some (.ow (.dict (tabD t)))) (few : t.length < 1000000) : ∃ ρ', C_spread_s1b_t0 (rowE ρ r) = .ok (.nx ρ') ∧ ρ'.length = 7 ∧ ρ'[3]? = some (.ow (.dict (tabD (spStep t r)))) := by
  obtain ⟨w, x, y⟩ := r
  have hlen : (tabD t).length < 1000000 := by simpa [tabD] using few
  unfold C_spread_s1b_t0 C_spread_s1b_s0
  cases hy : t.lookup y with
  | none =>
    refine ⟨rowE ρ (w, x, y), ?_, by simp [hl], by simp [List.getElem?_set, h3, spStep, hy]⟩
    simp -implicitDefEqProofs [-getElem?_pos, rdP, List.getElem?_set, hl, h3, in_tab, hy]
  | some e =>
    by_cases c1 : e ≤ w
    · cases hx : t.lookup x with
      | none =>
        have hp : putD (tabD t) (.str x) (.int ((w : Int) + 1)) = tabD (t ++ [(x, w + 1)]) := by
          have := putD_tab t x (w + 1)
          simpa [putT, hx] using this
        refine ⟨(rowE ρ (w, x, y)).set 3 (.ow (.dict (tabD (t ++ [(x, w + 1)])))), ?_, by simp [hl], by simp [List.getElem?_set, hl, spStep, hy, hx, c1]⟩
        simp -implicitDefEqProofs [-getElem?_pos, rdP, List.getElem?_set, hl, h3, in_tab, notin_tab, ix_tab hy, hy, c1, hx, fPut, keyOfD, hlen, hp]
      | some e2 =>
        refine ⟨rowE ρ (w, x, y), ?_, by simp [hl], by simp [List.getElem?_set, h3, spStep, hy, hx]⟩
        simp -implicitDefEqProofs [-getElem?_pos, rdP, List.getElem?_set, hl, h3, in_tab, notin_tab, ix_tab hy, hy, c1, hx]
    · refine ⟨rowE ρ (w, x, y), ?_, by simp [hl], by simp [List.getElem?_set, h3, spStep, hy, c1]⟩
      simp -implicitDefEqProofs [-getElem?_pos, rdP, List.getElem?_set, hl, h3, in_tab, notin_tab, ix_tab hy, hy, c1]
theorem len_step (t : Tab) (r : Row) : (spStep t r).length ≤ t.length + 1 := by
  unfold spStep
  split
  · split <;> simp
  · omega
theorem len_bd (t : Tab) (r : Row) : (bdStep t r).length ≤ t.length + 1 := by
  unfold bdStep
  split
  · split <;> simp
  · omega
theorem C_spread_ok {rs : List Row} (few : rs.length ≤ 10000) (s : Str) (h : Nat) : C_spread [.list (rs.map rowD), .str s, .int h] = .ok (.dict (tabD (spreadT rs s h))) := by
  obtain ⟨ρ', h1, h2, h3, _⟩ := for_fold (tg := .many [4, 5, 6]) (fb := C_spread_s1b_t0) rowD spStep (fun r t ρ => ρ.length = 7 ∧ ρ[3]? = some (.ow (.dict (tabD t))) ∧ t.length + r.length ≤ 20000) rs [(s, h)]
    [.va (.list (rs.map rowD)), .va (.str s), .va (.int h), .ow (.dict (tabD [(s, h)])), .un, .un, .un] ⟨rfl, rfl, by simp; omega⟩ fun t r rest ρ hr ⟨p1, p2, p3⟩ => by
      obtain ⟨ρ', g2, g3, g4⟩ := spread_body (r := r) p1 p2 (by simp at p3; omega)
      exact ⟨rowE ρ r, ρ', fTg_3 _ _ _ _ _ _, .inl g2, g3, g4, by have := len_step t r; simp at p3; omega⟩
  have e0 : dDict1 (.str s) (.int h) = .ok (.dict (tabD [(s, h)])) := rfl
  unfold C_spread C_spread_t0 C_spread_t1 C_spread_t2 C_spread_s0 C_spread_s1 C_spread_s2
  simp -implicitDefEqProofs [rdE_succ, relR1_succ, e0, h1]
  simp -implicitDefEqProofs [-getElem?_pos, relR1, rdE, h3, List.getElem?_set, h2]
  rfl
theorem bounds_body {t : Tab} {r : Row} {ρ : Env} (hl : ρ.length = 7) (h3 : ρ[3]? = some (.ow (.dict (tabD t)))) (few : t.length < 1000000) : ∃ ρ', C_bounds_for_s1b_t0 (rowE ρ r) = .ok (.nx ρ') ∧ ρ'.length = 7 ∧ ρ'[3]? = some (.ow (.dict (tabD (bdStep t r)))) := by
  obtain ⟨w, x, y⟩ := r
  have hlen : (tabD t).length < 1000000 := by simpa [tabD] using few
  unfold C_bounds_for_s1b_t0 C_bounds_for_s1b_s0
  cases hx : t.lookup x with
  | none =>
    refine ⟨rowE ρ (w, x, y), ?_, by simp [hl], by simp [List.getElem?_set, h3, bdStep, hx]⟩
    simp -implicitDefEqProofs [-getElem?_pos, rdP, List.getElem?_set, hl, h3, in_tab, hx]
  | some e =>
    by_cases c1 : w + 1 ≤ e
    · have c1' : (w : Int) + 1 ≤ (e : Int) := by omega
      cases hy : t.lookup y with
      | none =>
        have hp : putD (tabD t) (.str y) (.int (w : Int)) = tabD (t ++ [(y, w)]) := by
          have := putD_tab t y w
          simpa [putT, hy] using this
        refine ⟨(rowE ρ (w, x, y)).set 3 (.ow (.dict (tabD (t ++ [(y, w)])))), ?_, by simp [hl], by simp [List.getElem?_set, hl, bdStep, hy, hx, c1]⟩
        simp -implicitDefEqProofs [-getElem?_pos, rdP, rdE, relR1, List.getElem?_set, hl, h3, in_tab, notin_tab, ix_tab hx, hy, c1', hx, fPut, keyOfD, hlen, hp]
      | some e2 =>
        refine ⟨rowE ρ (w, x, y), ?_, by simp [hl], by simp [List.getElem?_set, h3, bdStep, hy, hx]⟩
        simp -implicitDefEqProofs [-getElem?_pos, rdP, List.getElem?_set, hl, h3, in_tab, notin_tab, ix_tab hx, hy, c1', hx]
    · have c1' : ¬ (w : Int) + 1 ≤ (e : Int) := by omega
      refine ⟨rowE ρ (w, x, y), ?_, by simp [hl], by simp [List.getElem?_set, h3, bdStep, hx, c1]⟩
      simp -implicitDefEqProofs [-getElem?_pos, rdP, List.getElem?_set, hl, h3, in_tab, notin_tab, ix_tab hx, hx, c1']
theorem C_bounds_ok {rs : List Row} (few : rs.length ≤ 10000) (g : Str) (b : Nat) : C_bounds_for [.list (rs.map rowD), .str g, .int b] = .ok (.dict (tabD (boundsT rs g b))) := by
  obtain ⟨ρ', h1, h2, h3, _⟩ := for_fold (tg := .many [4, 5, 6]) (fb := C_bounds_for_s1b_t0) rowD bdStep (fun r t ρ => ρ.length = 7 ∧ ρ[3]? = some (.ow (.dict (tabD t))) ∧ t.length + r.length ≤ 20000) rs.reverse [(g, b)]
    [.va (.list (rs.map rowD)), .va (.str g), .va (.int b), .ow (.dict (tabD [(g, b)])), .un, .un, .un] ⟨rfl, rfl, by simp; omega⟩ fun t r rest ρ hr ⟨p1, p2, p3⟩ => by
      obtain ⟨ρ', g2, g3, g4⟩ := bounds_body (r := r) p1 p2 (by simp at p3; omega)
      exact ⟨rowE ρ r, ρ', fTg_3 _ _ _ _ _ _, .inl g2, g3, g4, by have := len_bd t r; simp at p3; omega⟩
  have e0 : dDict1 (.str g) (.int b) = .ok (.dict (tabD [(g, b)])) := rfl
  have e1 : dRev (.list (rs.map rowD)) none = .ok (.list (rs.map rowD).reverse) := rfl
  rw [List.map_reverse] at h1
  have h3 : ρ'[3]? = some (.ow (.dict (tabD (boundsT rs g b)))) := h3
  unfold C_bounds_for C_bounds_for_t0 C_bounds_for_t1 C_bounds_for_t2 C_bounds_for_s0 C_bounds_for_s1 C_bounds_for_s2
  simp -implicitDefEqProofs [rdE_succ, rdP_succ, relR1_succ, e0, e1, h1, fRetO, h3]
/-! ### sorted items -/
structure NmsOk (nm : List Str) : Prop where
  name : ∀ n ∈ nm, isNameB (.str n) = true
  rise : nm.Pairwise fun a b => PySem.W.dataLt (.str a) (.str b) = true
theorem Fl.Ok.nms {F : Fl} (h : F.Ok) : NmsOk F.names :=
  ⟨fun n hn => by obtain ⟨s, hs, rfl⟩ := List.mem_map.mp hn; exact h.name s hs, List.pairwise_map.mpr h.pw⟩
theorem NmsOk.nd {nm : List Str} (h : NmsOk nm) : nm.Nodup := h.rise.imp fun {a b} l => fun e : a = b => lt_ne l (by rw [e])
abbrev lkT (t : Tab) : Str → Option Nat := fun x => t.lookup x
def tabN (nm : List Str) (f : Str → Option Nat) : Tab := nm.filterMap fun n => (f n).map fun e => (n, e)
theorem mem_tabN {nm : List Str} {f : Str → Option Nat} {p : Str × Nat} : p ∈ tabN nm f ↔ p.1 ∈ nm ∧ f p.1 = some p.2 := by
  unfold tabN
  rw [List.mem_filterMap]
  constructor
  · rintro ⟨n, hn, e⟩
    obtain ⟨v, hv, rfl⟩ := Option.map_eq_some_iff.mp e
    exact ⟨hn, hv⟩
  · rintro ⟨h1, h2⟩
    exact ⟨p.1, h1, by rw [h2]; rfl⟩
theorem keys_tabN (nm : List Str) (f : Str → Option Nat) : (tabN nm f).map (·.1) = nm.filter fun n => (f n).isSome := by
  induction nm with
  | nil => rfl
  | cons n nm ih =>
    unfold tabN at ih ⊢
    cases h : f n with
    | none => simp [List.filterMap_cons, h, ih]
    | some e => simp [List.filterMap_cons, h, ih]
theorem nd_tabN {nm : List Str} (h : nm.Nodup) (f : Str → Option Nat) : ((tabN nm f).map (·.1)).Nodup := by rw [keys_tabN]; exact h.sublist List.filter_sublist
theorem lk_mem : ∀ {t : Tab} {x : Str} {e : Nat}, (t.map (·.1)).Nodup → (t.lookup x = some e ↔ (x, e) ∈ t)
  | [], x, e, _ => by simp
  | (a, b) :: t, x, e, nd => by
    simp only [List.map_cons, List.nodup_cons] at nd
    have ih := lk_mem (t := t) (x := x) (e := e) nd.2
    by_cases h : x = a
    · subst h
      simp only [List.lookup, beq_self_eq_true, Option.some.injEq, List.mem_cons, Prod.mk.injEq, true_and]
      constructor
      · intro h; exact .inl h.symm
      · rintro (h | h)
        · exact h.symm
        · exact absurd (List.mem_map.mpr ⟨_, h, rfl⟩) nd.1
    · have h' : (x == a) = false := by simp [h]
      simp only [List.lookup, h', ih, List.mem_cons, Prod.mk.injEq, h, false_and, false_or]
theorem lk_tabN {nm : List Str} (h : nm.Nodup) (f : Str → Option Nat) (x : Str) : (tabN nm f).lookup x = if x ∈ nm then f x else none := by
  by_cases hx : x ∈ nm
  · rw [if_pos hx]
    cases e : f x with
    | none => exact lk_none.mpr fun z => by rw [keys_tabN] at z; simp [e] at z
    | some v => exact (lk_mem (nd_tabN h f)).mpr (mem_tabN.mpr ⟨hx, e⟩)
  · rw [if_neg hx]
    exact lk_none.mpr fun z => by rw [keys_tabN] at z; exact hx (List.mem_filter.mp z).1
theorem perm_tabN {nm : List Str} (h : nm.Nodup) {t : Tab} (nd : (t.map (·.1)).Nodup) (sub : ∀ x ∈ t.map (·.1), x ∈ nm) : (tabN nm (lkT t)).Perm t := by
  refine (List.perm_ext_iff_of_nodup (List.Pairwise.of_map _ (fun a b hne e => hne (by rw [e])) (nd_tabN h _)) (List.Pairwise.of_map _ (fun a b hne e => hne (by rw [e])) nd)).mpr fun p => ?_
  rw [mem_tabN, lk_mem nd]
  exact ⟨fun h => h.2, fun hp => ⟨sub _ (List.mem_map.mpr ⟨p, hp, rfl⟩), hp⟩⟩
theorem pair_lt {a b : Str} {m n : Nat} (h : PySem.W.dataLt (.str a) (.str b) = true) : PySem.W.dataLt (pairD (a, m)) (pairD (b, n)) = true := by
  have e : ∀ (a : Str) (m : Nat), PySem.W.keyToks (pairD (a, m)) = [.inl 1] ++ (.inr a.cps.toList :: [.inl 1, .inl (m : Int), .inl 0]) := fun a m => by simp [pairD, PySem.W.keyToks, PySem.W.keyToksAll]
  have hne : (.inr a.cps.toList : Int ⊕ List Nat) ≠ .inr b.cps.toList := fun e => by
    unfold PySem.W.dataLt PySem.W.keyToks at h
    rw [e, lex_irrefl (O := itemOrd)] at h
    cases h
  unfold PySem.W.dataLt at *
  rw [e a m, e b n, PySem.W.lex_pre, PySem.W.lex_atom hne]
  simpa [PySem.W.keyToks] using h
theorem pairs_pw {nm : List Str} (h : NmsOk nm) (f : Str → Option Nat) : ((tabN nm f).map pairD).Pairwise fun a b => PySem.W.dataLt a b = true := by
  rw [List.pairwise_map]
  unfold tabN
  rw [List.pairwise_filterMap]
  refine h.rise.imp fun {a b} l p hp q hq => ?_
  obtain ⟨v, _, rfl⟩ := Option.map_eq_some_iff.mp hp
  obtain ⟨w, _, rfl⟩ := Option.map_eq_some_iff.mp hq
  exact pair_lt l
theorem pair_ok {a : Str} (h : isNameB (.str a) = true) (e : Nat) : okD 3 (pairD (a, e)) = true := by
  have := name_ok h
  simp [pairD, okD, this.1]
  omega
theorem tab_ord {nm : List Str} (h : NmsOk nm) {t : Tab} (sub : ∀ x ∈ t.map (·.1), x ∈ nm) : sortOk (t.map pairD) = true := by
  have h1 : alikeAllB (t.map pairD) = true := by
    simp only [alikeAllB, Bool.and_eq_true, List.all_map, List.all_eq_true]
    exact ⟨fun x _ => by simp only [Function.comp, List.all_eq_true]; exact fun _ _ => rfl, fun _ _ => rfl⟩
  have ok : ∀ d ∈ t.map pairD, okD 3 d = true := fun d hd => by
    obtain ⟨c, hc, rfl⟩ := List.mem_map.mp hd
    exact pair_ok (h.name _ (sub _ (List.mem_map.mpr ⟨c, hc, rfl⟩))) _
  have h2 : PyData.canLayAll0 (t.map pairD) = true := canAll fun d hd => (okD_can 3 _ (ok d hd)).1
  have h3 : PyData.depthAll (t.map pairD) ≤ 3 := depAll fun d hd => (okD_can 3 _ (ok d hd)).2
  have : ordOk (t.map pairD) = true := by
    simp only [ordOk, h1, h2, Bool.and_eq_true, decide_eq_true_eq]
    exact ⟨⟨trivial, trivial⟩, by omega⟩
  simp only [sortOk, this, Bool.true_and, Bool.or_eq_true, List.all_map, List.all_eq_true]
  exact .inl fun _ _ => rfl
theorem pair_toks {p q : Str × Nat} (e : PySem.W.keyToks (pairD p) = PySem.W.keyToks (pairD q)) : pairD p = pairD q := by
  obtain ⟨a1, a2⟩ := p
  obtain ⟨b1, b2⟩ := q
  simp [pairD, PySem.W.keyToks, PySem.W.keyToksAll] at e ⊢
  exact ⟨PySem.W.str_of_cps (by rw [e.1]), by omega⟩
theorem sort_tab {nm : List Str} (h : NmsOk nm) {t : Tab} (nd : (t.map (·.1)).Nodup) (sub : ∀ x ∈ t.map (·.1), x ∈ nm) : sortD (t.map pairD) = (tabN nm (lkT t)).map pairD := by
  refine sortD_eq ((perm_tabN h.nd nd sub).map _) ((pairs_pw h _).imp lt_asym) fun a ha b hb e => ?_
  obtain ⟨p, _, rfl⟩ := List.mem_map.mp ha
  obtain ⟨q, _, rfl⟩ := List.mem_map.mp hb
  exact pair_toks e
theorem items_tab (t : Tab) : itmD (tabD t) = t.map pairD := by
  simp only [itmD, tabD, List.map_map]
  rfl
theorem sort_items {nm : List Str} (h : NmsOk nm) {t : Tab} (nd : (t.map (·.1)).Nodup) (sub : ∀ x ∈ t.map (·.1), x ∈ nm) (few : t.length ≤ 100000) : dSortItems (.dict (tabD t)) = .ok (.list ((tabN nm (lkT t)).map pairD)) := by
  have ha : ((tabD t).all fun kv => atomB kv.2) = true := by
    simp only [tabD, List.all_map, List.all_eq_true]
    exact fun _ _ => rfl
  have hl : (tabD t).length ≤ 100000 := by simpa [tabD] using few
  simp only [dSortItems, dkB_tab, ha, items_tab, tab_ord h sub, sort_tab h nd sub, hl, decide_true, Bool.and_self, if_true]
/-! ### dict(pairs) -/
theorem pairs_tab : ∀ t : Tab, pairsD (t.map pairD) = some (t.map fun p => ((.inr p.1 : Key), (.int (p.2 : Nat) : D)))
  | [] => rfl
  | p :: t => by
    have ih := pairs_tab t
    have e : pairsD (pairD p :: t.map pairD) = (match keyOfD (.str p.1), pairsD (t.map pairD) with | some k', some r' => some ((k', (.int (p.2 : Nat) : D)) :: r') | _, _ => none) := rfl
    rw [List.map_cons, e, ih]
    rfl
theorem merge_tab : ∀ (t u : Tab), ((u ++ t).map (·.1)).Nodup → mergeD (tabD u) (t.map fun p => ((.inr p.1 : Key), (.int (p.2 : Nat) : D))) = tabD (u ++ t)
  | [], u, _ => by simp [mergeD]
  | p :: t, u, nd => by
    show mergeD (putD (tabD u) (.str p.1) (.int p.2)) (t.map _) = _
    have hn : u.lookup p.1 = none := lk_none.mpr fun z => by
      rw [List.map_append, List.nodup_append] at nd
      exact nd.2.2 _ z _ (by simp) rfl
    rw [putD_tab]
    have e : putT u p.1 p.2 = u ++ [p] := by simp [putT, hn]
    rw [e, merge_tab t (u ++ [p]) (by simpa using nd)]
    simp
theorem dict_tab {t : Tab} (nd : (t.map (·.1)).Nodup) : dDict [.list (t.map pairD)] = .ok (.dict (tabD t)) := by
  simp only [dDict, pairs_tab]
  have := merge_tab t [] (by simpa using nd)
  simp only [List.nil_append] at this
  have e : tabD [] = [] := rfl
  rw [e] at this
  simp only [this]
end DL
/-! What earliest and latest tell. -/
namespace DL
open PySem PySem.Spec PyProof.Rows L2
theorem look_name {F : Fl} (h : F.Ok) {n : Str} (hn : n ∈ F.names) : C_look_ship [F.D, .str n] = .ok .none := by
  obtain ⟨s, hs, rfl⟩ := List.mem_map.mp hn
  exact C_look_ship_ok h hs
theorem row_names {F : Fl} {r : Row} (hr : r ∈ rows F) : r.2.1 ∈ F.names ∧ r.2.2 ∈ F.names ∧ r.1 ≤ F.last ∧ r.2.1 ≠ r.2.2 := by
  obtain ⟨k, hk, s, hs, t, ht, e, rfl⟩ := mem_rows.mp hr
  exact ⟨List.mem_map.mpr ⟨s, hs, rfl⟩, List.mem_map.mpr ⟨t, ht, rfl⟩, hk, sees_other e⟩
/-- sightings among names -/
structure RwOk (nm : List Str) (l : Nat) (rs : List Row) : Prop where
  hour : ByHour rs
  mem : ∀ r ∈ rs, r.2.1 ∈ nm ∧ r.2.2 ∈ nm ∧ r.1 ≤ l ∧ r.2.1 ≠ r.2.2
  few : rs.length ≤ 10000
theorem Fl.Ok.rw {F : Fl} (h : F.Ok) : RwOk F.names F.last (rows F) := ⟨rows_hour, fun r hr => row_names hr, Nat.le_trans (rows_le h) (by decide)⟩
theorem RwOk.filter {nm : List Str} {l : Nat} {rs : List Row} (h : RwOk nm l rs) (p : Row → Bool) : RwOk nm l (rs.filter p) :=
  ⟨byHour_filter h.hour p, fun r hr => h.mem r (List.mem_filter.mp hr).1, Nat.le_trans (List.length_filter_le _ _) h.few⟩
section
variable {nm : List Str} {l : Nat} {rs : List Row}
theorem sp_keys (h : RwOk nm l rs) {s : Str} (hs : s ∈ nm) (k : Nat) : ∀ x ∈ (spreadT rs s k).map (·.1), x ∈ nm := fun x hx => by
  obtain ⟨p, hp, rfl⟩ := List.mem_map.mp hx
  rcases spread_mem h.hour ((lk_mem (spread_inv h.hour).nd).mpr hp) with ⟨e, _⟩ | ⟨r, hr, _, e⟩
  · rw [e]; exact hs
  · rw [e]; exact (h.mem r hr).1
theorem bd_keys (h : RwOk nm l rs) {s : Str} (hs : s ∈ nm) (k : Nat) : ∀ x ∈ (boundsT rs s k).map (·.1), x ∈ nm := fun x hx => by
  obtain ⟨p, hp, rfl⟩ := List.mem_map.mp hx
  rcases bounds_mem h.hour ((lk_mem (bounds_inv h.hour).nd).mpr hp) with ⟨e, _⟩ | ⟨r, hr, _, e⟩
  · rw [e]; exact hs
  · rw [e]; exact (h.mem r hr).2.1
theorem sp_few (h : RwOk nm l rs) (s : Str) (k : Nat) : (spreadT rs s k).length ≤ 20000 := by
  have := spread_len rs [(s, k)]
  have := h.few
  unfold spreadT
  simp at *
  omega
theorem bd_few (h : RwOk nm l rs) (s : Str) (k : Nat) : (boundsT rs s k).length ≤ 20000 := by
  have := bounds_len rs.reverse [(s, k)]
  have := h.few
  unfold boundsT
  simp at *
  omega
/-- the hours, by names -/
def earl (nm : List Str) (rs : List Row) (s : Str) (k : Nat) : Tab := tabN nm (lkT (spreadT rs s k))
def lateT (rs : List Row) (l : Nat) (g : Str) (b : Nat) : Tab := putT (boundsT rs g b) g (min b l)
def late (nm : List Str) (rs : List Row) (l : Nat) (g : Str) (b : Nat) : Tab := tabN nm (lkT (lateT rs l g b))
theorem sort_spread (n : NmsOk nm) (h : RwOk nm l rs) {s : Str} (hs : s ∈ nm) (k : Nat) : dSortItems (.dict (tabD (spreadT rs s k))) = .ok (.list ((earl nm rs s k).map pairD)) :=
  sort_items n (spread_inv h.hour).nd (sp_keys h hs k) (Nat.le_trans (sp_few h s k) (by decide))
theorem late_keys (h : RwOk nm l rs) {g : Str} (hg : g ∈ nm) (b : Nat) : ∀ x ∈ (lateT rs l g b).map (·.1), x ∈ nm := fun x hx => by
  unfold lateT putT at hx
  split at hx
  · rw [keys_upd] at hx; exact bd_keys h hg b x hx
  · simp only [List.map_append, List.mem_append, List.map_cons, List.map_nil, List.mem_singleton] at hx
    rcases hx with hx | hx
    · exact bd_keys h hg b x hx
    · rw [hx]; exact hg
theorem sort_late (n : NmsOk nm) (h : RwOk nm l rs) {g : Str} (hg : g ∈ nm) (b : Nat) : dSortItems (.dict (tabD (lateT rs l g b))) = .ok (.list ((late nm rs l g b).map pairD)) :=
  sort_items n (nd_put (bounds_inv h.hour).nd _ _) (late_keys h hg b) (by have := len_put (boundsT rs g b) g (min b l); have := bd_few h g b; unfold lateT; omega)
end
theorem C_plain_latest_ok {F : Fl} (h : F.Ok) {g : Str} (hg : g ∈ F.names) (b : Nat) : C_plain_latest [F.D, .str g, .int b] = .ok (.list ((late F.names (rows F) F.last g b).map pairD)) := by
  have e1 := C_plain_sightings_ok h
  have e2 := C_bounds_ok h.rw.few g b
  have e3 : dSortItems (.dict (tabD (putT (boundsT (rows F) g b) g (min b F.last)))) = _ := sort_late h.nms h.rw hg b
  have e4 : dMin [.int (b : Int), .int (F.last : Int)] = .ok (.int ((min b F.last : Nat) : Int)) := by
    rw [dMin_ii]
    have : min (b : Int) (F.last : Int) = ((min b F.last : Nat) : Int) := by omega
    rw [this]
  have e5 := putD_tab (boundsT (rows F) g b) g (min b F.last)
  have e6 : (tabD (boundsT (rows F) g b)).length < 1000000 := by
    have := bd_few h.rw g b
    simp [tabD]
    omega
  unfold C_plain_latest C_plain_latest_t0 C_plain_latest_t1 C_plain_latest_t2 C_plain_latest_s0 C_plain_latest_s1 C_plain_latest_s2
  simp -implicitDefEqProofs [rdE_succ, rdP_succ, relR1_succ, e1, e2, ix_last, e4, fPut, keyOfD, e6, e5, e3]
theorem C_earliest_ok {F : Fl} (h : F.Ok) {s : Str} (hs : s ∈ F.names) {k : Nat} (hk : k ≤ F.last) : C_earliest [F.D, .str s, .int k] = .ok (.list ((earl F.names (rows F) s k).map pairD)) := by
  unfold C_earliest C_earliest_t0 C_earliest_t1 C_earliest_t2 C_earliest_t3 C_earliest_s0 C_earliest_s1 C_earliest_s2 C_earliest_s3
  simp -implicitDefEqProofs [rdE_succ, rdP_succ, relR1_succ, h.look, look_name h hs, ix_last, C_look_hour_ok hk, C_plain_sightings_ok h, C_spread_ok h.rw.few, sort_spread h.nms h.rw hs]
theorem C_latest_ok {F : Fl} (h : F.Ok) {g : Str} (hg : g ∈ F.names) {b : Nat} (hb : b ≤ F.last + 1) : C_latest [F.D, .str g, .int b] = .ok (.list ((late F.names (rows F) F.last g b).map pairD)) := by
  have e0 := C_look_hour_ok hb
  have e0 : C_look_hour [.int (b : Int), .int ((F.last : Int) + 1)] = .ok .none := by simpa using e0
  unfold C_latest C_latest_t0 C_latest_t1 C_latest_t2 C_latest_t3 C_latest_s0 C_latest_s1 C_latest_s2 C_latest_s3
  simp -implicitDefEqProofs [rdE_succ, rdP_succ, relR1_succ, h.look, look_name h hg, ix_last, e0, C_plain_latest_ok h hg]
/-! ### lookups -/
section
variable {nm : List Str} {l : Nat} {rs : List Row}
theorem earl_lk (n : NmsOk nm) (h : RwOk nm l rs) {s : Str} (hs : s ∈ nm) (k : Nat) (x : Str) : (earl nm rs s k).lookup x = (spreadT rs s k).lookup x := by
  unfold earl
  rw [lk_tabN n.nd]
  split
  · rfl
  · rename_i hx
    exact (lk_none.mpr fun z => hx (sp_keys h hs k x z)).symm
theorem late_lk (n : NmsOk nm) (h : RwOk nm l rs) {g : Str} (hg : g ∈ nm) (b : Nat) (x : Str) : (late nm rs l g b).lookup x = if x = g then some (min b l) else (boundsT rs g b).lookup x := by
  unfold late
  rw [lk_tabN n.nd]
  have e : lkT (lateT rs l g b) x = if x = g then some (min b l) else (boundsT rs g b).lookup x := lk_put _ _ _ _
  split
  · exact e
  · rename_i hx
    have : x ≠ g := fun z => hx (by rw [z]; exact hg)
    rw [if_neg this]
    exact (lk_none.mpr fun z => hx (bd_keys h hg b x z)).symm
/-- two sides of one -/
theorem dual (n : NmsOk nm) (h : RwOk nm l rs) {s g : Str} (hs : s ∈ nm) (hg : g ∈ nm) {k b : Nat} (hk : k ≤ l) : (∃ e, (earl nm rs s k).lookup g = some e ∧ e ≤ b) ↔ ∃ e, (late nm rs l g b).lookup s = some e ∧ k ≤ e := by
  rw [earl_lk n h hs, late_lk n h hg, ← spread_iff h.hour]
  by_cases q : s = g
  · subst q
    simp only [if_true]
    rw [bounds_iff h.hour, (bounds_inv h.hour).base]
    simp
    omega
  · rw [if_neg q, bounds_iff h.hour]
theorem earl_le (n : NmsOk nm) (h : RwOk nm l rs) {s x : Str} (hs : s ∈ nm) {k e : Nat} (hk : k ≤ l) (q : (earl nm rs s k).lookup x = some e) : k ≤ e ∧ e ≤ l + 1 ∧ x ∈ nm := by
  rw [earl_lk n h hs] at q
  refine ⟨((spread_inv h.hour).sound x e q).ge, ?_, sp_keys h hs k x ?_⟩
  · rcases spread_mem h.hour q with ⟨_, e⟩ | ⟨r, hr, e, _⟩
    · omega
    · have := (h.mem r hr).2.2.1
      omega
  · exact List.mem_map.mpr ⟨(x, e), (lk_mem (spread_inv h.hour).nd).mp q, rfl⟩
theorem late_le (n : NmsOk nm) (h : RwOk nm l rs) {g x : Str} (hg : g ∈ nm) {b e : Nat} (q : (late nm rs l g b).lookup x = some e) : e ≤ l ∧ x ∈ nm := by
  refine ⟨?_, ?_⟩
  · rw [late_lk n h hg] at q
    split at q
    · cases q; omega
    · rename_i hx
      rcases bounds_mem h.hour q with ⟨e, _⟩ | ⟨r, hr, e, _⟩
      · exact absurd e hx
      · have := (h.mem r hr).2.2.1
        omega
  · exact (mem_tabN.mp ((lk_mem (nd_tabN n.nd _)).mp q)).1
end
end DL
/-! Running forms over environments that are known by some of their slots. -/
namespace DL
open PySem PySem.Spec PyProof.Rows L2
theorem lc_nil {α : Type} {tg : Tg} {ft : Env → R Bool} {fe : Env → R D} {ρ : Env} (emb : α → D) : ∀ {xs : List α}, (∀ x ∈ xs, ∃ ρ1, fTg tg (emb x) ρ = .ok ρ1 ∧ ft ρ1 = .ok false) → lcLoop tg ft fe ρ (xs.map emb) = .ok []
  | [], _ => rfl
  | x :: xs, h => by
    obtain ⟨ρ1, h1, h2⟩ := h x (by simp)
    have ih := lc_nil (fe := fe) emb (xs := xs) fun y hy => h y (by simp [hy])
    simp only [List.map_cons, lcLoop, h1, R.ok_bind, h2, Bool.false_eq_true, if_false, ih]
theorem ne_nil0 : dCmp .NotEq (.list []) (.list []) = .ok false := by kernel_rfl
theorem eq_nil0 : dCmp .Eq (.list []) (.list []) = .ok true := by kernel_rfl
/-- a list that has something -/
theorem eq_nil1 {d : D} {ds : List D} {n : Nat} (h : okD n (.list (d :: ds)) = true) (hn : n ≤ 64) : dCmp .Eq (.list (d :: ds)) (.list []) = .ok false := by
  rw [dEq_ok (m := 1) h rfl hn (by decide)]
  simp [PyData.eqv, PyData.eqvAll]
theorem eq_str {F : Fl} (h : F.Ok) {a b : Str} (ha : a ∈ F.names) (hb : b ∈ F.names) : dCmp .Eq (.str a) (.str b) = .ok (decide (a = b)) := by
  rw [dEq_ok (n := 3) (m := 3) (str_okD (h.nms.name a ha) _) (str_okD (h.nms.name b hb) _) (by decide) (by decide), eqv_st]
theorem ne_str {F : Fl} (h : F.Ok) {a b : Str} (ha : a ∈ F.names) (hb : b ∈ F.names) : dCmp .NotEq (.str a) (.str b) = .ok (!decide (a = b)) := by
  rw [dNe_ok (n := 3) (m := 3) (str_okD (h.nms.name a ha) _) (str_okD (h.nms.name b hb) _) (by decide) (by decide), eqv_st]
theorem keys_items (t : Tab) : dItems (.dict (tabD t)) = .ok ((t.map (·.1)).map .str) := by
  simp only [dItems, dkB_tab, if_true]
  simp [tabD]
theorem fGet_ok {fo fe fg : Env → R D} {ρ : Env} {t : Tab} {x : Str} {z : D} (h1 : fo ρ = .ok (.dict (tabD t))) (h2 : fe ρ = .ok (.str x)) (h3 : fg ρ = .ok z) : fGet fo fe fg ρ = .ok (((t.lookup x).map fun e => (.int (e : Nat) : D)).getD z) := by
  unfold fGet
  rw [h1]
  show (if dkB (tabD t) = true then fe ρ >>= fun k => fg ρ >>= fun z => dGet2 (tabD t) k z else .bad) = _
  rw [dkB_tab, h2, h3]
  exact get_tab t x z
/-- t.get(x, 99) -/
def g99 (t : Tab) (x : Str) : Nat := (t.lookup x).getD 99
theorem fGet_99 {fo fe fg : Env → R D} {ρ : Env} {t : Tab} {x : Str} (h1 : fo ρ = .ok (.dict (tabD t))) (h2 : fe ρ = .ok (.str x)) (h3 : fg ρ = .ok (.int 99)) : fGet fo fe fg ρ = .ok (.int (g99 t x)) := by
  rw [fGet_ok h1 h2 h3]
  unfold g99
  cases t.lookup x <;> rfl
theorem g99_some {t : Tab} {x : Str} {e : Nat} (h : t.lookup x = some e) : g99 t x = e := by simp [g99, h]
theorem nm_ix {nm : List Str} {i : Int} (h0 : 0 ≤ i) (h1 : i < nm.length) : ∃ n ∈ nm, dIx (.list (nmD nm)) (.int i) = .ok (.str n) := by
  have hi : i.toNat < nm.length := by omega
  refine ⟨nm[i.toNat], List.getElem_mem hi, ?_⟩
  have e : ((i.toNat : Nat) : Int) = i := by omega
  have := dIx_lst (ds := nmD nm) (i := i.toNat) (d := .str nm[i.toNat]) (by simp [nmD, hi])
  rw [e] at this
  exact this
theorem Fl.names_len (F : Fl) : F.names.length = F.ships.length := by simp [Fl.names]
theorem rng_ok {n : Nat} (h : n + 1 ≤ 1000000) : dRng1 [.int ((n : Int) + 1)] = .ok ((List.range (n + 1)).map fun (i : Nat) => .int i) := by
  have := rng1 h
  simpa using this
end DL
/-! Fleets made of others. -/
namespace DL
open PySem PySem.Spec PyProof.Rows L2
def clrF (F : Fl) : Fl := ⟨F.last, F.isl, F.ships, []⟩
theorem sh_ok {F : Fl} (h : F.Ok) (φ : Ship → Ship) (h1 : ∀ s, (φ s).name = s.name) (h2 : ∀ s, (φ s).course = s.course) (h3 : ∀ s, (φ s).sight ≤ 9) : Fl.Ok ⟨F.last, F.isl, F.ships.map φ, F.mists⟩ where
  last := h.last
  isl := h.isl
  islc := h.islc
  islr := h.islr
  many := by simpa using h.many
  name := fun s hs => by obtain ⟨t, ht, rfl⟩ := List.mem_map.mp hs; rw [h1]; exact h.name t ht
  sight := fun s hs => by obtain ⟨t, ht, rfl⟩ := List.mem_map.mp hs; exact h3 t
  len := fun s hs => by obtain ⟨t, ht, rfl⟩ := List.mem_map.mp hs; rw [h2]; exact h.len t ht
  cell := fun s hs c hc => by obtain ⟨t, ht, rfl⟩ := List.mem_map.mp hs; rw [h2] at hc; exact h.cell t ht c hc
  rise := by
    have : ((F.ships.map φ).map fun s => PyData.str s.name) = F.ships.map fun s => PyData.str s.name := by
      rw [List.map_map]
      refine List.map_congr_left fun s _ => ?_
      simp only [Function.comp, h1]
    show risingB ((F.ships.map φ).map fun s => PyData.str s.name) = true
    rw [this]
    exact h.rise
  mmany := h.mmany
  mist := h.mist
  mrise := h.mrise
theorem rise_tail : ∀ {ds : List D}, risingB ds = true → risingB (ds.drop 1) = true
  | [], _ => rfl
  | [_], _ => rfl
  | a :: b :: r, h => by simp only [risingB, Bool.and_eq_true] at h; exact h.2
theorem ms_ok {F : Fl} (h : F.Ok) {ms : List Mist} (h1 : ∀ m ∈ ms, m ∈ F.mists) (h2 : risingB (ms.map Mist.D) = true) (h3 : ms.length ≤ F.mists.length) : Fl.Ok ⟨F.last, F.isl, F.ships, ms⟩ where
  last := h.last
  isl := h.isl
  islc := h.islc
  islr := h.islr
  many := h.many
  name := h.name
  sight := h.sight
  len := h.len
  cell := h.cell
  rise := h.rise
  mmany := Nat.le_trans h3 h.mmany
  mist := fun m hm => h.mist m (h1 m hm)
  mrise := h2
theorem clr_ok {F : Fl} (h : F.Ok) : (clrF F).Ok := ms_ok h (fun _ z => (nomatch z)) rfl (Nat.zero_le _)
theorem sub_same {F G : Fl} (hl : G.last = F.last) (hs : G.ships = F.ships) (hm : ∀ m ∈ G.mists, m ∈ F.mists) (hi : ∀ c ∈ G.isl, c ∈ F.isl) : ∀ r ∈ rows F, r ∈ rows G :=
  rows_sub id hl (by rw [hs, List.map_id]) (fun _ => rfl) fun k _ s _ t _ h => sees_mono rfl rfl rfl rfl (Nat.le_refl _) hm hi h
theorem C_clr {F : Fl} (h : F.Ok) : C_cleared [F.D] = .ok (clrF F).D := by
  have a1 : dSl F.D none (some 3) = .ok (.tuple [.int F.last, .tuple (F.isl.map cellD), .tuple (F.ships.map Ship.D)]) := by kernel_rfl
  have a2 : dBin .Add (.tuple [.int F.last, .tuple (F.isl.map cellD), .tuple (F.ships.map Ship.D)]) (.tuple [.tuple []]) = .ok (clrF F).D := by kernel_rfl
  unfold C_cleared FF_cleared
  simp -implicitDefEqProofs [rdP_succ, rdE_succ, h.look, a1, a2]
theorem clr_rows {F : Fl} : ∀ r ∈ rows F, r ∈ rows (clrF F) := sub_same rfl rfl (fun _ z => (nomatch z)) (fun _ z => z)
theorem sub_okD {F : Fl} (h : F.Ok) {l : List Row} (hl : ∀ r ∈ l, r ∈ rows F) : okD 4 (.list (l.map rowD)) = true := by
  simp only [okD, List.all_eq_true]
  intro d hd
  obtain ⟨r, hr, rfl⟩ := List.mem_map.mp hd
  exact row_ok h (hl r hr)
/-- [..] != []: a list that is empty -/
theorem chk_nil {α : Type} {rs own : List Nat} {fi : Env → R (List D)} {tg : Tg} {ft : Env → R Bool} {fe : Env → R D} {ρ ρ2 : Env} {xs : List α} {emb : α → D} {G : Env → R Out} (hr : relR rs ρ = ρ2) (hi : fi ρ2 = .ok (xs.map emb)) (ht : ∀ x ∈ xs, ∃ ρ1, fTg tg (emb x) (wipeR ρ2 own) = .ok ρ1 ∧ ft ρ1 = .ok false) :
    relS rs (fIfS (t2 (dCmp .NotEq) (fLc fi tg ft fe own) (eLst [])) G sNil) ρ = .ok (.nx ρ2) := by
  have := lc_nil (fe := fe) emb ht
  simp -implicitDefEqProofs [hr, hi, this, ne_nil0]
/-- [..] == []: a list that is not empty -/
theorem chk_some {α : Type} {rs own : List Nat} {fi : Env → R (List D)} {tg : Tg} {ft : Env → R Bool} {fe : Env → R D} {ρ ρ2 : Env} {xs : List α} {emb : α → D} {G : Env → R Out} (p : α → Bool) (g : α → D) (hr : relR rs ρ = ρ2) (hi : fi ρ2 = .ok (xs.map emb)) (ht : ∀ x ∈ xs, ∃ ρ1, fTg tg (emb x) (wipeR ρ2 own) = .ok ρ1 ∧ ft ρ1 = .ok (p x) ∧ (p x = true → fe ρ1 = .ok (g x)))
    (hp : ∃ x ∈ xs, p x = true) {n : Nat} (ok : okD n (.list ((xs.filter p).map g)) = true) (hn : n ≤ 64) : relS rs (fIfS (t2 (dCmp .Eq) (fLc fi tg ft fe own) (eLst [])) G sNil) ρ = .ok (.nx ρ2) := by
  have e := lc_filter (fe := fe) emb p g xs ht
  obtain ⟨x, hx, px⟩ := hp
  have hm : x ∈ xs.filter p := List.mem_filter.mpr ⟨hx, px⟩
  cases q : xs.filter p with
  | nil => rw [q] at hm; cases hm
  | cons y ys =>
    rw [q] at e ok
    have e2 : dCmp .Eq (.list (g y :: ys.map g)) (.list []) = .ok false := eq_nil1 ok hn
    have e3 : lcLoop tg ft fe (wipeR ρ2 own) (xs.map emb) = .ok (g y :: ys.map g) := e
    simp -implicitDefEqProofs [hr, hi, e3, e2]
end DL
namespace Lw
open PySem PySem.Spec PyProof.Rows L2 DL
def top (i : Nat) : Stmt := PySem.Challenge.pw_hullflags_k06_whole_reading.main.body.getD i (.Pass ⟨0, 0, 0, 0⟩)
def d_is_whole : DefI := ⟨"is_whole", top 12, ["thing", "least", "most"], ["thing", "least", "most"]⟩
def d_is_name : DefI := ⟨"is_name", top 13, ["thing"], ["thing", "sign"]⟩
def d_is_cell : DefI := ⟨"is_cell", top 14, ["thing"], ["thing", "part"]⟩
def d_is_rising : DefI := ⟨"is_rising", top 15, ["things"], ["things", "one", "other"]⟩
def d_is_islands : DefI := ⟨"is_islands", top 16, ["thing"], ["thing", "cell"]⟩
def d_is_ship : DefI := ⟨"is_ship", top 17, ["last", "islands", "thing"], ["last", "islands", "thing", "course", "cell"]⟩
def d_is_mist : DefI := ⟨"is_mist", top 18, ["last", "thing"], ["last", "thing", "first", "until", "one", "other", "most"]⟩
def d_is_fleet : DefI := ⟨"is_fleet", top 19, ["thing"], ["thing", "last", "islands", "ships", "mists", "ship", "mist"]⟩
def d_look_fleet : DefI := ⟨"look_fleet", top 20, ["thing"], ["thing"]⟩
def d_plain_names : DefI := ⟨"plain_names", top 21, ["fleet"], ["fleet", "ship"]⟩
def d_look_ship : DefI := ⟨"look_ship", top 22, ["fleet", "thing"], ["fleet", "thing"]⟩
def d_look_hour : DefI := ⟨"look_hour", top 23, ["thing", "last"], ["thing", "last"]⟩
def d_is_in : DefI := ⟨"is_in", top 24, ["mist", "cell"], ["mist", "cell", "one", "other"]⟩
def d_is_between : DefI := ⟨"is_between", top 25, ["one", "other", "cell"], ["one", "other", "cell", "is_wide"]⟩
def d_sees_at : DefI := ⟨"sees_at", top 26, ["fleet", "hour", "one", "other"], ["fleet", "hour", "one", "other", "here", "there", "apart", "mist", "cell"]⟩
def d_plain_sightings : DefI := ⟨"plain_sightings", top 27, ["fleet"], ["fleet", "found", "hour", "one", "other"]⟩
def d_sightings : DefI := ⟨"sightings", top 28, ["fleet"], ["fleet"]⟩
def d_spread : DefI := ⟨"spread", top 30, ["rows", "ship", "hour"], ["rows", "ship", "hour", "found", "when", "seer", "seen"]⟩
def d_earliest : DefI := ⟨"earliest", top 31, ["fleet", "ship", "hour"], ["fleet", "ship", "hour"]⟩
def d_bounds_for : DefI := ⟨"bounds_for", top 32, ["rows", "goal", "by"], ["rows", "goal", "by", "found", "when", "seer", "seen"]⟩
def d_plain_latest : DefI := ⟨"plain_latest", top 33, ["fleet", "goal", "by"], ["fleet", "goal", "by", "found"]⟩
def d_latest : DefI := ⟨"latest", top 34, ["fleet", "goal", "by"], ["fleet", "goal", "by"]⟩
def d_cleared : DefI := ⟨"cleared", top 36, ["fleet"], ["fleet"]⟩
def d_law_drawn : DefI := ⟨"_law_drawn", top 38, ["script", "k", "many"], ["script", "k", "many", "cell", "turn", "rest"]⟩
def d_law_fleet : DefI := ⟨"_law_fleet", top 39, ["script", "at", "most"], ["script", "at", "most", "last", "ships", "used", "k", "here", "x", "y", "course", "hour", "islands", "mists", "first", "until", "over", "most_seen", "cell"]⟩
def d_law_names : DefI := ⟨"_law_names", top 40, ["fleet"], ["fleet", "ship"]⟩
def d_law : DefI := ⟨"law", top 41, ["script"], ["script", "fleet", "names", "last", "rows", "ship", "shown", "hour", "here", "name", "since", "on", "clear", "goal", "by", "till", "in_time", "row", "other"]⟩
def prg : Prg := ⟨[d_is_whole, d_is_name, d_is_cell, d_is_rising, d_is_islands, d_is_ship, d_is_mist, d_is_fleet, d_look_fleet, d_plain_names, d_look_ship, d_look_hour, d_is_in, d_is_between, d_sees_at, d_plain_sightings, d_sightings, d_spread, d_earliest, d_bounds_for, d_plain_latest, d_latest, d_cleared, d_law_drawn, d_law_fleet, d_law_names, d_law], [("MOST_PART", 9), ("MOST_LAST", 7), ("MOST_ISLANDS", 12), ("MOST_SHIPS", 5), ("MOST_MISTS", 4)], [("SMALL", "abcdefghijklmnopqrstuvwxyz")], ["FleetError", "NoFleet", "NoShip", "NoHour"]⟩
theorem bnd_d_is_whole : BndOk d_is_whole := fun _ _ _ _ _ _ us hl => match us, hl with | [_, _, _], _ => rfl
theorem bnd_d_is_name : BndOk d_is_name := fun _ _ _ _ _ _ us hl => match us, hl with | [_], _ => rfl
theorem bnd_d_is_cell : BndOk d_is_cell := fun _ _ _ _ _ _ us hl => match us, hl with | [_], _ => rfl
theorem bnd_d_is_rising : BndOk d_is_rising := fun _ _ _ _ _ _ us hl => match us, hl with | [_], _ => rfl
theorem bnd_d_is_islands : BndOk d_is_islands := fun _ _ _ _ _ _ us hl => match us, hl with | [_], _ => rfl
theorem bnd_d_is_ship : BndOk d_is_ship := fun _ _ _ _ _ _ us hl => match us, hl with | [_, _, _], _ => rfl
theorem bnd_d_is_mist : BndOk d_is_mist := fun _ _ _ _ _ _ us hl => match us, hl with | [_, _], _ => rfl
theorem bnd_d_is_fleet : BndOk d_is_fleet := fun _ _ _ _ _ _ us hl => match us, hl with | [_], _ => rfl
theorem bnd_d_look_fleet : BndOk d_look_fleet := fun _ _ _ _ _ _ us hl => match us, hl with | [_], _ => rfl
theorem bnd_d_plain_names : BndOk d_plain_names := fun _ _ _ _ _ _ us hl => match us, hl with | [_], _ => rfl
theorem bnd_d_look_ship : BndOk d_look_ship := fun _ _ _ _ _ _ us hl => match us, hl with | [_, _], _ => rfl
theorem bnd_d_look_hour : BndOk d_look_hour := fun _ _ _ _ _ _ us hl => match us, hl with | [_, _], _ => rfl
theorem bnd_d_is_in : BndOk d_is_in := fun _ _ _ _ _ _ us hl => match us, hl with | [_, _], _ => rfl
theorem bnd_d_is_between : BndOk d_is_between := fun _ _ _ _ _ _ us hl => match us, hl with | [_, _, _], _ => rfl
theorem bnd_d_sees_at : BndOk d_sees_at := fun _ _ _ _ _ _ us hl => match us, hl with | [_, _, _, _], _ => rfl
theorem bnd_d_plain_sightings : BndOk d_plain_sightings := fun _ _ _ _ _ _ us hl => match us, hl with | [_], _ => rfl
theorem bnd_d_sightings : BndOk d_sightings := fun _ _ _ _ _ _ us hl => match us, hl with | [_], _ => rfl
theorem bnd_d_spread : BndOk d_spread := fun _ _ _ _ _ _ us hl => match us, hl with | [_, _, _], _ => rfl
theorem bnd_d_earliest : BndOk d_earliest := fun _ _ _ _ _ _ us hl => match us, hl with | [_, _, _], _ => rfl
theorem bnd_d_bounds_for : BndOk d_bounds_for := fun _ _ _ _ _ _ us hl => match us, hl with | [_, _, _], _ => rfl
theorem bnd_d_plain_latest : BndOk d_plain_latest := fun _ _ _ _ _ _ us hl => match us, hl with | [_, _, _], _ => rfl
theorem bnd_d_latest : BndOk d_latest := fun _ _ _ _ _ _ us hl => match us, hl with | [_, _, _], _ => rfl
theorem bnd_d_cleared : BndOk d_cleared := fun _ _ _ _ _ _ us hl => match us, hl with | [_], _ => rfl
theorem bnd_d_law_drawn : BndOk d_law_drawn := fun _ _ _ _ _ _ us hl => match us, hl with | [_, _, _], _ => rfl
theorem bnd_d_law_fleet : BndOk d_law_fleet := fun _ _ _ _ _ _ us hl => match us, hl with | [_, _, _], _ => rfl
theorem bnd_d_law_names : BndOk d_law_names := fun _ _ _ _ _ _ us hl => match us, hl with | [_], _ => rfl
theorem bnd_d_law : BndOk d_law := fun _ _ _ _ _ _ us hl => match us, hl with | [_], _ => rfl
theorem bnd_all : ∀ d ∈ prg.defs, BndOk d := by
  intro d hd
  simp only [prg, List.mem_cons, List.not_mem_nil, or_false] at hd
  rcases hd with rfl | rfl | rfl | rfl | rfl | rfl | rfl | rfl | rfl | rfl | rfl | rfl | rfl | rfl | rfl | rfl | rfl | rfl | rfl | rfl | rfl | rfl | rfl | rfl | rfl | rfl | rfl
  · exact bnd_d_is_whole
  · exact bnd_d_is_name
  · exact bnd_d_is_cell
  · exact bnd_d_is_rising
  · exact bnd_d_is_islands
  · exact bnd_d_is_ship
  · exact bnd_d_is_mist
  · exact bnd_d_is_fleet
  · exact bnd_d_look_fleet
  · exact bnd_d_plain_names
  · exact bnd_d_look_ship
  · exact bnd_d_look_hour
  · exact bnd_d_is_in
  · exact bnd_d_is_between
  · exact bnd_d_sees_at
  · exact bnd_d_plain_sightings
  · exact bnd_d_sightings
  · exact bnd_d_spread
  · exact bnd_d_earliest
  · exact bnd_d_bounds_for
  · exact bnd_d_plain_latest
  · exact bnd_d_latest
  · exact bnd_d_cleared
  · exact bnd_d_law_drawn
  · exact bnd_d_law_fleet
  · exact bnd_d_law_names
  · exact bnd_d_law
theorem sc_all : prg.defs.all scB = true := by decide +kernel
end Lw
namespace Lw
open PySem PySem.Spec PyProof.Rows L2 DL
def FF_law_names : List D → R D := fRun 2 (fSeq (relS [] (sRet (fLc (i1 dItems (e2 dIx (rdP 0) (kD (.int 2)))) (.one 1) (kT true) (e2 dIx (rdP 1) (kD (.int 0))) [1])))
  sNil)
def FF_law (f_law_fleet : List D → R D) (f_law_names : List D → R D) (f_sightings : List D → R D) (f_law_drawn : List D → R D) (f_earliest : List D → R D) (f_cleared : List D → R D) (f_latest : List D → R D) : List D → R D := fRun 19 (fSeq (relS [0] (sSet 1 (eC 3 f_law_fleet [(rdE 0), (kD (.int 10)), (kD (.int 4))])))
  (fSeq (relS [1, 1] (fPar [false, false, false] [2, 3, 4] (eArgs [(eC 1 f_law_names [(rdE 1)]), (e2 dIx (rdP 1) (kD (.int 0))), (eC 1 f_sightings [(rdE 1)])])))
  (fSeq (relS [0] (sSet 5 (e2 dIx (rdP 2) (eC 3 f_law_drawn [(rdE 0), (kD (.int 1)), (eB dLen [(rdP 2)])]))))
  (fSeq (relS [] (sSet 6 (kD .none)))
  (fSeq (relS [] (fFor (iB dRng1 [(e2 (dBin .Add) (rdP 3) (kD (.int 1)))]) (.one 7) (fSeq (relS [1, 5, 7] (sOwn 8 (eB dDict [(eC 3 f_earliest [(rdE 1), (rdE 5), (rdE 7)])])))
    (fSeq (relS [] (fIfS (t2 (dCmp .NotEq) (e2 dIx (rdP 8) (rdP 5)) (rdP 7)) (fSeq (relS [] (sRet (kD (.bool false))))
      sNil) sNil))
    (fSeq (relS [9, 8] (fIfS (t2 (dCmp .NotEq) (fLc (i1 dItems (rdE 8)) (.one 9) (tstOr (t2 (dCmp .Lt) (e2 dIx (rdP 8) (rdP 9)) (rdP 7)) (t2 (dCmp .Gt) (e2 dIx (rdP 8) (rdP 9)) (e2 (dBin .Add) (rdP 3) (kD (.int 1))))) (rdE 9) [9]) (eLst [])) (fSeq (relS [] (sRet (kD (.bool false))))
      sNil) sNil))
    (fSeq (relS [] (fIfS (t2 (dCmp .IsNot) (rdP 6) (kD .none)) (fSeq (relS [9, 8, 9] (fIfS (t2 (dCmp .NotEq) (fLc (i1 dItems (rdE 8)) (.one 9) (t2 (dCmp .Gt) (fGet (rdP 6) (rdP 9) (kD (.int 99))) (e2 dIx (rdP 8) (rdP 9))) (rdE 9) [9]) (eLst [])) (fSeq (relS [] (sRet (kD (.bool false))))
        sNil) sNil))
      sNil) sNil))
    (fSeq (relS [8] (fFor (i1 dItems (rdE 8)) (.one 9) (fSeq (relS [] (fIfS (t2 (dCmp .NotEq) (rdP 9) (rdP 5)) (fSeq (relS [] (sSet 10 (e2 (dBin .Sub) (e2 dIx (rdP 8) (rdP 9)) (kD (.int 1)))))
        (fSeq (relS [17, 4] (fIfS (t2 (dCmp .Eq) (fLc (i1 dItems (rdE 4)) (.one 17) (tstAnd (t2 (dCmp .Eq) (e2 dIx (rdP 17) (kD (.int 0))) (rdP 10)) (tstAnd (t2 (dCmp .Eq) (e2 dIx (rdP 17) (kD (.int 1))) (rdP 9)) (t2 (dCmp .LtE) (fGet (rdP 8) (e2 dIx (rdP 17) (kD (.int 2))) (kD (.int 99))) (rdP 10)))) (rdE 17) [17]) (eLst [])) (fSeq (relS [] (sRet (kD (.bool false))))
          sNil) sNil))
        (fSeq (relS [] (fIfS (t2 (dCmp .LtE) (e2 (dBin .Add) (rdP 10) (kD (.int 1))) (rdP 3)) (fSeq (relS [1, 9] (sOwn 11 (eB dDict [(eC 3 f_earliest [(rdE 1), (rdE 9), (e2 (dBin .Add) (rdP 10) (kD (.int 1)))])])))
          (fSeq (relS [18, 11, 18] (fIfS (t2 (dCmp .NotEq) (fLc (i1 dItems (rdE 11)) (.one 18) (t2 (dCmp .Gt) (fGet (rdP 8) (rdP 18) (kD (.int 99))) (e2 dIx (rdP 11) (rdP 18))) (rdE 18) [18]) (eLst [])) (fSeq (relS [] (sRet (kD (.bool false))))
            sNil) sNil))
          sNil)) sNil))
        sNil))) sNil))
      sNil)))
    (fSeq (relS [1, 5, 7] (sOwn 12 (eB dDict [(eC 3 f_earliest [(eC 1 f_cleared [(rdE 1)]), (rdE 5), (rdE 7)])])))
    (fSeq (relS [9, 8, 9] (fIfS (t2 (dCmp .NotEq) (fLc (i1 dItems (rdE 8)) (.one 9) (t2 (dCmp .Gt) (fGet (rdP 12) (rdP 9) (kD (.int 99))) (e2 dIx (rdP 8) (rdP 9))) (rdE 9) [9]) (eLst [])) (fSeq (relS [] (sRet (kD (.bool false))))
      sNil) sNil))
    (fSeq (relS [8] (sSet 6 (rdE 8)))
    sNil))))))))))
  (fSeq (relS [0, 0] (fPar [false, false] [13, 14] (eArgs [(e2 dIx (rdP 2) (eC 3 f_law_drawn [(rdE 0), (kD (.int 2)), (eB dLen [(rdP 2)])])), (eC 3 f_law_drawn [(rdE 0), (kD (.int 3)), (e2 (dBin .Add) (rdP 3) (kD (.int 2)))])])))
  (fSeq (relS [1, 13, 14] (sOwn 15 (eB dDict [(eC 3 f_latest [(rdE 1), (rdE 13), (rdE 14)])])))
  (fSeq (relS [2] (fFor (i1 dItems (rdE 2)) (.one 9) (fSeq (relS [] (fFor (iB dRng1 [(e2 (dBin .Add) (rdP 3) (kD (.int 1)))]) (.one 7) (fSeq (relS [1, 9, 7, 13] (sSet 16 (e2 (bCmp .LtE) (fGet (eB dDict [(eC 3 f_earliest [(rdE 1), (rdE 9), (rdE 7)])]) (rdP 13) (kD (.int 99))) (rdP 14))))
      (fSeq (relS [] (fIfS (t2 (dCmp .NotEq) (rdP 16) (fAnd (e2 (bCmp .In) (rdP 9) (rdP 15)) (e2 (bCmp .LtE) (rdP 7) (e2 dIx (rdP 15) (rdP 9))))) (fSeq (relS [] (sRet (kD (.bool false))))
        sNil) sNil))
      sNil))))
    sNil)))
  (fSeq (relS [] (sRet (e2 (bCmp .Eq) (e2 dIx (rdP 15) (rdP 13)) (eB dMin [(rdP 14), (rdP 3)]))))
  sNil)))))))))
def C_law_names_s0 : DL.Env → R Out := (relS [] (sRet (fLc (i1 dItems (e2 dIx (rdP 0) (kD (.int 2)))) (.one 1) (kT true) (e2 dIx (rdP 1) (kD (.int 0))) [1])))
def C_law_names_t0 : DL.Env → R Out := fSeq (C_law_names_s0) sNil
def C_law_names : List D → R D := fRun 2 (C_law_names_t0)
theorem cf_law_names : FF_law_names = C_law_names := by kernel_rfl
def C_law_s0 : DL.Env → R Out := (relS [0] (sSet 1 (eC 3 C_law_fleet [(rdE 0), (kD (.int 10)), (kD (.int 4))])))
def C_law_s1 : DL.Env → R Out := (relS [1, 1] (fPar [false, false, false] [2, 3, 4] (eArgs [(eC 1 C_law_names [(rdE 1)]), (e2 dIx (rdP 1) (kD (.int 0))), (eC 1 C_sightings [(rdE 1)])])))
def C_law_s2 : DL.Env → R Out := (relS [0] (sSet 5 (e2 dIx (rdP 2) (eC 3 C_law_drawn [(rdE 0), (kD (.int 1)), (eB dLen [(rdP 2)])]))))
def C_law_s3 : DL.Env → R Out := (relS [] (sSet 6 (kD .none)))
def C_law_s4b_s0 : DL.Env → R Out := (relS [1, 5, 7] (sOwn 8 (eB dDict [(eC 3 C_earliest [(rdE 1), (rdE 5), (rdE 7)])])))
def C_law_s4b_s1 : DL.Env → R Out := (relS [] (fIfS (t2 (dCmp .NotEq) (e2 dIx (rdP 8) (rdP 5)) (rdP 7)) (fSeq (relS [] (sRet (kD (.bool false)))) sNil) sNil))
def C_law_s4b_s2 : DL.Env → R Out := (relS [9, 8] (fIfS (t2 (dCmp .NotEq) (fLc (i1 dItems (rdE 8)) (.one 9) (tstOr (t2 (dCmp .Lt) (e2 dIx (rdP 8) (rdP 9)) (rdP 7)) (t2 (dCmp .Gt) (e2 dIx (rdP 8) (rdP 9)) (e2 (dBin .Add) (rdP 3) (kD (.int 1))))) (rdE 9) [9]) (eLst [])) (fSeq (relS [] (sRet (kD (.bool false)))) sNil) sNil))
def C_law_s4b_s3i_s0 : DL.Env → R Out := (relS [9, 8, 9] (fIfS (t2 (dCmp .NotEq) (fLc (i1 dItems (rdE 8)) (.one 9) (t2 (dCmp .Gt) (fGet (rdP 6) (rdP 9) (kD (.int 99))) (e2 dIx (rdP 8) (rdP 9))) (rdE 9) [9]) (eLst [])) (fSeq (relS [] (sRet (kD (.bool false)))) sNil) sNil))
def C_law_s4b_s3i_t0 : DL.Env → R Out := fSeq (C_law_s4b_s3i_s0) sNil
def C_law_s4b_s3 : DL.Env → R Out := (relS [] (fIfS (t2 (dCmp .IsNot) (rdP 6) (kD .none)) (C_law_s4b_s3i_t0) sNil))
def C_law_s4b_s4b_s0i_s0 : DL.Env → R Out := (relS [] (sSet 10 (e2 (dBin .Sub) (e2 dIx (rdP 8) (rdP 9)) (kD (.int 1)))))
def C_law_s4b_s4b_s0i_s1 : DL.Env → R Out := (relS [17, 4] (fIfS (t2 (dCmp .Eq) (fLc (i1 dItems (rdE 4)) (.one 17) (tstAnd (t2 (dCmp .Eq) (e2 dIx (rdP 17) (kD (.int 0))) (rdP 10)) (tstAnd (t2 (dCmp .Eq) (e2 dIx (rdP 17) (kD (.int 1))) (rdP 9)) (t2 (dCmp .LtE) (fGet (rdP 8) (e2 dIx (rdP 17) (kD (.int 2))) (kD (.int 99))) (rdP 10)))) (rdE 17) [17]) (eLst [])) (fSeq (relS [] (sRet (kD (.bool false)))) sNil) sNil))
def C_law_s4b_s4b_s0i_s2i_s0 : DL.Env → R Out := (relS [1, 9] (sOwn 11 (eB dDict [(eC 3 C_earliest [(rdE 1), (rdE 9), (e2 (dBin .Add) (rdP 10) (kD (.int 1)))])])))
def C_law_s4b_s4b_s0i_s2i_s1 : DL.Env → R Out := (relS [18, 11, 18] (fIfS (t2 (dCmp .NotEq) (fLc (i1 dItems (rdE 11)) (.one 18) (t2 (dCmp .Gt) (fGet (rdP 8) (rdP 18) (kD (.int 99))) (e2 dIx (rdP 11) (rdP 18))) (rdE 18) [18]) (eLst [])) (fSeq (relS [] (sRet (kD (.bool false)))) sNil) sNil))
def C_law_s4b_s4b_s0i_s2i_t1 : DL.Env → R Out := fSeq (C_law_s4b_s4b_s0i_s2i_s1) sNil
def C_law_s4b_s4b_s0i_s2i_t0 : DL.Env → R Out := fSeq (C_law_s4b_s4b_s0i_s2i_s0) (C_law_s4b_s4b_s0i_s2i_t1)
def C_law_s4b_s4b_s0i_s2 : DL.Env → R Out := (relS [] (fIfS (t2 (dCmp .LtE) (e2 (dBin .Add) (rdP 10) (kD (.int 1))) (rdP 3)) (C_law_s4b_s4b_s0i_s2i_t0) sNil))
def C_law_s4b_s4b_s0i_t2 : DL.Env → R Out := fSeq (C_law_s4b_s4b_s0i_s2) sNil
def C_law_s4b_s4b_s0i_t1 : DL.Env → R Out := fSeq (C_law_s4b_s4b_s0i_s1) (C_law_s4b_s4b_s0i_t2)
def C_law_s4b_s4b_s0i_t0 : DL.Env → R Out := fSeq (C_law_s4b_s4b_s0i_s0) (C_law_s4b_s4b_s0i_t1)
def C_law_s4b_s4b_s0 : DL.Env → R Out := (relS [] (fIfS (t2 (dCmp .NotEq) (rdP 9) (rdP 5)) (C_law_s4b_s4b_s0i_t0) sNil))
def C_law_s4b_s4b_t0 : DL.Env → R Out := fSeq (C_law_s4b_s4b_s0) sNil
def C_law_s4b_s4 : DL.Env → R Out := (relS [8] (fFor (i1 dItems (rdE 8)) (.one 9) (C_law_s4b_s4b_t0)))
def C_law_s4b_s5 : DL.Env → R Out := (relS [1, 5, 7] (sOwn 12 (eB dDict [(eC 3 C_earliest [(eC 1 C_cleared [(rdE 1)]), (rdE 5), (rdE 7)])])))
def C_law_s4b_s6 : DL.Env → R Out := (relS [9, 8, 9] (fIfS (t2 (dCmp .NotEq) (fLc (i1 dItems (rdE 8)) (.one 9) (t2 (dCmp .Gt) (fGet (rdP 12) (rdP 9) (kD (.int 99))) (e2 dIx (rdP 8) (rdP 9))) (rdE 9) [9]) (eLst [])) (fSeq (relS [] (sRet (kD (.bool false)))) sNil) sNil))
def C_law_s4b_s7 : DL.Env → R Out := (relS [8] (sSet 6 (rdE 8)))
def C_law_s4b_t7 : DL.Env → R Out := fSeq (C_law_s4b_s7) sNil
def C_law_s4b_t6 : DL.Env → R Out := fSeq (C_law_s4b_s6) (C_law_s4b_t7)
def C_law_s4b_t5 : DL.Env → R Out := fSeq (C_law_s4b_s5) (C_law_s4b_t6)
def C_law_s4b_t4 : DL.Env → R Out := fSeq (C_law_s4b_s4) (C_law_s4b_t5)
def C_law_s4b_t3 : DL.Env → R Out := fSeq (C_law_s4b_s3) (C_law_s4b_t4)
def C_law_s4b_t2 : DL.Env → R Out := fSeq (C_law_s4b_s2) (C_law_s4b_t3)
def C_law_s4b_t1 : DL.Env → R Out := fSeq (C_law_s4b_s1) (C_law_s4b_t2)
def C_law_s4b_t0 : DL.Env → R Out := fSeq (C_law_s4b_s0) (C_law_s4b_t1)
def C_law_s4 : DL.Env → R Out := (relS [] (fFor (iB dRng1 [(e2 (dBin .Add) (rdP 3) (kD (.int 1)))]) (.one 7) (C_law_s4b_t0)))
def C_law_s5 : DL.Env → R Out := (relS [0, 0] (fPar [false, false] [13, 14] (eArgs [(e2 dIx (rdP 2) (eC 3 C_law_drawn [(rdE 0), (kD (.int 2)), (eB dLen [(rdP 2)])])), (eC 3 C_law_drawn [(rdE 0), (kD (.int 3)), (e2 (dBin .Add) (rdP 3) (kD (.int 2)))])])))
def C_law_s6 : DL.Env → R Out := (relS [1, 13, 14] (sOwn 15 (eB dDict [(eC 3 C_latest [(rdE 1), (rdE 13), (rdE 14)])])))
def C_law_s7b_s0b_s0 : DL.Env → R Out := (relS [1, 9, 7, 13] (sSet 16 (e2 (bCmp .LtE) (fGet (eB dDict [(eC 3 C_earliest [(rdE 1), (rdE 9), (rdE 7)])]) (rdP 13) (kD (.int 99))) (rdP 14))))
def C_law_s7b_s0b_s1 : DL.Env → R Out := (relS [] (fIfS (t2 (dCmp .NotEq) (rdP 16) (fAnd (e2 (bCmp .In) (rdP 9) (rdP 15)) (e2 (bCmp .LtE) (rdP 7) (e2 dIx (rdP 15) (rdP 9))))) (fSeq (relS [] (sRet (kD (.bool false)))) sNil) sNil))
def C_law_s7b_s0b_t1 : DL.Env → R Out := fSeq (C_law_s7b_s0b_s1) sNil
def C_law_s7b_s0b_t0 : DL.Env → R Out := fSeq (C_law_s7b_s0b_s0) (C_law_s7b_s0b_t1)
def C_law_s7b_s0 : DL.Env → R Out := (relS [] (fFor (iB dRng1 [(e2 (dBin .Add) (rdP 3) (kD (.int 1)))]) (.one 7) (C_law_s7b_s0b_t0)))
def C_law_s7b_t0 : DL.Env → R Out := fSeq (C_law_s7b_s0) sNil
def C_law_s7 : DL.Env → R Out := (relS [2] (fFor (i1 dItems (rdE 2)) (.one 9) (C_law_s7b_t0)))
def C_law_s8 : DL.Env → R Out := (relS [] (sRet (e2 (bCmp .Eq) (e2 dIx (rdP 15) (rdP 13)) (eB dMin [(rdP 14), (rdP 3)]))))
def C_law_t8 : DL.Env → R Out := fSeq (C_law_s8) sNil
def C_law_t7 : DL.Env → R Out := fSeq (C_law_s7) (C_law_t8)
def C_law_t6 : DL.Env → R Out := fSeq (C_law_s6) (C_law_t7)
def C_law_t5 : DL.Env → R Out := fSeq (C_law_s5) (C_law_t6)
def C_law_t4 : DL.Env → R Out := fSeq (C_law_s4) (C_law_t5)
def C_law_t3 : DL.Env → R Out := fSeq (C_law_s3) (C_law_t4)
def C_law_t2 : DL.Env → R Out := fSeq (C_law_s2) (C_law_t3)
def C_law_t1 : DL.Env → R Out := fSeq (C_law_s1) (C_law_t2)
def C_law_t0 : DL.Env → R Out := fSeq (C_law_s0) (C_law_t1)
def C_law : List D → R D := fRun 19 (C_law_t0)
theorem cf_law : FF_law C_law_fleet C_law_names C_sightings C_law_drawn C_earliest C_cleared C_latest = C_law := by kernel_rfl
abbrev fn_is_whole (k : Nat) : List D → R D := runD (prg.T 100000 60 k) d_is_whole.N 100000 61 (defScope d_is_whole.st) (defBody d_is_whole.st)
abbrev fn_is_name (k : Nat) : List D → R D := runD (prg.T 100000 60 k) d_is_name.N 100000 61 (defScope d_is_name.st) (defBody d_is_name.st)
abbrev fn_is_cell (k : Nat) : List D → R D := runD (prg.T 100000 60 k) d_is_cell.N 100000 61 (defScope d_is_cell.st) (defBody d_is_cell.st)
abbrev fn_is_rising (k : Nat) : List D → R D := runD (prg.T 100000 60 k) d_is_rising.N 100000 61 (defScope d_is_rising.st) (defBody d_is_rising.st)
abbrev fn_is_islands (k : Nat) : List D → R D := runD (prg.T 100000 60 k) d_is_islands.N 100000 61 (defScope d_is_islands.st) (defBody d_is_islands.st)
abbrev fn_is_ship (k : Nat) : List D → R D := runD (prg.T 100000 60 k) d_is_ship.N 100000 61 (defScope d_is_ship.st) (defBody d_is_ship.st)
abbrev fn_is_mist (k : Nat) : List D → R D := runD (prg.T 100000 60 k) d_is_mist.N 100000 61 (defScope d_is_mist.st) (defBody d_is_mist.st)
abbrev fn_is_fleet (k : Nat) : List D → R D := runD (prg.T 100000 60 k) d_is_fleet.N 100000 61 (defScope d_is_fleet.st) (defBody d_is_fleet.st)
abbrev fn_look_fleet (k : Nat) : List D → R D := runD (prg.T 100000 60 k) d_look_fleet.N 100000 61 (defScope d_look_fleet.st) (defBody d_look_fleet.st)
abbrev fn_plain_names (k : Nat) : List D → R D := runD (prg.T 100000 60 k) d_plain_names.N 100000 61 (defScope d_plain_names.st) (defBody d_plain_names.st)
abbrev fn_look_ship (k : Nat) : List D → R D := runD (prg.T 100000 60 k) d_look_ship.N 100000 61 (defScope d_look_ship.st) (defBody d_look_ship.st)
abbrev fn_look_hour (k : Nat) : List D → R D := runD (prg.T 100000 60 k) d_look_hour.N 100000 61 (defScope d_look_hour.st) (defBody d_look_hour.st)
abbrev fn_is_in (k : Nat) : List D → R D := runD (prg.T 100000 60 k) d_is_in.N 100000 61 (defScope d_is_in.st) (defBody d_is_in.st)
abbrev fn_is_between (k : Nat) : List D → R D := runD (prg.T 100000 60 k) d_is_between.N 100000 61 (defScope d_is_between.st) (defBody d_is_between.st)
abbrev fn_sees_at (k : Nat) : List D → R D := runD (prg.T 100000 60 k) d_sees_at.N 100000 61 (defScope d_sees_at.st) (defBody d_sees_at.st)
abbrev fn_plain_sightings (k : Nat) : List D → R D := runD (prg.T 100000 60 k) d_plain_sightings.N 100000 61 (defScope d_plain_sightings.st) (defBody d_plain_sightings.st)
abbrev fn_sightings (k : Nat) : List D → R D := runD (prg.T 100000 60 k) d_sightings.N 100000 61 (defScope d_sightings.st) (defBody d_sightings.st)
abbrev fn_spread (k : Nat) : List D → R D := runD (prg.T 100000 60 k) d_spread.N 100000 61 (defScope d_spread.st) (defBody d_spread.st)
abbrev fn_earliest (k : Nat) : List D → R D := runD (prg.T 100000 60 k) d_earliest.N 100000 61 (defScope d_earliest.st) (defBody d_earliest.st)
abbrev fn_bounds_for (k : Nat) : List D → R D := runF (prg.T 100000 60 k) d_bounds_for.N 100000 61 (defScope d_bounds_for.st) (defBody d_bounds_for.st)
abbrev fn_plain_latest (k : Nat) : List D → R D := runD (prg.T 100000 60 k) d_plain_latest.N 100000 61 (defScope d_plain_latest.st) (defBody d_plain_latest.st)
abbrev fn_latest (k : Nat) : List D → R D := runD (prg.T 100000 60 k) d_latest.N 100000 61 (defScope d_latest.st) (defBody d_latest.st)
abbrev fn_cleared (k : Nat) : List D → R D := runD (prg.T 100000 60 k) d_cleared.N 100000 61 (defScope d_cleared.st) (defBody d_cleared.st)
abbrev fn_law_drawn (k : Nat) : List D → R D := runD (prg.T 100000 60 k) d_law_drawn.N 100000 61 (defScope d_law_drawn.st) (defBody d_law_drawn.st)
abbrev fn_law_fleet (k : Nat) : List D → R D := runD (prg.T 100000 60 k) d_law_fleet.N 100000 61 (defScope d_law_fleet.st) (defBody d_law_fleet.st)
abbrev fn_law_names (k : Nat) : List D → R D := runD (prg.T 100000 60 k) d_law_names.N 100000 61 (defScope d_law_names.st) (defBody d_law_names.st)
abbrev fn_law (k : Nat) : List D → R D := runD (prg.T 100000 60 k) d_law.N 100000 61 (defScope d_law.st) (defBody d_law.st)
theorem ff_is_whole (k : Nat) : fn_is_whole (k + 1) = FF_is_whole := by kernel_rfl
theorem ff_is_name (k : Nat) : fn_is_name (k + 1) = FF_is_name := by kernel_rfl
theorem ff_is_cell (k : Nat) : fn_is_cell (k + 1) = FF_is_cell (fn_is_whole k) := by kernel_rfl
theorem ff_is_rising (k : Nat) : fn_is_rising (k + 1) = FF_is_rising := by kernel_rfl
theorem ff_is_islands (k : Nat) : fn_is_islands (k + 1) = FF_is_islands (fn_is_cell k) (fn_is_rising k) := by kernel_rfl
theorem ff_is_ship (k : Nat) : fn_is_ship (k + 1) = FF_is_ship (fn_is_name k) (fn_is_whole k) (fn_is_cell k) := by kernel_rfl
theorem ff_is_mist (k : Nat) : fn_is_mist (k + 1) = FF_is_mist (fn_is_whole k) (fn_is_cell k) := by kernel_rfl
theorem ff_is_fleet (k : Nat) : fn_is_fleet (k + 1) = FF_is_fleet (fn_is_whole k) (fn_is_islands k) (fn_is_ship k) (fn_is_rising k) (fn_is_mist k) := by kernel_rfl
theorem ff_look_fleet (k : Nat) : fn_look_fleet (k + 1) = FF_look_fleet (fn_is_fleet k) := by kernel_rfl
theorem ff_plain_names (k : Nat) : fn_plain_names (k + 1) = FF_plain_names := by kernel_rfl
theorem ff_look_ship (k : Nat) : fn_look_ship (k + 1) = FF_look_ship (fn_is_name k) (fn_plain_names k) := by kernel_rfl
theorem ff_look_hour (k : Nat) : fn_look_hour (k + 1) = FF_look_hour (fn_is_whole k) := by kernel_rfl
theorem ff_is_in (k : Nat) : fn_is_in (k + 1) = FF_is_in := by kernel_rfl
theorem ff_is_between (k : Nat) : fn_is_between (k + 1) = FF_is_between := by kernel_rfl
theorem ff_sees_at (k : Nat) : fn_sees_at (k + 1) = FF_sees_at (fn_is_in k) (fn_is_between k) := by kernel_rfl
theorem ff_plain_sightings (k : Nat) : fn_plain_sightings (k + 1) = FF_plain_sightings (fn_sees_at k) := by kernel_rfl
theorem ff_sightings (k : Nat) : fn_sightings (k + 1) = FF_sightings (fn_look_fleet k) (fn_plain_sightings k) := by kernel_rfl
theorem ff_spread (k : Nat) : fn_spread (k + 1) = FF_spread := by kernel_rfl
theorem ff_earliest (k : Nat) : fn_earliest (k + 1) = FF_earliest (fn_look_fleet k) (fn_look_ship k) (fn_look_hour k) (fn_spread k) (fn_plain_sightings k) := by kernel_rfl
theorem ff_bounds_for (k : Nat) : fn_bounds_for (k + 1) = FF_bounds_for := by kernel_rfl
theorem ff_plain_latest (k : Nat) : fn_plain_latest (k + 1) = FF_plain_latest (fn_bounds_for k) (fn_plain_sightings k) := by kernel_rfl
theorem ff_latest (k : Nat) : fn_latest (k + 1) = FF_latest (fn_look_fleet k) (fn_look_ship k) (fn_look_hour k) (fn_plain_latest k) := by kernel_rfl
theorem ff_cleared (k : Nat) : fn_cleared (k + 1) = FF_cleared (fn_look_fleet k) := by kernel_rfl
theorem ff_law_drawn (k : Nat) : fn_law_drawn (k + 1) = FF_law_drawn := by kernel_rfl
theorem ff_law_fleet (k : Nat) : fn_law_fleet (k + 1) = FF_law_fleet (fn_law_drawn k) := by kernel_rfl
theorem ff_law_names (k : Nat) : fn_law_names (k + 1) = FF_law_names := by kernel_rfl
theorem ff_law (k : Nat) : fn_law (k + 1) = FF_law (fn_law_fleet k) (fn_law_names k) (fn_sightings k) (fn_law_drawn k) (fn_earliest k) (fn_cleared k) (fn_latest k) := by kernel_rfl
theorem c_is_whole (k : Nat) : fn_is_whole (k + 1) = C_is_whole := ff_is_whole k
theorem c_is_name (k : Nat) : fn_is_name (k + 1) = C_is_name := ff_is_name k
theorem c_is_rising (k : Nat) : fn_is_rising (k + 1) = C_is_rising := ff_is_rising k
theorem c_plain_names (k : Nat) : fn_plain_names (k + 1) = C_plain_names := ff_plain_names k
theorem c_is_in (k : Nat) : fn_is_in (k + 1) = C_is_in := ff_is_in k
theorem c_is_between (k : Nat) : fn_is_between (k + 1) = C_is_between := ff_is_between k
theorem c_spread (k : Nat) : fn_spread (k + 1) = C_spread := (ff_spread k).trans cf_spread
theorem c_bounds_for (k : Nat) : fn_bounds_for (k + 1) = C_bounds_for := (ff_bounds_for k).trans cf_bounds_for
theorem c_law_drawn (k : Nat) : fn_law_drawn (k + 1) = C_law_drawn := ff_law_drawn k
theorem c_law_names (k : Nat) : fn_law_names (k + 1) = C_law_names := (ff_law_names k).trans cf_law_names
theorem c_is_cell (k : Nat) : fn_is_cell (k + 2) = C_is_cell := (ff_is_cell (k + 1)).trans (congrArg FF_is_cell (c_is_whole (k + 0)))
theorem c_look_ship (k : Nat) : fn_look_ship (k + 2) = C_look_ship := (ff_look_ship (k + 1)).trans (congr (congrArg FF_look_ship (c_is_name (k + 0))) (c_plain_names (k + 0)))
theorem c_look_hour (k : Nat) : fn_look_hour (k + 2) = C_look_hour := (ff_look_hour (k + 1)).trans (congrArg FF_look_hour (c_is_whole (k + 0)))
theorem c_sees_at (k : Nat) : fn_sees_at (k + 2) = C_sees_at := (ff_sees_at (k + 1)).trans (congr (congrArg FF_sees_at (c_is_in (k + 0))) (c_is_between (k + 0)))
theorem c_law_fleet (k : Nat) : fn_law_fleet (k + 2) = C_law_fleet := (ff_law_fleet (k + 1)).trans (congrArg FF_law_fleet (c_law_drawn (k + 0)))
theorem c_is_islands (k : Nat) : fn_is_islands (k + 3) = C_is_islands := (ff_is_islands (k + 2)).trans (congr (congrArg FF_is_islands (c_is_cell (k + 0))) (c_is_rising (k + 1)))
theorem c_is_ship (k : Nat) : fn_is_ship (k + 3) = C_is_ship := (ff_is_ship (k + 2)).trans (congr (congr (congrArg FF_is_ship (c_is_name (k + 1))) (c_is_whole (k + 1))) (c_is_cell (k + 0)))
theorem c_is_mist (k : Nat) : fn_is_mist (k + 3) = C_is_mist := (ff_is_mist (k + 2)).trans (congr (congrArg FF_is_mist (c_is_whole (k + 1))) (c_is_cell (k + 0)))
theorem c_plain_sightings (k : Nat) : fn_plain_sightings (k + 3) = C_plain_sightings := (ff_plain_sightings (k + 2)).trans (congrArg FF_plain_sightings (c_sees_at (k + 0)))
theorem c_is_fleet (k : Nat) : fn_is_fleet (k + 4) = C_is_fleet := (ff_is_fleet (k + 3)).trans (congr (congr (congr (congr (congrArg FF_is_fleet (c_is_whole (k + 2))) (c_is_islands (k + 0))) (c_is_ship (k + 0))) (c_is_rising (k + 2))) (c_is_mist (k + 0)))
theorem c_plain_latest (k : Nat) : fn_plain_latest (k + 4) = C_plain_latest := ((ff_plain_latest (k + 3)).trans (congr (congrArg FF_plain_latest (c_bounds_for (k + 2))) (c_plain_sightings (k + 0)))).trans cf_plain_latest
theorem c_look_fleet (k : Nat) : fn_look_fleet (k + 5) = C_look_fleet := (ff_look_fleet (k + 4)).trans (congrArg FF_look_fleet (c_is_fleet (k + 0)))
theorem c_sightings (k : Nat) : fn_sightings (k + 6) = C_sightings := (ff_sightings (k + 5)).trans (congr (congrArg FF_sightings (c_look_fleet (k + 0))) (c_plain_sightings (k + 2)))
theorem c_earliest (k : Nat) : fn_earliest (k + 6) = C_earliest := ((ff_earliest (k + 5)).trans (congr (congr (congr (congr (congrArg FF_earliest (c_look_fleet (k + 0))) (c_look_ship (k + 3))) (c_look_hour (k + 3))) (c_spread (k + 4))) (c_plain_sightings (k + 2)))).trans cf_earliest
theorem c_latest (k : Nat) : fn_latest (k + 6) = C_latest := ((ff_latest (k + 5)).trans (congr (congr (congr (congrArg FF_latest (c_look_fleet (k + 0))) (c_look_ship (k + 3))) (c_look_hour (k + 3))) (c_plain_latest (k + 1)))).trans cf_latest
theorem c_cleared (k : Nat) : fn_cleared (k + 6) = C_cleared := (ff_cleared (k + 5)).trans (congrArg FF_cleared (c_look_fleet (k + 0)))
theorem c_law (k : Nat) : fn_law (k + 7) = C_law := ((ff_law (k + 6)).trans (congr (congr (congr (congr (congr (congr (congrArg FF_law (c_law_fleet (k + 4))) (c_law_names (k + 5))) (c_sightings (k + 0))) (c_law_drawn (k + 5))) (c_earliest (k + 0))) (c_cleared (k + 0))) (c_latest (k + 0)))).trans cf_law
end Lw
/-! law k06 -/
namespace Lw
open PySem PySem.Spec PyProof.Rows L2 DL
theorem law_names_ok (F : Fl) : C_law_names [F.D] = .ok (.list (nmD F.names)) := by
  have : C_law_names = C_plain_names := by kernel_rfl
  rw [this, C_names]
abbrev RD (F : Fl) : D := .list ((rows F).map rowD)
abbrev er (F : Fl) (s : Str) (k : Nat) : Tab := earl F.names (rows F) s k
abbrev TD (t : Tab) : D := .dict (tabD t)
/-- no own object -/
def Calm (ρ : DL.Env) (i : Nat) : Prop := ∀ d, ρ[i]? ≠ some (.ow d)
theorem Calm.rel {ρ : DL.Env} {i : Nat} (h : Calm ρ i) : relR1 i ρ = ρ := by
  unfold relR1
  split
  · rename_i d e; exact absurd e (h d)
  · rfl
theorem va_rel {ρ : DL.Env} {i : Nat} {d : D} (h : ρ[i]? = some (.va d)) : relR1 i ρ = ρ := by
  unfold relR1
  rw [h]
theorem ow_rel {ρ : DL.Env} {i : Nat} {d : D} (h : ρ[i]? = some (.ow d)) : relR1 i ρ = ρ.set i (.va d) := by
  unfold relR1
  rw [h]
structure In (F : Fl) (ns : List Int) (s : Str) (ρ : DL.Env) : Prop where
  len : ρ.length = 19
  f0 : ρ[0]? = some (.va (scr ns))
  f1 : ρ[1]? = some (.va F.D)
  f2 : ρ[2]? = some (.va (.list (nmD F.names)))
  f3 : ρ[3]? = some (.va (.int F.last))
  f4 : ρ[4]? = some (.va (RD F))
  f5 : ρ[5]? = some (.va (.str s))
  c9 : Calm ρ 9
  c17 : Calm ρ 17
  c18 : Calm ρ 18
section
variable {F : Fl} {ns : List Int} {s : Str} {ρ : DL.Env}
theorem Calm.set {i j : Nat} {sl : Slot} (h : Calm ρ j) (hn : i ≠ j ∨ ∀ d, sl ≠ .ow d) : Calm (ρ.set i sl) j := fun d e => by
  by_cases q : i = j
  · subst q
    rcases hn with hn | hn
    · exact hn rfl
    · by_cases l : i < ρ.length
      · rw [List.getElem?_set_self l] at e; cases e; exact hn d rfl
      · rw [List.getElem?_eq_none (by simpa using l)] at e; cases e
  · rw [List.getElem?_set_ne q] at e; exact h d e
theorem In.set (h : In F ns s ρ) {i : Nat} {sl : Slot} (hi : 6 ≤ i) (hn : (i ≠ 9 ∧ i ≠ 17 ∧ i ≠ 18) ∨ ∀ d, sl ≠ .ow d) : In F ns s (ρ.set i sl) := by
  obtain ⟨l, h0, h1, h2, h3, h4, h5, c9, c17, c18⟩ := h
  refine ⟨by simpa using l, ?_, ?_, ?_, ?_, ?_, ?_, c9.set (hn.imp (fun h => h.1) id), c17.set (hn.imp (fun h => h.2.1) id), c18.set (hn.imp (fun h => h.2.2) id)⟩ <;> rw [List.getElem?_set_ne (by omega)] <;> assumption
theorem In.va (h : In F ns s ρ) (i : Nat) {d : D} (hi : 6 ≤ i) : In F ns s (ρ.set i (.va d)) := h.set hi (.inr fun _ e => nomatch e)
theorem In.get (h : In F ns s ρ) (i : Nat) {sl : Slot} (hi : i < 19) : (ρ.set i sl)[i]? = some sl := by simp [h.len, hi]
theorem get_ne {i j : Nat} {sl : Slot} (hi : j ≠ i) : (ρ.set j sl)[i]? = ρ[i]? := List.getElem?_set_ne hi
end
section
variable {F : Fl} {ns : List Int} {s : Str} {ρ : DL.Env} {k : Nat}
theorem er_dict (h : F.Ok) (s : Str) (k : Nat) : dDict [.list ((er F s k).map DL.pairD)] = .ok (TD (er F s k)) := dict_tab (nd_tabN h.nms.nd _)
theorem er_self (h : F.Ok) (hs : s ∈ F.names) (k : Nat) : (er F s k).lookup s = some k := by rw [earl_lk h.nms h.rw hs]; exact (spread_inv h.rw.hour).base
theorem er_key (h : F.Ok) (s : Str) (k : Nat) {x : Str} (hx : x ∈ (er F s k).map (·.1)) : ∃ e, (er F s k).lookup x = some e := by
  cases e : (er F s k).lookup x with
  | none => exact absurd hx (lk_none.mp e)
  | some v => exact ⟨v, rfl⟩
theorem b_s0 (h : F.Ok) (hs : s ∈ F.names) (hk : k ≤ F.last) (e : In F ns s ρ) (h7 : ρ[7]? = some (.va (.int k))) : C_law_s4b_s0 ρ = .ok (.nx (ρ.set 8 (.ow (TD (er F s k))))) := by
  have e1 := C_earliest_ok h hs hk
  have e2 := er_dict h s k
  unfold C_law_s4b_s0
  simp -implicitDefEqProofs [-getElem?_pos, rdE, relR1, e.f1, e.f5, h7, e1, e2]
theorem b_s1 (h : F.Ok) (hs : s ∈ F.names) (e : In F ns s ρ) (h7 : ρ[7]? = some (.va (.int k))) (h8 : ρ[8]? = some (.ow (TD (er F s k)))) : C_law_s4b_s1 ρ = .ok (.nx ρ) := by
  unfold C_law_s4b_s1
  simp -implicitDefEqProofs [-getElem?_pos, rdP, e.f5, h7, h8, ix_tab (er_self h hs k)]
theorem b_s2 (h : F.Ok) (hs : s ∈ F.names) (hk : k ≤ F.last) (e : In F ns s ρ) (h7 : ρ[7]? = some (.va (.int k))) (h8 : ρ[8]? = some (.ow (TD (er F s k)))) : C_law_s4b_s2 ρ = .ok (.nx (ρ.set 8 (.va (TD (er F s k))))) := by
  have e2 := e.va 8 (d := TD (er F s k)) (by decide)
  unfold C_law_s4b_s2
  refine chk_nil (xs := (er F s k).map (·.1)) (emb := .str) (by simp [e.c9.rel, ow_rel h8]) (by
    simp -implicitDefEqProofs [-getElem?_pos, rdE, e.get 8, keys_items]) fun x hx => ⟨_, fTg_one _ _, ?_⟩
  obtain ⟨v, hv⟩ := er_key h s k hx
  obtain ⟨q1, q2, q3⟩ := earl_le h.nms h.rw hs hk hv
  have c1 : ¬ (v : Int) < k := by omega
  have c2 : ¬ ((F.last : Int) + 1 < v) := by omega
  simp -implicitDefEqProofs [-getElem?_pos, rdP, rdE, List.getElem?_set, e.len, h7, e.f3, ix_tab hv, c1, c2]
def shD : Option Nat → Str → Fl → D
  | none, _, _ => .none
  | some k, s, F => TD (er F s k)
theorem mono_hour (h : F.Ok) (hs : s ∈ F.names) {k' : Nat} (hk : k' ≤ k) {x : Str} {v : Nat} (hv : (er F s k).lookup x = some v) : g99 (er F s k') x ≤ v := by
  rw [earl_lk h.nms h.rw hs] at hv
  have H := ((spread_inv h.rw.hour).sound x v hv).early hk
  obtain ⟨e, h1, h2⟩ := (spread_iff h.rw.hour).mp H
  rw [g99_some (by rw [earl_lk h.nms h.rw hs]; exact h1)]
  exact h2
theorem b_s3 (h : F.Ok) (hs : s ∈ F.names) (e : In F ns s ρ) {b : Option Nat} (hb : ∀ k', b = some k' → k' ≤ k) (h6 : ρ[6]? = some (.va (shD b s F))) (h8 : ρ[8]? = some (.va (TD (er F s k)))) : C_law_s4b_s3 ρ = .ok (.nx ρ) := by
  unfold C_law_s4b_s3
  cases b with
  | none =>
    have e0 : dCmp .IsNot .none .none = .ok false := by kernel_rfl
    simp -implicitDefEqProofs [-getElem?_pos, rdP, h6, shD, e0]
  | some k' =>
    have e0 : dCmp .IsNot (TD (er F s k')) .none = .ok true := rfl
    have key : C_law_s4b_s3i_t0 ρ = .ok (.nx ρ) := by
      unfold C_law_s4b_s3i_t0 C_law_s4b_s3i_s0
      refine seq_nx (G := sNil) (chk_nil (xs := (er F s k).map (·.1)) (emb := .str) (by simp [e.c9.rel, va_rel h8]) (by
        simp -implicitDefEqProofs [-getElem?_pos, rdE, h8, keys_items]) fun x hx => ⟨_, fTg_one _ _, ?_⟩)
      obtain ⟨v, hv⟩ := er_key h s k hx
      have q := mono_hour h hs (hb k' rfl) hv
      have eg : ∀ ρ', ρ' = (ρ.set 9 .un).set 9 (.va (.str x)) → fGet (rdP 6) (rdP 9) (kD (.int 99)) ρ' = .ok (.int (g99 (er F s k') x)) := fun ρ' er' => by
        subst er'
        refine fGet_99 ?_ ?_ rfl
        · simp -implicitDefEqProofs [-getElem?_pos, rdP, List.getElem?_set, h6, shD]
        · simp -implicitDefEqProofs [-getElem?_pos, rdP, List.getElem?_set, e.len]
      have c : ¬ (v : Int) < (g99 (er F s k') x : Nat) := by omega
      simp -implicitDefEqProofs only [t2_ap, e2_ap, wipeR_cons, wipeR_nil, eg _ rfl, R.ok_bind]
      simp -implicitDefEqProofs [-getElem?_pos, rdP, rdE, List.getElem?_set, e.len, h8, ix_tab hv, c]
    simp -implicitDefEqProofs [-getElem?_pos, rdP, h6, shD, e0, key]
structure In2 (F : Fl) (ns : List Int) (s : Str) (k : Nat) (sh : D) (ρ : DL.Env) : Prop where
  i : In F ns s ρ
  f6 : ρ[6]? = some (.va sh)
  f7 : ρ[7]? = some (.va (.int k))
  f8 : ρ[8]? = some (.va (TD (er F s k)))
theorem In2.va {sh : D} (h : In2 F ns s k sh ρ) (i : Nat) {d : D} (hi : 9 ≤ i) : In2 F ns s k sh (ρ.set i (.va d)) :=
  ⟨h.i.va i (by omega), by rw [get_ne (by omega)]; exact h.f6, by rw [get_ne (by omega)]; exact h.f7, by rw [get_ne (by omega)]; exact h.f8⟩
theorem In2.ow {sh : D} (h : In2 F ns s k sh ρ) (i : Nat) {d : D} (hi : 10 ≤ i ∧ i < 17) : In2 F ns s k sh (ρ.set i (.ow d)) :=
  ⟨h.i.set (by omega) (.inl (by omega)), by rw [get_ne (by omega)]; exact h.f6, by rw [get_ne (by omega)]; exact h.f7, by rw [get_ne (by omega)]; exact h.f8⟩
/-- whom one has it from -/
theorem er_from (h : F.Ok) (hs : s ∈ F.names) {x : Str} {v : Nat} (hv : (er F s k).lookup x = some v) (hx : x ≠ s) : ∃ w y, v = w + 1 ∧ (w, x, y) ∈ rows F ∧ g99 (er F s k) y ≤ w := by
  have hv' := hv
  rw [earl_lk h.nms h.rw hs] at hv'
  have H := (spread_inv h.rw.hour).sound x v hv'
  cases H with
  | here _ => exact absurd rfl hx
  | @step _ y w _ t' a b c d =>
    obtain ⟨e, h1, h2⟩ := (spread_iff h.rw.hour).mp (Has.step a b c (Nat.le_refl _))
    rw [hv'] at h1
    cases h1
    obtain ⟨e, h3, h4⟩ := (spread_iff h.rw.hour).mp a
    refine ⟨w, y, by omega, c, ?_⟩
    rw [g99_some (by rw [earl_lk h.nms h.rw hs]; exact h3)]
    omega
theorem er_trans (h : F.Ok) (hs : s ∈ F.names) {x z : Str} {v u : Nat} (hv : (er F s k).lookup x = some v) (hx : x ∈ F.names) (hu : (er F x v).lookup z = some u) : g99 (er F s k) z ≤ u := by
  rw [earl_lk h.nms h.rw hs] at hv
  rw [earl_lk h.nms h.rw hx] at hu
  obtain ⟨e, h3, h4⟩ := (spread_iff h.rw.hour).mp (((spread_inv h.rw.hour).sound x v hv).trans ((spread_inv h.rw.hour).sound z u hu))
  rw [g99_some (by rw [earl_lk h.nms h.rw hs]; exact h3)]
  exact h4
theorem ixr0 (r : DL.Row) : dIx (rowD r) (.int 0) = .ok (.int r.1) := by kernel_rfl
theorem ixr1 (r : DL.Row) : dIx (rowD r) (.int 1) = .ok (.str r.2.1) := by kernel_rfl
theorem ixr2 (r : DL.Row) : dIx (rowD r) (.int 2) = .ok (.str r.2.2) := by kernel_rfl
theorem b_in (h : F.Ok) (hs : s ∈ F.names) (hk : k ≤ F.last) {sh : D} {x : Str} (hx : x ∈ (er F s k).map (·.1)) (e : In2 F ns s k sh ρ) (h9 : ρ[9]? = some (.va (.str x))) : ∃ ρ', C_law_s4b_s4b_t0 ρ = .ok (.nx ρ') ∧ In2 F ns s k sh ρ' := by
  obtain ⟨v, hv⟩ := er_key h s k hx
  obtain ⟨q1, q2, q3⟩ := earl_le h.nms h.rw hs hk hv
  unfold C_law_s4b_s4b_t0 C_law_s4b_s4b_s0
  by_cases hxs : x = s
  · subst hxs
    exact ⟨ρ, by simp -implicitDefEqProofs [-getElem?_pos, rdP, h9, e.i.f5, ne_str h hs hs], e⟩
  · obtain ⟨w, y, rfl, hr, hg⟩ := er_from h hs hv hxs
    have a0 : C_law_s4b_s4b_s0i_s0 ρ = .ok (.nx (ρ.set 10 (.va (.int w)))) := by
      unfold C_law_s4b_s4b_s0i_s0
      simp -implicitDefEqProofs [-getElem?_pos, rdP, h9, e.f8, ix_tab hv]
    have e1 : In2 F ns s k sh (ρ.set 10 (.va (.int w))) := e.va 10 (by decide)
    generalize hρ : ρ.set 10 (.va (.int w)) = ρ2 at a0 e1
    have g10 : ρ2[10]? = some (.va (.int w)) := by rw [← hρ]; exact e.i.get 10 (by decide)
    have g9 : ρ2[9]? = some (.va (.str x)) := by rw [← hρ, get_ne (by decide)]; exact h9
    have a1 : C_law_s4b_s4b_s0i_s1 ρ2 = .ok (.nx ρ2) := by
      unfold C_law_s4b_s4b_s0i_s1
      refine chk_some (n := 4) (xs := rows F) (emb := rowD) (fun r => decide (r.1 = w) && (decide (r.2.1 = x) && decide (g99 (er F s k) r.2.2 ≤ w))) rowD (by simp [e1.i.c17.rel, va_rel e1.i.f4]) (by
        simp -implicitDefEqProofs [-getElem?_pos, rdE, e1.i.f4]) (fun r hr => ⟨_, fTg_one _ _, ?_, fun _ => ?_⟩) ⟨_, hr, by simp [hg]⟩ (sub_okD h fun r hr => (List.mem_filter.mp hr).1) (by decide)
      · have eg : ∀ ρ', ρ' = (ρ2.set 17 .un).set 17 (.va (rowD r)) → fGet (rdP 8) (e2 dIx (rdP 17) (kD (.int 2))) (kD (.int 99)) ρ' = .ok (.int (g99 (er F s k) r.2.2)) := fun ρ' er' => by
          subst er'
          refine fGet_99 ?_ ?_ rfl
          · simp -implicitDefEqProofs [-getElem?_pos, rdP, List.getElem?_set, e1.f8]
          · simp -implicitDefEqProofs [-getElem?_pos, rdP, List.getElem?_set, e1.i.len, ixr2]
        have es := eq_str h (row_names hr).1 q3
        simp -implicitDefEqProofs only [tstAnd_ap, t2_ap, e2_ap, wipeR_cons, wipeR_nil, eg _ rfl, R.ok_bind]
        simp -implicitDefEqProofs [-getElem?_pos, rdP, rdE, List.getElem?_set, e1.i.len, g10, g9, ixr0, ixr1, es]
        congr 1
        exact decide_eq_decide.mpr (by omega)
      · simp -implicitDefEqProofs [-getElem?_pos, rdE, List.getElem?_set, e1.i.len]
    have c1 : (t2 (dCmp .NotEq) (rdP 9) (rdP 5)) ρ = .ok true := by
      simp -implicitDefEqProofs [-getElem?_pos, rdP, h9, e.i.f5, ne_str h q3 hs, hxs]
    have done : ∃ ρ', C_law_s4b_s4b_s0i_s2 ρ2 = .ok (.nx ρ') ∧ In2 F ns s k sh ρ' := by
      unfold C_law_s4b_s4b_s0i_s2
      by_cases hl : w + 1 ≤ F.last
      · have hl' : (w : Int) + 1 ≤ F.last := by omega
        have a2 : C_law_s4b_s4b_s0i_s2i_s0 ρ2 = .ok (.nx (ρ2.set 11 (.ow (TD (er F x (w + 1)))))) := by
          have q1 := C_earliest_ok h q3 hl
          have q2 := er_dict h x (w + 1)
          unfold C_law_s4b_s4b_s0i_s2i_s0
          simp -implicitDefEqProofs [-getElem?_pos, rdE, rdP, relR1, e1.i.f1, g9, g10]
          simp -implicitDefEqProofs only [Int.natCast_add, Int.cast_ofNat_Int] at q1
          simp -implicitDefEqProofs [q1, q2]
        have e3 : In2 F ns s k sh (ρ2.set 11 (.ow (TD (er F x (w + 1))))) := e1.ow 11 (by decide)
        generalize hρ3 : ρ2.set 11 (.ow (TD (er F x (w + 1)))) = ρ3 at a2 e3
        have g11 : ρ3[11]? = some (.ow (TD (er F x (w + 1)))) := by rw [← hρ3]; exact e1.i.get 11 (by decide)
        have e4 : In2 F ns s k sh (ρ3.set 11 (.va (TD (er F x (w + 1))))) := e3.va 11 (by decide)
        have a3 : C_law_s4b_s4b_s0i_s2i_s1 ρ3 = .ok (.nx (ρ3.set 11 (.va (TD (er F x (w + 1)))))) := by
          unfold C_law_s4b_s4b_s0i_s2i_s1
          refine chk_nil (xs := (er F x (w + 1)).map (·.1)) (emb := .str) (by simp [e3.i.c18.rel, ow_rel g11, e4.i.c18.rel]) (by
            simp -implicitDefEqProofs [-getElem?_pos, rdE, e3.i.get 11, keys_items]) fun z hz => ⟨_, fTg_one _ _, ?_⟩
          obtain ⟨u, hu⟩ := er_key h x (w + 1) hz
          have q := er_trans h hs hv q3 hu
          have eg : ∀ ρ', ρ' = ((ρ3.set 11 (.va (TD (er F x (w + 1))))).set 18 .un).set 18 (.va (.str z)) → fGet (rdP 8) (rdP 18) (kD (.int 99)) ρ' = .ok (.int (g99 (er F s k) z)) := fun ρ' er' => by
            subst er'
            refine fGet_99 ?_ ?_ rfl
            · simp -implicitDefEqProofs [-getElem?_pos, rdP, List.getElem?_set, e3.f8]
            · simp -implicitDefEqProofs [-getElem?_pos, rdP, List.getElem?_set, e3.i.len]
          have c : ¬ (u : Int) < (g99 (er F s k) z : Nat) := by omega
          simp -implicitDefEqProofs only [t2_ap, e2_ap, wipeR_cons, wipeR_nil, eg _ rfl, R.ok_bind]
          simp -implicitDefEqProofs [-getElem?_pos, rdP, rdE, List.getElem?_set, e3.i.len, ix_tab hu, c]
        refine ⟨_, ?_, e4⟩
        have c2 : (t2 (dCmp .LtE) (e2 (dBin .Add) (rdP 10) (kD (.int 1))) (rdP 3)) ρ2 = .ok true := by
          simp -implicitDefEqProofs [-getElem?_pos, rdP, g10, e1.i.f3, hl']
        have t0 : C_law_s4b_s4b_s0i_s2i_t0 ρ2 = .ok (.nx (ρ3.set 11 (.va (TD (er F x (w + 1)))))) := by
          unfold C_law_s4b_s4b_s0i_s2i_t0 C_law_s4b_s4b_s0i_s2i_t1
          rw [seq_nx a2, seq_nx a3]
          rfl
        simp -implicitDefEqProofs only [relS_ap, relR_nil, fIfS_ap, c2, R.ok_bind, if_true, t0]
      · have hl' : ¬ (w : Int) + 1 ≤ F.last := by omega
        refine ⟨ρ2, ?_, e1⟩
        simp -implicitDefEqProofs [-getElem?_pos, rdP, g10, e1.i.f3, hl']
    obtain ⟨ρ', d1, d2⟩ := done
    refine ⟨ρ', ?_, d2⟩
    have t0 : C_law_s4b_s4b_s0i_t0 ρ = .ok (.nx ρ') := by
      unfold C_law_s4b_s4b_s0i_t0 C_law_s4b_s4b_s0i_t1 C_law_s4b_s4b_s0i_t2
      rw [seq_nx a0, seq_nx a1, seq_nx d1]
      rfl
    simp -implicitDefEqProofs only [fSeq_ap, relS_ap, relR_nil, fIfS_ap, c1, R.ok_bind, if_true, t0, thenS_nx, sNil_ap]
theorem b_s4 (h : F.Ok) (hs : s ∈ F.names) (hk : k ≤ F.last) {sh : D} (e : In2 F ns s k sh ρ) : ∃ ρ', C_law_s4b_s4 ρ = .ok (.nx ρ') ∧ In2 F ns s k sh ρ' := by
  obtain ⟨ρ', h1, h2⟩ := for_all (tg := .one 9) (fb := C_law_s4b_s4b_t0) (xs := (er F s k).map (·.1)) .str (In2 F ns s k sh) e fun x ρ hx hp => by
    obtain ⟨ρ', g1, g2⟩ := b_in h hs hk hx (hp.va 9 (d := .str x) (by decide)) (hp.i.get 9 (by decide))
    exact ⟨_, ρ', fTg_one _ _, g1, g2⟩
  refine ⟨ρ', ?_, h2⟩
  unfold C_law_s4b_s4
  simp -implicitDefEqProofs [-getElem?_pos, va_rel e.f8, rdE, e.f8, keys_items]
  rw [List.map_map] at h1
  exact h1
theorem mono_clr (h : F.Ok) (hs : s ∈ F.names) {x : Str} {v : Nat} (hv : (er F s k).lookup x = some v) : g99 (er (clrF F) s k) x ≤ v := by
  rw [earl_lk h.nms h.rw hs] at hv
  have hs' : s ∈ (clrF F).names := hs
  have H := ((spread_inv h.rw.hour).sound x v hv).sub clr_rows
  obtain ⟨e, h1, h2⟩ := (spread_iff (clr_ok h).rw.hour).mp H
  rw [g99_some (by rw [earl_lk (clr_ok h).nms (clr_ok h).rw hs']; exact h1)]
  exact h2
theorem b_rest (h : F.Ok) (hs : s ∈ F.names) (hk : k ≤ F.last) {sh : D} (e : In2 F ns s k sh ρ) : ∃ ρ', C_law_s4b_t5 ρ = .ok (.nx ρ') ∧ In F ns s ρ' ∧ ρ'[6]? = some (.va (TD (er F s k))) := by
  have hc := clr_ok h
  have hs' : s ∈ (clrF F).names := hs
  have a5 : C_law_s4b_s5 ρ = .ok (.nx (ρ.set 12 (.ow (TD (er (clrF F) s k))))) := by
    have q1 := C_earliest_ok hc hs' (k := k) hk
    have q2 := er_dict hc s k
    unfold C_law_s4b_s5
    simp -implicitDefEqProofs [-getElem?_pos, rdE, relR1, e.i.f1, e.i.f5, e.f7, C_clr h, q1, q2]
  have e2 : In2 F ns s k sh (ρ.set 12 (.ow (TD (er (clrF F) s k)))) := e.ow 12 (by decide)
  have g12 : (ρ.set 12 (.ow (TD (er (clrF F) s k))))[12]? = some (.ow (TD (er (clrF F) s k))) := e.i.get 12 (by decide)
  generalize ρ.set 12 (.ow (TD (er (clrF F) s k))) = ρ2 at a5 e2 g12
  have a6 : C_law_s4b_s6 ρ2 = .ok (.nx ρ2) := by
    unfold C_law_s4b_s6
    refine chk_nil (xs := (er F s k).map (·.1)) (emb := .str) (by simp [e2.i.c9.rel, va_rel e2.f8]) (by
      simp -implicitDefEqProofs [-getElem?_pos, rdE, e2.f8, keys_items]) fun x hx => ⟨_, fTg_one _ _, ?_⟩
    obtain ⟨v, hv⟩ := er_key h s k hx
    have q := mono_clr h hs hv
    have eg : ∀ ρ', ρ' = (ρ2.set 9 .un).set 9 (.va (.str x)) → fGet (rdP 12) (rdP 9) (kD (.int 99)) ρ' = .ok (.int (g99 (er (clrF F) s k) x)) := fun ρ' er' => by
      subst er'
      refine fGet_99 ?_ ?_ rfl
      · simp -implicitDefEqProofs [-getElem?_pos, rdP, List.getElem?_set, g12]
      · simp -implicitDefEqProofs [-getElem?_pos, rdP, List.getElem?_set, e2.i.len]
    have c : ¬ (v : Int) < (g99 (er (clrF F) s k) x : Nat) := by omega
    simp -implicitDefEqProofs only [t2_ap, e2_ap, wipeR_cons, wipeR_nil, eg _ rfl, R.ok_bind]
    simp -implicitDefEqProofs [-getElem?_pos, rdP, rdE, List.getElem?_set, e2.i.len, e2.f8, ix_tab hv, c]
  refine ⟨ρ2.set 6 (.va (TD (er F s k))), ?_, e2.i.va 6 (by decide), e2.i.get 6 (by decide)⟩
  unfold C_law_s4b_t5 C_law_s4b_t6 C_law_s4b_t7 C_law_s4b_s7
  rw [seq_nx a5, seq_nx a6]
  simp -implicitDefEqProofs [-getElem?_pos, va_rel e2.f8, rdE, e2.f8]
theorem b_all (h : F.Ok) (hs : s ∈ F.names) (hk : k ≤ F.last) {b : Option Nat} (hb : ∀ k', b = some k' → k' ≤ k) (e : In F ns s ρ) (h6 : ρ[6]? = some (.va (shD b s F))) (h7 : ρ[7]? = some (.va (.int k))) : ∃ ρ', C_law_s4b_t0 ρ = .ok (.nx ρ') ∧ In F ns s ρ' ∧ ρ'[6]? = some (.va (shD (some k) s F)) := by
  have a0 := b_s0 h hs hk e h7
  have e1 : In F ns s (ρ.set 8 (.ow (TD (er F s k)))) := e.set (by decide) (.inl (by decide))
  have x8 : (ρ.set 8 (.ow (TD (er F s k))))[8]? = some (.ow (TD (er F s k))) := e.get 8 (by decide)
  have x7 : (ρ.set 8 (.ow (TD (er F s k))))[7]? = some (.va (.int k)) := by rw [get_ne (by decide)]; exact h7
  have x6 : (ρ.set 8 (.ow (TD (er F s k))))[6]? = some (.va (shD b s F)) := by rw [get_ne (by decide)]; exact h6
  generalize ρ.set 8 (.ow (TD (er F s k))) = ρ1 at a0 e1 x8 x7 x6
  have a1 := b_s1 h hs e1 x7 x8
  have a2 := b_s2 h hs hk e1 x7 x8
  have e2 : In2 F ns s k (shD b s F) (ρ1.set 8 (.va (TD (er F s k)))) := ⟨e1.va 8 (by decide), by rw [get_ne (by decide)]; exact x6, by rw [get_ne (by decide)]; exact x7, e1.get 8 (by decide)⟩
  generalize ρ1.set 8 (.va (TD (er F s k))) = ρ2 at a2 e2
  have a3 := b_s3 h hs e2.i hb e2.f6 e2.f8
  obtain ⟨ρ3, a4, e3⟩ := b_s4 h hs hk e2
  obtain ⟨ρ4, a5, e4, e5⟩ := b_rest h hs hk e3
  refine ⟨ρ4, ?_, e4, e5⟩
  unfold C_law_s4b_t0 C_law_s4b_t1 C_law_s4b_t2 C_law_s4b_t3 C_law_s4b_t4
  rw [seq_nx a0, seq_nx a1, seq_nx a2, seq_nx a3, seq_nx a4, a5]
end
end Lw
/-! law k06: the law -/
namespace Lw
open PySem PySem.Spec PyProof.Rows L2 DL
section
variable {F : Fl} {ns : List Int} {s g : Str} {ρ : DL.Env} {k b : Nat}
theorem la_s4 (h : F.Ok) (hs : s ∈ F.names) (e : In F ns s ρ) (h6 : ρ[6]? = some (.va .none)) : ∃ ρ', C_law_s4 ρ = .ok (.nx ρ') ∧ In F ns s ρ' := by
  obtain ⟨ρ', h1, h2, _⟩ := for_fold (tg := .one 7) (fb := C_law_s4b_t0) (fun (i : Nat) => (.int i : D)) (fun _ i => some i) (fun r b ρ => In F ns s ρ ∧ ρ[6]? = some (.va (shD b s F)) ∧ (∀ k', b = some k' → ∀ i ∈ r, k' ≤ i) ∧ r.Pairwise (· < ·) ∧ ∀ i ∈ r, i ≤ F.last) (List.range (F.last + 1)) none ρ
    ⟨e, h6, (fun _ z => nomatch z), List.pairwise_lt_range, fun i hi => by have := List.mem_range.mp hi; omega⟩ fun b k r ρ _ ⟨p1, p2, p3, p4, p5⟩ => by
      obtain ⟨ρ', g1, g2, g3⟩ := b_all h hs (p5 k (by simp)) (b := b) (fun k' hk' => p3 k' hk' k (by simp)) (p1.va 7 (d := .int k) (by decide)) (by rw [get_ne (by decide)]; exact p2) (p1.get 7 (by decide))
      rw [List.pairwise_cons] at p4
      exact ⟨_, ρ', fTg_one _ _, .inl g1, g2, g3, fun k' hk' i hi => by cases hk'; exact Nat.le_of_lt (p4.1 i hi), p4.2, fun i hi => p5 i (by simp [hi])⟩
  refine ⟨ρ', ?_, h2⟩
  have e7 := rng_ok (n := F.last) (by have := h.last; omega)
  unfold C_law_s4
  simp -implicitDefEqProofs [-getElem?_pos, rdP, e.f3, e7]
  exact h1
abbrev lt_ (F : Fl) (g : Str) (b : Nat) : Tab := late F.names (rows F) F.last g b
structure In3 (F : Fl) (ns : List Int) (s g : Str) (b : Nat) (ρ : DL.Env) : Prop where
  i : In F ns s ρ
  f13 : ρ[13]? = some (.va (.str g))
  f14 : ρ[14]? = some (.va (.int b))
  f15 : ρ[15]? = some (.ow (TD (lt_ F g b)))
theorem In3.va (h : In3 F ns s g b ρ) (i : Nat) {d : D} (hi : 6 ≤ i ∧ i ≠ 13 ∧ i ≠ 14 ∧ i ≠ 15) : In3 F ns s g b (ρ.set i (.va d)) :=
  ⟨h.i.va i (by omega), by rw [get_ne (by omega)]; exact h.f13, by rw [get_ne (by omega)]; exact h.f14, by rw [get_ne (by omega)]; exact h.f15⟩
theorem in_time (h : F.Ok) {x : Str} (hx : x ∈ F.names) (hg : g ∈ F.names) (hk : k ≤ F.last) (hb : b ≤ F.last + 1) : decide (g99 (er F x k) g ≤ b) = (((lt_ F g b).lookup x).isSome && decide (k ≤ ((lt_ F g b).lookup x).getD 0)) := by
  have d := dual h.nms h.rw hx hg (b := b) hk
  have hl := h.last
  cases e : (lt_ F g b).lookup x with
  | none =>
    rw [e] at d
    have : ¬ g99 (er F x k) g ≤ b := fun q => by
      unfold g99 at q
      cases e2 : (er F x k).lookup g with
      | none => rw [e2] at q; simp at q; omega
      | some v => rw [e2] at q; obtain ⟨_, z, _⟩ := d.mp ⟨v, e2, q⟩; cases z
    simp [this]
  | some t =>
    rw [e] at d
    simp only [Option.isSome_some, Bool.true_and, Option.getD_some]
    refine decide_eq_decide.mpr ⟨fun q => ?_, fun q => ?_⟩
    · unfold g99 at q
      cases e2 : (er F x k).lookup g with
      | none => rw [e2] at q; simp at q; omega
      | some v => rw [e2] at q; obtain ⟨_, z, z2⟩ := d.mp ⟨v, e2, q⟩; cases z; exact z2
    · obtain ⟨v, z, z2⟩ := d.mpr ⟨t, rfl, q⟩
      rw [g99_some z]
      exact z2
theorem c_in (h : F.Ok) (hg : g ∈ F.names) (hb : b ≤ F.last + 1) {x : Str} (hx : x ∈ F.names) (hk : k ≤ F.last) (e : In3 F ns s g b ρ) (h9 : ρ[9]? = some (.va (.str x))) (h7 : ρ[7]? = some (.va (.int k))) :
    C_law_s7b_s0b_t0 ρ = .ok (.nx (ρ.set 16 (.va (.bool (decide (g99 (er F x k) g ≤ b)))))) := by
  have it := in_time h hx hg hk hb
  have q1 := C_earliest_ok h hx hk
  have q2 := er_dict h x k
  have a0 : C_law_s7b_s0b_s0 ρ = .ok (.nx (ρ.set 16 (.va (.bool (decide (g99 (er F x k) g ≤ b)))))) := by
    have eg : fGet (eB dDict [(eC 3 C_earliest [(rdE 1), (rdE 9), (rdE 7)])]) (rdP 13) (kD (.int 99)) ρ = .ok (.int (g99 (er F x k) g)) := fGet_99 (by
      simp -implicitDefEqProofs [-getElem?_pos, rdE, e.i.f1, h9, h7, q1, q2]) (by simp -implicitDefEqProofs [-getElem?_pos, rdP, e.f13]) rfl
    unfold C_law_s7b_s0b_s0
    simp -implicitDefEqProofs only [relS_ap, relR_cons, relR_nil, va_rel e.i.f1, va_rel h9, va_rel h7, va_rel e.f13, sSet_ap, e2_ap, eg, R.ok_bind]
    simp -implicitDefEqProofs [-getElem?_pos, rdP, e.f14]
  have e2 : In3 F ns s g b (ρ.set 16 (.va (.bool (decide (g99 (er F x k) g ≤ b))))) := e.va 16 (by decide)
  have g16 : (ρ.set 16 (.va (.bool (decide (g99 (er F x k) g ≤ b)))))[16]? = some (.va (.bool (decide (g99 (er F x k) g ≤ b)))) := e.i.get 16 (by decide)
  have g9 : (ρ.set 16 (.va (.bool (decide (g99 (er F x k) g ≤ b)))))[9]? = some (.va (.str x)) := by rw [get_ne (by decide)]; exact h9
  have g7 : (ρ.set 16 (.va (.bool (decide (g99 (er F x k) g ≤ b)))))[7]? = some (.va (.int k)) := by rw [get_ne (by decide)]; exact h7
  unfold C_law_s7b_s0b_t0 C_law_s7b_s0b_t1
  rw [seq_nx a0]
  generalize ρ.set 16 (.va (.bool (decide (g99 (er F x k) g ≤ b)))) = ρ2 at *
  refine seq_nx (G := sNil) ?_
  unfold C_law_s7b_s0b_s1
  have bb : ∀ p q : Bool, dCmp .NotEq (.bool p) (.bool q) = .ok (!decide (p = q)) := fun p q => by cases p <;> cases q <;> rfl
  rw [it] at g16
  cases hl : (lt_ F g b).lookup x with
  | none =>
    rw [hl] at g16
    simp -implicitDefEqProofs [-getElem?_pos, rdP, g16, g9, e2.f15, in_tab, hl, bb]
  | some t =>
    rw [hl] at g16
    simp -implicitDefEqProofs [-getElem?_pos, rdP, g16, g9, g7, e2.f15, in_tab, hl, bb, ix_tab hl]
theorem la_s7 (h : F.Ok) (hg : g ∈ F.names) (hb : b ≤ F.last + 1) (e : In3 F ns s g b ρ) : ∃ ρ', C_law_s7 ρ = .ok (.nx ρ') ∧ In3 F ns s g b ρ' := by
  have e7 := rng_ok (n := F.last) (by have := h.last; omega)
  obtain ⟨ρ', h1, h2⟩ := for_all (tg := .one 9) (fb := C_law_s7b_t0) (xs := F.names) .str (In3 F ns s g b) e fun x ρ hx hp => by
    have hp2 := hp.va 9 (d := .str x) (by decide)
    obtain ⟨ρ', g1, g2, _⟩ := for_all (tg := .one 7) (fb := C_law_s7b_s0b_t0) (xs := List.range (F.last + 1)) (fun (i : Nat) => (.int i : D)) (fun ρ => In3 F ns s g b ρ ∧ ρ[9]? = some (.va (.str x))) ⟨hp2, hp.i.get 9 (by decide)⟩ fun k ρ hk ⟨p1, p2⟩ => by
      have hk : k ≤ F.last := by have := List.mem_range.mp hk; omega
      have p3 := p1.va 7 (d := .int k) (by decide)
      exact ⟨_, _, fTg_one _ _, c_in h hg hb hx hk p3 (by rw [get_ne (by decide)]; exact p2) (p1.i.get 7 (by decide)), p3.va 16 (by decide), by rw [get_ne (by decide), get_ne (by decide)]; exact p2⟩
    refine ⟨_, ρ', fTg_one _ _, ?_, g2⟩
    unfold C_law_s7b_t0
    refine seq_nx (G := sNil) ?_
    unfold C_law_s7b_s0
    have f3 := hp2.i.f3
    simp -implicitDefEqProofs [-getElem?_pos, rdP, f3, e7]
    exact g1
  refine ⟨ρ', ?_, h2⟩
  unfold C_law_s7
  simp -implicitDefEqProofs [-getElem?_pos, va_rel e.i.f2, rdE, e.i.f2]
  exact h1
theorem la_end (h : F.Ok) (hg : g ∈ F.names) (e : In3 F ns s g b ρ) : C_law_s8 ρ = .ok (.rt (.bool true)) := by
  have hl : (lt_ F g b).lookup g = some (min b F.last) := by rw [late_lk h.nms h.rw hg]; simp
  have : ((min b F.last : Nat) : Int) = min (b : Int) F.last := by omega
  unfold C_law_s8
  simp -implicitDefEqProofs [-getElem?_pos, rdP, e.i.f3, e.f13, e.f14, e.f15, ix_tab hl, dMin_ii, this]
end
theorem law_c (ns : List Int) (hn : ns.length ≤ 63) : C_law [scr ns] = .ok (.bool true) := by
  obtain ⟨F, d, eF⟩ := sp_fleet1 ns hn (a := 10) (most := 4) (by decide) (by decide) (by decide) (by decide)
  have eF : C_law_fleet [scr ns, .int 10, .int 4] = .ok F.D := eF
  have h := d.ok
  have hm := d.many
  have nl := F.names_len
  obtain ⟨q1, q2, q3⟩ := drw_ok ns (k := 1) (many := F.names.length) hn (by decide) (by decide) (by omega)
  obtain ⟨s, hs, es⟩ := nm_ix q2 q3
  obtain ⟨r1, r2, r3⟩ := drw_ok ns (k := 2) (many := F.names.length) hn (by decide) (by decide) (by omega)
  obtain ⟨g, hg, eg⟩ := nm_ix r2 r3
  obtain ⟨u1, u2, u3⟩ := drw_ok ns (k := 3) (many := (F.last : Int) + 2) hn (by decide) (by decide) (by omega)
  obtain ⟨b, hb⟩ : ∃ b : Nat, drw ns 3 ((F.last : Int) + 2) = b := ⟨(drw ns 3 ((F.last : Int) + 2)).toNat, by omega⟩
  rw [hb] at u1 u2 u3
  have hb' : b ≤ F.last + 1 := by omega
  have lnm : dLen [.list (nmD F.names)] = .ok (.int F.names.length) := by simp [nmD]
  have a0 : C_law_s0 ([scr ns].map Slot.va ++ List.replicate (19 - [scr ns].length) .un) = .ok (.nx [.va (scr ns), .va F.D, .un, .un, .un, .un, .un, .un, .un, .un, .un, .un, .un, .un, .un, .un, .un, .un, .un]) := by
    unfold C_law_s0
    simp -implicitDefEqProofs [eF]
  have a1 : C_law_s1 [.va (scr ns), .va F.D, .un, .un, .un, .un, .un, .un, .un, .un, .un, .un, .un, .un, .un, .un, .un, .un, .un] = .ok (.nx [.va (scr ns), .va F.D, .va (.list (nmD F.names)), .va (.int F.last), .va (RD F), .un, .un, .un, .un, .un, .un, .un, .un, .un, .un, .un, .un, .un, .un]) := by
    unfold C_law_s1
    simp -implicitDefEqProofs [rdE_succ, rdP_succ, relR1_succ, law_names_ok, ix_last, C_sightings_ok h, setFl]
  have a2 : C_law_s2 [.va (scr ns), .va F.D, .va (.list (nmD F.names)), .va (.int F.last), .va (RD F), .un, .un, .un, .un, .un, .un, .un, .un, .un, .un, .un, .un, .un, .un] = .ok (.nx [.va (scr ns), .va F.D, .va (.list (nmD F.names)), .va (.int F.last), .va (RD F), .va (.str s), .un, .un, .un, .un, .un, .un, .un, .un, .un, .un, .un, .un, .un]) := by
    unfold C_law_s2
    simp -implicitDefEqProofs only [relS_ap, relR_cons, relR_nil, relR1_0va, sSet_ap, e2_ap, rdP_succ, rdP_zero, R.ok_bind, eC_ap, eArgs_cons, eArgs_nil, rdE_zero, kD_ap, eB_ap, lnm, ari_3, q1, es, List.set]
  have a3 : C_law_s3 [.va (scr ns), .va F.D, .va (.list (nmD F.names)), .va (.int F.last), .va (RD F), .va (.str s), .un, .un, .un, .un, .un, .un, .un, .un, .un, .un, .un, .un, .un] = .ok (.nx [.va (scr ns), .va F.D, .va (.list (nmD F.names)), .va (.int F.last), .va (RD F), .va (.str s), .va .none, .un, .un, .un, .un, .un, .un, .un, .un, .un, .un, .un, .un]) := rfl
  obtain ⟨ρ1, a4, e4⟩ := la_s4 (ns := ns) h hs (ρ := [.va (scr ns), .va F.D, .va (.list (nmD F.names)), .va (.int F.last), .va (RD F), .va (.str s), .va .none, .un, .un, .un, .un, .un, .un, .un, .un, .un, .un, .un, .un]) ⟨rfl, rfl, rfl, rfl, rfl, rfl, rfl, (fun _ z => nomatch z), (fun _ z => nomatch z), (fun _ z => nomatch z)⟩ rfl
  have a5 : C_law_s5 ρ1 = .ok (.nx ((ρ1.set 13 (.va (.str g))).set 14 (.va (.int b)))) := by
    unfold C_law_s5
    simp -implicitDefEqProofs only [relS_ap, relR_cons, relR_nil, va_rel e4.f0, fPar_ap, eArgs_cons, eArgs_nil, e2_ap, eC_ap, eB_ap, kD_ap, R.ok_bind]
    simp -implicitDefEqProofs [-getElem?_pos, rdE, rdP, e4.f0, e4.f2, e4.f3, lnm, r1, eg, u1, setFl]
  have e5 : In F ns s ((ρ1.set 13 (.va (.str g))).set 14 (.va (.int b))) := (e4.va 13 (by decide)).va 14 (by decide)
  have x13 : ((ρ1.set 13 (.va (.str g))).set 14 (.va (.int b)))[13]? = some (.va (.str g)) := by rw [get_ne (by decide)]; exact e4.get 13 (by decide)
  have x14 : ((ρ1.set 13 (.va (.str g))).set 14 (.va (.int b)))[14]? = some (.va (.int b)) := (e4.va 13 (by decide)).get 14 (by decide)
  generalize (ρ1.set 13 (.va (.str g))).set 14 (.va (.int b)) = ρ2 at a5 e5 x13 x14
  have a6 : C_law_s6 ρ2 = .ok (.nx (ρ2.set 15 (.ow (TD (lt_ F g b))))) := by
    have z1 := C_latest_ok h hg hb'
    have z2 : dDict [.list ((lt_ F g b).map DL.pairD)] = .ok (TD (lt_ F g b)) := dict_tab (nd_tabN h.nms.nd _)
    unfold C_law_s6
    simp -implicitDefEqProofs [-getElem?_pos, rdE, relR1, e5.f1, x13, x14, z1, z2]
  have e6 : In3 F ns s g b (ρ2.set 15 (.ow (TD (lt_ F g b)))) := ⟨e5.set (by decide) (.inl (by decide)), by rw [get_ne (by decide)]; exact x13, by rw [get_ne (by decide)]; exact x14, e5.get 15 (by decide)⟩
  obtain ⟨ρ3, a7, e7⟩ := la_s7 h hg hb' e6
  have a8 := la_end h hg e7
  unfold C_law
  rw [fRun_ap]
  unfold C_law_t0 C_law_t1 C_law_t2 C_law_t3 C_law_t4 C_law_t5 C_law_t6 C_law_t7 C_law_t8
  rw [seq_nx a0, seq_nx a1, seq_nx a2, seq_nx a3, seq_nx a4, seq_nx a5, seq_nx a6, seq_nx a7, seq_rt a8]
  rfl
theorem law_true : ∀ ns : List Int, ns.length ≤ 63 → runD (prg.T 100000 60 29) d_law.N 100000 61 (defScope d_law.st) (defBody d_law.st) [scr ns] = .ok (.bool true) := fun ns hn => by
  have := congrFun (c_law 22) [scr ns]
  exact this.trans (law_c ns hn)
end Lw
namespace Lw
open PySem PySem.Spec PyProof.Rows L2 DL
abbrev R : PySem.W.OpenRow := PySem.W.OpenLaw.row PySem.Challenge.rw_hullflags_k06_whole_reading
abbrev hk : PySem.W.Hook := DL.hookX 4 prg.xB prg.fa prg.fn
def ob (s : PySem.W.SharedT) : Bool × He.AlD := DL.obsXG 4 prg.xB prg.fa prg.fn (HandSHeadRun.getT s)
theorem ob_eq (s : PySem.W.SharedT) : ob s = hk.obs s.abs := DL.obsXG_eq (HandSHeadRun.getT_eq s)
def loose : List PySem.Str := (["FleetError", "NoFleet", "NoShip", "NoHour", "SMALL", "MOST_PART", "MOST_LAST", "MOST_ISLANDS", "MOST_SHIPS", "MOST_MISTS", "is_whole", "is_name", "is_cell", "is_rising", "is_islands", "is_ship", "is_mist", "is_fleet", "look_fleet", "plain_names", "look_ship", "look_hour", "is_in", "is_between", "sees_at", "plain_sightings", "sightings", "spread", "earliest", "bounds_for"] : List PySem.Str) ++ (["plain_latest", "latest", "cleared", "_law_drawn", "_law_fleet", "_law_names"] : List PySem.Str)
theorem run (w : World) : HandSHeadRun.RunEq R (PySem.W.view R.prog [41]) hk ob 3000 loose w := by
  intro os
  kernel_rfl
end Lw
open PySem PySem.W PySem.Calls PyProof.Rows
theorem PySem.Challenge.cw_hullflags_k06_whole_reading_holds : PySem.Challenge.rw_hullflags_k06_whole_reading.Holds := by
  w_on; o_law
  refine HandSHeadRun.head_any (r := OpenLaw.row PySem.Challenge.rw_hullflags_k06_whole_reading) (q := view (OpenLaw.row PySem.Challenge.rw_hullflags_k06_whole_reading).prog [41]) (H := Lw.hk) (ob := Lw.ob) (M := 3000) (loose := Lw.loose) (d := HandSHeadRun.topDef (OpenLaw.row PySem.Challenge.rw_hullflags_k06_whole_reading).prog 41) (kwd := []) Lw.ob_eq
    (by kernel_rfl) (fun s => by kernel_rfl) Lw.run (by kernel_rfl) (by kernel_rfl) (by kernel_rfl) (by rfl) (by first | assumption | decide +kernel) (by decide +kernel) ⟨rfl, rfl, rfl, rfl, rfl, by decide +kernel⟩ ?hw ?hc
  case hw => w_witness2
  case hc =>
    refine L2.walk_ofE (l := PySem.Challenge.rw_hullflags_k06_whole_reading) (n := 63) (k := 30) (x := "script") (CX := DL.CXany) rfl (by decide) (by kernel_rfl) ⟨rfl, by decide, by decide⟩ ?F (fun _ _ _ _ z => DL.cxany_no z)
    intro w mg fa h Y G hmg0
    obtain ⟨K, KX, cx, c⟩ := Y
    have hmg : mg ("law" : PySem.Str) = some (.ref fa) := by
      have e : (HandSHeadRun.topDef (OpenLaw.row PySem.Challenge.rw_hullflags_k06_whole_reading).prog 41).name = ("law" : PySem.Str) := by kernel_rfl
      rw [← e]
      exact hmg0
    obtain ⟨fd, sp, hb, hsp, hF⟩ := DL.law_ok (P := (PySem.Challenge.rw_hullflags_k06_whole_reading).prog) (w := w) Lw.prg 100000 60 29 KX G hmg cx c Lw.sc_all Lw.bnd_all Lw.d_law (by simp [Lw.prg]) rfl rfl Lw.law_true
    exact ⟨K, fd, sp, KX, hb, hsp, hF⟩
