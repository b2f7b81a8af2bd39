import PyProof.Rows.All
import Wide.All
import OpenK.AllK
import Wide.FinOn
import KE.DataCmp
import KE.KeyNested
import KE.KDictKeyed
import KE.KDictWalk
import HandS.Base
import HandS.Call
import HandS.Dict
import HandS.ForMost
import HandS.Exc
import HandS.TryOnly
import HandS.ExcOwn
import HandS.WordsExc
import HandS.Deep
import HandS.Wide
import HandS.Zip
import HandS.More
import HandS.Style
import HandS.Defaults
import HandS.IsInst
import HandS.TupLe
import HandS.TupAny
import HandS.TupMul
import HandS.Conv
import KE.SortData
import KE.DataMinMax
import HandS.HeadHook1
import HandS.Lambda
import HandS.List
import HandS.Iter
import HandS.Walk
import HandS.TupSets
import KE.KDictCopyH
import KE.KDictSum
import HandS.ExcValue
import KE.GoesEnum
import KE.KDictDisplayH
import HandS.DictTup
import HandS.DictComp
import HandS.ExcIs
import HandS.EndTab
import HandS.HotCalls
import PyProof.DictMoreH
import HandS.Head0
import HandS.Head1
import HandS.Head2
import HandS.HeadEnd
import HandS.HeadHook2
import HandS.EndBits
import KE.KStateDown
import Lean
import PySem.Challenge.RW_hullflags_k95_whole_by_hand
set_option Elab.async false
set_option linter.all false
set_option maxRecDepth 100000
set_option maxHeartbeats 0
namespace DL
open PySem PySem.Spec PyProof.Rows L2
abbrev D := PyData
mutual
def keyOf : D → NestedKey
  | .none => .none
  | .int i => .num i
  | .str x => .text x
  | .tuple ds => .tup (keysOf ds)
  | _ => .none
def keysOf : List D → List NestedKey
  | [] => []
  | d :: ds => keyOf d :: keysOf ds
end
mutual
def keyN : D → Bool
  | .none => true
  | .int _ => true
  | .str _ => true
  | .tuple ds => keysN ds
  | _ => false
def keysN : List D → Bool
  | [] => true
  | d :: ds => keyN d && keysN ds
end
mutual
theorem keyN_inj : ∀ (d e : D), keyN d = true → keyN e = true → keyOf d = keyOf e → d = e
  | .none, e, _, k, h => by cases e <;> simp [keyN, keyOf] at k h ⊢
  | .int i, e, _, k, h => by cases e <;> simp [keyN, keyOf] at k h ⊢; exact h
  | .str i, e, _, k, h => by cases e <;> simp [keyN, keyOf] at k h ⊢; exact h
  | .tuple ds, e, k1, k, h => by
    cases e with
    | tuple es =>
      simp only [keyN] at k1 k
      simp only [keyOf, NestedKey.tup.injEq] at h
      rw [keysN_inj ds es k1 k h]
    | _ => simp [keyN, keyOf] at k h
  | .bool _, _, k, _, _ => by simp [keyN] at k
  | .list _, _, k, _, _ => by simp [keyN] at k
  | .dict _, _, k, _, _ => by simp [keyN] at k
theorem keysN_inj : ∀ (ds es : List D), keysN ds = true → keysN es = true → keysOf ds = keysOf es → ds = es
  | [], [], _, _, _ => rfl
  | [], _ :: _, _, _, h => by simp [keysOf] at h
  | _ :: _, [], _, _, h => by simp [keysOf] at h
  | x :: xs, y :: ys, k1, k2, h => by
    simp only [keysN, Bool.and_eq_true] at k1 k2
    simp only [keysOf, List.cons.injEq] at h
    rw [keyN_inj x y k1.1 k2.1 h.1, keysN_inj xs ys k1.2 k2.2 h.2]
end
def keyT : D → Bool
  | .tuple ds => keysN ds && decide ((NestedKey.tup (keysOf ds)).depth ≤ 8)
  | _ => false
theorem keyT_n {d : D} (h : keyT d = true) : keyN d = true ∧ (keyOf d).depth ≤ 8 ∧ ∃ ds, d = .tuple ds := by
  cases d with
  | tuple ds =>
    simp only [keyT, Bool.and_eq_true, decide_eq_true_eq] at h
    exact ⟨h.1, h.2, ds, rfl⟩
  | _ => simp [keyT] at h
def keyQ (d e : D) : Bool := NestedKey.beq (keyOf d) (keyOf e)
theorem keyQ_dec {d e : D} (h1 : keyN d = true) (h2 : keyN e = true) : keyQ d e = decide (keyOf d = keyOf e) := (NestedKey.decide_eq _ _).symm
abbrev NE := NestedKey × Addr × Value
def entN (w : World) (x : NE) : DictEntry := ⟨x.1.hash w, .ref x.2.1, x.2.2⟩
structure ND0 (w : World) (h : Heap) (a : Addr) (xs : List NE) : Prop where
  ex : ∃ o es ep, h.get? a = some o ∧ o.ExactDict ∧ o.data = .dict es ep ∧ es.toList = xs.map (entN w)
  nd : (xs.map (·.1)).Nodup
  sm : (a == sysModules) = false
def NDO (w : World) (a : Addr) (xs : List NE) : HO := .ext fun h => ND0 w h a xs
theorem ND0.keep {w : World} {h1 h2 : Heap} {a : Addr} {xs : List NE} (x : ND0 w h1 a xs) (k : ∀ o, h1.get? a = some o → h2.get? a = some o) : ND0 w h2 a xs := by
  obtain ⟨o, es, ep, h, r⟩ := x.ex
  exact ⟨⟨o, es, ep, k o h, r⟩, x.nd, x.sm⟩
theorem ndo_ok {P : Program} {w w0 : World} {H : Hp} {h : Heap} {a : Addr} {xs : List NE} (x : ND0 w h a xs) : ObjOk P w0 H h a (NDO w a xs) := by
  have ⟨o, es, ep, ho, _⟩ := x.ex
  exact ⟨x, ⟨o, ho⟩, fun h1 h2 p k => ND0.keep (show ND0 w h1 a xs from p) k⟩
theorem ndo_back {P : Program} {w w0 : World} {H : Hp} {h : Heap} {a : Addr} {xs : List NE} (x : ObjOk P w0 H h a (NDO w a xs)) : ND0 w h a xs := x.1
theorem ND0.of {P : Program} {w : World} {h : Heap} {a : Addr} {xs : List NE} (sm : (a == sysModules) = false) (x : h.DictOfH (nestedKind P w) a xs) : ND0 w h a xs := by
  obtain ⟨o, es, ep, h1, h2, h3, h4, _, h5⟩ := x
  exact ⟨⟨o, es, ep, h1, h2, h3, h4⟩, h5, sm⟩
theorem ND0.to {P : Program} {w : World} {h : Heap} {a : Addr} {xs : List NE} (x : ND0 w h a xs) (k : ∀ y ∈ xs, (nestedKind P w).is h y.1 y.2.1) : h.DictOfH (nestedKind P w) a xs := by
  obtain ⟨o, es, ep, h1, h2, h3, h4⟩ := x.ex
  exact ⟨o, es, ep, h1, h2, h3, h4, k, x.nd⟩
end DL
namespace DL
open PySem PySem.Spec PyProof.Rows L2
inductive R (α : Type) where
  | ok (a : α)
  | exc (c : Str)
  | bad
def R.bind {α β : Type} (r : R α) (k : α → R β) : R β := match r with
  | .ok a => k a
  | .exc c => .exc c
  | .bad => .bad
instance : Monad R where
  pure := R.ok
  bind := R.bind
@[simp] theorem R.pure_eq {α : Type} (a : α) : (pure a : R α) = .ok a := rfl
@[simp] theorem R.ok_bind {α β : Type} (a : α) (k : α → R β) : (R.ok a >>= k) = k a := rfl
@[simp] theorem R.exc_bind {α β : Type} (c : Str) (k : α → R β) : ((R.exc c : R α) >>= k) = R.exc c := rfl
@[simp] theorem R.bad_bind {α β : Type} (k : α → R β) : ((R.bad : R α) >>= k) = R.bad := rfl
def R.calm {α : Type} : R α → R α
  | .ok a => .ok a
  | _ => .bad
def keyD : Key → D
  | .inl i => .int i
  | .inr x => .str x
def scr (ns : List Int) : D := .dict [(.none, .list (ns.map .int))]
def isMk : HO → Bool
  | .xd _ => true
  | _ => false
def Lk (Hf H : Hp) : Prop := ∀ b o, Hf b = some o → isMk o = false → H b = some o
def knD (F W N : D) : D := .dict [(.none, .tuple [F, W, N])]
def tdD (kds : List (D × D)) : D := .dict [(.none, .dict kds)]
class Lots where
  P : D → D → D → List Key → D → Prop
  w : World
  tabs : List (Addr × Str) := []
variable [Lots]
mutual
inductive Rp (K : PySem.W.Frag) (H : Hp) : V → D → Prop
  | non : Rp K H .non .none
  | bl (b : Bool) : Rp K H (.bl b) (.bool b)
  | int (i : Int) : Rp K H (.int i) (.int i)
  | str (x : Str) : Rp K H (.str x) (.str x)
  | lst {a : Addr} {xs : List V} {ds : List D} : H a = some (.lst xs) → xs.length ≤ sizeLine → RpL K H xs ds → Rp K H (.ref a) (.list ds)
  | tup {a : Addr} {xs : List V} {ds : List D} : H a = some (.tup xs) → xs.length ≤ sizeLine → RpL K H xs ds → Rp K H (.ref a) (.tuple ds)
  | scr {a : Addr} {ns : List Int} : SqL K H a (ns.map V.int) → ns.length ≤ sizeLine → Rp K H (.ref a) (scr ns)
  | dic {a : Addr} {ob : Obj} {kvs : List (Key × V)} {kds : List (D × D)} : H a = some (.frz ob (.dK kvs)) → kvs.length ≤ sizeLine → RpK K H kvs kds → Rp K H (.ref a) (.dict kds)
  | dit {a : Addr} {ob : Obj} {xs : List NE} {kds : List (D × D)} : H a = some (.frz ob (NDO Lots.w a xs)) → xs.length ≤ sizeLine → RpN K H xs kds → Rp K H (.ref a) (tdD kds)
  | kno {x dx b : Addr} {vF vW vN : V} {F W N : D} : H x = some (.ins (He.ga K "Known") dx [("sea", vF), ("worlds", vW), ("names", vN), ("near", .ref b)]) → H b = some (.xd [("sea", vF), ("worlds", vW), ("names", vN)]) → Rp K H vF F → Rp K H vW W → Rp K H vN N → Rp K H (.ref x) (knD F W N)
inductive RpL (K : PySem.W.Frag) (H : Hp) : List V → List D → Prop
  | nil : RpL K H [] []
  | cons {v : V} {vs : List V} {d : D} {ds : List D} : Rp K H v d → RpL K H vs ds → RpL K H (v :: vs) (d :: ds)
inductive RpK (K : PySem.W.Frag) (H : Hp) : List (Key × V) → List (D × D) → Prop
  | nil : RpK K H [] []
  | cons {k : Key} {v : V} {kvs : List (Key × V)} {d : D} {kds : List (D × D)} : Rp K H v d → RpK K H kvs kds → RpK K H ((k, v) :: kvs) ((keyD k, d) :: kds)
inductive RpN (K : PySem.W.Frag) (H : Hp) : List NE → List (D × D) → Prop
  | nil : RpN K H [] []
  | cons {b : Addr} {v : V} {u : Value} {kd d : D} {xs : List NE} {kds : List (D × D)} : Rp K H (.ref b) kd → keyT kd = true → RelV v u → Rp K H v d → RpN K H xs kds → RpN K H ((keyOf kd, b, u) :: xs) ((kd, d) :: kds)
end
section
variable {K : PySem.W.Frag} {H H' : Hp}
mutual
theorem Rp.mono (e : Same H H') : ∀ {v : V} {d : D}, Rp K H v d → Rp K H' v d
  | _, _, .non => .non
  | _, _, .bl b => .bl b
  | _, _, .int i => .int i
  | _, _, .str x => .str x
  | _, _, .lst h l r => .lst (e _ _ h) l (RpL.mono e r)
  | _, _, .tup h l r => .tup (e _ _ h) l (RpL.mono e r)
  | _, _, .scr h l => .scr (Same.seq e h) l
  | _, _, .dic h l r => .dic (e _ _ h) l (RpK.mono e r)
  | _, _, .dit h l r => .dit (e _ _ h) l (RpN.mono e r)
  | _, _, .kno hx hb h1 h2 h3 => .kno (e _ _ hx) (e _ _ hb) (Rp.mono e h1) (Rp.mono e h2) (Rp.mono e h3)
theorem RpL.mono (e : Same H H') : ∀ {vs : List V} {ds : List D}, RpL K H vs ds → RpL K H' vs ds
  | _, _, .nil => .nil
  | _, _, .cons h r => .cons (Rp.mono e h) (RpL.mono e r)
theorem RpK.mono (e : Same H H') : ∀ {vs : List (Key × V)} {ds : List (D × D)}, RpK K H vs ds → RpK K H' vs ds
  | _, _, .nil => .nil
  | _, _, .cons h r => .cons (Rp.mono e h) (RpK.mono e r)
theorem RpN.mono (e : Same H H') : ∀ {vs : List NE} {ds : List (D × D)}, RpN K H vs ds → RpN K H' vs ds
  | _, _, .nil => .nil
  | _, _, .cons hk kt rv h r => .cons (Rp.mono e hk) kt rv (Rp.mono e h) (RpN.mono e r)
end
theorem RpL.length : ∀ {vs : List V} {ds : List D}, RpL K H vs ds → vs.length = ds.length
  | _, _, .nil => rfl
  | _, _, .cons _ r => by simp [RpL.length r]
theorem RpK.length : ∀ {vs : List (Key × V)} {ds : List (D × D)}, RpK K H vs ds → vs.length = ds.length
  | _, _, .nil => rfl
  | _, _, .cons _ r => by simp [RpK.length r]
theorem RpN.length : ∀ {vs : List NE} {ds : List (D × D)}, RpN K H vs ds → vs.length = ds.length
  | _, _, .nil => rfl
  | _, _, .cons _ _ _ _ r => by simp [RpN.length r]
theorem RpL.get : ∀ {vs : List V} {ds : List D} {i : Nat} {d : D}, RpL K H vs ds → ds[i]? = some d → ∃ v, vs[i]? = some v ∧ Rp K H v d
  | _, _, _, _, .nil, e => by simp at e
  | _, _, 0, _, .cons h _, e => by simp at e; subst e; exact ⟨_, rfl, h⟩
  | _, _, i + 1, _, .cons _ r, e => by
    obtain ⟨v, h1, h2⟩ := RpL.get (i := i) r (by simpa using e)
    exact ⟨v, by simpa using h1, h2⟩
theorem RpL.get' : ∀ {vs : List V} {ds : List D} {i : Nat} {v : V}, RpL K H vs ds → vs[i]? = some v → ∃ d, ds[i]? = some d ∧ Rp K H v d
  | _, _, _, _, .nil, e => by simp at e
  | _, _, 0, _, .cons h _, e => by simp at e; subst e; exact ⟨_, rfl, h⟩
  | _, _, i + 1, _, .cons _ r, e => by
    obtain ⟨d, h1, h2⟩ := RpL.get' (i := i) r (by simpa using e)
    exact ⟨d, by simpa using h1, h2⟩
theorem RpL.append : ∀ {vs ws : List V} {ds es : List D}, RpL K H vs ds → RpL K H ws es → RpL K H (vs ++ ws) (ds ++ es)
  | _, _, _, _, .nil, s => s
  | _, _, _, _, .cons h r, s => .cons h (RpL.append r s)
theorem RpL.drop : ∀ {vs : List V} {ds : List D} (n : Nat), RpL K H vs ds → RpL K H (vs.drop n) (ds.drop n)
  | _, _, 0, r => r
  | _, _, _ + 1, .nil => .nil
  | _, _, n + 1, .cons _ r => RpL.drop n r
theorem RpL.take : ∀ {vs : List V} {ds : List D} (n : Nat), RpL K H vs ds → RpL K H (vs.take n) (ds.take n)
  | _, _, 0, _ => .nil
  | _, _, _ + 1, .nil => .nil
  | _, _, n + 1, .cons h r => .cons h (RpL.take n r)
theorem RpL.rev : ∀ {vs : List V} {ds : List D}, RpL K H vs ds → RpL K H vs.reverse ds.reverse
  | _, _, .nil => .nil
  | _, _, .cons h r => by
    rw [List.reverse_cons, List.reverse_cons]
    exact RpL.append (RpL.rev r) (.cons h .nil)
mutual
def noDict : D → Bool
  | .none => true
  | .bool _ => true
  | .int _ => true
  | .str _ => true
  | .list ds => noDictL ds
  | .tuple ds => noDictL ds
  | .dict _ => false
def noDictL : List D → Bool
  | [] => true
  | d :: ds => noDict d && noDictL ds
end
theorem Lk.back {Hf Hg H : Hp} (s : L2.Same Hf Hg) (e : Lk Hg H) : Lk Hf H := fun b o h m => e b o (s b o h) m
theorem Lk.seq {Hf : Hp} {a : Addr} {xs : List V} (e : Lk Hf H) (h : SqL K Hf a xs) : SqL K H a xs := by
  rcases h with (h | ⟨o, h⟩) | h
  · exact .inl (.inl (e _ _ h rfl))
  · exact .inl (.inr ⟨o, e _ _ h rfl⟩)
  · exact .inr h
theorem Lk.refl (H : Hp) : Lk H H := fun _ _ h _ => h
mutual
theorem Rp.dp {Hf : Hp} (q : Lk Hf H) : ∀ {v : V} {d : D}, Rp K Hf v d → noDict d = true → Dp K H v d
  | _, _, .non, _ => .non
  | _, _, .bl b, _ => .bl b
  | _, _, .int i, _ => .int i
  | _, _, .str x, _ => .str x
  | _, _, .lst h _ r, e => .lst (SqL.of (q _ _ h rfl)) (RpL.dp q r e)
  | _, _, .tup h _ r, e => .tup (SqT.of (q _ _ h rfl)) (RpL.dp q r e)
  | _, _, .scr _ _, e => by simp [DL.scr, noDict] at e
  | _, _, .dic _ _ _, e => by simp [noDict] at e
  | _, _, .dit _ _ _, e => by simp [tdD, noDict] at e
  | _, _, .kno _ _ _ _ _, e => by simp [knD, noDict] at e
theorem RpL.dp {Hf : Hp} (q : Lk Hf H) : ∀ {vs : List V} {ds : List D}, RpL K Hf vs ds → noDictL ds = true → DpAll K H vs ds
  | _, _, .nil, _ => .nil
  | _, _, .cons h r, e => by
    have e' := Bool.and_eq_true_iff.mp (show (noDict _ && noDictL _) = true from e)
    exact .cons (Rp.dp q h e'.1) (RpL.dp q r e'.2)
end
end
def MarkOk (Hf H : Hp) (b : Addr) : List (Str × V) → Prop
  | [] => ∃ ps, H b = some (.tbl ps)
  | [(q, _)] => ∃ ps : Array Value, H b = some (.tbl ps) ∧ TriplesOk ps.toList ∧ ∀ (pos : Pos) (cv : Value), codeAmong pos ps.toList = some cv → ∃ c, cv = .ref c ∧ Hf c = some (LamX.CodeO c q)
  | [(_, vF), (_, vW), (_, vN)] => ∃ F W N, (noDict F = true ∧ noDict W = true ∧ noDict N = true) ∧ (∀ K, Rp K Hf vF F) ∧ (∀ K, Rp K Hf vW W) ∧ (∀ K, Rp K Hf vN N) ∧ ∃ kvs, H b = some (.dT kvs) ∧ (kvs.map (·.1)).Nodup ∧ ∀ kv ∈ kvs, ∃ d, Lots.P F W N kv.1 d ∧ ∀ K, Rp K Hf kv.2 d
  | _ => False
theorem MarkOk.there {Hf H : Hp} {b : Addr} : ∀ {fs : List (Str × V)}, MarkOk Hf H b fs → ∃ o, H b = some o
  | [], ⟨_, h⟩ => ⟨_, h⟩
  | [_, _, _], ⟨_, _, _, _, _, _, _, _, h, _⟩ => ⟨_, h⟩
  | [_], ⟨_, h, _⟩ => ⟨_, h⟩
  | [_, _], h => h.elim
  | _ :: _ :: _ :: _ :: _, h => h.elim
theorem MarkOk.mono {Hf H Hf' H' : Hp} {b : Addr} (s : Same Hf Hf') (e : H' b = H b) : ∀ {fs : List (Str × V)}, MarkOk Hf H b fs → MarkOk Hf' H' b fs
  | [], ⟨ps, h⟩ => ⟨ps, e.trans h⟩
  | [_, _, _], ⟨F, W, N, h0, h1, h2, h3, kvs, h4, h5, h6⟩ => ⟨F, W, N, h0, fun K => (h1 K).mono s, fun K => (h2 K).mono s, fun K => (h3 K).mono s, kvs, e.trans h4, h5, fun kv hk => by
    obtain ⟨d, p, r⟩ := h6 kv hk
    exact ⟨d, p, fun K => (r K).mono s⟩⟩
  | [_], ⟨ps, h, h2, h3⟩ => ⟨ps, e.trans h, h2, fun pos cv hc => by
    obtain ⟨c, e1, e2⟩ := h3 pos cv hc
    exact ⟨c, e1, s _ _ e2⟩⟩
  | [_, _], h => h.elim
  | _ :: _ :: _ :: _ :: _, h => h.elim
structure Fit (Hf H : Hp) : Prop where
  lk : Lk Hf H
  mks : ∀ b fs, Hf b = some (.xd fs) → MarkOk Hf H b fs
  tab : ∀ p ∈ Lots.tabs, Hf p.1 = some (.xd [(p.2, .non)])
theorem mk_eq {o : HO} (h : isMk o = true) : ∃ fs, o = .xd fs := by
  cases o with
  | xd fs => exact ⟨fs, rfl⟩
  | _ => cases h
theorem Fit.there {Hf H : Hp} (s : Fit Hf H) {b : Addr} {o : HO} (h : Hf b = some o) : ∃ u, H b = some u := by
  cases q : isMk o with
  | false => exact ⟨o, s.lk b o h q⟩
  | true =>
    obtain ⟨fs, rfl⟩ := mk_eq q
    exact (s.mks b fs h).there
def Keep (Hf H H' : Hp) : Prop := ∀ b o, H b = some o → H' b = some o ∨ (∃ fs, Hf b = some (.xd fs)) ∧ ∃ u, H' b = some u
class FreeOf (R : Prop) (H H' : outParam Hp) : Prop where
  go : R → ∀ {p : Addr}, H' p = none → H p = none
instance {H H' : Hp} : FreeOf (L2.Same H H') H H' := ⟨fun s _ n => L2.Same.free s n⟩
instance {H H' : Hp} : FreeOf (Fit H H') H H' := ⟨fun s p n => by
  cases q : H p with
  | none => rfl
  | some o =>
    obtain ⟨u, hu⟩ := s.there q
    rw [n] at hu
    cases hu⟩
instance {Hf H H' : Hp} : FreeOf (Keep Hf H H') H H' := ⟨fun s p n => by
  cases q : H p with
  | none => rfl
  | some o =>
    rcases s p o q with h | ⟨_, u, h⟩ <;> rw [n] at h <;> cases h⟩
theorem Same.free {R : Prop} {H H' : Hp} [f : FreeOf R H H'] (s : R) {p : Addr} (n : H' p = none) : H p = none := f.go s n
theorem Keep.refl (Hf H : Hp) : Keep Hf H H := fun _ _ e => .inl e
theorem Keep.of {Hf H H' : Hp} (s : L2.Same H H') : Keep Hf H H' := fun b o e => .inl (s b o e)
theorem Keep.at {Hf H H' : Hp} (s : Keep Hf H H') {b : Addr} {o : HO} (h : H b = some o) (nf : Hf b = none) : H' b = some o := by
  rcases s b o h with q | ⟨⟨fs, q⟩, _⟩
  · exact q
  · rw [nf] at q; cases q
structure Grow (Hf H Hf' H' : Hp) : Prop where
  f : L2.Same Hf Hf'
  h : Keep Hf H H'
  new : ∀ b o, Hf' b = some o → Hf b = some o ∨ H b = none ∨ ∃ xs, o = .tup xs
  sub : Fit Hf' H'
theorem Grow.refl {Hf H : Hp} (s : Fit Hf H) : Grow Hf H Hf H := ⟨L2.Same.refl _, Keep.refl _ _, fun _ _ e => .inl e, s⟩
theorem Grow.trans {Hf H Hf1 H1 Hf2 H2 : Hp} (a : Grow Hf H Hf1 H1) (b : Grow Hf1 H1 Hf2 H2) : Grow Hf H Hf2 H2 :=
  ⟨a.f.trans b.f, fun c o e => by
    rcases a.h c o e with q | ⟨m, u, q⟩
    · rcases b.h c o q with r | ⟨⟨fs, m⟩, r⟩
      · exact .inl r
      · rcases a.new c _ m with z | z | ⟨xs, z⟩
        · exact .inr ⟨⟨fs, z⟩, r⟩
        · rw [e] at z; cases z
        · cases z
    · rcases b.h c u q with r | ⟨_, r⟩
      · exact .inr ⟨m, u, r⟩
      · exact .inr ⟨m, r⟩, fun c o e => by
    rcases b.new c o e with q | q | q
    · exact a.new c o q
    · exact .inr (.inl (Same.free a.h q))
    · exact .inr (.inr q), b.sub⟩
theorem same_upd {H : Hp} {p : Addr} {o : HO} (h : H p = none) : L2.Same H (upd H p o) := fun b x e => by
  rw [upd_ne (ne_of_none e h)]
  exact e
theorem Fit.side {Hf H : Hp} {p : Addr} {o : HO} (s : Fit Hf H) (h : H p = none) : Fit Hf (upd H p o) :=
  ⟨fun b x e m => same_upd h _ _ (s.lk b x e m), fun b fs e => by
    have := s.mks b fs e
    obtain ⟨u, hu⟩ := this.there
    exact this.mono (L2.Same.refl _) (upd_ne (ne_of_none hu h)), s.tab⟩
theorem Fit.up {Hf H H' : Hp} (s : Fit Hf H) (t : L2.Same H H') : Fit Hf H' :=
  ⟨fun b x e m => t _ _ (s.lk b x e m), fun b fs e => by
    have := s.mks b fs e
    obtain ⟨u, hu⟩ := this.there
    exact this.mono (L2.Same.refl _) ((t _ _ hu).trans hu.symm), s.tab⟩
theorem Grow.push {Hf H : Hp} {p : Addr} {o : HO} (s : Fit Hf H) (h : H p = none) (hm : isMk o = false := by rfl) : Grow Hf H (upd Hf p o) (upd H p o) := by
  have hf : Hf p = none := Same.free s h
  refine ⟨same_upd hf, .of (same_upd h), fun b x e => ?_, fun b x e m => ?_, fun b fs e => ?_, fun q hq => same_upd hf _ _ (s.tab q hq)⟩
  · by_cases q : b = p
    · subst q; exact .inr (.inl h)
    · rw [upd_ne q] at e; exact .inl e
  · by_cases q : b = p
    · subst q; rw [upd_same] at e ⊢; exact e
    · rw [upd_ne q] at e ⊢; exact s.lk _ _ e m
  · by_cases q : b = p
    · subst q
      rw [upd_same] at e
      injection e with e
      rw [e] at hm
      cases hm
    · rw [upd_ne q] at e
      exact (s.mks b fs e).mono (same_upd hf) (upd_ne q)
theorem Grow.side {Hf H : Hp} {p : Addr} {o : HO} (s : Fit Hf H) (h : H p = none) : Grow Hf H Hf (upd H p o) :=
  ⟨L2.Same.refl _, .of (same_upd h), fun _ _ e => .inl e, s.side h⟩
theorem Grow.give {Hf H Hf' H' : Hp} {a : Addr} {o : HO} (g : Grow Hf H Hf' H') (na : H a = none) (nf : Hf' a = none) (ha : H' a = some o) (hm : isMk o = false := by rfl) : Grow Hf H (upd Hf' a o) H' := by
  refine ⟨g.f.trans (same_upd nf), g.h, fun b x e => ?_, fun b x e m => ?_, fun b fs e => ?_, fun q hq => same_upd nf _ _ (g.sub.tab q hq)⟩
  · by_cases q : b = a
    · subst q; exact .inr (.inl na)
    · rw [upd_ne q] at e; exact g.new b x e
  · by_cases q : b = a
    · subst q; rw [upd_same] at e; cases e; exact ha
    · rw [upd_ne q] at e; exact g.sub.lk b x e m
  · by_cases q : b = a
    · subst q
      rw [upd_same] at e
      injection e with e
      rw [e] at hm
      cases hm
    · rw [upd_ne q] at e
      exact (g.sub.mks b fs e).mono (same_upd nf) rfl
theorem Grow.lockd {Hf H Hf' H' : Hp} {a : Addr} {o : HO} (g : Grow Hf H Hf' H') (na : H a = none) (nf : Hf' a = none) (hm : isMk o = false := by rfl) : Grow Hf H (upd Hf' a o) (upd H' a o) := by
  refine ⟨g.f.trans (same_upd nf), fun b x e => ?_, fun b x e => ?_, fun b x e m => ?_, fun b fs e => ?_, fun q hq => same_upd nf _ _ (g.sub.tab q hq)⟩
  · rw [upd_ne (ne_of_none e na)]
    exact g.h _ _ e
  · by_cases q : b = a
    · subst q; exact .inr (.inl na)
    · rw [upd_ne q] at e; exact g.new b x e
  · by_cases q : b = a
    · subst q; rw [upd_same] at e ⊢; exact e
    · rw [upd_ne q] at e ⊢; exact g.sub.lk b x e m
  · by_cases q : b = a
    · subst q
      rw [upd_same] at e
      injection e with e
      rw [e] at hm
      cases hm
    · rw [upd_ne q] at e
      exact (g.sub.mks b fs e).mono (same_upd nf) (upd_ne q)
theorem Fit.turn {Hf H : Hp} {a : Addr} {o : HO} (s : Fit Hf H) (nf : Hf a = none) : Fit Hf (upd H a o) :=
  ⟨fun b x e m => by
    have : b ≠ a := fun z => by rw [z, nf] at e; cases e
    rw [upd_ne this]; exact s.lk b x e m, fun b fs e => by
    have : b ≠ a := fun z => by rw [z, nf] at e; cases e
    exact (s.mks b fs e).mono (L2.Same.refl _) (upd_ne this), s.tab⟩
theorem Grow.turn {Hf H Hf' H' : Hp} {a : Addr} {o : HO} (g : Grow Hf H Hf' H') (na : H a = none) (nf : Hf' a = none) : Grow Hf H Hf' (upd H' a o) :=
  ⟨g.f, fun b x e => by rw [upd_ne (ne_of_none e na)]; exact g.h _ _ e, g.new, g.sub.turn nf⟩
theorem Grow.off {Hf H Hf' H' : Hp} {a : Addr} {u : HO} (g : Grow Hf H Hf' H') (nf : Hf a = .none) (h : H a = some u) (nt : ∀ xs, u ≠ .tup xs) : Hf' a = .none := by
  cases q : Hf' a with
  | none => rfl
  | some o =>
    rcases g.new a o q with z | z | ⟨xs, z⟩
    · rw [nf] at z; cases z
    · rw [h] at z; cases z
    · subst z
      have k1 := g.sub.lk a _ q rfl
      have k2 := g.h.at h nf
      rw [k1] at k2
      injection k2 with k2
      exact absurd k2.symm (nt xs)
inductive Slot where
  | un
  | va (d : D)
  | ow (d : D)
abbrev Env := List Slot
section
variable (K : PySem.W.Frag)
def OwnAt (Hf H : Hp) (a : Addr) : D → Prop
  | .list ds => ∃ xs, Hf a = none ∧ H a = some (.lst xs) ∧ xs.length ≤ sizeLine ∧ RpL K Hf xs ds
  | .dict kds => (∃ kvs, Hf a = none ∧ H a = some (.dK kvs) ∧ kvs.length ≤ sizeLine ∧ RpK K Hf kvs kds) ∨
      ∃ nds xs, kds = [(.none, .dict nds)] ∧ Hf a = none ∧ H a = some (NDO Lots.w a xs) ∧ xs.length ≤ sizeLine ∧ RpN K Hf xs nds
  | _ => False
def Rp1 (Hf H : Hp) (v : V) (d : D) : Prop := Rp K Hf v d ∨ ∃ a, v = .ref a ∧ OwnAt K Hf H a d
def SlotR (H0 Hf H : Hp) (v : Option V) : Slot → Prop
  | .un => True
  | .va d => ∃ x, v = some x ∧ Rp K Hf x d
  | .ow d => ∃ a, v = some (.ref a) ∧ OwnAt K Hf H a d ∧ H0 a = none
structure EnvR (Hf0 H0 Hf H : Hp) (σ : L2.St) (ρ : Env) : Prop where
  grow : Grow Hf0 H0 Hf H
  len : σ.length = ρ.length
  slot : ∀ (i : Nat) (s : Slot) (v : Option V), ρ[i]? = some s → σ[i]? = some v → SlotR K H0 Hf H v s
  dis : ∀ (i j : Nat) (d e : D) (a : Addr), ρ[i]? = some (.ow d) → ρ[j]? = some (.ow e) → σ[i]? = some (some (.ref a)) → σ[j]? = some (some (.ref a)) → i = j
end
section
variable {K : PySem.W.Frag} {Hf0 H0 Hf H Hf' H' : Hp} {σ : L2.St} {ρ : Env}
theorem OwnAt.grow {a : Addr} {d : D} (g : Grow Hf H Hf' H') (h : OwnAt K Hf H a d) : OwnAt K Hf' H' a d := by
  have no : ∀ u, (∀ xs, u ≠ .tup xs) → Hf a = none → H a = some u → Hf' a = none := fun u nt h1 h2 => by
    cases q : Hf' a with
    | none => rfl
    | some o =>
      rcases g.new a o q with z | z | ⟨xs, z⟩
      · rw [h1] at z; cases z
      · rw [h2] at z; cases z
      · subst z
        have k1 := g.sub.lk a _ q rfl
        have k2 := g.h.at h2 h1
        rw [k1] at k2
        injection k2 with k2
        exact absurd k2.symm (nt xs)
  cases d with
  | list ds =>
    obtain ⟨xs, h1, h2, h3, h4⟩ := h
    exact ⟨xs, no _ (fun _ z => by cases z) h1 h2, g.h.at h2 h1, h3, h4.mono g.f⟩
  | dict kds =>
    rcases h with ⟨xs, h1, h2, h3, h4⟩ | ⟨nds, xs, e, h1, h2, h3, h4⟩
    · exact .inl ⟨xs, no _ (fun _ z => by cases z) h1 h2, g.h.at h2 h1, h3, h4.mono g.f⟩
    · exact .inr ⟨nds, xs, e, no _ (fun _ z => by cases z) h1 h2, g.h.at h2 h1, h3, h4.mono g.f⟩
  | _ => exact h.elim
theorem OwnAt.side {a : Addr} {d : D} (sm : L2.Same Hf Hf') (e1 : Hf' a = Hf a) (e2 : H' a = H a) (h : OwnAt K Hf H a d) : OwnAt K Hf' H' a d := by
  cases d with
  | list ds =>
    obtain ⟨xs, h1, h2, h3, h4⟩ := h
    exact ⟨xs, e1.trans h1, e2.trans h2, h3, h4.mono sm⟩
  | dict kds =>
    rcases h with ⟨xs, h1, h2, h3, h4⟩ | ⟨nds, xs, e, h1, h2, h3, h4⟩
    · exact .inl ⟨xs, e1.trans h1, e2.trans h2, h3, h4.mono sm⟩
    · exact .inr ⟨nds, xs, e, e1.trans h1, e2.trans h2, h3, h4.mono sm⟩
  | _ => exact h.elim
theorem OwnAt.there {a : Addr} {d : D} (h : OwnAt K Hf H a d) : ∃ u, H a = some u := by
  cases d with
  | list ds => obtain ⟨xs, _, q, _⟩ := h; exact ⟨_, q⟩
  | dict ds =>
    rcases h with ⟨xs, _, q, _⟩ | ⟨nds, xs, _, _, q, _⟩
    · exact ⟨_, q⟩
    · exact ⟨_, q⟩
  | _ => exact h.elim
theorem Rp1.grow {v : V} {d : D} (g : Grow Hf H Hf' H') (h : Rp1 K Hf H v d) : Rp1 K Hf' H' v d := by
  rcases h with h | ⟨a, e, h⟩
  · exact .inl (h.mono g.f)
  · exact .inr ⟨a, e, h.grow g⟩
theorem OwnAt.dp {a : Addr} {d : D} (s : Fit Hf H) (h : OwnAt K Hf H a d) (nd : noDict d = true) : Dp K H (.ref a) d := by
  cases d with
  | list ds =>
    obtain ⟨xs, _, h2, h3, h4⟩ := h
    exact .lst (SqL.of h2) (h4.dp s.lk nd)
  | dict kds => simp [noDict] at nd
  | _ => exact h.elim
theorem Rp1.dpN {v : V} {d : D} (s : Fit Hf H) (h : Rp1 K Hf H v d) (nd : noDict d = true) : Dp K H v d := by
  rcases h with h | ⟨a, e, h⟩
  · exact h.dp s.lk nd
  · subst e; exact h.dp s nd
theorem EnvR.more (e : EnvR K Hf0 H0 Hf H σ ρ) (g : Grow Hf H Hf' H') : EnvR K Hf0 H0 Hf' H' σ ρ := by
  refine ⟨e.grow.trans g, e.len, fun i s v h1 h2 => ?_, e.dis⟩
  have q := e.slot i s v h1 h2
  cases s with
  | un => trivial
  | va d => obtain ⟨x, hx, r⟩ := q; exact ⟨x, hx, r.mono g.f⟩
  | ow d => obtain ⟨a, hx, r, z⟩ := q; exact ⟨a, hx, r.grow g, z⟩
end
structure Pm where
  K : PySem.W.Frag
  E : XK
  cl : Str → Addr
  fr : Bool
def OutG {α β : Type} (C : Pm) (Rel : Hp → Hp → β → α → Prop) (Hf H : Hp) (r : R α) (Q : β → Hp → Prop) : Prop := match r with
  | .ok a => ∀ b Hf' H', Grow Hf H Hf' H' → Rel Hf' H' b a → Q b H'
  | .exc c => ∀ Hf' H', Grow Hf H Hf' H' → C.E (.ref (C.cl c)) none H'
  | .bad => False
def tG {α β : Type} (C : Pm) (Rel : Hp → Hp → β → α → Prop) (f : Env → R α) : L2.St → Hp → (β → Hp → Prop) → Prop := fun σ H Q =>
  ∃ (Hf0 H0 Hf : Hp) (ρ : Env), EnvR C.K Hf0 H0 Hf H σ ρ ∧ OutG C Rel Hf H (f ρ) Q
abbrev RelE (C : Pm) : Hp → Hp → V → D → Prop := fun Hf _ v d => Rp C.K Hf v d
abbrev RelP (C : Pm) : Hp → Hp → V → D → Prop := fun Hf H v d => Rp1 C.K Hf H v d
abbrev RelA (C : Pm) : Hp → Hp → List V → List D → Prop := fun Hf _ vs ds => RpL C.K Hf vs ds
abbrev RelT : Hp → Hp → Bool → Bool → Prop := fun _ _ b c => b = c
abbrev tE (C : Pm) (f : Env → R D) : TE := tG C (RelE C) f
abbrev tP (C : Pm) (f : Env → R D) : TE := tG C (RelP C) f
abbrev tA (C : Pm) (f : Env → R (List D)) : TA := tG C (RelA C) f
abbrev tT (C : Pm) (f : Env → R Bool) : TT := tG C RelT f
section
variable {α β γ δ : Type} {C : Pm} {Rel1 : Hp → Hp → β → α → Prop} {Rel2 : Hp → Hp → δ → γ → Prop} {Hf H Hf' H' : Hp}
theorem OutG.more {r : R α} {Q : β → Hp → Prop} (h : OutG C Rel1 Hf H r Q) (g : Grow Hf H Hf' H') : OutG C Rel1 Hf' H' r Q := by
  cases r with
  | ok a => exact fun b Hf2 H2 g2 q => h b Hf2 H2 (g.trans g2) q
  | exc c => exact fun Hf2 H2 g2 => h Hf2 H2 (g.trans g2)
  | bad => exact h.elim
theorem OutG.bind {r : R α} {k : α → R γ} {Q1 : β → Hp → Prop} {Q : δ → Hp → Prop} (h : OutG C Rel2 Hf H (r >>= k) Q)
    (hk : ∀ a b Hf1 H1, r = .ok a → Grow Hf H Hf1 H1 → Rel1 Hf1 H1 b a → OutG C Rel2 Hf1 H1 (k a) Q → Q1 b H1) : OutG C Rel1 Hf H r Q1 := by
  cases r with
  | ok a => exact fun b Hf1 H1 g q => hk a b Hf1 H1 rfl g q (OutG.more (show OutG C Rel2 Hf H (k a) Q from h) g)
  | exc c => exact h
  | bad => exact h.elim
theorem OutG.here {a : α} {Q : β → Hp → Prop} {b : β} (h : OutG C Rel1 Hf H (.ok a) Q) (s : Fit Hf H) (q : Rel1 Hf H b a) : Q b H := h b Hf H (Grow.refl s) q
end
theorem PE.imp {X : Cx} {e : Expr} {t u : TE} (h : PE X e t) (q : ∀ σ H Q, u σ H Q → t σ H Q) : PE X e u := ⟨fun pins s σ H Q I hu => h.run pins s σ H Q I (q σ H Q hu)⟩
theorem PT.imp {X : Cx} {e : Expr} {t u : TT} (h : PT X e t) (q : ∀ σ H Q, u σ H Q → t σ H Q) : PT X e u := ⟨fun pins s σ H Q I hu => h.run pins s σ H Q I (q σ H Q hu)⟩
theorem PW.imp {X : Cx} {e : Expr} {t u : TT} (h : PW X e t) (q : ∀ σ H Q, u σ H Q → t σ H Q) : PW X e u := ⟨fun wh pins s σ H Q I hu => h.run wh pins s σ H Q I (q σ H Q hu)⟩
theorem PA.imp {X : Cx} {es : List Expr} {t u : TA} (h : PA X es t) (q : ∀ σ H Q, u σ H Q → t σ H Q) : PA X es u := ⟨fun pos pins s σ H Q I hu => h.run pos pins s σ H Q I (q σ H Q hu)⟩
theorem PS.imp {X : Cx} {e : Stmt} {t u : TS} (h : PS X e t) (q : ∀ Dn σ H, u Dn σ H → t Dn σ H) : PS X e u := ⟨fun pins s σ H Q I hu => h.run pins s σ H Q I (q Q σ H hu)⟩
theorem PSs.imp {X : Cx} {e : List Stmt} {t u : TS} (h : PSs X e t) (q : ∀ Dn σ H, u Dn σ H → t Dn σ H) : PSs X e u := ⟨fun pins s σ H Q I hu => h.run pins s σ H Q I (q Q σ H hu)⟩
theorem PI.imp {X : Cx} {tg e : Expr} {t u : TI} (h : PI X tg e t) (q : ∀ σ H Q, u σ H Q → t σ H Q) : PI X tg e u := ⟨fun pins s σ H Q I hu => h.run pins s σ H Q I (q σ H Q hu)⟩
theorem PG.imp {X : Cx} {e : Expr} {t u : TG} (h : PG X e t) (q : ∀ v σ H Q, u v σ H Q → t v σ H Q) : PG X e u := ⟨fun pins s σ H v u' Q I r hu => h.run pins s σ H v u' Q I r (q v σ H Q hu)⟩
theorem pe_bad {X : Cx} {e : Expr} {C : Pm} {Rel : Hp → Hp → V → D → Prop} : PE X e (tG C Rel fun _ => .bad) := ⟨fun _ _ _ _ _ _ ⟨_, _, _, _, _, h⟩ => h.elim⟩
theorem pt_bad {X : Cx} {e : Expr} {C : Pm} : PT X e (tT C fun _ => .bad) := ⟨fun _ _ _ _ _ _ ⟨_, _, _, _, _, h⟩ => h.elim⟩
theorem pw_bad {X : Cx} {e : Expr} {C : Pm} : PW X e (tT C fun _ => .bad) := ⟨fun _ _ _ _ _ _ _ ⟨_, _, _, _, _, h⟩ => h.elim⟩
theorem pa_bad {X : Cx} {es : List Expr} {C : Pm} {Rel : Hp → Hp → List V → List D → Prop} : PA X es (tG C Rel fun _ => .bad) := ⟨fun _ _ _ _ _ _ _ ⟨_, _, _, _, _, h⟩ => h.elim⟩
end DL
namespace DL
open PySem PySem.Spec PyProof.Rows L2
variable [Lots]
def keyEqB : D → D → Bool
  | .int i, .int j => decide (i = j)
  | .str a, .str b => decide (a = b)
  | _, _ => false
def lookD (kds : List (D × D)) (k : D) : Option D := (kds.find? fun kv => keyEqB kv.1 k).map (·.2)
def putD (kds : List (D × D)) (k d : D) : List (D × D) := if (kds.any fun kv => keyEqB kv.1 k) = true then kds.map (fun kv => if keyEqB kv.1 k = true then (kv.1, d) else kv) else kds ++ [(k, d)]
def keyOfD : D → Option Key
  | .int i => some (.inl i)
  | .str x => some (.inr x)
  | _ => none
theorem keyOf_ok {d : D} {k : Key} (h : keyOfD d = some k) : d = keyD k := by
  unfold keyOfD at h
  split at h <;> cases h <;> rfl
theorem keyEq_ok (a b : Key) : keyEqB (keyD a) (keyD b) = decide (a = b) := by
  cases a <;> cases b <;> simp [keyD, keyEqB]
section
variable {K : PySem.W.Frag} {H : Hp}
theorem RpK.look {k : Key} : ∀ {kvs : List (Key × V)} {kds : List (D × D)} {d : D}, RpK K H kvs kds → lookD kds (keyD k) = some d → ∃ v, valV kvs k = some v ∧ Rp K H v d
  | _, _, d, .nil, h => by simp [lookD] at h
  | _, _, d, @RpK.cons _ _ _ k' v kvs d' kds h1 h2, h => by
    by_cases e : k' = k
    · subst e
      have : lookD ((keyD k', d') :: kds) (keyD k') = some d' := by simp [lookD, List.find?_cons, keyEq_ok]
      rw [this] at h
      cases h
      exact ⟨v, valV_pos rfl, h1⟩
    · have e1 : lookD ((keyD k', d') :: kds) (keyD k) = lookD kds (keyD k) := by simp [lookD, List.find?_cons, keyEq_ok, e]
      rw [e1] at h
      obtain ⟨w, q1, q2⟩ := RpK.look h2 h
      refine ⟨w, ?_, q2⟩
      rw [← q1]
      simp [valV, List.find?_cons, e]
theorem RpK.any {k : Key} : ∀ {kvs : List (Key × V)} {kds : List (D × D)}, RpK K H kvs kds → (kvs.any fun kv => decide (kv.1 = k)) = kds.any fun kv => keyEqB kv.1 (keyD k)
  | _, _, .nil => rfl
  | _, _, .cons h1 h2 => by simp only [List.any_cons, RpK.any h2, keyEq_ok]
theorem RpK.upd_ {k : Key} {v : V} {d : D} (hv : Rp K H v d) : ∀ {kvs : List (Key × V)} {kds : List (D × D)}, RpK K H kvs kds → RpK K H (kvs.map fun kv => if kv.1 = k then (kv.1, v) else kv) (kds.map fun kv => if keyEqB kv.1 (keyD k) = true then (kv.1, d) else kv)
  | _, _, .nil => .nil
  | _, _, @RpK.cons _ _ _ k' v' kvs d' kds h1 h2 => by
    have ih := RpK.upd_ (k := k) hv h2
    simp only [List.map_cons, keyEq_ok, decide_eq_true_eq]
    by_cases e : k' = k
    · simp only [e, if_true]
      exact .cons hv ih
    · simp only [e, if_false]
      exact .cons h1 ih
theorem RpK.app {k : Key} {v : V} {d : D} (hv : Rp K H v d) : ∀ {kvs : List (Key × V)} {kds : List (D × D)}, RpK K H kvs kds → RpK K H (kvs ++ [(k, v)]) (kds ++ [(keyD k, d)])
  | _, _, .nil => .cons hv .nil
  | _, _, .cons h1 h2 => .cons h1 (RpK.app hv h2)
theorem RpK.put {k : Key} {v : V} {d : D} (hv : Rp K H v d) {kvs : List (Key × V)} {kds : List (D × D)} (h : RpK K H kvs kds) : RpK K H (putK kvs k v) (putD kds (keyD k) d) := by
  unfold putK putD
  rw [h.any]
  split
  · exact h.upd_ hv
  · exact h.app hv
def mergeD (kds : List (D × D)) (more : List (Key × D)) : List (D × D) := more.foldl (fun acc kv => putD acc (keyD kv.1) kv.2) kds
theorem RpK.merge : ∀ {more : List (Key × V)} {md : List (Key × D)}, Paired (fun (a : Key × V) (b : Key × D) => a.1 = b.1 ∧ Rp K H a.2 b.2) more md → ∀ {kvs : List (Key × V)} {kds : List (D × D)}, RpK K H kvs kds → RpK K H (mergeK kvs more) (mergeD kds md)
  | _, _, .nil, _, _, h => h
  | _, _, @Paired.cons _ _ _ a b as bs r t, kvs, kds, h => by
    obtain ⟨e, hv⟩ := r
    show RpK K H (mergeK (putK kvs a.1 a.2) as) (mergeD (putD kds (keyD b.1) b.2) bs)
    rw [← e]
    exact RpK.merge t (h.put hv)
def pairsD : List D → Option (List (Key × D))
  | [] => some []
  | .tuple [k, d] :: r => (match keyOfD k, pairsD r with | some k', some r' => some ((k', d) :: r') | _, _ => none)
  | _ :: _ => none
theorem pairs_rp : ∀ {ds : List D} {md : List (Key × D)} {xs : List V}, pairsD ds = some md → RpL K H xs ds → ∃ (ps : List Addr) (kvs : List (Key × V)), xs = ps.map V.ref ∧ Paired (fun p kv => H p = some (.tup [kV kv.1, kv.2])) ps kvs ∧ Paired (fun (a : Key × V) (b : Key × D) => a.1 = b.1 ∧ Rp K H a.2 b.2) kvs md
  | [], md, xs, h, r => by
    cases h
    cases r
    exact ⟨[], [], rfl, .nil, .nil⟩
  | d :: ds, md, xs, h, r => by
    unfold pairsD at h
    split at h
    · cases ‹d :: ds = []›
    · rename_i k d' r' e
      cases e
      split at h
      · rename_i k' md' hk hr
        cases h
        cases r with
        | cons h1 h2 =>
          obtain ⟨ps, kvs, rfl, p1, p2⟩ := pairs_rp hr h2
          cases h1 with
          | tup q1 q2 q3 =>
            cases q3 with
            | cons y1 y2 =>
              cases y2 with
              | cons z1 z2 =>
                cases z2
                rename_i a v1 v2
                have hkv : v1 = kV k' := by
                  have := keyOf_ok hk
                  subst this
                  cases k' <;> cases y1 <;> rfl
                subst hkv
                exact ⟨a :: ps, (k', v2) :: kvs, rfl, .cons q1 p1, .cons ⟨rfl, z1⟩ p2⟩
      · cases h
    · cases h
end
theorem Rp1.dict_ {K : PySem.W.Frag} {Hf H : Hp} {v : V} {kds : List (D × D)} {k : Key} {d : D} (s : Fit Hf H) (h : Rp1 K Hf H v (.dict kds)) (hl : lookD kds (keyD k) = some d) : ∃ a kvs, v = .ref a ∧ Rd H a (.dK kvs) ∧ kvs.length ≤ sizeLine ∧ RpK K Hf kvs kds := by
  rcases h with h | ⟨a, e, h⟩
  · generalize e : (PyData.dict kds : D) = z at h
    cases h with
    | scr h1 h2 =>
      cases e
      cases k <;> simp [lookD, List.find?_cons, keyD, keyEqB] at hl
    | dit h1 h2 h3 =>
      cases e
      cases k <;> simp [lookD, List.find?_cons, keyD, keyEqB] at hl
    | kno h1 h2 h3 h4 h5 =>
      cases e
      cases k <;> simp [lookD, List.find?_cons, keyD, keyEqB] at hl
    | dic h1 h2 h3 =>
      cases e
      exact ⟨_, _, rfl, .inr ⟨_, s.lk _ _ h1 rfl⟩, h2, h3⟩
    | _ => cases e
  · rcases h with ⟨kvs, h1, h2, h3, h4⟩ | ⟨nds, xs, q, _⟩
    · exact ⟨a, kvs, e, .inl h2, h3, h4⟩
    · subst q
      cases k <;> simp [lookD, List.find?_cons, keyD, keyEqB] at hl
def dkB (kds : List (D × D)) : Bool := kds.all fun kv => (keyOfD kv.1).isSome
theorem Rp1.dic_ {K : PySem.W.Frag} {Hf H : Hp} {v : V} {kds : List (D × D)} (s : Fit Hf H) (h : Rp1 K Hf H v (.dict kds)) (hk : dkB kds = true) : ∃ a kvs, v = .ref a ∧ Rd H a (.dK kvs) ∧ kvs.length ≤ sizeLine ∧ RpK K Hf kvs kds := by
  rcases h with h | ⟨a, e, h⟩
  · generalize e : (PyData.dict kds : D) = z at h
    cases h with
    | scr h1 h2 =>
      cases e
      simp [dkB, keyOfD] at hk
    | dit h1 h2 h3 =>
      cases e
      simp [dkB, keyOfD] at hk
    | kno h1 h2 h3 h4 h5 =>
      cases e
      simp [dkB, keyOfD] at hk
    | dic h1 h2 h3 =>
      cases e
      exact ⟨_, _, rfl, .inr ⟨_, s.lk _ _ h1 rfl⟩, h2, h3⟩
    | _ => cases e
  · rcases h with ⟨kvs, h1, h2, h3, h4⟩ | ⟨nds, xs, q, _⟩
    · exact ⟨a, kvs, e, .inl h2, h3, h4⟩
    · subst q
      simp [dkB, keyOfD] at hk
theorem Rp1.key_ {K : PySem.W.Frag} {Hf H : Hp} {v : V} {k : Key} (h : Rp1 K Hf H v (keyD k)) : v = kV k := by
  rcases h with h | ⟨a, e, h⟩
  · cases k <;> (cases h; rfl)
  · cases k <;> exact h.elim
theorem RpK.none {K : PySem.W.Frag} {H : Hp} {k : Key} : ∀ {kvs : List (Key × V)} {kds : List (D × D)}, RpK K H kvs kds → lookD kds (keyD k) = none → valV kvs k = none
  | _, _, .nil, _ => rfl
  | _, _, @RpK.cons _ _ _ k' v kvs d' kds h1 h2, h => by
    by_cases e : k' = k
    · subst e
      simp [lookD, List.find?_cons, keyEq_ok] at h
    · have e1 : lookD ((keyD k', d') :: kds) (keyD k) = lookD kds (keyD k) := by simp [lookD, List.find?_cons, keyEq_ok, e]
      rw [e1] at h
      have := RpK.none h2 h
      rw [← this]
      simp [valV, List.find?_cons, e]
theorem RpK.isSome {K : PySem.W.Frag} {H : Hp} {k : Key} {kvs : List (Key × V)} {kds : List (D × D)} (h : RpK K H kvs kds) : (valV kvs k).isSome = (lookD kds (keyD k)).isSome := by
  cases e : lookD kds (keyD k) with
  | none => rw [h.none e]; rfl
  | some d =>
    obtain ⟨v, q, _⟩ := h.look e
    rw [q]
    rfl
theorem RpK.get {K : PySem.W.Frag} {H : Hp} : ∀ {kvs : List (Key × V)} {kds : List (D × D)} {i : Nat} {kd : D × D}, RpK K H kvs kds → kds[i]? = some kd → ∃ k v, kvs[i]? = some (k, v) ∧ kd.1 = keyD k ∧ Rp K H v kd.2
  | _, _, _, _, .nil, h => by simp at h
  | _, _, 0, kd, .cons h1 h2, h => by
    simp at h
    subst h
    exact ⟨_, _, rfl, rfl, h1⟩
  | _, _, i + 1, kd, .cons h1 h2, h => by
    simp only [List.getElem?_cons_succ] at h ⊢
    exact RpK.get h2 h
end DL
namespace DL
open PySem PySem.Spec PyProof.Rows L2
variable [Lots]
def lookN (nds : List (D × D)) (k : D) : Option D := (nds.find? fun kv => keyQ kv.1 k).map (·.2)
def putN (nds : List (D × D)) (k d : D) : List (D × D) := if (nds.any fun kv => keyQ kv.1 k) = true then nds.map (fun kv => if keyQ kv.1 k = true then (kv.1, d) else kv) else nds ++ [(k, d)]
mutual
theorem keyN_noDict : ∀ d : D, keyN d = true → noDict d = true
  | .none, _ => rfl
  | .int _, _ => rfl
  | .str _, _ => rfl
  | .tuple ds, h => by
    simp only [noDict]
    exact keysN_noDict ds (by simpa only [keyN] using h)
  | .bool _, h => by simp [keyN] at h
  | .list _, h => by simp [keyN] at h
  | .dict _, h => by simp [keyN] at h
theorem keysN_noDict : ∀ ds : List D, keysN ds = true → noDictL ds = true
  | [], _ => rfl
  | d :: ds, h => by
    simp only [keysN, Bool.and_eq_true] at h
    simp only [noDictL, keyN_noDict d h.1, keysN_noDict ds h.2, Bool.and_self]
end
mutual
theorem keyN_reads {h : Heap} : ∀ (d : D) (v : Value) (as : List Addr), Reads h v d as → keyN d = true → NestedIs h (keyOf d) v
  | .none, _, _, r, _ => by cases r; exact .none
  | .int i, _, _, r, _ => by cases r; exact .int _ _
  | .str i, _, _, r, _ => by cases r; exact .text _ _
  | .tuple ds, _, _, r, k => by
    cases r with
    | tuple g1 g2 g3 g4 =>
      simp only [keyN] at k
      simp only [keyOf]
      exact .tup g1 g2 g3 (keysN_reads ds _ _ g4 k)
  | .bool _, _, _, _, k => by simp [keyN] at k
  | .list _, _, _, _, k => by simp [keyN] at k
  | .dict _, _, _, _, k => by simp [keyN] at k
theorem keysN_reads {h : Heap} : ∀ (ds : List D) (vs : List Value) (as : List Addr), ReadsAll h vs ds as → keysN ds = true → NestedAll h (keysOf ds) vs
  | [], _, _, r, _ => by cases r; exact .nil
  | d :: ds, _, _, r, k => by
    cases r with
    | cons r1 r2 =>
      simp only [keysN, Bool.and_eq_true] at k
      simp only [keysOf]
      exact .cons (keyN_reads d _ _ r1 k.1) (keysN_reads ds _ _ r2 k.2)
end
section
variable {X : Cx} {pins : List (Addr × Obj)} {σ : L2.St} {Hf H : Hp} {s : Shared} {a b : Addr} {xs : List NE} {nds : List (D × D)} {kd d : D} {A : Around} {E : Value → Shared → Prop}
theorem key_is (I : Inv X pins σ H s) (sf : Fit Hf H) (r : Rp X.K Hf (.ref b) kd) (k : keyT kd = true) : (nestedKind X.prog X.w).is s.heap (keyOf kd) b := by
  obtain ⟨k1, k2, _⟩ := keyT_n k
  obtain ⟨as, q⟩ := Dp.reads I kd (.ref b) (.ref b) (r.dp sf.lk (keyN_noDict kd k1)) rfl
  exact ⟨keyN_reads kd _ _ q k1, k2⟩
theorem RpN.mem {K : PySem.W.Frag} {H : Hp} : ∀ {xs : List NE} {nds : List (D × D)}, RpN K H xs nds → ∀ y ∈ xs, ∃ kd, y.1 = keyOf kd ∧ keyT kd = true ∧ Rp K H (.ref y.2.1) kd
  | _, _, .nil, _, h => nomatch h
  | _, _, .cons (kd := kd) hk kt rv hv r, y, h => by
    rcases List.mem_cons.mp h with e | e
    · subst e; exact ⟨kd, rfl, kt, hk⟩
    · exact RpN.mem r y e
theorem nd_of (hw : X.w = Lots.w) (I : Inv X pins σ H s) (sf : Fit Hf H) (ha : Rd H a (NDO Lots.w a xs)) (r : RpN X.K Hf xs nds) : s.heap.DictOfH (nestedKind X.prog X.w) a xs ∧ (a == sysModules) = false := by
  have x := ndo_back (rd_of I.hok ha)
  refine ⟨?_, x.sm⟩
  rw [← hw] at x
  refine x.to fun y hy => ?_
  obtain ⟨kd, e, kt, rk⟩ := r.mem y hy
  rw [e]
  exact key_is I sf rk kt
theorem RpN.look {K : PySem.W.Frag} {H : Hp} {k : D} (hk : keyN k = true) : ∀ {xs : List NE} {nds : List (D × D)}, RpN K H xs nds → (∀ d, lookN nds k = some d → ∃ b u v, atKey xs (keyOf k) = some (b, u) ∧ RelV v u ∧ Rp K H v d) ∧ (lookN nds k = none → atKey xs (keyOf k) = none)
  | _, _, .nil => ⟨fun d h => by simp [lookN] at h, fun _ => rfl⟩
  | _, _, @RpN.cons _ _ _ b v u kd d xs nds hb kt rv hv r => by
    obtain ⟨i1, i2⟩ := RpN.look hk r
    have e := keyQ_dec (keyT_n kt).1 hk
    by_cases q : keyOf kd = keyOf k
    · rw [decide_eq_true q] at e
      have e1 : lookN ((kd, d) :: nds) k = some d := by simp [lookN, List.find?_cons, e]
      have e2 : atKey ((keyOf kd, b, u) :: xs) (keyOf k) = some (b, u) := by simp [atKey, List.find?_cons, q]
      refine ⟨fun d' h => ?_, fun h => ?_⟩
      · rw [e1] at h
        cases h
        exact ⟨b, u, v, e2, rv, hv⟩
      · rw [e1] at h; cases h
    · rw [decide_eq_false q] at e
      have e1 : lookN ((kd, d) :: nds) k = lookN nds k := by simp [lookN, List.find?_cons, e]
      have e2 : atKey ((keyOf kd, b, u) :: xs) (keyOf k) = atKey xs (keyOf k) := by simp [atKey, List.find?_cons, q]
      rw [e1, e2]
      exact ⟨i1, i2⟩
theorem RpN.some_ {K : PySem.W.Frag} {H : Hp} {k : D} (hk : keyN k = true) {xs : List NE} {nds : List (D × D)} (r : RpN K H xs nds) : (atKey xs (keyOf k)).isSome = (lookN nds k).isSome := by
  obtain ⟨i1, i2⟩ := r.look hk
  cases h : lookN nds k with
  | none => rw [i2 h]; rfl
  | some d =>
    obtain ⟨b, u, v, e, _⟩ := i1 d h
    rw [e]
    rfl
theorem look_any (nds : List (D × D)) (k : D) : (nds.any fun kv => keyQ kv.1 k) = (lookN nds k).isSome := by
  unfold lookN
  rw [Option.isSome_map, Bool.eq_iff_iff, List.find?_isSome]
  simp
theorem RpN.repl {K : PySem.W.Frag} {H : Hp} {k : D} (hk : keyN k = true) {v : V} {u : Value} {d : D} (rv : RelV v u) (hv : Rp K H v d) : ∀ {xs : List NE} {nds : List (D × D)}, RpN K H xs nds → RpN K H (xs.map (putAt (keyOf k) u)) (nds.map fun kv => if keyQ kv.1 k = true then (kv.1, d) else kv)
  | _, _, .nil => .nil
  | _, _, @RpN.cons _ _ _ b v' u' kd d' xs nds hb kt rv' hv' r => by
    have ih := RpN.repl hk rv hv r
    have e := keyQ_dec (keyT_n kt).1 hk
    rw [List.map_cons, List.map_cons]
    by_cases q : keyOf kd = keyOf k
    · rw [decide_eq_true q] at e
      simp only [putAt, if_pos q, e, if_true]
      exact .cons hb kt rv hv ih
    · rw [decide_eq_false q] at e
      simp only [putAt, if_neg q, e, Bool.false_eq_true, if_false]
      exact .cons hb kt rv' hv' ih
theorem RpN.snoc {K : PySem.W.Frag} {H : Hp} {b : Addr} {k : D} (hb : Rp K H (.ref b) k) (kt : keyT k = true) {v : V} {u : Value} {d : D} (rv : RelV v u) (hv : Rp K H v d) : ∀ {xs : List NE} {nds : List (D × D)}, RpN K H xs nds → RpN K H (xs ++ [(keyOf k, b, u)]) (nds ++ [(k, d)])
  | _, _, .nil => .cons hb kt rv hv .nil
  | _, _, .cons hb' kt' rv' hv' r => .cons hb' kt' rv' hv' (RpN.snoc hb kt rv hv r)
theorem RpN.put {K : PySem.W.Frag} {H : Hp} {b : Addr} {k : D} (hb : Rp K H (.ref b) k) (kt : keyT k = true) {v : V} {u : Value} {d : D} (rv : RelV v u) (hv : Rp K H v d) {xs : List NE} {nds : List (D × D)} (r : RpN K H xs nds) : RpN K H (storedH xs (keyOf k) b u) (putN nds k d) := by
  have e := r.some_ (keyT_n kt).1
  unfold storedH putN
  rw [look_any, ← e]
  cases (atKey xs (keyOf k)).isSome with
  | true => exact r.repl (keyT_n kt).1 rv hv
  | false => exact r.snoc hb kt rv hv
theorem room_n (hu : A.units + 65 < cLine) : (nestedKind X.prog X.w).room A.in1 := by
  show A.in1.units + 8 < cLine
  have : A.in1.units = A.units + 1 := rfl
  omega
theorem n_getItem {k : D} {v : V} {Q : Value → Shared → Prop} (hw : X.w = Lots.w) (hu : A.units + 65 < cLine) (I : Inv X pins σ H s) (sf : Fit Hf H) (ha : Rd H a (NDO Lots.w a xs)) (r : RpN X.K Hf xs nds) (hb : Rp X.K Hf (.ref b) k) (kt : keyT k = true) (hd : lookN nds k = some d)
    (h : ∀ v w' s', Inv X pins σ H s' → RelV v w' → Rp X.K Hf v d → Q w' s') : wpAny (model X.prog X.w) A (getItem (.ref a) (.ref b)) Q E s := by
  obtain ⟨dd, _⟩ := nd_of hw I sf ha r
  obtain ⟨c, u, v, e, rv, hv⟩ := (r.look (keyT_n kt).1).1 d hd
  exact wpAny_getItem_heap (room_n hu) (key_is I sf hb kt) dd e (h v u _ (I.tok _) rv hv)
theorem n_in {k : D} {Q : Value → Shared → Prop} (hw : X.w = Lots.w) (hu : A.units + 65 < cLine) (I : Inv X pins σ H s) (sf : Fit Hf H) (ha : Rd H a (NDO Lots.w a xs)) (r : RpN X.K Hf xs nds) (hb : Rp X.K Hf (.ref b) k) (kt : keyT k = true)
    (h : ∀ s', Inv X pins σ H s' → Q (.bool (lookN nds k).isSome) s') : wpAny (model X.prog X.w) A (compareOp .In (.ref b) (.ref a)) Q E s := by
  obtain ⟨dd, hd⟩ := nd_of hw I sf ha r
  refine wpAny_in_heap (room_n hu) (key_is I sf hb kt) hd dd ?_
  rw [r.some_ (keyT_n kt).1]
  exact h _ (I.tok _)
theorem n_notIn {k : D} {Q : Value → Shared → Prop} (hw : X.w = Lots.w) (hu : A.units + 65 < cLine) (I : Inv X pins σ H s) (sf : Fit Hf H) (ha : Rd H a (NDO Lots.w a xs)) (r : RpN X.K Hf xs nds) (hb : Rp X.K Hf (.ref b) k) (kt : keyT k = true)
    (h : ∀ s', Inv X pins σ H s' → Q (.bool (!(lookN nds k).isSome)) s') : wpAny (model X.prog X.w) A (compareOp .NotIn (.ref b) (.ref a)) Q E s := by
  obtain ⟨dd, hd⟩ := nd_of hw I sf ha r
  refine wpAny_notIn_heap (room_n hu) (key_is I sf hb kt) hd dd ?_
  rw [r.some_ (keyT_n kt).1]
  exact h _ (I.tok _)
theorem n_setItem {k : D} {v : V} {u : Value} {Q : Unit → Shared → Prop} (hw : X.w = Lots.w) (hu : A.units + 65 < cLine) (I : Inv X pins σ H s) (sf : Fit Hf H) (ha : H a = some (NDO Lots.w a xs)) (hl : xs.length ≤ sizeLine) (r : RpN X.K Hf xs nds) (hb : Rp X.K Hf (.ref b) k) (kt : keyT k = true) (rv : RelV v u)
    (h : ∀ s', Inv X pins σ (upd H a (NDO Lots.w a (storedH xs (keyOf k) b u))) s' → Q () s') : wpAny (model X.prog X.w) A (setItem (.ref a) (.ref b) u) Q E s := by
  obtain ⟨dd, hd⟩ := nd_of hw I sf (.inl ha) r
  refine wpAny_setItem_heap (hsz := hl) (room_n hu) (key_is I sf hb kt) dd fun h' dd' hs => h _ ?_
  have x := ND0.of hd dd'
  obtain ⟨o, ho⟩ : ∃ o, h'.get? a = some o := let ⟨o, _, _, ho, _⟩ := x.ex; ⟨o, ho⟩
  refine d_write I (by rw [ha]; exact True.intro) hs ⟨o, ho⟩ (ndo_ok ?_)
  rw [← hw]
  exact x
theorem nd_empty (hw : X.w = Lots.w) (I : Inv X pins σ H s) (ha : H a = some (.dK [])) : ND0 Lots.w s.heap a [] := by
  obtain ⟨_, hd, vs, rel, o, es, ep, h1, h2, h3, h4⟩ := dk_of I.hok ha
  cases rel
  exact ⟨⟨o, es, ep, h1, h2, h3, by
    have q := h4.2.1
    generalize es.toList = l at q ⊢
    cases q
    rfl⟩, by simp, hd⟩
theorem nd_emptyR (I : Inv X pins σ H s) (ha : Rd H a (.dK [])) : ND0 Lots.w s.heap a [] := by
  obtain ⟨_, hd, vs, rel, o, es, ep, h1, h2, h3, h4⟩ := dk_rd I.hok ha
  cases rel
  exact ⟨⟨o, es, ep, h1, h2, h3, by
    have q := h4.2.1
    generalize es.toList = l at q ⊢
    cases q
    rfl⟩, by simp, hd⟩
theorem e_in {Q : Value → Shared → Prop} {k : D} (hu : A.units + 65 < cLine) (I : Inv X pins σ H s) (sf : Fit Hf H) (ha : Rd H a (.dK [])) (hb : Rp X.K Hf (.ref b) k) (kt : keyT k = true)
    (h : ∀ s', Inv X pins σ H s' → Q (.bool false) s') : wpAny (model X.prog X.w) A (compareOp .In (.ref b) (.ref a)) Q E s := by
  have x := nd_emptyR I ha
  have dd : s.heap.DictOfH (nestedKind X.prog X.w) a [] := ND0.to (P := X.prog) (w := X.w) ⟨x.ex, x.nd, x.sm⟩ fun y hy => nomatch hy
  exact wpAny_in_heap (room_n hu) (key_is I sf hb kt) x.sm dd (h _ (I.tok _))
theorem e_notIn {Q : Value → Shared → Prop} {k : D} (hu : A.units + 65 < cLine) (I : Inv X pins σ H s) (sf : Fit Hf H) (ha : Rd H a (.dK [])) (hb : Rp X.K Hf (.ref b) k) (kt : keyT k = true)
    (h : ∀ s', Inv X pins σ H s' → Q (.bool true) s') : wpAny (model X.prog X.w) A (compareOp .NotIn (.ref b) (.ref a)) Q E s := by
  have x := nd_emptyR I ha
  have dd : s.heap.DictOfH (nestedKind X.prog X.w) a [] := ND0.to (P := X.prog) (w := X.w) ⟨x.ex, x.nd, x.sm⟩ fun y hy => nomatch hy
  exact wpAny_notIn_heap (room_n hu) (key_is I sf hb kt) x.sm dd (h _ (I.tok _))
end
theorem Rp.nd_ {K : PySem.W.Frag} {Hf : Hp} {v : V} {nds : List (D × D)} (h : Rp K Hf v (.dict [(.none, .dict nds)])) : ∃ a ob xs, v = .ref a ∧ Hf a = some (.frz ob (NDO Lots.w a xs)) ∧ xs.length ≤ sizeLine ∧ RpN K Hf xs nds := by
  generalize e : (PyData.dict [(.none, .dict nds)] : D) = d at h
  cases h with
  | scr h1 h2 => unfold DL.scr at e; cases e
  | @dic a ob kvs kds h1 h2 h3 =>
    injection e with e
    subst e
    exfalso
    generalize q : ([(PyData.none, PyData.dict nds)] : List (D × D)) = l at h3
    cases h3 with
    | nil => cases q
    | @cons k v kvs d' kds h1 h2 =>
      injection q with q1 _
      cases k with
      | inl i => cases q1
      | inr x => cases q1
  | dit h1 h2 h3 =>
    unfold tdD at e
    cases e
    exact ⟨_, _, _, rfl, h1, h2, h3⟩
  | kno h1 h2 h3 h4 h5 => unfold knD at e; cases e
  | _ => cases e
theorem Rp1.nd_ {K : PySem.W.Frag} {Hf H : Hp} {v : V} {nds : List (D × D)} (s : Fit Hf H) (h : Rp1 K Hf H v (.dict [(.none, .dict nds)])) : ∃ a xs, v = .ref a ∧ Rd H a (NDO Lots.w a xs) ∧ xs.length ≤ sizeLine ∧ RpN K Hf xs nds := by
  rcases h with h | ⟨a, e, h⟩
  · obtain ⟨a, ob, xs, e, h1, h2, h3⟩ := h.nd_
    exact ⟨a, xs, e, .inr ⟨ob, s.lk _ _ h1 rfl⟩, h2, h3⟩
  · rcases h with ⟨kvs, h1, h2, h3, h4⟩ | ⟨nds', xs, q, h1, h2, h3, h4⟩
    · exfalso
      generalize q : ([(PyData.none, PyData.dict nds)] : List (D × D)) = l at h4
      cases h4 with
      | nil => cases q
      | @cons k v kvs d' kds h1 h2 =>
        injection q with q1 _
        cases k with
        | inl i => cases q1
        | inr x => cases q1
    · cases q
      exact ⟨a, xs, e, .inl h2, h3, h4⟩
theorem Rp1.tupRp {K : PySem.W.Frag} {Hf H : Hp} {v : V} {ds : List D} (h : Rp1 K Hf H v (.tuple ds)) : ∃ b, v = .ref b ∧ Rp K Hf (.ref b) (.tuple ds) := by
  rcases h with h | ⟨a, e, h⟩
  · generalize q : (PyData.tuple ds : D) = d at h
    cases h with
    | tup h1 h2 h3 => exact ⟨_, rfl, .tup h1 h2 h3⟩
    | _ => cases q
  · exact h.elim
def dInN (x : D) : List (D × D) → R Bool
  | [] => if keyT x then .ok false else .bad
  | [(.none, .dict nds)] => if keyT x then .ok (lookN nds x).isSome else .bad
  | _ => .bad
end DL
namespace DL
open PySem PySem.Spec PyProof.Rows L2
variable [Lots]
theorem frzN {X : Cx} {pins : List (Addr × Obj)} {σ : L2.St} {H : Hp} {s : Shared} {d : Addr} {o : Obj} {xs : List NE} (I : Inv X pins σ H s) (h : H d = some (.frz o (NDO Lots.w d xs))) :
    (d == sysModules) = false ∧ s.heap.get? d = some o ∧ o.ExactDict ∧ ∃ (es : Array DictEntry) (ep : Nat), o.data = .dict es ep ∧ es.size = xs.length ∧ ∀ (i : Nat) (y : NE), xs[i]? = some y → es[i]? = some (entN Lots.w y) := by
  obtain ⟨hd, u⟩ := (show ObjOk X.prog X.w H s.heap d (.frz o (NDO Lots.w d xs)) from I.hok d _ h)
  have x := ndo_back u
  obtain ⟨o', es, ep, ho, hx, hdt, he⟩ := x.ex
  rw [hd] at ho
  cases ho
  refine ⟨x.sm, hd, hx, es, ep, hdt, ?_, fun i y e => ?_⟩
  · rw [← Array.length_toList, he, List.length_map]
  · rw [← Array.getElem?_toList, he, List.getElem?_map, e]
    rfl
def Itkn (d : Addr) (o : Obj) (xs : List NE) : It :=
  ⟨fun i H => H d = some (.frz o (NDO Lots.w d xs)) ∧ i < xs.length, fun i H x H' => H' = H ∧ ∃ y, xs[i]? = some y ∧ x = .ref y.2.1, fun i H => H d = some (.frz o (NDO Lots.w d xs)) ∧ xs.length ≤ i⟩
def Itin (d : Addr) (o : Obj) (xs : List NE) (vs : List V) : It :=
  ⟨fun i H => H d = some (.frz o (NDO Lots.w d xs)) ∧ i < xs.length ∧ Paired (fun (y : NE) (v : V) => RelV v y.2.2) xs vs, fun i H x H' => ∃ T y v, xs[i]? = some y ∧ vs[i]? = some v ∧ x = .ref T ∧ H T = none ∧ H' = upd H T (.tup [.ref y.2.1, v]), fun i H => H d = some (.frz o (NDO Lots.w d xs)) ∧ xs.length ≤ i⟩
section
variable {P : Program} {w : World} {K : PySem.W.Frag} {tg : Expr} {d : Addr} {o : Obj} {es : Array DictEntry} {ep : Nat} {xs : List NE}
theorem turn_keysN (it : Addr) (hod : o.data = .dict es ep) : Turn P w K tg (Itkn d o xs) [it] it (fun i h => h.IsKeyIter it d i xs.length ep) where
  mem := by simp
  obj := fun i h st b hb => by
    have e : b = it := by simpa using hb
    subst e
    obtain ⟨oi, e, c, dd⟩ := st
    exact ⟨oi, e, fun v z => by rw [dd] at z; cases z⟩
  keep := fun i h h' st k => st.at fun oi e => k it (by simp) oi e
  item := by
    intro X hP hw hK hc i pins s σ H E I hf st hg
    subst hP hw hK
    obtain ⟨hd, hi⟩ := hg
    obtain ⟨f0, f1, f2, f3, f4, f5⟩ := hf it (by simp)
    obtain ⟨hs, hgd, hx, es', ep', hdt, hsz, ent⟩ := frzN I hd
    obtain ⟨rfl, rfl⟩ := dict_ep hod hdt
    obtain ⟨y, hy⟩ : ∃ p, xs[i]? = some p := ⟨xs[i], List.getElem?_eq_getElem hi⟩
    refine next_key_item st hgd hdt hsz (ent i y hy) fun h' st' sb => ?_
    have I1 : Inv X pins σ H { s with heap := h' } := I.turned (t' := s.toks) (fun b ob hb e => (sb.2 b hb).trans e) f0 f1 f3 f4 f5
    obtain ⟨oi, e, c, dd⟩ := id st'
    exact ⟨_, rfl, go_of (s := { s with heap := h' }) e c dd (by decide) ⟨.ref y.2.1, H, I1, rfl, ⟨rfl, y, hy, rfl⟩, st', fun b hb => (hf b hb).1⟩⟩
  done := by
    intro X hP hw hK hc i pins s σ H E I hf st hg
    subst hP hw hK
    obtain ⟨hd, hi⟩ := hg
    obtain ⟨f0, f1, f2, f3, f4, f5⟩ := hf it (by simp)
    obtain ⟨hs, hgd, hx, es', ep', hdt, hsz, ent⟩ := frzN I hd
    obtain ⟨rfl, rfl⟩ := dict_ep hod hdt
    exact next_key_end (I.ok.hd hc) st hgd hdt hsz hi fun h' eb => ⟨rfl, I.turned (t' := s.toks) (fun b ob hb e => eb b ob hb e) f0 f1 f3 f4 f5⟩
  self := fun A i s Q E st h => by
    refine wpAny_pyIter_slot st.typeIs PySem.F.slot_dict_keyiterator_iter (wpAny_call_entry PySem.F.slot_dict_keyiterator_iter st.typeIs PySem.F.entry_dict_keyiterator_iter ?_ (PySem.F.args_dict_keyiterator_iter_1 _))
    show wpAny _ _ (ret (.ref it)) _ _ s
    exact wpAny_pure ⟨_, rfl, "dict_keyiterator", _, st.typeIs, PySem.F.slot_dict_keyiterator_next.lookup, h⟩
theorem turn_itemsN {vs : List V} {elts : List Expr} {kk : Nat} {tpos : Pos} (it : Addr) (hod : o.data = .dict es ep) :
    Turn P w K (.Tuple elts kk tpos) (Itin d o xs vs) [it] it (fun i h => ∃ ok ov, IsItemIter h it d i xs.length ep ok ov) where
  mem := by simp
  obj := fun i h st b hb => by
    have e : b = it := by simpa using hb
    subst e
    obtain ⟨ok, ov, e⟩ := st
    exact ⟨_, e, fun v z => nomatch z⟩
  keep := fun i h h' st k => let ⟨ok, ov, e⟩ := st; ⟨ok, ov, k it (by simp) _ e⟩
  item := by
    intro X hP hw hK hc i pins s σ H E I hf st hg
    subst hP hw hK
    obtain ⟨hd, hi, hp⟩ := hg
    obtain ⟨hs, hgd, hx, es', ep', hdt, hsz, ent⟩ := frzN I hd
    obtain ⟨rfl, rfl⟩ := dict_ep hod hdt
    obtain ⟨y, hy⟩ : ∃ p, xs[i]? = some p := ⟨xs[i], List.getElem?_eq_getElem hi⟩
    obtain ⟨v, hv, ru⟩ := paired_get hp hy
    have hen := ent i y hy
    obtain ⟨hie, hee⟩ := Array.getElem?_eq_some_iff.mp hen
    obtain ⟨ok, ov, he⟩ := st
    rw [← hsz] at he
    have hlt : it < s.heap.objs.size := Heap.lt_size he
    refine wpAny_pyNext_items_item_raw he ⟨o, hgd, hx, hdt⟩ hie fun h' ho hT hz hk => ?_
    rw [hee] at ho hT
    refine ⟨_, rfl, wpAny_letOwnedTupleGo_items (s := { s with heap := h' }) ho fun h'' he' sb => ?_⟩
    have hT2 : h''.get? s.heap.objs.size = some { cls := .type "tuple", data := .seq #[.ref y.2.1, y.2.2] } := (sb.2 _ (Nat.ne_of_gt hlt)).trans hT
    have new : ObjOk X.prog X.w (upd H s.heap.objs.size (.tup [.ref y.2.1, v])) h'' s.heap.objs.size (.tup [.ref y.2.1, v]) :=
      ⟨by show 2 ≤ sizeLine; decide, [.ref y.2.1, y.2.2], .cons rfl (.cons ru .nil), ⟨_, hT2, rfl, _, rfl⟩⟩
    have I1 : Inv X pins σ (upd H s.heap.objs.size (.tup [.ref y.2.1, v])) { s with heap := h'' } :=
      I.turnedNew (t' := s.toks) (ch := [it]) (fun b ob hb e => (sb.2 b (by simpa using hb)).trans (hk b ob (by simpa using hb) e)) hf (Nat.le_refl _) new
    refine ⟨.ref s.heap.objs.size, _, I1, rfl, ⟨_, y, v, hy, hv, rfl, I.hok.fresh (Nat.le_refl _), rfl⟩, ⟨.ref y.2.1, y.2.2, ?_⟩, fun b hb => ?_⟩
    · rw [← hsz]; exact he'
    · have e : b = it := by simpa using hb
      rw [e, upd_ne (Nat.ne_of_lt hlt)]
      exact (hf it (by simp)).1
  done := by
    intro X hP hw hK hc i pins s σ H E I hf st hg
    subst hP hw hK
    obtain ⟨hd, hi⟩ := hg
    obtain ⟨f0, f1, f2, f3, f4, f5⟩ := hf it (by simp)
    obtain ⟨hs, hgd, hx, es', ep', hdt, hsz, ent⟩ := frzN I hd
    obtain ⟨rfl, rfl⟩ := dict_ep hod hdt
    obtain ⟨ok, ov, he⟩ := st
    rw [← hsz] at he
    exact wpAny_pyNext_items_end_raw (I.ok.hd hc) he ⟨o, hgd, hx, hdt⟩ (by omega) fun h' eb => ⟨rfl, I.turned (t' := s.toks) (fun b ob hb e => eb b ob hb e) f0 f1 f3 f4 f5⟩
  self := fun A i s Q E st h => let ⟨_, _, e⟩ := st; PySem.W.kcp_self e h
end
section
variable {X : Cx} {tg e : Expr} {td : TE} {apos cpos : Pos}
def iKeysN (td : TE) : TI := fun σ H R => td σ H fun x H1 => ∃ d o xs, x = .ref d ∧ H1 d = some (.frz o (NDO Lots.w d xs)) ∧ R (Itkn d o xs) H1
def iItemsN (td : TE) : TI := fun σ H R => td σ H fun x H1 => ∃ d o xs vs, x = .ref d ∧ H1 d = some (.frz o (NDO Lots.w d xs)) ∧ R (Itin d o xs vs) H1
theorem pi_keysN (he : PE X e td) : PI X tg e (iKeysN td) := by
  refine ⟨fun pins s σ H R I h => ?_⟩
  refine thn (he.run pins s σ H _ I h) fun u s1 ⟨x, H1, I1, rx, d, o, xs, ex, hd, q⟩ => ?_
  subst ex
  obtain rfl : u = Value.ref d := rx
  obtain ⟨hs, hgd, hx, es, ep, hdt, hsz, ent⟩ := frzN I1 hd
  refine iter_keys hs hgd hx hdt (pi_one (tk := s1.toks) I1 _ (turn_keysN _ hdt) ⟨_, Heap.get?_push_size _ rfl, rfl, ?_⟩ q)
  rw [hsz] <;> rfl
theorem pi_itemsN {elts : List Expr} {kk : Nat} {tpos : Pos} (he : PE X e td) (hbase : attributeBase e "items" X.env (eval e X.env) = eval e X.env := by rfl) (hline : (apos.endLine == cpos.line) = true := by rfl) :
    PI X (.Tuple elts kk tpos) (.Call (.Attribute e "items" apos) [] [] cpos) (iItemsN td) := by
  refine ⟨fun pins s σ H R I h => ?_⟩
  refine wpAny_Call_method (T := "dict") (id := "dict.items") hbase rfl hline PySem.F.plainAttrs_dict PySem.F.slot_dict_items PySem.F.type_dict_items (thn (he.run pins s σ H _ I h) fun u s1 ⟨x, H1, I1, rx, d, o, xs, vs, ex, hd, q⟩ => ?_)
  subst ex
  obtain rfl : u = Value.ref d := rx
  obtain ⟨hs, hgd, hx, es, ep, hdt, hsz, ent⟩ := frzN I1 hd
  have tI : s1.TypeIs (.ref d) "dict" := ⟨o, hgd, hx.1⟩
  refine ⟨tI, fun b q => by cases q; exact ⟨o, hgd, hx.2.1⟩, ?_⟩
  have I2 : Inv X pins σ H1 { s1 with heap := s1.heap.push { cls := .type "dict_items", data := .fields #[.ref d] } } := I1.kept (t' := s1.toks) fun b ob q => Heap.get?_push_of_some _ q
  have fin : wpAny (model X.prog X.w) X.A (pyIter (.ref s1.heap.objs.size)) (PIE X pins σ (.Tuple elts kk tpos) R) X.xe { s1 with heap := s1.heap.push { cls := .type "dict_items", data := .fields #[.ref d] } } := by
    refine wpAny_pyIter_items_raw (d := d) ⟨_, Heap.get?_push_size _ rfl, rfl, rfl⟩ ⟨o, Heap.get?_push_of_some _ hgd, hx, hdt⟩ (pi_one (tk := s1.toks) I2 _ (turn_itemsN _ hdt) ⟨.none, .none, ?_⟩ q)
    rw [← hsz]
    exact Heap.get?_push_size _ rfl
  show wpAny _ _ (callWith cpos (.builtin "dict.items") [.ref d] [] []) _ X.xe s1
  exact method_meetsIn PySem.F.slot_dict_items PySem.F.entry_dict_items rfl (PySem.evalArgs_none ⟨rfl, tI, PySem.F.args_dict_items_1 _, _, meets_dict_items_raw d hs, ⟨es, ep, ⟨o, hgd, hx, hdt⟩⟩, fin⟩)
end
end DL
namespace DL
open PySem PySem.Spec PyProof.Rows L2 HT
variable [Lots]
def downFrom {α : Type} (xs : List α) (lo : Option Int) : List α :=
  (List.range (Builtin.Slice.slicePlaces (Builtin.Slice.sliceAdjust lo none (-1) xs.length).1 (Builtin.Slice.sliceAdjust lo none (-1) xs.length).2 (-1))).filterMap fun (k : Nat) => xs[((Builtin.Slice.sliceAdjust lo none (-1) xs.length).1 + (k : Int) * (-1)).toNat]?
section
variable {prog : Program} {w : World} {A : Around} {E : Value → Shared → Prop} {s : Shared}
theorem sliceApplied_down {sl : Addr} {vl vu vs : Value} {lo hi : Option Int} {n : Nat} {Q : Int × Int × Nat → Shared → Prop} (hs : s.heap.IsSliceOf sl vl vu vs) (pl : IsPart vl lo) (pu : IsPart vu hi) (ps : IsPart vs (some (-1)))
    (h : Q ((Builtin.Slice.sliceAdjust lo hi (-1) (n : Int)).1, -1, Builtin.Slice.slicePlaces (Builtin.Slice.sliceAdjust lo hi (-1) (n : Int)).1 (Builtin.Slice.sliceAdjust lo hi (-1) (n : Int)).2 (-1)) s) : wpAny (model prog w) A (Builtin.Slice.sliceApplied (.ref sl) (pure (n : Int))) Q E s := by
  obtain ⟨os, hos, hcs, hds⟩ := id hs
  unfold Builtin.Slice.sliceApplied Builtin.Slice.sliceFields
  refine wpAny_bind (wpAny_bind (wpAny_field hos hds (x := vl) rfl (wpAny_bind (wpAny_field hos hds (x := vu) rfl (wpAny_bind (wpAny_field hos hds (x := vs) rfl (wpAny_pure ?_)))))))
  refine wpAny_bind (slicePart_ ps ?_)
  show wpAny _ _ (if ((-1 : Int) == 0) = true then _ else _) _ _ s
  rw [if_neg (by decide)]
  refine wpAny_bind (slicePart_ pl (wpAny_bind (slicePart_ pu (wpAny_bind (wpAny_pure ?_)))))
  exact wpAny_pure h
theorem getItem_tuple_down {t sl : Addr} {items : Array Value} {vl vs : Value} {lo : Option Int} {Q : Value → Shared → Prop} (ht : IsTup s.heap t items) (hs : s.heap.IsSliceOf sl vl .none vs) (pl : IsPart vl lo) (ps : IsPart vs (some (-1)))
    (h : Q (.ref s.heap.objs.size) { s with heap := s.heap.push { cls := .type "tuple", data := .seq (downFrom items.toList lo).toArray } })
    (hsz : (downFrom items.toList lo).length ≤ sizeLine) : wpAny (model prog w) A (getItem (.ref t) (.ref sl)) Q E s := by
  obtain ⟨os, hos, hcs, hds⟩ := id hs
  have hTs : s.TypeIs (.ref sl) "slice" := ⟨os, hos, hcs⟩
  have htake : sizeOk (.seq (downFrom items.toList lo).toArray) := by
    show (downFrom items.toList lo).toArray.size ≤ sizeLine
    rw [List.size_toArray]
    exact hsz
  unfold getItem
  try with_reducible refine wpAny_holding ?_
  first | refine wpAny_bind (wpAny_pure ?_) | skip
  refine wpAny_bind (wpAny_sequenceKey ht.typeIs (by decide) ?_)
  refine wpAny_bind (wpAny_callSpecial?_slot (name := Str.ofString "__getitem__") ht.typeIs PyProof.Rows.slot_tuple_getitem
    (wpAny_call_entry PyProof.Rows.slot_tuple_getitem ht.typeIs entry_tuple_getitem ?_ (args_tuple_getitem _ _)))
  show wpAny _ _ (Builtin.Tuple.tupleItemsOf (.ref t) >>= _) _ _ s
  refine wpAny_bind (tupleItemsOf_ ht ?_)
  refine wpAny_bind (wpAny_typeOf hTs ?_)
  rw [if_pos (by decide)]
  refine wpAny_bind (sliceApplied_down hs pl .none ps ?_)
  have hno : ¬ (((Builtin.Slice.sliceAdjust lo none (-1) (items.size : Int)).1 == 0 && (-1 : Int) == 1 && Builtin.Slice.slicePlaces (Builtin.Slice.sliceAdjust lo none (-1) (items.size : Int)).1 (Builtin.Slice.sliceAdjust lo none (-1) (items.size : Int)).2 (-1) == items.size) = true) := by
    have e : ((-1 : Int) == 1) = false := rfl
    rw [e, Bool.and_false, Bool.false_and]
    exact Bool.false_ne_true
  show wpAny _ _ (if ((Builtin.Slice.sliceAdjust lo none (-1) (items.size : Int)).1 == 0 && (-1 : Int) == 1 && Builtin.Slice.slicePlaces (Builtin.Slice.sliceAdjust lo none (-1) (items.size : Int)).1 (Builtin.Slice.sliceAdjust lo none (-1) (items.size : Int)).2 (-1) == items.size) = true then _ else _) _ _ s
  rw [if_neg hno]
  have ed : ((List.range (Builtin.Slice.slicePlaces (Builtin.Slice.sliceAdjust lo none (-1) (items.size : Int)).1 (Builtin.Slice.sliceAdjust lo none (-1) (items.size : Int)).2 (-1))).filterMap fun (k : Nat) => items[((Builtin.Slice.sliceAdjust lo none (-1) (items.size : Int)).1 + (k : Int) * (-1)).toNat]?).toArray = (downFrom items.toList lo).toArray := by
    unfold downFrom
    simp
  rw [ed]
  first
    | exact wpAny_bind (m := Builtin.Tuple.tupleExact _) (wpAny_newObj_type (wpAny_pure ⟨_, rfl, wpAny_pure h⟩) htake)
    | exact wpAny_bind (m := Builtin.Tuple.tupleExact _) (wpAny_newObj_type (wpAny_bind (wpAny_pure (wpAny_pure ⟨_, rfl, wpAny_pure h⟩))) htake)
    | exact wpAny_bind (wpAny_bind (m := Builtin.Tuple.tupleExact _) (wpAny_newObj_type (wpAny_pure (wpAny_pure ⟨_, rfl, wpAny_pure h⟩)) htake))
    | exact wpAny_bind (wpAny_bind (m := Builtin.Tuple.tupleExact _) (wpAny_newObj_type (wpAny_pure ⟨_, rfl, wpAny_pure h⟩) htake))
end
theorem places_le {lo : Option Int} {n : Nat} : Builtin.Slice.slicePlaces (Builtin.Slice.sliceAdjust lo none (-1) (n : Int)).1 (Builtin.Slice.sliceAdjust lo none (-1) (n : Int)).2 (-1) ≤ n := by
  unfold Builtin.Slice.slicePlaces Builtin.Slice.sliceAdjust
  simp only [show ((-1 : Int) > 0) = False from by simp, if_false, show ((-1 : Int) < 0) = True from by simp, if_true]
  have e : -(-1 : Int) = 1 := rfl
  rw [e]
  cases lo with
  | none => simp only [Int.ediv_one]; split <;> omega
  | some v =>
    simp only [Int.ediv_one]
    split <;> split <;> omega
theorem downFrom_len {α : Type} (xs : List α) (lo : Option Int) : (downFrom xs lo).length ≤ xs.length := by
  unfold downFrom
  refine Nat.le_trans (List.length_filterMap_le _ _) ?_
  rw [List.length_range]
  exact places_le
theorem Vals.down {xs : List V} {us : List Value} (r : Vals xs us) (lo : Option Int) : Vals (downFrom xs lo) (downFrom us lo) := by
  unfold downFrom
  rw [r.length]
  generalize List.range _ = ks
  induction ks with
  | nil => exact .nil
  | cons k ks ih =>
    rw [List.filterMap_cons, List.filterMap_cons]
    cases q : xs[((Builtin.Slice.sliceAdjust lo none (-1) us.length).1 + (k : Int) * (-1)).toNat]? with
    | none => rw [r.none_of q]; exact ih
    | some x =>
      obtain ⟨u, h1, h2⟩ := r.get q
      rw [h1]
      exact .cons h2 ih
section
variable {X : Cx}
def tDownT (K : PySem.W.Frag) (te : TE) (tl : TO) : TE := fun σ H Q => te σ H fun x H1 => tl σ H1 fun l H2 => ∃ a xs, x = .ref a ∧ SqT K H2 a xs ∧ ∀ p, H2 p = none → Q (.ref p) (upd H2 p (.tup (downFrom xs l)))
theorem pe_downT {e : Expr} {lo : Option Expr} {te : TE} {tl : TO} {k : Nat} {p1 p2 p3 pos : Pos} (he : PE X e te) (hl : PO X lo tl) : PE X (.Subscript e (.Slice lo none (some (.UnaryOp .USub (.Constant (.int 1) k p1) p2)) p3) pos) (tDownT X.K te tl) := by
  refine ⟨fun pins s σ H Q I h => ?_⟩
  refine Subscript_ (thn (he.run pins s σ H _ I h) fun v s1 ⟨x, H1, I1, r1, q1⟩ => ?_)
  have hst : PO X (some (.UnaryOp .USub (.Constant (.int 1) k p1) p2)) (tPart (tUn (rU fun i => .int (-i)) (tC (.int 1)))) := po_some (pe_un un_neg pe_int)
  refine wpAny_Slice (thn (hl.run pins s1 σ H1 _ I1 q1) fun vl s2 ⟨l, H2, I2, pl, a, xs, ex, hx, q⟩ => ?_)
  subst ex
  cases r1
  refine thn (po_none.run pins s2 σ H2 (fun o H3 => o = none ∧ H3 = H2) I2 ⟨rfl, rfl⟩) fun vu s3 ⟨u, H3, I3, pu, eu, e3⟩ => ?_
  subst eu e3
  refine thn (hst.run pins s3 σ H3 (fun o H4 => o = some (-1) ∧ H4 = H3) I3 ⟨1, rfl, -1, rfl, rfl, rfl⟩) fun vs s4 ⟨o, H4, I4, ps, eo, e4⟩ => ?_
  subst eo e4
  have I5 : L2.Inv X pins σ H4 { s4 with heap := s4.heap.push { cls := .type "slice", data := .fields #[vl, vu, vs] } } := I4.kept (t' := s4.toks) fun b ob q => Heap.get?_push_of_some _ q
  obtain ⟨its, r, ht, hz⟩ := I5.tuple hx
  have hlen := r.length
  cases pu
  show wpAny (model X.prog X.w) X.A (subscriptTail e (.Slice lo none (some (.UnaryOp .USub (.Constant (.int 1) k p1) p2)) p3) (.ref a) (.ref s4.heap.objs.size)) (EP X pins σ Q) X.xe { s4 with heap := s4.heap.push { cls := .type "slice", data := .fields #[vl, .none, vs] } }
  refine tail_any (ops := [.ref a, .ref s4.heap.objs.size]) ht.typeIs (PyProof.Rows.slot_tuple_getitem.lookup) ?_ (by with_unfolding_all rfl)
  have dl := downFrom_len its l
  refine getItem_tuple_down ht (Heap.IsSliceOf.new _ vl .none vs) pl ps ?_ (by simpa using (by omega : (downFrom its l).length ≤ sizeLine))
  refine ⟨.ref _, _, I5.laid (t' := s4.toks) (o := .tup (downFrom xs l)) (fun b ob q => Heap.get?_push_of_some _ q) (Nat.le_refl _) ?_, rfl, q _ (I5.hok.fresh (Nat.le_refl _))⟩
  have dx := downFrom_len xs l
  exact ⟨by omega, _, Vals.down r l, IsTup.new _ _⟩
theorem tuple_mul1 (l : Addr) (items : Array Value) (n : Nat) (dd : Option Addr) (sl : Array (Option Value)) (u : Tok) :
    Meets (Builtin.«tuple.__mul__» ⟨[.ref l, .int 1 u], []⟩) (fun _ R s => s.heap.get? l = some { cls := .type "tuple", dict := dd, data := .seq items n, slots := sl } ∧ R (.ok (.ret (Value.ref l))) s) :=
  .of_wp fun prog w A R s h => by
    obtain ⟨hp, g, d, tk, os⟩ := s
    obtain ⟨hl, h⟩ := h
    have f1 := AutoSeq1.idx_int
    have c1 : (items.isEmpty || (1 : Int) == 1) = true := by simp
    wp_walk using wpAny_loadPart' hl
    exact ⟨_, rfl, h⟩
theorem op_rep1 : OpR X (binaryOp .Mult) (fun x y H Q => ∃ l xs, x = .ref l ∧ y = .int 1 ∧ SqT X.K H l xs ∧ Q (.ref l) H) := by
  intro pins s σ H x y v u Q I rx ry h
  obtain ⟨l, xs, rfl, rfl, hT, q⟩ := h
  cases rx
  obtain ⟨t, rfl⟩ := ry
  obtain ⟨its, r, ⟨⟨cls, dd, data, sl⟩, ho, hc, n, hd⟩, hs⟩ := I.tuple hT
  simp only at hc hd
  subst hc hd
  exact wpAny_binaryOp_repeat_ref (T := "tuple") (U := "int") (by decide) ⟨_, ho, rfl⟩ (fun s' => typeIs_int s' 1 t) noFill_tuple_mul F.fills_int_mul F.slot_int_rmul repeat_tuple F.slot_int_index.lookup
    (call_meets F.slot_int_rmul (typeIs_int s 1 t) F.entry_int_rmul (F.args_int_rmul_2 _ _) (int_rmul_tuple 1 t l its.toArray n dd sl)
      ⟨ho, rfl, ⟨_, ho, rfl⟩, call_meets F.slot_tuple_mul ⟨_, ho, rfl⟩ F.entry_tuple_mul (F.args_tuple_mul_2 _ _) (tuple_mul1 l its.toArray n dd sl t) ⟨ho, .ref l, H, I, rfl, q⟩⟩)
theorem tuple_mul0 (l : Addr) (items : Array Value) (n : Nat) (dd : Option Addr) (sl : Array (Option Value)) (u : Tok) (hne : items.isEmpty = false) :
    Meets (Builtin.«tuple.__mul__» ⟨[.ref l, .int 0 u], []⟩) (fun _ R s => s.heap.get? l = some { cls := .type "tuple", dict := dd, data := .seq items n, slots := sl } ∧
      R (.ok (.ret (Value.ref s.heap.objs.size))) { s with heap := s.heap.push { cls := Value.type "tuple", data := Data.seq #[] }, toks := s.toks }) :=
  .of_wp fun prog w A R s h => by
    obtain ⟨hp, g, d, tk, os⟩ := s
    obtain ⟨hl, h⟩ := h
    have f1 := AutoSeq1.idx_int
    have c1 : (items.isEmpty || (0 : Int) == 1) = false := by rw [hne]; rfl
    have c2 : (decide ((0 : Int) ≤ 0) || items.isEmpty) = true := by simp
    wp_walk using wpAny_loadPart' hl
    repeat (first
      | (refine wpAny_ite_false (decide_eq_false (by rw [c1]; exact Bool.false_ne_true)) ?_; wp_walk using wpAny_loadPart' hl)
      | (refine wpAny_ite_true (decide_eq_true c2) ?_; wp_walk using wpAny_loadPart' hl))
    exact ⟨_, rfl, h⟩
theorem op_rep0 : OpR X (binaryOp .Mult) (fun x y H Q => ∃ l xs, x = .ref l ∧ y = .int 0 ∧ SqT X.K H l xs ∧ xs ≠ [] ∧ ∀ p, H p = none → Q (.ref p) (upd H p (.tup []))) := by
  intro pins s σ H x y v u Q I rx ry h
  obtain ⟨l, xs, rfl, rfl, hT, hne, q⟩ := h
  cases rx
  obtain ⟨t, rfl⟩ := ry
  obtain ⟨its, r, ⟨⟨cls, dd, data, sl⟩, ho, hc, n, hd⟩, hs⟩ := I.tuple hT
  simp only at hc hd
  subst hc hd
  have hi : its.toArray.isEmpty = false := by
    cases its with
    | nil => exact absurd (List.eq_nil_of_length_eq_zero r.length) hne
    | cons a b => rfl
  exact wpAny_binaryOp_repeat_ref (T := "tuple") (U := "int") (by decide) ⟨_, ho, rfl⟩ (fun s' => typeIs_int s' 0 t) noFill_tuple_mul F.fills_int_mul F.slot_int_rmul repeat_tuple F.slot_int_index.lookup
    (call_meets F.slot_int_rmul (typeIs_int s 0 t) F.entry_int_rmul (F.args_int_rmul_2 _ _) (int_rmul_tuple 0 t l its.toArray n dd sl)
      ⟨ho, rfl, ⟨_, ho, rfl⟩, call_meets F.slot_tuple_mul ⟨_, ho, rfl⟩ F.entry_tuple_mul (F.args_tuple_mul_2 _ _) (tuple_mul0 l its.toArray n dd sl t hi) ⟨ho, .ref _, _, I.laid (t' := s.toks) (o := .tup []) (fun b ob q => Heap.get?_push_of_some _ q) (Nat.le_refl _) ⟨Nat.zero_le _, [], .nil, IsTup.new _ _⟩, rfl, q _ (I.hok.fresh (Nat.le_refl _))⟩⟩)
theorem op_repS : OpR X (binaryOp .Mult) (fun x y H Q => ∃ z k, x = .str z ∧ y = .int k ∧ 2 ≤ k ∧ k ≤ 1000 ∧ z.length ≤ 1000 ∧ z.length ≠ 0 ∧ Q (.str ⟨(List.replicate k.toNat z.cps).foldl (· ++ ·) #[]⟩) H) := by
  intro pins s σ H x y v u Q I rx ry h
  obtain ⟨z, k, rfl, rfl, h1, h2, h3, h4, q⟩ := h
  obtain ⟨t, rfl⟩ := rx
  obtain ⟨t', rfl⟩ := ry
  have e1 : ¬ k < 1 := by omega
  have e2 : (k == 1 || z.length == 0) = false := by
    rw [show (k == 1) = false from beq_eq_false_iff_ne.mpr (by omega), show (z.length == 0) = false from beq_eq_false_iff_ne.mpr h4]
    rfl
  refine PySem.P.mul_str (by rw [decide_eq_false (by omega), decide_eq_false (by omega)]; rfl) (fun _ _ => ?_) (fun _ _ => ?_) ?_
  · have a1 : (1000 : Int) ≤ (2 ^ 63 - 1) / k := by
      rw [Int.le_ediv_iff_mul_le (by omega)]
      omega
    omega
  · unfold Builtin.Str.tooLong
    refine decide_eq_false ?_
    have a1 : z.length * k.toNat ≤ 1000 * 1000 := Nat.mul_le_mul h3 (by omega)
    rw [sizeLine_eq]
    omega
  · rw [if_neg e1, e2]
    refine ⟨?_, .str _, H, I.tok _, ⟨_, rfl⟩, q⟩
    show ((List.replicate k.toNat z.cps).foldl (· ++ ·) #[]).size ≤ sizeLine
    have f0 : ∀ (m : Nat) (acc : Array Nat), ((List.replicate m z.cps).foldl (· ++ ·) acc).size = acc.size + m * z.cps.size := fun m => by
      induction m with
      | zero => intro acc; simp
      | succ m ih => intro acc; rw [List.replicate_succ, List.foldl_cons, ih, Array.size_append, Nat.succ_mul]; omega
    rw [f0]
    have a1 : k.toNat * z.cps.size ≤ 1000 * 1000 := Nat.mul_le_mul (by omega) h3
    rw [sizeLine_eq]
    simp
    omega
theorem valsSigns : ∀ (cs : List Nat) (vs : List Value), (cs.map fun c => V.str ⟨#[c]⟩).length = vs.length → (∀ (j : Nat) (v : Value), vs[j]? = some v → ∃ c u, cs[j]? = some c ∧ v = Value.str ⟨#[c]⟩ u) → Vals (cs.map fun c => V.str ⟨#[c]⟩) vs
  | [], [], _, _ => .nil
  | [], _ :: _, hl, _ => by simp at hl
  | _ :: _, [], hl, _ => by simp at hl
  | c :: cs, v :: vs, hl, hg => by
    obtain ⟨c', u, h1, h2⟩ := hg 0 v rfl
    simp at h1
    subst h1
    exact .cons ⟨u, h2⟩ (valsSigns cs vs (by simpa using hl) fun j v hv => by simpa using hg (j + 1) v (by simpa using hv))
theorem call_listS (hc : X.calm = true) : CallR X (.type "list") (fun xs H Q => ∃ z : Str, xs = [.str z] ∧ z.length ≤ sizeLine ∧ ∀ p, H p = none → Q (.ref p) (upd H p (.lst (z.cps.toList.map fun c => V.str ⟨#[c]⟩)))) := by
  intro pins s σ H xs us Q I r h
  obtain ⟨z, rfl, hz, q⟩ := h
  cases r with
  | cons r1 r2 =>
    cases r2
    obtain ⟨t, rfl⟩ := r1
    refine call_list_str (I.ok.hd hc) z t (hn := hz) fun h' tk acc' c' hk hS' hacc => ?_
    have np : H s.heap.objs.size = none := I.hok.fresh (Nat.le_refl _)
    have rv : Vals (z.cps.toList.map fun c => V.str ⟨#[c]⟩) acc'.toList := by
      have hl : (z.cps.toList.map fun c => V.str ⟨#[c]⟩).length = acc'.toList.length := by simp [hacc.1]
      have hg : ∀ (j : Nat) (v : Value), acc'.toList[j]? = some v → ∃ c u, z.cps.toList[j]? = some c ∧ v = Value.str ⟨#[c]⟩ u := fun j v hv => by
        obtain ⟨c, u, h1, h2⟩ := hacc.2 j v (by simpa using hv)
        exact ⟨c, u, by simpa using h1, h2⟩
      exact valsSigns _ _ hl hg
    have hlen : (z.cps.toList.map fun c => V.str ⟨#[c]⟩).length ≤ sizeLine := by rw [List.length_map, Array.length_toList]; exact hz
    exact ⟨.ref _, _, I.laid (t' := tk) (o := .lst (z.cps.toList.map fun c => V.str ⟨#[c]⟩)) hk (Nat.le_refl _) ⟨hlen, acc'.toList, c', rv, by simpa using hS'⟩, rfl, q _ np⟩
variable {a b c d : Expr} {ta tb tc td : TE} {pos : Pos}
def tChain3 (r r' r2 : R2) (ta tb tc td : TE) : TE := fun σ H Q => ta σ H fun x H1 => tb σ H1 fun y H2 => r x y H2 fun z H3 => ∃ k, z = .bl k ∧
  (if k = true then tc σ H3 fun w' H4 => r' y w' H4 fun z2 H5 => ∃ k2, z2 = .bl k2 ∧ (if k2 = true then td σ H5 fun u' H6 => r2 w' u' H6 Q else Q (.bl false) H5) else Q (.bl false) H3)
theorem pe_chain3 {op op' op2 : CmpOp} {r r' r2 : R2} (ho : OpR X (compareOp op) r) (ho' : OpR X (compareOp op') r') (ho2 : OpR X (compareOp op2) r2) (ha : PE X a ta) (hb : PE X b tb) (hc : PE X c tc) (hd : PE X d td)
    (hm : lastMarks [op, op', op2] [b, c, d] = false) : PE X (.Compare a [op, op', op2] [b, c, d] pos) (tChain3 r r' r2 ta tb tc td) := by
  refine ⟨fun pins s σ H Q I h => ?_⟩
  refine Compare_chain (thn (ha.run pins s σ H _ I h) fun v s1 ⟨x, H1, I1, r1, q1⟩ => chain_link (thn (hb.run pins s1 σ H1 _ I1 q1) fun u s2 ⟨y, H2, I2, r2', q2⟩ =>
    thn (ho pins s2 σ H2 x y v u _ I2 r1 r2' q2) fun d s3 ⟨z, H3, I3, r3, k, e, q3⟩ => ?_)) hm
  subst e
  cases r3
  refine wpAny_truthy_bool ?_
  cases k with
  | false => exact ite_ff ⟨.bl false, H3, I3, rfl, q3⟩
  | true =>
    refine ite_tt (chain_link (thn (hc.run pins s3 σ H3 _ I3 q3) fun w' s4 ⟨z', H4, I4, r4, q4⟩ => thn (ho' pins s4 σ H4 y z' u w' _ I4 r2' r4 q4) fun d s5 ⟨z2, H5, I5, r5, k2, e2, q5⟩ => ?_))
    subst e2
    cases r5
    refine wpAny_truthy_bool ?_
    cases k2 with
    | false => exact ite_ff ⟨.bl false, H5, I5, rfl, q5⟩
    | true => exact ite_tt (chain_last (thn (hd.run pins s5 σ H5 _ I5 q5) fun w2 s6 ⟨z3, H6, I6, r6, q6⟩ => ho2 pins s6 σ H6 z' z3 w' w2 Q I6 r4 r6 q6))
end
end DL
namespace NS
open PySem PySem.Spec PyProof.Rows L2
mutual
def noText : NestedKey → Bool
  | .none => true
  | .num _ => true
  | .text _ => false
  | .tup ks => noTexts ks
def noTexts : List NestedKey → Bool
  | [] => true
  | k :: ks => noText k && noTexts ks
end
structure KeyAt (h : Heap) (k : NestedKey) (b : Addr) : Prop where
  nk : NestedIs h k (.ref b)
  dp : k.depth ≤ 8
section
variable {P : Program} {w : World}
def ClsAt (P : Program) (w : World) (n : Nat) (s : Shared) (v : Value) : Prop := ∀ (A : Around) (E : Value → Shared → Prop) (Q : Bool → Shared → Prop), Q false s → wpAny (model P w) A (ofAClassStatement n v) Q E s
def HshAt (P : Program) (w : World) (n : Nat) (s : Shared) (v : Value) (b : Bool) : Prop := ∀ (A : Around) (E : Value → Shared → Prop) (Q : Bool → Shared → Prop), Q b s → wpAny (model P w) A (hashByValue n v) Q E s
theorem ClsAt.tuple {n : Nat} {s : Shared} {b : Addr} {ob : Obj} {us : Array Value} {m : Nat} (g1 : s.heap.get? b = some ob) (g2 : ob.cls = .type "tuple") (g3 : ob.data = .seq us m) (g4 : ∀ u ∈ us.toList, ClsAt P w n s u) : ClsAt P w (n + 1) s (.ref b) := fun A E Q q => by
  unfold ofAClassStatement
  refine wpAny_bind (wpAny_typeOf ⟨ob, g1, g2⟩ ?_)
  dsimp only
  simp only [show (("tuple" : String) == "tuple") = true from by decide, if_true, Bool.not_true, Bool.false_eq_true, if_false]
  try refine wpAny_bind (wpAny_pure ?_)
  try simp only [Bool.not_true, Bool.false_eq_true, if_false]
  show wpAny _ _ (seqItems? (.ref b) >>= _) _ _ s
  refine wpAny_bind (wpAny_seqItems g1 g3 ?_)
  dsimp only
  refine wpAny_bind ?_
  show wpAny _ _ (forIn us _ _) _ _ s
  rw [← Array.forIn_toList]
  refine wpAny_forIn_list _ (fun l x s1 => x.1 = none ∧ s1 = s ∧ ∀ u ∈ l, ClsAt P w n s u) _ ?_ ?_ _ _ ⟨rfl, rfl, g4⟩
  · rintro u l x s1 ⟨_, rfl, hl⟩
    refine wpAny_bind (hl u (List.mem_cons_self) _ _ _ ?_)
    simp only [Bool.false_eq_true, if_false]
    exact wpAny_pure ⟨rfl, rfl, fun z hz => hl z (.tail _ hz)⟩
  · rintro ⟨x1, x2⟩ s1 ⟨hx, rfl, _⟩
    simp only at hx
    subst hx
    exact wpAny_pure q
inductive HshAll (P : Program) (w : World) (n : Nat) (s : Shared) : List Value → Bool → Prop
  | nil : HshAll P w n s [] true
  | no {u : Value} {us : List Value} : HshAt P w n s u false → HshAll P w n s (u :: us) false
  | yes {u : Value} {us : List Value} {b : Bool} : HshAt P w n s u true → HshAll P w n s us b → HshAll P w n s (u :: us) b
theorem HshAt.tuple {n : Nat} {s : Shared} {b : Addr} {ob : Obj} {us : Array Value} {m : Nat} {r : Bool} (g1 : s.heap.get? b = some ob) (g2 : ob.cls = .type "tuple") (g3 : ob.data = .seq us m) (g4 : HshAll P w n s us.toList r) : HshAt P w (n + 1) s (.ref b) r := fun A E Q q => by
  have ty : s.TypeIs (.ref b) "tuple" := ⟨ob, g1, g2⟩
  unfold hashByValue
  refine wpAny_bind (wpAny_specialOf ty F.slot_tuple_hash.lookup ?_)
  show wpAny _ _ (seqItems? (.ref b) >>= _) _ _ s
  refine wpAny_bind (wpAny_seqItems g1 g3 ?_)
  refine wpAny_bind ?_
  show wpAny _ _ (forIn us _ _) _ _ s
  rw [← Array.forIn_toList]
  refine wpAny_forIn_list _ (fun l x s1 => x.1 = none ∧ s1 = s ∧ HshAll P w n s l r) _ ?_ ?_ _ _ ⟨rfl, rfl, g4⟩
  · rintro u l x s1 ⟨_, rfl, hl⟩
    cases hl with
    | yes h1 h2 =>
      refine wpAny_bind (h1 _ _ _ ?_)
      simp only [Bool.not_true, Bool.false_eq_true, if_false]
      exact wpAny_pure ⟨rfl, rfl, h2⟩
    | no h1 =>
      refine wpAny_bind (h1 _ _ _ ?_)
      simp only [Bool.not_false, if_true]
      exact wpAny_pure (wpAny_pure q)
  · rintro ⟨x1, x2⟩ s1 ⟨hx, rfl, hl⟩
    simp only at hx
    subst hx
    cases hl
    exact wpAny_pure q
mutual
theorem cls_key : ∀ (k : NestedKey) (v : Value) (n : Nat) (s : Shared), NestedIs s.heap k v → k.depth ≤ n → ClsAt P w n s v
  | .none, _, n, s, x, _ => by cases x; intro A E Q q; cases n <;> exact wpAny_pure q
  | .num i, _, n, s, x, _ => by cases x <;> (intro A E Q q; cases n <;> exact wpAny_pure q)
  | .text y, _, n, s, x, _ => by cases x; intro A E Q q; cases n <;> exact wpAny_pure q
  | .tup ks, _, n, s, x, hn => by
    cases x with
    | tup g1 g2 g3 g4 =>
      simp only [NestedKey.depth] at hn
      match n, hn with
      | n + 1, hn => exact ClsAt.tuple g1 g2 g3 (cls_keys ks _ n s g4 (by omega))
theorem cls_keys : ∀ (ks : List NestedKey) (vs : List Value) (n : Nat) (s : Shared), NestedAll s.heap ks vs → NestedKey.depthAll ks ≤ n → ∀ v ∈ vs, ClsAt P w n s v
  | [], _, n, s, x, _, v, hv => by cases x; cases hv
  | k :: ks, _, n, s, x, hn, v, hv => by
    cases x with
    | cons x1 x2 =>
      simp only [NestedKey.depthAll] at hn
      rcases List.mem_cons.mp hv with z | z
      · rw [z]; exact cls_key k _ n s x1 (by omega)
      · exact cls_keys ks _ n s x2 (by omega) v z
end
mutual
theorem hsh_key : ∀ (k : NestedKey) (v : Value) (n : Nat) (s : Shared), NestedIs s.heap k v → k.depth ≤ n → HshAt P w n s v (noText k)
  | .none, _, n, s, x, _ => by cases x; intro A E Q q; cases n <;> exact wpAny_pure q
  | .num i, _, n, s, x, _ => by cases x <;> (intro A E Q q; cases n <;> exact wpAny_pure q)
  | .text y, _, n, s, x, _ => by cases x; intro A E Q q; cases n <;> exact wpAny_pure q
  | .tup ks, _, n, s, x, hn => by
    cases x with
    | tup g1 g2 g3 g4 =>
      simp only [NestedKey.depth] at hn
      match n, hn with
      | n + 1, hn => exact HshAt.tuple g1 g2 g3 (hsh_keys ks _ n s g4 (by omega))
theorem hsh_keys : ∀ (ks : List NestedKey) (vs : List Value) (n : Nat) (s : Shared), NestedAll s.heap ks vs → NestedKey.depthAll ks ≤ n → HshAll P w n s vs (noTexts ks)
  | [], _, n, s, x, _ => by cases x; exact .nil
  | k :: ks, _, n, s, x, hn => by
    cases x with
    | cons x1 x2 =>
      simp only [NestedKey.depthAll] at hn
      have h1 := hsh_key k _ n s x1 (by omega)
      have h2 := hsh_keys ks _ n s x2 (by omega)
      simp only [noTexts]
      cases e : noText k with
      | false => rw [e] at h1; exact .no h1
      | true => rw [e] at h1; rw [Bool.true_and]; exact .yes h1 h2
end
variable {A : Around} {E : Value → Shared → Prop} {s : Shared}
theorem seenN {k : NestedKey} {b : Addr} {Q : Bool → Shared → Prop} (hk : KeyAt s.heap k b) {ys : List Value} (hy : ∀ y ∈ ys, ∃ k2 c, y = Value.ref c ∧ KeyAt s.heap k2 c) (q : Q false s) : wpAny (model P w) A (searchCouldBeSeen (.ref b) ys) Q E s := by
  unfold searchCouldBeSeen
  refine wpAny_bind ?_
  refine wpAny_forIn_list _ (fun l x s1 => x.1 = none ∧ s1 = s ∧ ∀ y ∈ l, ∃ k2 c, y = Value.ref c ∧ KeyAt s.heap k2 c) _ ?_ ?_ _ _ ⟨rfl, rfl, hy⟩
  · rintro u l x s1 ⟨_, rfl, hl⟩
    obtain ⟨k2, c, rfl, hc⟩ := hl u (List.mem_cons_self)
    have more : ∀ y ∈ l, ∃ k2 c, y = Value.ref c ∧ KeyAt s1.heap k2 c := fun z hz => hl z (.tail _ hz)
    dsimp only
    by_cases hv : (b == c || (carriedByValue (.ref b) && carriedByValue (.ref c))) = true
    · exact wp_if_pos hv (wpAny_pure ⟨rfl, rfl, more⟩)
    · refine wp_if_neg hv ?_
      refine wpAny_bind (quiet_key k _ 8 s1 hk.nk hk.dp _ _ _ ?_)
      simp only [Bool.not_true, Bool.false_eq_true, if_false]
      refine wpAny_bind (quiet_key k2 _ 8 s1 hc.nk hc.dp _ _ _ ?_)
      simp only [Bool.not_true, Bool.false_eq_true, if_false]
      refine wpAny_bind (cls_key k _ 8 s1 hk.nk hk.dp _ _ _ ?_)
      simp only [Bool.false_eq_true, if_false]
      refine wpAny_bind (cls_key k2 _ 8 s1 hc.nk hc.dp _ _ _ ?_)
      simp only [Bool.false_eq_true, if_false]
      exact wpAny_pure ⟨rfl, rfl, more⟩
  · rintro ⟨x1, x2⟩ s1 ⟨hx, rfl, _⟩
    simp only at hx
    subst hx
    exact wpAny_pure q
end
end NS
namespace NS
open PySem PySem.Spec PyProof.Rows L2
abbrev KA := Addr × NestedKey
section
variable {P : Program} {w : World}
def rowsN (w : World) (L : List KA) : List (Int × Value) := L.map fun q => (q.2.hash w, Value.ref q.1)
abbrev hsN (w : World) (L : List KA) : List Int := L.map fun q => q.2.hash w
structure SetN (w : World) (h : Heap) (a : Addr) (L : List KA) (es : Array (Int × Value)) (ep : Nat) (t : SetTable) : Prop where
  at_ : ∃ o, h.get? a = some o ∧ o.ExactSet ∧ o.data = .set es ep t
  rows : es.toList = rowsN w L
  tab : TabOk t (hsN w L)
  nd : (L.map (·.2)).Nodup
  keys : ∀ q ∈ L, KeyAt h q.2 q.1
  led : w.params.followText "set-order" = true ∨ t.led = true
  room : L.length * 5 < t.mask * 3
  few : L.length < 64
variable {A : Around} {E : Value → Shared → Prop} {s : Shared} {a : Addr} {L : List KA} {es : Array (Int × Value)} {ep : Nat} {t : SetTable}
theorem rowsN_len (h : es.toList = rowsN w L) : es.size = L.length := by
  have q := congrArg List.length h
  simpa [rowsN] using q
theorem fits_of (h1 : t.place.size = es.size) (h2 : t.dummies = #[]) (h3 : es.size ≤ t.mask) : t.fits es.size = true := by
  simp only [SetTable.fits, SetTable.fill, h2, Bool.and_eq_true, beq_iff_eq, decide_eq_true_eq]
  exact ⟨h1, by simp; omega⟩
theorem SetN.fits {h : Heap} (R : SetN w h a L es ep t) : t.fits es.size = true := by
  have h1 := R.tab.sz
  have h2 := rowsN_len R.rows
  have h3 := R.room
  simp only [List.length_map] at h1
  exact fits_of (by omega) R.tab.dm (by omega)
theorem SetN.ent {h : Heap} (R : SetN w h a L es ep t) {i : Nat} {q : KA} (e : L[i]? = some q) : es[i]? = some (q.2.hash w, Value.ref q.1) := by
  rw [← Array.getElem?_toList, R.rows, rowsN, List.getElem?_map, e]
  rfl
theorem SetN.stays {h : Heap} (R : SetN w h a L es ep t) : ¬ t.gaveWay = true := by
  rw [SetTable.gaveWay, mask_odd R.tab.mok]
  decide
abbrev stepAt (m : Nat) (z : Int) (c : Nat) : SetTable.Probe := nth m (runAt m (SetTable.bits z % (m + 1)) (SetTable.bits z)) c
theorem stepAt_dm (m : Nat) (z : Int) (c : Nat) : (stepAt m z c).dummy = none := by
  have key : ∀ (n : Nat) (p : SetTable.Probe), p.dummy = none → (nth m p n).dummy = none := by
    intro n
    induction n with
    | zero => exact fun p e => e
    | succ n ih =>
      intro p e
      refine ih (adv m p) ?_
      unfold adv
      split <;> exact e
  exact key c _ rfl
theorem stepAt_add (m : Nat) (z : Int) (c d : Nat) : nth m (stepAt m z c) d = stepAt m z (c + d) := (nth_add m c _ d).symm
theorem srch (R : SetN w s.heap a L es ep t) {x : Addr} {k : NestedKey} (hx : KeyAt s.heap k x) (hu : A.units + 8 < cLine) {n : Nat} (hnf : n < 10 * SetTable.turns t.mask)
    (hn : way t.mask (k.hash w) n ∉ t.place.toList) (hb : ∀ c, c < n → way t.mask (k.hash w) c ∈ t.place.toList) {Q : SetFound → Shared → Prop}
    (yes : k ∈ L.map (·.2) → Q (.there none) s) (no : k ∉ L.map (·.2) → Q (.free (way t.mask (k.hash w) n) false) s) :
    ∀ (f c : Nat) (st : Option SetTable.Probe), st.getD (t.probeStart (k.hash w)) = stepAt t.mask (k.hash w) c → c ≤ n → n - c < f →
      (∀ (i : Nat) q, L[i]? = some q → q.2 = k → ∃ d, c ≤ d ∧ d < n ∧ t.place.toList[i]? = some (way t.mask (k.hash w) d)) →
      wpAny (model P w) A (setSearchFrom a (.ref x) (k.hash w) true f st) Q E s
  | 0, _, _, _, _, hf, _ => absurd hf (Nat.not_lt_zero _)
  | f + 1, c, st, hst, hc, hf, hre => by
    obtain ⟨o, g1, g2, g3⟩ := R.at_
    rw [setSearchFrom_succ]
    refine wpAny_bind (wpAny_setState_of g1 g3 (SetN.fits R) ?_)
    dsimp only
    refine wp_if_neg (SetN.stays R) ?_
    try refine wpAny_bind (wpAny_pure ?_)
    have w1 : ∀ d, (nth t.mask (stepAt t.mask (k.hash w) c) d).j = way t.mask (k.hash w) (c + d) := fun d => congrArg SetTable.Probe.j (stepAt_add t.mask (k.hash w) c d)
    have hs1 : ∀ (i : Nat) q, L[i]? = some q → (fun i => (es[i]?.map (·.1)).getD 0) i = q.2.hash w := fun i q e => by
      show (es[i]?.map (·.1)).getD 0 = _
      rw [SetN.ent R e]
      rfl
    rcases go_spec t R.tab.ris R.tab.dm (fun i => (es[i]?.map (·.1)).getD 0) (k.hash w) (10 * SetTable.turns t.mask) (n - c) _ (stepAt_dm t.mask (k.hash w) c) (by omega) (fun d hd => by rw [w1]; exact hb _ (by omega)) (by rw [w1, show c + (n - c) = n by omega]; exact hn) with
      ⟨d, i, hd, hi, hh, hno, hpr⟩ | ⟨hno, hpr⟩
    · have e1 : t.probe (fun i => (es[i]?.map (·.1)).getD 0) (k.hash w) (st.getD (t.probeStart (k.hash w))) = some (.candidate (way t.mask (k.hash w) (c + d)) i (stepAt t.mask (k.hash w) (c + (d + 1)))) := by
        rw [hst, ← w1, ← stepAt_add]
        exact hpr
      rw [e1]
      dsimp only
      rw [w1] at hi
      have hil : i < L.length := by
        have h1 := (List.getElem?_eq_some_iff.mp hi).1
        have h2 := R.tab.sz
        simp only [List.length_map, Array.length_toList] at h1 h2
        omega
      obtain ⟨q, hq⟩ : ∃ q, L[i]? = some q := ⟨_, List.getElem?_eq_getElem hil⟩
      have hm : q ∈ L := List.mem_of_getElem? hq
      have hqk := R.keys q hm
      have go : wpAny (model P w) A (searchRest a (.ref x) (k.hash w) true f es t (way t.mask (k.hash w) (c + d)) i (stepAt t.mask (k.hash w) (c + (d + 1)))) Q E s := by
        unfold searchRest
        rw [SetN.ent R hq]
        dsimp only
        have hdm : min q.2.depth k.depth ≤ 8 := Nat.le_trans (Nat.min_le_left _ _) hqk.dp
        refine wpAny_bind (wpAny_holding (eqAt_key q.2 k A s _ _ hqk.nk hx.nk (by omega) _ _ _ _ ?_))
        refine wpAny_bind (wpAny_setState_of g1 g3 (SetN.fits R) ?_)
        dsimp only
        rw [← NestedKey.decide_eq]
        by_cases same : q.2 = k
        · refine wp_if_pos (by simp [same]) ?_
          exact wpAny_pure (yes (List.mem_map.mpr ⟨q, hm, same⟩))
        · refine wp_if_neg (by simp [same]) ?_
          try refine wpAny_bind (wpAny_pure ?_)
          rw [sameMem]
          dsimp only
          have live : t.slot (way t.mask (k.hash w) (c + d)) = .live i := slot_live R.tab.ris hi
          simp only [if_true, live, SetN.ent R hq]
          refine wpAny_bind (wpAny_isSame_ref_self (wpAny_bind (wpAny_pure ?_)))
          simp only [if_true]
          refine wp_if_neg (by simp [same]) ?_
          refine srch R hx hu hnf hn hb yes no f (c + (d + 1)) _ rfl (by omega) (by omega) fun i0 q0 z0 z1 => ?_
          obtain ⟨c', y1, y2, y3⟩ := hre i0 q0 z0 z1
          refine ⟨c', ?_, y2, y3⟩
          by_cases lt : c' < c + d
          · exact absurd ((hs1 i0 q0 z0).trans (congrArg (NestedKey.hash w) z1)) (hno (c' - c) i0 (by omega) (by rw [w1, show c + (c' - c) = c' by omega]; exact y3))
          · by_cases gt : c + d < c'
            · omega
            · exfalso
              obtain rfl : c' = c + d := by omega
              have l2 := slot_live R.tab.ris y3
              rw [live] at l2
              injection l2 with l2
              rw [← l2, hq] at z0
              exact same ((congrArg Prod.snd (Option.some.inj z0)).trans z1)
      by_cases hl : t.led = true
      · refine wp_if_neg (by simp [hl]) ?_
        try refine wpAny_bind (wpAny_pure ?_)
        exact go
      · refine wp_if_pos (by simp [hl]) ?_
        refine wpAny_bind (seenN hx (fun y hy => ?_) ?_)
        · obtain ⟨e, he, ee⟩ := List.mem_map.mp hy
          have he2 : e ∈ es.toList := by
            have : e ∈ es ∧ e.1 = k.hash w := by simpa using he
            simpa using this.1
          rw [R.rows] at he2
          obtain ⟨q2, hq2, rfl⟩ := List.mem_map.mp he2
          exact ⟨q2.2, q2.1, ee.symm, R.keys q2 hq2⟩
        · refine wp_if_neg (by decide) ?_
          try refine wpAny_bind (wpAny_pure ?_)
          exact go
    · have e1 : t.probe (fun i => (es[i]?.map (·.1)).getD 0) (k.hash w) (st.getD (t.probeStart (k.hash w))) = some (.empty (way t.mask (k.hash w) n) none) := by
        have e2 := w1 (n - c)
        rw [show c + (n - c) = n by omega] at e2
        rw [hst, ← e2]
        exact hpr
      rw [e1]
      dsimp only
      refine wpAny_pure (no fun hm => ?_)
      obtain ⟨q0, z0, z1⟩ := List.mem_map.mp hm
      obtain ⟨i0, z2⟩ := List.getElem?_of_mem z0
      obtain ⟨c', y1, y2, y3⟩ := hre i0 q0 z2 z1
      exact absurd ((hs1 i0 q0 z2).trans (congrArg (NestedKey.hash w) z1)) (hno (c' - c) i0 (by omega) (by rw [w1, show c + (c' - c) = c' by omega]; exact y3))
theorem srch_all (R : SetN w s.heap a L es ep t) {x : Addr} {k : NestedKey} (hx : KeyAt s.heap k x) (hu : A.units + 8 < cLine) {Q : SetFound → Shared → Prop} (yes : k ∈ L.map (·.2) → Q (.there none) s)
    (no : ∀ n, k ∉ L.map (·.2) → way t.mask (k.hash w) n ∉ t.place.toList → (∀ c, c < n → way t.mask (k.hash w) c ∈ t.place.toList) → Q (.free (way t.mask (k.hash w) n) false) s) :
    wpAny (model P w) A (setSearch a (.ref x) (k.hash w) true) Q E s := by
  have rm := R.room
  obtain ⟨n, nf, n1, n2⟩ := R.tab.first (by simp only [List.length_map]; omega) (k.hash w)
  have big : n < 100000 := by
    have : SetTable.turns t.mask ≤ 142 := by
      unfold SetTable.turns
      rcases R.tab.mok with e | e | e <;> omega
    omega
  unfold setSearch
  refine srch R hx hu nf n1 n2 yes (fun z => no n z n1 n2) 100000 0 none rfl (Nat.zero_le _) (by omega) fun i q hq hk => ?_
  have h1 : (hsN w L)[i]? = some (k.hash w) := by rw [List.getElem?_map, hq, ← hk]; rfl
  have h2 : i < t.place.toList.length := by
    have y1 := (List.getElem?_eq_some_iff.mp hq).1
    have y2 := R.tab.sz
    simp only [List.length_map, Array.length_toList] at y1 y2 ⊢
    omega
  obtain ⟨c, y1, y2⟩ := R.tab.before n1 h1 (List.getElem?_eq_getElem h2)
  exact ⟨c, Nat.zero_le _, y1, by rw [List.getElem?_eq_getElem h2, y2]⟩
end
end NS
namespace NS
open PySem PySem.Spec PyProof.Rows L2
section
variable {P : Program} {w : World} {A : Around} {E : Value → Shared → Prop} {s : Shared} {a : Addr} {L : List KA} {es : Array (Int × Value)} {ep : Nat} {t : SetTable}
theorem key_but {h h' : Heap} {k : NestedKey} {b : Addr} {o : Obj} (x : KeyAt h k b) (g1 : h.get? a = some o) (g3 : o.data = .set es ep t) (hs : Heap.SameBut a h h') : KeyAt h' k b :=
  ⟨NestedIs.at (fun c oc vs n hc hd => (hs.2 c fun e => by
    subst e
    rw [g1] at hc
    cases hc
    rw [g3] at hd
    cases hd).trans hc) k _ x.nk, x.dp⟩
theorem key_keep {h h' : Heap} {k : NestedKey} {b : Addr} (x : KeyAt h k b) (hk : ∀ c o, h.get? c = some o → h'.get? c = some o) : KeyAt h' k b :=
  ⟨NestedIs.at (fun c o _ _ hc _ => hk c o hc) k _ x.nk, x.dp⟩
theorem order_some (L : List KA) (es : Array (Int × Value)) (hr : es.toList = rowsN w L) : ∀ l : List Nat, (∀ i ∈ l, i < L.length) →
    l.filterMap (fun i => es[i]?) = rowsN w (l.filterMap fun i => L[i]?) ∧ hsN w (l.filterMap fun i => L[i]?) = l.map fun i => (es.map (·.1)).getD i 0
  | [], _ => ⟨rfl, rfl⟩
  | i :: l, h => by
    have hi := h i (by simp)
    obtain ⟨e1, e2⟩ := order_some L es hr l fun j hj => h j (by simp [hj])
    have e3 : es[i]? = some (NestedKey.hash w (L[i]).2, Value.ref (L[i]).1) := by
      rw [← Array.getElem?_toList, hr, rowsN, List.getElem?_map, List.getElem?_eq_getElem hi]
      rfl
    have e4 : L[i]? = some L[i] := List.getElem?_eq_getElem hi
    constructor
    · rw [List.filterMap_cons_some e3, List.filterMap_cons_some e4, e1]
      rfl
    · rw [List.filterMap_cons_some e4, List.map_cons, ← e2]
      show NestedKey.hash w (L[i]).2 :: hsN w _ = _
      refine congrArg (· :: hsN w (l.filterMap fun i => L[i]?)) ?_
      have e5 : (es.map (·.1))[i]? = some (NestedKey.hash w (L[i]).2) := by rw [Array.getElem?_map, e3]; rfl
      simp [Array.getD_eq_getD_getElem?, e5]
theorem range_some {α : Type} : ∀ L : List α, (List.range L.length).filterMap (fun i => L[i]?) = L
  | [] => rfl
  | x :: L => by
    have ih := range_some L
    rw [List.length_cons, List.range_succ_eq_map]
    have e0 : (fun i => (x :: L)[i]?) 0 = some x := rfl
    rw [List.filterMap_cons_some e0, List.filterMap_map]
    exact congrArg (x :: ·) ih
theorem put_rows (L : List KA) (p : Nat) (x : Addr) (k : NestedKey) : rowsN w (L.take p ++ (x, k) :: L.drop p) = (rowsN w L).take p ++ (k.hash w, Value.ref x) :: (rowsN w L).drop p := by
  simp only [rowsN, List.map_append, List.map_cons, List.map_take, List.map_drop]
theorem put_hs (L : List KA) (p : Nat) (x : Addr) (k : NestedKey) : hsN w (L.take p ++ (x, k) :: L.drop p) = (hsN w L).take p ++ k.hash w :: (hsN w L).drop p := by
  simp only [hsN, List.map_append, List.map_cons, List.map_take, List.map_drop]
theorem relayN {o : Obj} (g1 : s.heap.get? a = some o) (g2 : o.ExactSet) (g3 : o.data = .set es ep t) (hr : es.toList = rowsN w L) (hz : t.place.size = es.size) (hd : t.dummies = #[]) (hf : es.size ≤ t.mask)
    (nd : (L.map (·.2)).Nodup) (ky : ∀ q ∈ L, KeyAt s.heap q.2 q.1) (ld : w.params.followText "set-order" = true ∨ t.led = true) (few : L.length < 64) {big M : Nat}
    (m1 : SetTable.sizeAbove big - 1 = M) (m2 : MaskOk M) (m3 : SetTable.sizeAbove big ≤ 128) (m4 : L.length * 5 < M * 3) {Q : Unit → Shared → Prop}
    (hQ : ∀ h2 L2 es2 ep2 t2, Heap.SameBut a s.heap h2 → SetN w h2 a L2 es2 ep2 t2 → L2.Perm L → Q () { s with heap := h2 }) : wpAny (model P w) A (setRelay a big) Q E s := by
  have sl := rowsN_len hr
  obtain ⟨t2, ord, e, pm, T, em, el, e5, ed⟩ := relaid_ok t (hs := es.map (·.1)) (wanted := big) m1 m2 (by rw [Array.size_map, sl]; omega)
  rw [Array.size_map, sl] at pm
  obtain ⟨r1, r2⟩ := order_some L es hr ord.toList fun i hi => List.mem_range.mp (pm.mem_iff.mp hi)
  have p2 : (ord.toList.filterMap fun i => L[i]?).Perm L := by
    have := pm.filterMap fun i => L[i]?
    rwa [range_some] at this
  generalize hL2 : (ord.toList.filterMap fun i => L[i]?) = L2 at r1 r2 p2
  rw [← r2] at T
  have r3 : (ord.filterMap (es[·]?)).toList = rowsN w L2 := by
    first
      | (rw [Array.toList_filterMap]; exact r1)
      | simpa using r1
  have s2 : (ord.filterMap (es[·]?)).size = es.size := by rw [rowsN_len r3, p2.length_eq, sl]
  rw [setRelay_eq]
  refine wpAny_bind (wpAny_setState_of g1 g3 (fits_of hz hd hf) ?_)
  dsimp only
  refine wp_if_neg (by rw [sizeLine_eq]; omega) ?_
  try refine wpAny_bind (wpAny_pure ?_)
  rw [e]
  dsimp only
  refine wpAny_bind ?_
  refine wp_if_neg (by rw [s2]; simp) ?_
  try refine wpAny_bind (wpAny_pure ?_)
  refine wpAny_pure ?_
  dsimp only
  refine wpAny_storeSet_of g1 g3 ?_ (by rw [s2, sl, sizeLine_eq]; omega)
  have sb : Heap.SameBut a s.heap (s.heap.update a (Obj.putSet (ord.filterMap (es[·]?)) t2)) := Heap.SameBut.update ..
  refine hQ _ L2 (ord.filterMap (es[·]?)) (ep + 1) t2 sb ⟨⟨_, store_at g1 g3, ⟨g2.1, g2.2.1, g2.2.2⟩, rfl⟩, r3, T, (p2.map (·.2)).nodup_iff.mpr nd, fun q hq => key_but (ky q (p2.mem_iff.mp hq)) g1 g3 sb, by rw [el]; exact ld, by rw [p2.length_eq, em]; exact m4, by rw [p2.length_eq]; exact few⟩ p2
theorem ite_bnd {α β : Type} {c : Prop} [Decidable c] {m1 m2 : Sem α} {k : α → Sem β} : (if c then m1 >>= k else m2 >>= k) = (if c then m1 else m2) >>= k := by split <;> rfl
theorem addN (R : SetN w s.heap a L es ep t) {x : Addr} {k : NestedKey} (hx : KeyAt s.heap k x) (hu : A.units + 8 < cLine) (few : k ∉ L.map (·.2) → L.length + 1 < 64) {Q : Bool → Shared → Prop}
    (hQ : ∀ b h2 L2 es2 ep2 t2, Heap.SameBut a s.heap h2 → SetN w h2 a L2 es2 ep2 t2 → (k ∈ L.map (·.2) → L2 = L) → (k ∉ L.map (·.2) → L2.Perm ((x, k) :: L)) → Q b { s with heap := h2 }) :
    wpAny (model P w) A (setAddHashed a (.ref x) (k.hash w)) Q E s := by
  obtain ⟨o, g1, g2, g3⟩ := R.at_
  have sl := rowsN_len R.rows
  have rm := R.room
  unfold setAddHashed
  refine wpAny_holding ?_
  rw [show (100000 : Nat) = 99999 + 1 from rfl, setAddHashedIn_succ]
  refine wpAny_bind (wpAny_setState_of g1 g3 (SetN.fits R) ?_)
  dsimp only
  refine wp_if_neg (by simp [byScan, Value.scannable]) ?_
  try refine wpAny_bind (wpAny_pure ?_)
  refine wpAny_bind (srch_all R hx hu (fun z => ?_) fun n z n1 n2 => ?_)
  · dsimp only
    exact wpAny_pure (hQ false s.heap L es ep t (Heap.SameBut.refl a s.heap) R (fun _ => rfl) fun y => absurd z y)
  · have few := few z
    dsimp only
    refine wpAny_bind (wpAny_setState_of g1 g3 (SetN.fits R) ?_)
    dsimp only
    obtain ⟨q1, q2, q3, q4, q5, q6, q7, q8, q9⟩ := R.tab.put n1 n2
    generalize hpt : t.put (way t.mask (k.hash w) n) = pt at q1 q3 q4 q5 q6 q7 q8 q9 ⊢
    obtain ⟨t0, p⟩ := pt
    dsimp only at q1 q3 q4 q5 q6 q7 q8 q9 ⊢
    subst q1
    have hsh := hsh_key (P := P) (w := w) k (.ref x) 8 s hx.nk hx.dp
    rw [ite_bnd]
    refine wpAny_bind (wpAny_mono (Q := fun _ s' => s = s') (E := E) ?_ (fun bv s' e => ?_) fun _ _ h => h)
    · split
      · exact hsh _ _ _ rfl
      · exact wpAny_pure rfl
    subst e
    obtain ⟨t1, et1, q3, q4, q5, q9⟩ : ∃ t1 : SetTable, (if bv = true then t0 else { t0 with plain := false }) = t1 ∧ TabOk t1 (List.take (SetTable.below t.place (way t.mask (k.hash w) n)) (hsN w L) ++ k.hash w :: List.drop (SetTable.below t.place (way t.mask (k.hash w) n)) (hsN w L)) ∧ t1.mask = t.mask ∧ t1.led = t.led ∧ t1.fill = (hsN w L).length + 1 := by
      cases bv with
      | true => exact ⟨t0, rfl, q3, q4, q5, q9⟩
      | false => exact ⟨{ t0 with plain := false }, rfl, ⟨q3.ris, q3.dm, q3.sz, q3.mok, q3.bd, q3.reach⟩, q4, q5, q9⟩
    simp only [et1]
    have hin : (SetTable.insertAt es (SetTable.below t.place (way t.mask (k.hash w) n)) (k.hash w, Value.ref x)).toList = rowsN w (L.take (SetTable.below t.place (way t.mask (k.hash w) n)) ++ (x, k) :: L.drop (SetTable.below t.place (way t.mask (k.hash w) n))) := by
      rw [SetTable.toList_insertAt, put_rows, R.rows]
    generalize hpp : SetTable.below t.place (way t.mask (k.hash w) n) = p at q2 q3 hin ⊢
    have pm := put_perm L p (x, k)
    have len1 : (L.take p ++ (x, k) :: L.drop p).length = L.length + 1 := pm.length_eq
    rw [← put_hs (x := x)] at q3
    have nd1 : ((L.take p ++ (x, k) :: L.drop p).map (·.2)).Nodup := by
      refine (pm.map (·.2)).nodup_iff.mpr ?_
      rw [List.map_cons]
      exact List.nodup_cons.mpr ⟨z, R.nd⟩
    have es1s : (SetTable.insertAt es p (k.hash w, Value.ref x)).size = L.length + 1 := by rw [rowsN_len hin, len1]
    generalize SetTable.insertAt es p (k.hash w, Value.ref x) = es1 at hin es1s ⊢
    generalize L.take p ++ (x, k) :: L.drop p = L1 at pm len1 q3 nd1 hin
    refine wpAny_bind (wpAny_storeSet_of g1 g3 ?_ (by rw [es1s, sizeLine_eq]; omega))
    have sb : Heap.SameBut a s.heap (s.heap.update a (Obj.putSet es1 t1)) := Heap.SameBut.update ..
    have g1' := store_at (es' := es1) (t' := t1) g1 g3
    generalize s.heap.update a (Obj.putSet es1 t1) = h1 at sb g1' ⊢
    have ky1 : ∀ q ∈ L1, KeyAt h1 q.2 q.1 := fun q hq => by
      rcases List.mem_cons.mp (pm.mem_iff.mp hq) with e | hq
      · rw [e]; exact key_but hx g1 g3 sb
      · exact key_but (R.keys q hq) g1 g3 sb
    have ld1 : w.params.followText "set-order" = true ∨ t1.led = true := by rw [q5]; exact R.led
    have tf : t1.tooFull = decide ((L.length + 1) * 5 ≥ t1.mask * 3) := by
      unfold SetTable.tooFull
      rw [q9, List.length_map]
    by_cases hf : t1.tooFull = true
    · first
        | (refine wpAny_bind ?_; refine wp_if_pos (by simp [hf]) ?_)
        | (refine wp_if_pos (by simp [hf]) ?_; refine wpAny_bind ?_)
      have full : (L.length + 1) * 5 ≥ t1.mask * 3 := by rw [tf] at hf; exact of_decide_eq_true hf
      rw [sl]
      have sz1 : t1.place.size = es1.size := by
        have y := q3.sz
        simp only [List.length_map] at y
        rw [y, len1, es1s]
      have two : (t.mask = 7 ∧ L.length = 4) ∨ (t.mask = 31 ∧ L.length = 18) := by
        rcases R.tab.mok with e | e | e
        · left; rw [q4, e] at full; rw [e] at rm; exact ⟨e, by omega⟩
        · right; rw [q4, e] at full; rw [e] at rm; exact ⟨e, by omega⟩
        · exfalso; rw [q4, e] at full; omega
      have go : ∀ M, SetTable.sizeAbove (SetTable.grown (L.length + 1)) - 1 = M → MaskOk M → SetTable.sizeAbove (SetTable.grown (L.length + 1)) ≤ 128 → (L.length + 1) * 5 < M * 3 →
          wpAny (model P w) A (setRelay a (SetTable.grown (L.length + 1))) (fun _ s2 => wpAny (model P w) A (pure true) Q E s2) E { s with heap := h1 } := fun M y1 y2 y3 y4 => by
        refine relayN (s := { s with heap := h1 }) g1' ⟨g2.1, g2.2.1, g2.2.2⟩ rfl hin sz1 q3.dm (by rw [es1s, q4]; rcases two with ⟨e, e2⟩ | ⟨e, e2⟩ <;> omega) nd1 ky1 ld1 (by rw [len1]; exact few) y1 y2 y3 (by rw [len1]; exact y4) ?_
        intro h2 L2 es2 ep2 t2 sb2 R2 pm2
        exact wpAny_pure (hQ true h2 L2 es2 ep2 t2 (sb.trans sb2) R2 (fun y => absurd y z) fun _ => pm2.trans pm)
      rcases two with ⟨_, e2⟩ | ⟨_, e2⟩
      · exact go 31 (by rw [e2, size_20]) (.inr (.inl rfl)) (by rw [e2, size_20]; decide) (by omega)
      · exact go 127 (by rw [e2, size_76]) (.inr (.inr rfl)) (by rw [e2, size_76]; decide) (by omega)
    · first
        | refine wp_if_neg (by simp [hf]) ?_
        | (refine wpAny_bind ?_; refine wp_if_neg (by simp [hf]) ?_; refine wpAny_pure ?_)
      refine wpAny_pure (hQ true h1 L1 es1 (ep + 1) t1 sb ⟨⟨_, g1', ⟨g2.1, g2.2.1, g2.2.2⟩, rfl⟩, hin, q3, nd1, ky1, ld1, ?_, by rw [len1]; exact few⟩ (fun y => absurd y z) fun _ => pm)
      rw [tf] at hf
      have hf : (L.length + 1) * 5 < t1.mask * 3 := by simpa using hf
      rw [len1]
      omega
end
end NS
namespace NS
open PySem PySem.Spec PyProof.Rows L2
def FewK (ks : List KA) : Prop := ∀ l : List NestedKey, l.Nodup → (∀ k ∈ l, k ∈ ks.map (·.2)) → l.length < 64
theorem nd_len {α : Type} : ∀ {l m : List α}, l.Nodup → (∀ k ∈ l, k ∈ m) → l.length ≤ m.length
  | [], _, _, _ => Nat.zero_le _
  | k :: l, m, nd, h => by
    obtain ⟨s, t, rfl⟩ := List.append_of_mem (h k (by simp))
    obtain ⟨h1, h2⟩ := List.nodup_cons.mp nd
    have := nd_len (l := l) (m := s ++ t) h2 fun x hx => by
      have := h x (by simp [hx])
      rw [List.mem_append, List.mem_cons] at this
      rw [List.mem_append]
      rcases this with z | z | z
      · exact .inl z
      · subst z; exact absurd hx h1
      · exact .inr z
    simp only [List.length_cons, List.length_append] at this ⊢
    omega
structure Had (ks : List KA) (i : Nat) (L : List KA) : Prop where
  sub : ∀ q ∈ L, q ∈ ks.take i
  all : ∀ q ∈ ks.take i, q.2 ∈ L.map (·.2)
  len : L.length ≤ i
theorem Had.zero (ks : List KA) : Had ks 0 [] := ⟨fun q h => (nomatch h), fun q h => (by simp at h), Nat.le_refl _⟩
theorem Had.old {ks L : List KA} {i : Nat} {x : KA} (g : Had ks i L) (h : ks[i]? = some x) (hm : x.2 ∈ L.map (·.2)) : Had ks (i + 1) L := by
  have e := take_next h
  refine ⟨fun q hq => ?_, fun q hq => ?_, Nat.le_succ_of_le g.len⟩
  · rw [e]; exact List.mem_append_left _ (g.sub q hq)
  · rw [e] at hq
    rcases List.mem_append.mp hq with z | z
    · exact g.all q z
    · rw [List.mem_singleton.mp z]; exact hm
theorem Had.new {ks L L2 : List KA} {i : Nat} {x : KA} (g : Had ks i L) (h : ks[i]? = some x) (pm : L2.Perm (x :: L)) : Had ks (i + 1) L2 := by
  have e := take_next h
  refine ⟨fun q hq => ?_, fun q hq => ?_, by rw [pm.length_eq]; exact Nat.succ_le_succ g.len⟩
  · rw [e]
    rcases List.mem_cons.mp (pm.mem_iff.mp hq) with z | z
    · exact List.mem_append_right _ (by rw [z]; exact List.mem_singleton.mpr rfl)
    · exact List.mem_append_left _ (g.sub q z)
  · rw [(pm.map (·.2)).mem_iff, List.map_cons]
    rw [e] at hq
    rcases List.mem_append.mp hq with z | z
    · exact List.mem_cons_of_mem _ (g.all q z)
    · rw [List.mem_singleton.mp z]; exact List.mem_cons_self
section
variable {P : Program} {w : World} {A : Around} {E : Value → Shared → Prop} {s : Shared}
theorem SetN.keep {h h2 : Heap} {a : Addr} {L : List KA} {es : Array (Int × Value)} {ep : Nat} {t : SetTable} (R : SetN w h a L es ep t) (k1 : ∀ o, h.get? a = some o → h2.get? a = some o) (k2 : ∀ q ∈ L, KeyAt h2 q.2 q.1) : SetN w h2 a L es ep t := by
  obtain ⟨o, g, r⟩ := R.at_
  exact ⟨⟨o, k1 o g, r⟩, R.rows, R.tab, R.nd, k2, R.led, R.room, R.few⟩
abbrev newSet (w : World) : Obj := { cls := .type "set", dict := none, data := .set #[] 0 (.fresh 0 0 (!w.params.followText "set-order")) }
theorem SetN.fresh {h : Heap} {a : Addr} (g : h.get? a = some (newSet w)) : SetN w h a [] #[] 0 (.fresh 0 0 (!w.params.followText "set-order")) where
  at_ := ⟨_, g, ⟨rfl, rfl, rfl⟩, rfl⟩
  rows := rfl
  tab := ⟨List.Pairwise.nil, rfl, rfl, .inl rfl, fun _ z => (nomatch z), fun i h j z => (by simp at z)⟩
  nd := List.nodup_nil
  keys := fun _ z => (nomatch z)
  led := by
    show _ ∨ (!w.params.followText "set-order") = true
    cases w.params.followText "set-order"
    · exact .inr rfl
    · exact .inl rfl
  room := (by decide : 0 * 5 < 7 * 3)
  few := (by decide : 0 < 64)
theorem updateN {I : Addr} {fp wr : List Addr} {G : Array GenState → Array GenState → Prop} {n : Nat} {Pv : Nat → Value → Prop} {St : Nat → Shared → Prop} {R : Result → Shared → Prop}
    (W : WalksS P w A.in1 I fp wr G n Pv St) (S : Addr) (nS : S ∉ fp) (ks : List KA) (hn : n = ks.length) (few : FewK ks) (hv : ∀ i v, Pv i v → ∃ q, ks[i]? = some q ∧ v = .ref q.1)
    (h0 : Heap) (hk : ∀ q ∈ ks, KeyAt h0 q.2 q.1) (z0 : h0.get? S = none) (zw : ∀ b ∈ wr, h0.get? b = none) (hu : A.in1.units + 8 < cLine) :
    ∀ (m i : Nat) (s : Shared), n - i = m → i ≤ n → St i s → (∀ b o, h0.get? b = some o → s.heap.get? b = some o) → (∃ L es ep t, SetN w s.heap S L es ep t ∧ Had ks i L) →
      (∀ s2 L es ep t, Moved (S :: wr) G s s2 → SetN w s2.heap S L es ep t → Had ks n L → (∀ b o, h0.get? b = some o → s2.heap.get? b = some o) → R (.ok (.ret .none)) s2) →
      codeAny (model P w) A (.builtin "set.update.loop" ⟨[.ref S, .ref I], []⟩) R s := by
  have nW : S ∉ wr := fun h => nS (W.sub _ h)
  have wide : ∀ b ∈ wr, b ∈ S :: wr := fun b hb => .tail _ hb
  have hold : ∀ {s1 s2 : Shared}, Moved wr G s1 s2 → (∀ b o, h0.get? b = some o → s1.heap.get? b = some o) → ∀ b o, h0.get? b = some o → s2.heap.get? b = some o := fun mv k b o e => mv.heap b o (fun hb => by rw [zw b hb] at e; cases e) (k b o e)
  intro m
  induction m with
  | zero =>
    intro i s e1 hi st kp ⟨L, es, ep, t, hS, g⟩ hR
    obtain rfl : i = n := by omega
    refine codeAny_builtin F.entry_set_update_loop ?_
    rw [Around.under_plainId F.plain_set_update_loop _]
    show wpAny _ A.in1 (pyNext (.ref I) >>= _) _ _ s
    refine wpAny_bind (W.done s _ _ st fun s2 mv => ?_)
    show wpAny _ A.in1 (ret Value.none) _ _ s2
    have kp2 := hold mv kp
    exact wpAny_pure (hR s2 L es ep t (mv.mono wide) (hS.keep (fun o e => mv.heap S o nW e) fun q hq => key_keep (hk q (List.mem_of_mem_take (g.sub q hq))) kp2) g kp2)
  | succ m ih =>
    intro i s e1 hi st kp ⟨L, es, ep, t, hS, g⟩ hR
    have lt : i < n := by omega
    refine codeAny_builtin F.entry_set_update_loop ?_
    rw [Around.under_plainId F.plain_set_update_loop _]
    show wpAny _ A.in1 (pyNext (.ref I) >>= _) _ _ s
    refine wpAny_bind (W.item i s _ _ lt st fun v s2 pv st2 mv => ?_)
    obtain ⟨q, hq, rfl⟩ := hv i v pv
    have kp2 := hold mv kp
    have hS2 : SetN w s2.heap S L es ep t := hS.keep (fun o e => mv.heap S o nW e) fun r hr => key_keep (hk r (List.mem_of_mem_take (g.sub r hr))) kp2
    have hx : KeyAt s2.heap q.2 q.1 := key_keep (hk q (List.mem_of_getElem? hq)) kp2
    show wpAny _ A.in1 (holding [Value.ref q.1] (setAdd S (.ref q.1)) >>= _) _ _ s2
    refine wpAny_bind (wpAny_holding ?_)
    unfold setAdd
    refine wpAny_holding ?_
    refine wpAny_bind (pyHash_key q.2 _ A.in1 s2 _ hx.nk (by have := hx.dp; omega) ?_)
    refine addN (s := { s2 with toks := s2.toks + q.2.draws }) hS2 hx hu (fun c => by
      have := few (q.2 :: L.map (·.2)) (List.nodup_cons.mpr ⟨c, hS2.nd⟩) fun k hk => by
        rcases List.mem_cons.mp hk with e | hk
        · rw [e]; exact List.mem_map_of_mem (List.mem_of_getElem? hq)
        · obtain ⟨r, hr, e⟩ := List.mem_map.mp hk
          rw [← e]
          exact List.mem_map_of_mem (List.mem_of_mem_take (g.sub r hr))
      simpa using this) fun b h3 L3 es3 ep3 t3 sb hS3 c1 c2 => ?_
    have g3 : Had ks (i + 1) L3 := by
      by_cases c : q.2 ∈ L.map (·.2)
      · rw [c1 c]; exact g.old hq c
      · exact g.new hq (c2 c)
    have kp3 : ∀ b o, h0.get? b = some o → h3.get? b = some o := fun b o e => (sb.2 b (fun z => by rw [z, z0] at e; cases e)).trans (kp2 b o e)
    refine wpAny_pure ⟨plainId_quiet F.plain_set_update_loop _, ih (i + 1) _ (by omega) lt (W.frame _ s2 _ _ st2 (Nat.le_add_right _ _) fun b hb o e => ?_) kp3 ⟨L3, es3, ep3, t3, hS3, g3⟩ fun s4 L4 es4 ep4 t4 mv4 hS4 g4 kp4 => ?_⟩
    · rw [sb.2 b fun z => nS (by rw [← z]; exact hb)]; exact e
    · refine hR s4 L4 es4 ep4 t4 (Moved.trans W.gtrans ((mv.mono wide).then_heap (Nat.le_add_right _ _) fun b o hb e => ?_) mv4) hS4 g4 kp4
      rw [sb.2 b fun z => hb (by rw [z]; exact List.mem_cons_self)]; exact e
end
end NS
namespace NS
open PySem PySem.Spec PyProof.Rows L2
section
variable {P : Program} {w : World} {A : Around} {E : Value → Shared → Prop} {s : Shared}
abbrev Left (w : World) (s : Shared) (ks : List KA) (h2 : Heap) : Prop := ∃ L es ep t, SetN w h2 s.heap.objs.size L es ep t ∧ Had ks ks.length L ∧ ∀ b o, s.heap.get? b = some o → h2.get? b = some o
theorem none_from {h : Heap} {b : Addr} (hb : h.objs.size ≤ b) : h.get? b = none := by
  cases q : h.get? b with
  | none => rfl
  | some o => exact absurd (Nat.lt_of_lt_of_le (Heap.lt_size q) hb) (Nat.lt_irrefl _)
theorem initN {l : Addr} {items : Array Value} (ks : List KA) (hh : A.handled = none) (hl : s.heap.IsList l items) (hit : items.toList = ks.map fun q => Value.ref q.1) (hk : ∀ q ∈ ks, KeyAt s.heap q.2 q.1) (few : FewK ks) (hu : A.units + 11 < cLine)
    {R : PySem.Fin → Shared → Prop} (hR : ∀ h2 tk, Left w s ks h2 → R (.done (.ret .none)) { s with heap := h2, toks := tk }) :
    wpAny (model P w) A.in1.in1 (Builtin.«set.__init__» ⟨[.ref s.heap.objs.size, .ref l], []⟩) R E { s with heap := s.heap.push (newSet w) } := by
  have isz : items.size = ks.length := by
    have q := congrArg List.length hit
    simpa using q
  obtain ⟨ol, hol, hcl, nl, hdl⟩ := hl
  obtain ⟨ocls, odict, odata, oslots⟩ := ol
  simp only at hcl hdl
  subst hcl; subst hdl
  have hS : (s.heap.push (newSet w)).get? s.heap.objs.size = some (newSet w) := Heap.get?_push_size _ rfl
  have hol2 : (s.heap.push (newSet w)).get? l = some { cls := .type "list", dict := odict, data := .seq items nl, slots := oslots } := Heap.get?_push_of_some _ hol
  have a1 := F.sub_list_set
  have a2 := F.sub_list_frozenset
  have a3 : (Value.type "list" == Value.type "dict") = false := by decide
  have hl2 : (s.heap.push (newSet w)).IsList l items := ⟨_, hol2, rfl, nl, rfl⟩
  unfold Builtin.«set.__init__» noKeywords Builtin.Frozenset.updateFrom
  generalize hPI : pyIter = PI
  wp_walk
  subst hPI
  refine wpAny_pyIter_list hl2 ?_
  refine wpAny_bind (wpAny_runValue ?_)
  have lS : l < s.heap.objs.size := Heap.lt_size hol
  have hh3 : A.in1.in1.in1.handled = none := by simp [hh]
  have zp : (s.heap.push (newSet w)).objs.size = s.heap.objs.size + 1 := Heap.size_push ..
  have nl2 : l ≠ (s.heap.push (newSet w)).objs.size := by rw [zp]; exact Nat.ne_of_lt (Nat.lt_succ_of_lt lS)
  have nS : s.heap.objs.size ∉ [(s.heap.push (newSet w)).objs.size, l] := by
    rw [zp]
    simp only [List.mem_cons, List.not_mem_nil, or_false, not_or]
    exact ⟨Nat.ne_of_lt (Nat.lt_succ_self _), Nat.ne_of_gt lS⟩
  have hv : ∀ (i : Nat) (v : Value), items[i]? = some v → ∃ q, ks[i]? = some q ∧ v = .ref q.1 := fun i v e => by
    have q : items.toList[i]? = some v := by rw [Array.getElem?_toList]; exact e
    rw [hit, List.getElem?_map] at q
    cases e2 : ks[i]? with
    | none => rw [e2] at q; cases q
    | some r => rw [e2] at q; exact ⟨r, rfl, (Option.some.inj q).symm⟩
  refine updateN ((Walks.list hh3 _ l nl2 items).toS) s.heap.objs.size nS ks isz few hv s.heap hk (none_from (Nat.le_refl _)) (fun b hb => none_from (by
      rw [List.mem_singleton.mp hb, zp]
      exact Nat.le_succ _)) (by simp only [Around.in1_units]; omega) (items.size - 0) 0 _ (by omega) (Nat.zero_le _) ⟨⟨_, Heap.get?_push_size _ rfl, rfl, rfl⟩, hl2.push _⟩ (fun b o e => Heap.get?_push_of_some _ (Heap.get?_push_of_some _ e)) ⟨[], #[], 0, _, SetN.fresh (Heap.get?_push_of_some _ hS), Had.zero ks⟩ ?_
  intro s2 L es ep t mv hS2 g2 kp
  obtain ⟨h2, gn, dr, tk, osx⟩ := s2
  have eg : gn = s.gens := mv.gens
  have ed : dr = s.drawn := mv.drawn
  have eo : osx = s.os := mv.os
  subst eg; subst ed; subst eo
  show wpAny _ _ _ _ _ _
  refine wpAny_pure ?_
  show wpAny _ _ (ret Value.none) _ _ _
  rw [isz] at g2
  exact wpAny_pure (hR h2 tk ⟨L, es, ep, t, hS2, g2, kp⟩)
theorem callSetN {l : Addr} {items : Array Value} (ks : List KA) {Q : Value → Shared → Prop} (hh : A.handled = none) (hl : s.heap.IsList l items) (hit : items.toList = ks.map fun q => Value.ref q.1) (hk : ∀ q ∈ ks, KeyAt s.heap q.2 q.1) (few : FewK ks) (hu : A.units + 11 < cLine)
    (h : ∀ h2 tk, Left w s ks h2 → Q (.ref s.heap.objs.size) { s with heap := h2, toks := tk }) : wpAny (model P w) A (call (.type "set") [.ref l]) Q E s := by
  obtain ⟨c, tl, hmro⟩ := F.called_set.mro
  have hmade := F.called_set.made
  have hsub := F.called_set.sub
  refine wpAny_call (codeAny_of_tree ?_)
  show wpAny _ _ (callAny (.type "set") _) _ _ _
  refine wpAny_pure ⟨Code.quiet_builtin _ (by decide +kernel), codeAny_builtin F.entry_type_call ?_⟩
  rw [Around.under_plain (weight_type_call_type "set" [.ref l] []) rfl]
  have n1 := F.called_set.notType
  have n2 := F.called_set.canCreate
  have n3 := F.typeCall_set_1 (.ref l)
  repeat (any_goals (first | assumption | wp_step))
  refine codeAny_mono (code_set_led1 (.ref l) (E := E) (Q₁ := fun v s1 => v = .ref s.heap.objs.size ∧ s1 = { s with heap := s.heap.push (newSet w) }) ⟨rfl, rfl⟩) fun r s1 hr => ?_
  cases r with
  | error e => exact hr
  | ok fl =>
    cases fl with
    | ret v =>
      obtain ⟨rfl, rfl⟩ := hr
      have hS : (s.heap.push (newSet w)).get? s.heap.objs.size = some (newSet w) := Heap.get?_push_size _ rfl
      have ty : Shared.TypeIs { s with heap := s.heap.push (newSet w) } (.ref s.heap.objs.size) "set" := ⟨_, hS, rfl⟩
      have i1 := F.called_set.init.lookup
      have i2 := F.called_set.init.bind (.ref s.heap.objs.size)
      repeat (any_goals (first | assumption | wp_step))
      refine codeAny_mono (codeAny_call_builtin (R := wants (fun r s2 => r = .none ∧ ∃ h2 tk, s2 = { s with heap := h2, toks := tk } ∧ Left w s ks h2) E) F.called_set.init.plain F.entry_set_init (check_set_init_1 ty (initN ks hh hl hit hk few hu fun h2 tk z => ⟨rfl, h2, tk, rfl, z⟩))) fun r2 s2 hr2 => ?_
      cases r2 with
      | error e => exact hr2
      | ok fl2 =>
        cases fl2 with
        | ret r =>
          obtain ⟨rfl, h2, tk, rfl, z⟩ := hr2
          repeat (any_goals (first | assumption | wp_step))
          exact h _ _ z
        | _ => exact hr2.elim
    | _ => exact hr.elim
end
end NS
namespace DL
open PySem PySem.Spec PyProof.Rows L2
variable [Lots]
theorem OutG.val {C : Pm} {Hf H : Hp} {d : D} {v : V} {Q : VK} (h : OutG C (RelE C) Hf H (.ok d) Q) (s : Fit Hf H) (r : Rp C.K Hf v d) : Q v H := h v Hf H (Grow.refl s) r
theorem OutG.made {C : Pm} {Hf H : Hp} {d : D} {Q : VK} {p : Addr} {o : HO} (h : OutG C (RelE C) Hf H (.ok d) Q) (s : Fit Hf H) (np : H p = none) (r : Rp C.K (upd Hf p o) (.ref p) d) (hm : isMk o = false := by rfl) : Q (.ref p) (upd H p o) := h _ _ _ (Grow.push s np hm) r
theorem Rp.newL {K : PySem.W.Frag} {Hf : Hp} {p : Addr} {xs : List V} {ds : List D} (np : Hf p = none) (z : xs.length ≤ sizeLine) (r : RpL K Hf xs ds) : Rp K (upd Hf p (.lst xs)) (.ref p) (.list ds) := .lst upd_same z (r.mono (same_upd np))
theorem Rp.newT {K : PySem.W.Frag} {Hf : Hp} {p : Addr} {xs : List V} {ds : List D} (np : Hf p = none) (z : xs.length ≤ sizeLine) (r : RpL K Hf xs ds) : Rp K (upd Hf p (.tup xs)) (.ref p) (.tuple ds) := .tup upd_same z (r.mono (same_upd np))
section
variable {K : PySem.W.Frag} {Hf H : Hp} {v : V}
theorem Rp1.none_ (h : Rp1 K Hf H v .none) : v = .non := by
  rcases h with h | ⟨a, e, h⟩
  · cases h; rfl
  · exact h.elim
theorem Rp1.bool_ {b : Bool} (h : Rp1 K Hf H v (.bool b)) : v = .bl b := by
  rcases h with h | ⟨a, e, h⟩
  · cases h; rfl
  · exact h.elim
theorem Rp1.int_ {i : Int} (h : Rp1 K Hf H v (.int i)) : v = .int i := by
  rcases h with h | ⟨a, e, h⟩
  · cases h; rfl
  · exact h.elim
theorem Rp1.str_ {x : Str} (h : Rp1 K Hf H v (.str x)) : v = .str x := by
  rcases h with h | ⟨a, e, h⟩
  · cases h; rfl
  · exact h.elim
theorem Rp1.list_ {ds : List D} (s : Fit Hf H) (h : Rp1 K Hf H v (.list ds)) : ∃ a xs, v = .ref a ∧ H a = some (.lst xs) ∧ xs.length ≤ sizeLine ∧ RpL K Hf xs ds := by
  rcases h with h | ⟨a, e, h⟩
  · cases h with
    | lst h1 h2 h3 => exact ⟨_, _, rfl, (s.lk _ _ h1 rfl), h2, h3⟩
  · obtain ⟨xs, h1, h2, h3, h4⟩ := h
    exact ⟨a, xs, e, h2, h3, h4⟩
theorem Rp1.tuple_ {ds : List D} (s : Fit Hf H) (h : Rp1 K Hf H v (.tuple ds)) : ∃ a xs, v = .ref a ∧ Hf a = some (.tup xs) ∧ H a = some (.tup xs) ∧ xs.length ≤ sizeLine ∧ RpL K Hf xs ds := by
  rcases h with h | ⟨a, e, h⟩
  · cases h with
    | tup h1 h2 h3 => exact ⟨_, _, rfl, h1, (s.lk _ _ h1 rfl), h2, h3⟩
  · exact h.elim
theorem RpK.noScr {kvs : List (Key × V)} {d : D} {r : List (D × D)} (h : RpK K H kvs ((.none, d) :: r)) : False := by
  generalize e : ((PyData.none, d) :: r : List (D × D)) = l at h
  cases h with
  | nil => cases e
  | @cons k v kvs d' kds h1 h2 =>
    injection e with e1 _
    cases k with
    | inl i => cases e1
    | inr x => cases e1
theorem Rp1.scr_ {ds : List D} (s : Fit Hf H) (h : Rp1 K Hf H v (.dict [(.none, .list ds)])) : ∃ (a : Addr) (ns : List Int), v = .ref a ∧ ds = ns.map PyData.int ∧ SqL K H a (ns.map V.int) ∧ ns.length ≤ sizeLine := by
  rcases h with h | ⟨a, e, h⟩
  · generalize e : PyData.dict [(.none, .list ds)] = d at h
    cases h with
    | @scr a ns h1 h2 =>
      unfold scr at e
      injection e with e
      injection e with e _
      have e2 := (Prod.mk.inj e).2
      injection e2 with e2
      exact ⟨_, _, rfl, e2, Lk.seq s.lk h1, h2⟩
    | dic h1 h2 h3 =>
      injection e with e
      subst e
      exact h3.noScr.elim
    | _ => cases e
  · rcases h with ⟨kvs, _, _, _, h4⟩ | ⟨nds, xs, q, _⟩
    · exact h4.noScr.elim
    · cases q
theorem RpL.ints : ∀ {xs : List V} {ns : List Int}, RpL K H xs (ns.map PyData.int) → xs = ns.map V.int
  | _, [], .nil => rfl
  | _, n :: ns, .cons h r => by
    cases h
    rw [RpL.ints r]
    rfl
theorem RpL.bools : ∀ {xs : List V} {bs : List Bool}, RpL K H xs (bs.map PyData.bool) → xs = bs.map V.bl
  | _, [], .nil => rfl
  | _, n :: ns, .cons h r => by
    cases h
    rw [RpL.bools r]
    rfl
theorem rpL_ints : ∀ (ns : List Int), RpL K H (ns.map V.int) (ns.map PyData.int)
  | [] => .nil
  | n :: ns => .cons (.int n) (rpL_ints ns)
theorem dpL_ints : ∀ (ns : List Int), DpAll K H (ns.map V.int) (ns.map PyData.int)
  | [] => .nil
  | n :: ns => .cons (.int n) (dpL_ints ns)
end
mutual
theorem noDict_of : ∀ {d : D}, d.canLay0 = true → noDict d = true
  | .none, _ => rfl
  | .bool _, _ => rfl
  | .int _, _ => rfl
  | .str _, _ => rfl
  | .list ds, h => noDictL_of (show PyData.canLayAll0 ds = true by simpa [PyData.canLay0] using h)
  | .tuple ds, h => noDictL_of (show PyData.canLayAll0 ds = true by simpa [PyData.canLay0] using h)
  | .dict _, h => by simp [PyData.canLay0] at h
theorem noDictL_of : ∀ {ds : List D}, PyData.canLayAll0 ds = true → noDictL ds = true
  | [], _ => rfl
  | d :: ds, h => by
    simp only [PyData.canLayAll0, Bool.and_eq_true] at h
    simp only [noDictL, Bool.and_eq_true]
    exact ⟨noDict_of h.1, noDictL_of h.2⟩
end
theorem Rp1.dp {K : PySem.W.Frag} {Hf H : Hp} {v : V} {d : D} (s : Fit Hf H) (h : Rp1 K Hf H v d) (e : SeqAt.shaped d = true) : Dp K H v d := h.dpN s (noDict_of (SeqAt.canLay_of_shaped e))
def rD2 (C : Pm) (F : D → D → R D) : R2 := fun x y H Q => ∃ (Hf : Hp) (dx dy : D), Fit Hf H ∧ Rp1 C.K Hf H x dx ∧ Rp1 C.K Hf H y dy ∧ OutG C (RelE C) Hf H (F dx dy) Q
section
variable {X : Cx} {C : Pm} {a b : Expr} {pos : Pos} {fa fb : Env → R D}
theorem e_bin {op : Operator} {F : D → D → R D} (ho : OpR X (binaryOp op) (rD2 C F)) (ha : PE X a (tP C fa)) (hb : PE X b (tP C fb)) :
    PE X (.BinOp a op b pos) (tE C fun ρ => fa ρ >>= fun x => fb ρ >>= fun y => F x y) :=
  PE.imp (pe_op ho ha hb) fun σ H Q ⟨Hf0, H0, Hf, ρ, env, h⟩ => ⟨Hf0, H0, Hf, ρ, env, h.bind fun dx vx Hf1 H1 _ g1 r1 h1 =>
    ⟨Hf0, H0, Hf1, ρ, env.more g1, h1.bind fun dy vy Hf2 H2 _ g2 r2 h2 => ⟨Hf2, dx, dy, g2.sub, r1.grow g2, r2, h2⟩⟩⟩
theorem e_cmp {op : CmpOp} {F : D → D → R D} (ho : OpR X (compareOp op) (rD2 C F)) (ha : PE X a (tP C fa)) (hb : PE X b (tP C fb)) (hm : behindInMarks op b = false) :
    PE X (.Compare a [op] [b] pos) (tE C fun ρ => fa ρ >>= fun x => fb ρ >>= fun y => F x y) :=
  PE.imp (pe_cmpR ho ha hb hm) fun σ H Q ⟨Hf0, H0, Hf, ρ, env, h⟩ => ⟨Hf0, H0, Hf, ρ, env, h.bind fun dx vx Hf1 H1 _ g1 r1 h1 =>
    ⟨Hf0, H0, Hf1, ρ, env.more g1, h1.bind fun dy vy Hf2 H2 _ g2 r2 h2 => ⟨Hf2, dx, dy, g2.sub, r1.grow g2, r2, h2⟩⟩⟩
end
def smallI (i : Int) : Bool := decide (-(2 ^ 64) < i) && decide (i < 2 ^ 64)
def dBin (op : Operator) (x y : D) : R D := match op, x, y with
  | .Add, .int i, .int j => .ok (.int (i + j))
  | .Sub, .int i, .int j => .ok (.int (i - j))
  | .Mult, .int i, .int j => if smallI i || smallI j then .ok (.int (i * j)) else .bad
  | .FloorDiv, .int i, .int j => if decide (0 < j) && decide (j.natAbs.log2 < 9000) then .ok (.int (i / j)) else .bad
  | .Mod, .int i, .int j => if 0 < j then .ok (.int (i % j)) else .bad
  | .Pow, .int i, .int j => if decide (0 ≤ j) && decide (j ≤ 1000000) && decide (i.natAbs < 2 ^ 64) then .ok (.int (i ^ j.toNat)) else .bad
  | .Add, .str i, .str j => if i.length + j.length ≤ sizeLine then .ok (.str (i ++ j)) else .bad
  | .Add, .list i, .list j => if i.length + j.length ≤ sizeLine then .ok (.list (i ++ j)) else .bad
  | .Add, .tuple i, .tuple j => if i.length + j.length ≤ sizeLine then .ok (.tuple (i ++ j)) else .bad
  | .Mult, .list i, .int k => if decide (0 ≤ k) && decide (k ≤ 1000) && decide (i.length ≤ 1000) then .ok (.list (List.replicate k.toNat i).flatten) else .bad
  | .Mult, .str z, .int k => if decide (2 ≤ k) && decide (k ≤ 1000) && decide (z.length ≤ 1000) && decide (z.length ≠ 0) then .ok (.str ⟨(List.replicate k.toNat z.cps).foldl (· ++ ·) #[]⟩) else .bad
  | .Mult, .tuple i, .int 1 => .ok (.tuple i)
  | .Mult, .tuple i, .int k => if decide (2 ≤ k) && decide (k ≤ 1000) && decide (i.length ≤ 1000) && !i.isEmpty then .ok (.tuple (List.replicate k.toNat i).flatten) else if decide (k = 0) && !i.isEmpty then .ok (.tuple []) else .bad
  | _, _, _ => .bad
theorem RpL.rep {K : PySem.W.Frag} {H : Hp} {xs : List V} {ds : List D} (r : RpL K H xs ds) : ∀ n, RpL K H (List.replicate n xs).flatten (List.replicate n ds).flatten
  | 0 => .nil
  | n + 1 => by
    simp only [List.replicate_succ, List.flatten_cons]
    exact r.append (RpL.rep r n)
theorem len_rep {α : Type} (xs : List α) : ∀ n, (List.replicate n xs).flatten.length = n * xs.length
  | 0 => by simp
  | n + 1 => by simp [List.replicate_succ, len_rep xs n, Nat.succ_mul, Nat.add_comm]
section
variable {X : Cx} {C : Pm}
theorem op_bin (hK : C.K = X.K) (op : Operator) : OpR X (binaryOp op) (rD2 C (dBin op)) := by
  intro pins s σ H x y v u Q I rx ry ⟨Hf, dx, dy, sf, hx, hy, h⟩
  unfold dBin at h
  split at h
  · obtain rfl := hx.int_; obtain rfl := hy.int_
    exact op_add pins s σ H _ _ v u Q I rx ry ⟨_, _, rfl, rfl, h.val sf (.int _)⟩
  · obtain rfl := hx.int_; obtain rfl := hy.int_
    exact op_sub pins s σ H _ _ v u Q I rx ry ⟨_, _, rfl, rfl, h.val sf (.int _)⟩
  · rename_i i j
    split at h
    · rename_i hc
      obtain rfl := hx.int_; obtain rfl := hy.int_
      refine op_mul pins s σ H _ _ v u Q I rx ry ⟨_, _, rfl, rfl, ?_, h.val sf (.int _)⟩
      simp only [smallI, Bool.or_eq_true, Bool.and_eq_true, decide_eq_true_eq] at hc
      exact hc
    · exact h.elim
  · split at h
    · rename_i hc
      obtain rfl := hx.int_; obtain rfl := hy.int_
      simp only [Bool.and_eq_true, decide_eq_true_eq] at hc
      exact op_fdivW pins s σ H _ _ v u Q I rx ry ⟨_, _, rfl, rfl, hc, h.val sf (.int _)⟩
    · exact h.elim
  · split at h
    · rename_i hc
      obtain rfl := hx.int_; obtain rfl := hy.int_
      exact op_mod pins s σ H _ _ v u Q I rx ry ⟨_, _, rfl, rfl, hc, h.val sf (.int _)⟩
    · exact h.elim
  · split at h
    · rename_i hc
      obtain rfl := hx.int_; obtain rfl := hy.int_
      simp only [Bool.and_eq_true, decide_eq_true_eq] at hc
      exact op_pow pins s σ H _ _ v u Q I rx ry ⟨_, _, rfl, rfl, ⟨hc.1.1, hc.1.2, hc.2⟩, h.val sf (.int _)⟩
    · exact h.elim
  · split at h
    · rename_i hc
      obtain rfl := hx.str_; obtain rfl := hy.str_
      exact op_add_str pins s σ H _ _ v u Q I rx ry ⟨_, _, rfl, rfl, hc, h.val sf (.str _)⟩
    · exact h.elim
  · split at h
    · rename_i hc
      obtain ⟨a, xs, rfl, ha, za, ra⟩ := hx.list_ sf
      obtain ⟨b, ys, rfl, hb, zb, rb⟩ := hy.list_ sf
      have hl : xs.length + ys.length ≤ sizeLine := by rw [ra.length, rb.length]; exact hc
      refine op_cat pins s σ H _ _ v u Q I rx ry ⟨a, b, xs, ys, rfl, rfl, ha, hb, hl, fun p np => ?_⟩
      exact h.made sf np (.newL (Same.free sf np) (by rw [List.length_append]; exact hl) (ra.append rb))
    · exact h.elim
  · split at h
    · rename_i hc
      obtain ⟨a, xs, rfl, fa, ha, za, ra⟩ := hx.tuple_ sf
      obtain ⟨b, ys, rfl, fb, hb, zb, rb⟩ := hy.tuple_ sf
      have hl : xs.length + ys.length ≤ sizeLine := by rw [ra.length, rb.length]; exact hc
      refine op_catA pins s σ H _ _ v u Q I rx ry ⟨a, b, xs, ys, rfl, rfl, SqT.of ha, SqT.of hb, hl, fun e => ?_, fun _ e => ?_, fun _ _ p np => ?_⟩
      · subst e
        cases ra
        exact h.val sf (.tup fb zb rb)
      · subst e
        cases rb
        refine h.val sf ?_
        rw [List.append_nil]
        exact .tup fa za ra
      · exact h.made sf np (.newT (Same.free sf np) (by rw [List.length_append]; exact hl) (ra.append rb))
    · exact h.elim
  · rename_i i k
    split at h
    · rename_i hc
      simp only [Bool.and_eq_true, decide_eq_true_eq] at hc
      obtain ⟨⟨k0, k1⟩, k2⟩ := hc
      obtain ⟨a, xs, rfl, ha, za, ra⟩ := hx.list_ sf
      obtain rfl := hy.int_
      have e := ra.length
      have hl : k.toNat * xs.length ≤ sizeLine := by
        rw [sizeLine_eq]
        have a1 : k.toNat * xs.length ≤ 1000 * 1000 := Nat.mul_le_mul (by omega) (by omega)
        omega
      refine op_rep pins s σ H _ _ v u Q I rx ry ⟨a, k, xs, rfl, rfl, ha, by omega, by omega, by rw [Nat.mul_comm]; exact hl, fun p np => ?_⟩
      exact h.made sf np (.newL (Same.free sf np) (by rw [len_rep]; exact hl) (ra.rep _))
    · exact h.elim
  · split at h
    · rename_i hc
      simp only [Bool.and_eq_true, decide_eq_true_eq] at hc
      obtain ⟨⟨⟨k0, k1⟩, k2⟩, k3⟩ := hc
      obtain rfl := hx.str_; obtain rfl := hy.int_
      exact op_repS pins s σ H _ _ v u Q I rx ry ⟨_, _, rfl, rfl, k0, k1, k2, k3, h.val sf (.str _)⟩
    · exact h.elim
  · obtain ⟨a, xs, rfl, fa, ha, za, ra⟩ := hx.tuple_ sf
    obtain rfl := hy.int_
    exact op_rep1 pins s σ H _ _ v u Q I rx ry ⟨a, xs, rfl, rfl, SqT.of ha, h.val sf (.tup fa za ra)⟩
  · rename_i i k hk1
    split at h
    · rename_i hc
      simp only [Bool.and_eq_true, decide_eq_true_eq, Bool.not_eq_true', List.isEmpty_eq_false_iff] at hc
      obtain ⟨⟨⟨k0, k1⟩, k2⟩, k3⟩ := hc
      obtain ⟨a, xs, rfl, fa, ha, za, ra⟩ := hx.tuple_ sf
      obtain rfl := hy.int_
      have e := ra.length
      have hl : k.toNat * xs.length ≤ sizeLine := by
        rw [sizeLine_eq]
        have a1 : k.toNat * xs.length ≤ 1000 * 1000 := Nat.mul_le_mul (by omega) (by omega)
        omega
      have hne : xs ≠ [] := fun z => k3 (by
        rw [z] at e
        exact List.eq_nil_of_length_eq_zero e.symm)
      refine op_repT pins s σ H _ _ v u Q I rx ry ⟨a, k, xs, rfl, rfl, SqT.of ha, hne, k0, k1, by omega, fun p np => ?_⟩
      exact h.made sf np (.newT (Same.free sf np) (by rw [len_rep]; exact hl) (ra.rep _))
    · split at h
      · rename_i hc
        simp only [Bool.and_eq_true, decide_eq_true_eq, Bool.not_eq_true', List.isEmpty_eq_false_iff] at hc
        obtain ⟨k0, k3⟩ := hc
        subst k0
        obtain ⟨a, xs, rfl, fa, ha, za, ra⟩ := hx.tuple_ sf
        obtain rfl := hy.int_
        have e := ra.length
        have hne : xs ≠ [] := fun z => k3 (by
          rw [z] at e
          exact List.eq_nil_of_length_eq_zero e.symm)
        exact op_rep0 pins s σ H _ _ v u Q I rx ry ⟨a, xs, rfl, rfl, SqT.of ha, hne, fun p np => h.made sf np (.newT (Same.free sf np) (Nat.zero_le _) .nil)⟩
      · exact h.elim
  · exact h.elim
end
def isScr : D → Option (List D)
  | .dict ((.none, .list ds) :: _) => some ds
  | .dict ((.none, _) :: _) => some []
  | _ => none
def dEq (x y : D) : R Bool := match x, y with
  | .dict [(.none, .list ds)], .list [] => .ok ds.isEmpty
  | x, y => if SeqAt.shaped x && SeqAt.shaped y then .ok (PyData.eqv x y) else .bad
def dLt (x y : D) : R Bool := match x, y with
  | .int i, .int j => .ok (decide (i < j))
  | .str i, .str j => .ok (decide (i.cps.toList < j.cps.toList))
  | .none, _ => .bad
  | x, y => if SeqAt.shaped x && SeqAt.shaped y && PySem.W.alike x y then .ok (PySem.W.dataLt x y) else .bad
def dIn (x y : D) : R Bool := match x, y with
  | .str ⟨⟨[c]⟩⟩, .str z => .ok (decide (c ∈ z.cps.toList))
  | x, .list ds => if SeqAt.shaped x && SeqAt.shaped (.list ds) then .ok (ds.any fun z => PyData.eqv z x) else .bad
  | x, .tuple ds => if SeqAt.shaped x && SeqAt.shaped (.tuple ds) then .ok (ds.any fun z => PyData.eqv z x) else .bad
  | x, .dict kds => if dkB kds && (keyOfD x).isSome then .ok (lookD kds x).isSome else dInN x kds
  | _, _ => .bad
def isNon : D → Bool
  | .none => true
  | _ => false
def dIs (x y : D) : R Bool := match x, y with
  | x, .none => .ok (isNon x)
  | .bool a, .bool b => .ok (decide (a = b))
  | _, _ => .bad
def dCmp (op : CmpOp) (x y : D) : R Bool := match op with
  | .Eq => dEq x y
  | .NotEq => dEq x y >>= fun b => .ok (!b)
  | .Lt => dLt x y
  | .LtE => (match x, y with | .int i, .int j => .ok (decide (i ≤ j)) | _, _ => .bad)
  | .Gt => (match x, y with | .int i, .int j => .ok (decide (j < i)) | _, _ => .bad)
  | .GtE => (match x, y with | .int i, .int j => .ok (decide (j ≤ i)) | _, _ => .bad)
  | .In => dIn x y
  | .NotIn => dIn x y >>= fun b => .ok (!b)
  | .Is => dIs x y
  | .IsNot => dIs x y >>= fun b => .ok (!b)
def asBool (r : R Bool) : R D := r >>= fun b => .ok (.bool b)
section
variable {X : Cx} {C : Pm}
theorem val_bl {Hf H : Hp} {b : Bool} {Q : VK} (h : OutG C (RelE C) Hf H (.ok (.bool b)) Q) (s : Fit Hf H) : Q (.bl b) H := h.val s (.bl b)
theorem shaped2 {x y : D} (h : (SeqAt.shaped x && SeqAt.shaped y) = true) : SeqAt.shaped x = true ∧ SeqAt.shaped y = true := Bool.and_eq_true_iff.mp h
theorem lay_ints : ∀ ns : List Int, PyData.canLayAll0 (ns.map PyData.int) = true
  | [] => rfl
  | n :: ns => by simp only [List.map_cons, PyData.canLayAll0, PyData.canLay0, lay_ints ns]; rfl
theorem shaped_ints (ns : List Int) : SeqAt.shaped (.list (ns.map PyData.int)) = true := by
  have z : PyData.depthAll (ns.map PyData.int) = 0 := PySem.W.depth_ints ns
  simp only [SeqAt.shaped, PyData.canLay0, lay_ints ns, PyData.depth, z]
  decide
theorem eq_any (hK : C.K = X.K) (hu : X.A.units + 65 < cLine) : OpR X (compareOp .Eq) (rD2 C fun x y => asBool (dEq x y)) := by
  intro pins s σ H x y v u Q I rx ry ⟨Hf, dx, dy, sf, hx, hy, h⟩
  unfold dEq at h
  dsimp only at h
  split at h
  · rename_i ds
    obtain ⟨a, ns, rfl, rfl, hs, hl⟩ := hx.scr_ sf
    obtain ⟨b, ys, rfl, hb, zb, rb⟩ := hy.list_ sf
    have sh := shaped_ints ns
    cases rb
    have hK' : SqL X.K H a (ns.map V.int) := by rw [← hK]; exact hs
    refine op_eqD (by omega) pins s σ H _ _ v u Q I rx ry ⟨_, .list [], .lst hK' (dpL_ints ns), .lst (SqL.of hb) .nil, sh, by decide, ?_⟩
    have e : PyData.eqv (.list (ns.map PyData.int)) (.list []) = (ns.map PyData.int).isEmpty := by cases ns <;> simp [PyData.eqv, PyData.eqvAll]
    rw [e]
    exact val_bl h sf
  · split at h
    · rename_i hc
      obtain ⟨c1, c2⟩ := shaped2 hc
      refine op_eqD (by omega) pins s σ H _ _ v u Q I rx ry ⟨dx, dy, ?_, ?_, c1, c2, val_bl h sf⟩
      · rw [← hK]; exact hx.dp sf c1
      · rw [← hK]; exact hy.dp sf c2
    · exact h.elim
theorem ne_any (hK : C.K = X.K) (hu : X.A.units + 65 < cLine) : OpR X (compareOp .NotEq) (rD2 C fun x y => asBool (dEq x y >>= fun b => .ok (!b))) := by
  intro pins s σ H x y v u Q I rx ry ⟨Hf, dx, dy, sf, hx, hy, h⟩
  unfold dEq at h
  dsimp only at h
  split at h
  · rename_i ds
    obtain ⟨a, ns, rfl, rfl, hs, hl⟩ := hx.scr_ sf
    obtain ⟨b, ys, rfl, hb, zb, rb⟩ := hy.list_ sf
    have sh := shaped_ints ns
    cases rb
    have hK' : SqL X.K H a (ns.map V.int) := by rw [← hK]; exact hs
    refine op_neD (by omega) pins s σ H _ _ v u Q I rx ry ⟨_, .list [], .lst hK' (dpL_ints ns), .lst (SqL.of hb) .nil, sh, by decide, ?_⟩
    have e : PyData.eqv (.list (ns.map PyData.int)) (.list []) = (ns.map PyData.int).isEmpty := by cases ns <;> simp [PyData.eqv, PyData.eqvAll]
    rw [e]
    exact val_bl h sf
  · split at h
    · rename_i hc
      obtain ⟨c1, c2⟩ := shaped2 hc
      refine op_neD (by omega) pins s σ H _ _ v u Q I rx ry ⟨dx, dy, ?_, ?_, c1, c2, val_bl h sf⟩
      · rw [← hK]; exact hx.dp sf c1
      · rw [← hK]; exact hy.dp sf c2
    · exact h.elim
theorem lt_any (hK : C.K = X.K) (hu : X.A.units + 65 < cLine) : OpR X (compareOp .Lt) (rD2 C fun x y => asBool (dLt x y)) := by
  intro pins s σ H x y v u Q I rx ry ⟨Hf, dx, dy, sf, hx, hy, h⟩
  unfold dLt at h
  dsimp only at h
  split at h
  · obtain rfl := hx.int_; obtain rfl := hy.int_
    exact op_lt pins s σ H _ _ v u Q I rx ry ⟨_, _, rfl, rfl, val_bl h sf⟩
  · obtain rfl := hx.str_; obtain rfl := hy.str_
    exact op_lt_str pins s σ H _ _ v u Q I rx ry ⟨_, _, rfl, rfl, val_bl h sf⟩
  · exact h.elim
  · rename_i hi hs hn
    split at h
    · rename_i hc
      simp only [Bool.and_eq_true] at hc
      obtain ⟨⟨c1, c2⟩, c3⟩ := hc
      obtain ⟨as, r1⟩ := Dp.reads I dx x v (by rw [← hK]; exact hx.dp sf c1) rx
      obtain ⟨bs, r2⟩ := Dp.reads I dy y u (by rw [← hK]; exact hy.dp sf c2) ry
      refine PySem.W.lt_data r1 r2 c3 (fun z => by subst z; simp_all) ?_ ⟨.bl _, H, I, rfl, val_bl h sf⟩
      have := SeqAt.room_of_shaped (A := X.A) (da := dx) (db := dy) c1 (by omega)
      exact this
    · exact h.elim
theorem in_tupD (hu : X.A.units + 65 < cLine) : OpR X (compareOp .In) (fun x y H Q => ∃ d ds, Dp X.K H x d ∧ Dp X.K H y (.tuple ds) ∧ SeqAt.shaped d = true ∧ SeqAt.shaped (.tuple ds) = true ∧ Q (.bl (ds.any fun z => PyData.eqv z d)) H) := by
  intro pins s σ H x y v u Q I rx ry h
  obtain ⟨d, ds, hd, he, sd, se, q⟩ := h
  obtain ⟨as, r1⟩ := Dp.reads I d x v hd rx
  obtain ⟨bs, r2⟩ := Dp.reads I (.tuple ds) y u he ry
  exact SeqAt.in_tuple_reads r2 r1 (SeqAt.canLay_of_shaped se) (SeqAt.canLay_of_shaped sd) (room_in_shaped sd hu) ⟨.bl _, H, I, rfl, q⟩
theorem notIn_tupD (hu : X.A.units + 65 < cLine) : OpR X (compareOp .NotIn) (fun x y H Q => ∃ d ds, Dp X.K H x d ∧ Dp X.K H y (.tuple ds) ∧ SeqAt.shaped d = true ∧ SeqAt.shaped (.tuple ds) = true ∧ Q (.bl (!ds.any fun z => PyData.eqv z d)) H) := by
  intro pins s σ H x y v u Q I rx ry h
  obtain ⟨d, ds, hd, he, sd, se, q⟩ := h
  obtain ⟨as, r1⟩ := Dp.reads I d x v hd rx
  obtain ⟨bs, r2⟩ := Dp.reads I (.tuple ds) y u he ry
  exact SeqAt.notIn_tuple_reads r2 r1 (SeqAt.canLay_of_shaped se) (SeqAt.canLay_of_shaped sd) (room_in_shaped sd hu) ⟨.bl _, H, I, rfl, q⟩
theorem in_any (hw : X.w = Lots.w) (hK : C.K = X.K) (hu : X.A.units + 65 < cLine) : OpR X (compareOp .In) (rD2 C fun x y => asBool (dIn x y)) := by
  intro pins s σ H x y v u Q I rx ry ⟨Hf, dx, dy, sf, hx, hy, h⟩
  unfold dIn at h
  dsimp only at h
  split at h
  · obtain rfl := hx.str_; obtain rfl := hy.str_
    exact op_in_sign pins s σ H _ _ v u Q I rx ry ⟨_, _, rfl, rfl, val_bl h sf⟩
  · split at h
    · rename_i hc
      obtain ⟨c1, c2⟩ := shaped2 hc
      refine op_inD hu pins s σ H _ _ v u Q I rx ry ⟨_, _, ?_, ?_, c1, c2, val_bl h sf⟩
      · rw [← hK]; exact hx.dp sf c1
      · rw [← hK]; exact hy.dp sf c2
    · exact h.elim
  · split at h
    · rename_i hc
      obtain ⟨c1, c2⟩ := shaped2 hc
      refine in_tupD hu pins s σ H _ _ v u Q I rx ry ⟨_, _, ?_, ?_, c1, c2, val_bl h sf⟩
      · rw [← hK]; exact hx.dp sf c1
      · rw [← hK]; exact hy.dp sf c2
    · exact h.elim
  · split at h
    · rename_i x kds hc
      simp only [Bool.and_eq_true] at hc
      obtain ⟨k, ek⟩ := Option.isSome_iff_exists.mp hc.2
      have e1 := keyOf_ok ek
      subst e1
      obtain rfl := hx.key_
      obtain ⟨a, kvs, rfl, rd, _, ra⟩ := hy.dic_ sf hc.1
      cases ry
      refine d_in (by omega) I (o := valV kvs k) (.inl ⟨kvs, k, rd, rfl, rfl⟩) rx fun s' I' => ⟨.bl _, H, I', rfl, ?_⟩
      rw [ra.isSome]
      exact val_bl h sf
    · unfold dInN at h
      split at h
      · split at h
        · rename_i kt
          obtain ⟨_, _, ds, rfl⟩ := keyT_n kt
          obtain ⟨b, rfl, rb⟩ := hx.tupRp
          obtain ⟨a, kvs, rfl, rd, _, ra⟩ := hy.dic_ sf rfl
          cases ra
          cases rx
          cases ry
          rw [hK] at rb
          exact e_in hu I sf rd rb kt fun s' I' => ⟨.bl _, H, I', rfl, val_bl h sf⟩
        · exact h.elim
      · split at h
        · rename_i kt
          obtain ⟨_, _, ds, rfl⟩ := keyT_n kt
          obtain ⟨b, rfl, rb⟩ := hx.tupRp
          obtain ⟨a, xs, rfl, rd, _, ra⟩ := hy.nd_ sf
          cases rx
          cases ry
          rw [hK] at rb ra
          exact n_in hw hu I sf rd ra rb kt fun s' I' => ⟨.bl _, H, I', rfl, val_bl h sf⟩
        · exact h.elim
      · exact h.elim
  · exact h.elim
theorem notIn_any (hw : X.w = Lots.w) (hK : C.K = X.K) (hu : X.A.units + 65 < cLine) : OpR X (compareOp .NotIn) (rD2 C fun x y => asBool (dIn x y >>= fun b => .ok (!b))) := by
  intro pins s σ H x y v u Q I rx ry ⟨Hf, dx, dy, sf, hx, hy, h⟩
  unfold dIn at h
  dsimp only at h
  split at h
  · obtain rfl := hx.str_; obtain rfl := hy.str_
    exact op_notIn_sign pins s σ H _ _ v u Q I rx ry ⟨_, _, rfl, rfl, val_bl h sf⟩
  · split at h
    · rename_i hc
      obtain ⟨c1, c2⟩ := shaped2 hc
      refine op_notInD hu pins s σ H _ _ v u Q I rx ry ⟨_, _, ?_, ?_, c1, c2, val_bl h sf⟩
      · rw [← hK]; exact hx.dp sf c1
      · rw [← hK]; exact hy.dp sf c2
    · exact h.elim
  · split at h
    · rename_i hc
      obtain ⟨c1, c2⟩ := shaped2 hc
      refine notIn_tupD hu pins s σ H _ _ v u Q I rx ry ⟨_, _, ?_, ?_, c1, c2, val_bl h sf⟩
      · rw [← hK]; exact hx.dp sf c1
      · rw [← hK]; exact hy.dp sf c2
    · exact h.elim
  · split at h
    · rename_i x kds hc
      simp only [Bool.and_eq_true] at hc
      obtain ⟨k, ek⟩ := Option.isSome_iff_exists.mp hc.2
      have e1 := keyOf_ok ek
      subst e1
      obtain rfl := hx.key_
      obtain ⟨a, kvs, rfl, rd, _, ra⟩ := hy.dic_ sf hc.1
      cases ry
      refine d_notIn (by omega) I (o := valV kvs k) (.inl ⟨kvs, k, rd, rfl, rfl⟩) rx fun s' I' => ⟨.bl _, H, I', rfl, ?_⟩
      rw [ra.isSome]
      exact val_bl h sf
    · unfold dInN at h
      split at h
      · split at h
        · rename_i kt
          obtain ⟨_, _, ds, rfl⟩ := keyT_n kt
          obtain ⟨b, rfl, rb⟩ := hx.tupRp
          obtain ⟨a, kvs, rfl, rd, _, ra⟩ := hy.dic_ sf rfl
          cases ra
          cases rx
          cases ry
          rw [hK] at rb
          exact e_notIn hu I sf rd rb kt fun s' I' => ⟨.bl _, H, I', rfl, val_bl h sf⟩
        · exact h.elim
      · split at h
        · rename_i kt
          obtain ⟨_, _, ds, rfl⟩ := keyT_n kt
          obtain ⟨b, rfl, rb⟩ := hx.tupRp
          obtain ⟨a, xs, rfl, rd, _, ra⟩ := hy.nd_ sf
          cases rx
          cases ry
          rw [hK] at rb ra
          exact n_notIn hw hu I sf rd ra rb kt fun s' I' => ⟨.bl _, H, I', rfl, val_bl h sf⟩
        · exact h.elim
      · exact h.elim
  · exact h.elim
theorem Rp1.isNone {K : PySem.W.Frag} {Hf H : Hp} {v : V} {d : D} (h : Rp1 K Hf H v d) : decide (v = .non) = isNon d := by
  rcases h with h | ⟨a, e, h⟩
  · cases h <;> rfl
  · subst e
    cases d <;> first | rfl | exact h.elim
theorem is_any : OpR X (compareOp .Is) (rD2 C fun x y => asBool (dIs x y)) := by
  intro pins s σ H x y v u Q I rx ry ⟨Hf, dx, dy, sf, hx, hy, h⟩
  unfold dIs at h
  dsimp only at h
  split at h
  · obtain rfl := hy.none_
    refine op_isN pins s σ H _ _ v u Q I rx ry ⟨rfl, ?_⟩
    rw [hx.isNone]
    exact val_bl h sf
  · obtain rfl := hx.bool_; obtain rfl := hy.bool_
    exact op_isBl pins s σ H _ _ v u Q I rx ry ⟨_, _, rfl, rfl, val_bl h sf⟩
  · exact h.elim
theorem isNot_any : OpR X (compareOp .IsNot) (rD2 C fun x y => asBool (dIs x y >>= fun b => .ok (!b))) := by
  intro pins s σ H x y v u Q I rx ry ⟨Hf, dx, dy, sf, hx, hy, h⟩
  unfold dIs at h
  dsimp only at h
  split at h
  · obtain rfl := hy.none_
    refine op_notN pins s σ H _ _ v u Q I rx ry ⟨rfl, ?_⟩
    rw [hx.isNone]
    exact val_bl h sf
  · obtain rfl := hx.bool_; obtain rfl := hy.bool_
    exact op_notBl pins s σ H _ _ v u Q I rx ry ⟨_, _, rfl, rfl, val_bl h sf⟩
  · exact h.elim
theorem op_cmp (hw : X.w = Lots.w) (hK : C.K = X.K) (hu : X.A.units + 65 < cLine) (op : CmpOp) : OpR X (compareOp op) (rD2 C fun x y => asBool (dCmp op x y)) := by
  cases op with
  | Eq => exact eq_any hK hu
  | NotEq => exact ne_any hK hu
  | Lt => exact lt_any hK hu
  | LtE =>
    intro pins s σ H x y v u Q I rx ry ⟨Hf, dx, dy, sf, hx, hy, h⟩
    unfold dCmp at h
    dsimp only at h
    split at h
    · obtain rfl := hx.int_; obtain rfl := hy.int_
      exact op_le pins s σ H _ _ v u Q I rx ry ⟨_, _, rfl, rfl, val_bl h sf⟩
    · exact h.elim
  | Gt =>
    intro pins s σ H x y v u Q I rx ry ⟨Hf, dx, dy, sf, hx, hy, h⟩
    unfold dCmp at h
    dsimp only at h
    split at h
    · obtain rfl := hx.int_; obtain rfl := hy.int_
      exact op_gt pins s σ H _ _ v u Q I rx ry ⟨_, _, rfl, rfl, val_bl h sf⟩
    · exact h.elim
  | GtE =>
    intro pins s σ H x y v u Q I rx ry ⟨Hf, dx, dy, sf, hx, hy, h⟩
    unfold dCmp at h
    dsimp only at h
    split at h
    · obtain rfl := hx.int_; obtain rfl := hy.int_
      exact op_ge pins s σ H _ _ v u Q I rx ry ⟨_, _, rfl, rfl, val_bl h sf⟩
    · exact h.elim
  | In => exact in_any hw hK hu
  | NotIn => exact notIn_any hw hK hu
  | Is => exact is_any
  | IsNot => exact isNot_any
end
end DL
namespace DL
open PySem PySem.Spec PyProof.Rows L2
variable [Lots]
def rdE (i : Nat) (ρ : Env) : R D := match ρ[i]? with
  | some (.va d) => .ok d
  | _ => .bad
def rdP (i : Nat) (ρ : Env) : R D := match ρ[i]? with
  | some (.va d) => .ok d
  | some (.ow d) => .ok d
  | _ => .bad
theorem slot_there {K : PySem.W.Frag} {Hf0 H0 Hf H : Hp} {σ : L2.St} {ρ : Env} {i : Nat} {s : Slot} (e : EnvR K Hf0 H0 Hf H σ ρ) (h : ρ[i]? = some s) : ∃ v, σ[i]? = some v ∧ SlotR K H0 Hf H v s := by
  have hi : i < ρ.length := (List.getElem?_eq_some_iff.mp h).1
  have hs : i < σ.length := by rw [e.len]; exact hi
  exact ⟨σ[i], List.getElem?_eq_getElem hs, e.slot i s _ h (List.getElem?_eq_getElem hs)⟩
section
variable {X : Cx} {C : Pm} {pos : Pos}
theorem PE.peek {e : Expr} {f : Env → R D} (h : PE X e (tE C f)) : PE X e (tP C f) := PE.imp h fun σ H Q ⟨Hf0, H0, Hf, ρ, env, q⟩ => ⟨Hf0, H0, Hf, ρ, env, by
  cases e1 : f ρ with
  | ok d => rw [e1] at q; exact fun v Hf' H' g r => q v Hf' H' g (.inl r)
  | exc c => rw [e1] at q; exact q
  | bad => rw [e1] at q; exact q.elim⟩
theorem e_varE {i : Nat} {x : Str} (hN : X.N[i]? = some x) (hv : Vis X.env.scope x) (hd : (x == ("__debug__" : Str)) = false) (hcd : (x == ("__classdict__" : Str)) = false) : PE X (.Name x pos) (tE C (rdE i)) :=
  PE.imp (pe_var hN hv hd hcd) fun σ H Q ⟨Hf0, H0, Hf, ρ, env, h⟩ => by
    unfold rdE at h
    split at h
    · rename_i d e1
      obtain ⟨v, h1, x, h2, r⟩ := slot_there env e1
      subst h2
      exact ⟨x, h1, h.val env.grow.sub r⟩
    · exact h.elim
theorem e_varP {i : Nat} {x : Str} (hN : X.N[i]? = some x) (hv : Vis X.env.scope x) (hd : (x == ("__debug__" : Str)) = false) (hcd : (x == ("__classdict__" : Str)) = false) : PE X (.Name x pos) (tP C (rdP i)) :=
  PE.imp (pe_var hN hv hd hcd) fun σ H Q ⟨Hf0, H0, Hf, ρ, env, h⟩ => by
    unfold rdP at h
    split at h
    · rename_i d e1
      obtain ⟨v, h1, x, h2, r⟩ := slot_there env e1
      subst h2
      exact ⟨x, h1, h x Hf H (Grow.refl env.grow.sub) (.inl r)⟩
    · rename_i d e1
      obtain ⟨v, h1, a, h2, r, _⟩ := slot_there env e1
      subst h2
      exact ⟨_, h1, h _ Hf H (Grow.refl env.grow.sub) (.inr ⟨a, rfl, r⟩)⟩
    · exact h.elim
def conD : Const → Option D
  | .none => some .none
  | .bool b => some (.bool b)
  | .int i => some (.int i)
  | .str x => some (.str x)
  | _ => none
theorem e_con {c : Const} {k : Nat} {d : D} (h : conD c = some d) : PE X (.Constant c k pos) (tE C fun _ => .ok d) := by
  cases c <;> simp only [conD, Option.some.injEq, reduceCtorEq] at h
  · subst h; exact PE.imp pe_non fun σ H Q ⟨Hf0, H0, Hf, ρ, env, h⟩ => h.val env.grow.sub .non
  · subst h; exact PE.imp pe_bl fun σ H Q ⟨Hf0, H0, Hf, ρ, env, h⟩ => h.val env.grow.sub (.bl _)
  · subst h; exact PE.imp pe_int fun σ H Q ⟨Hf0, H0, Hf, ρ, env, h⟩ => h.val env.grow.sub (.int _)
  · subst h; exact PE.imp pe_str fun σ H Q ⟨Hf0, H0, Hf, ρ, env, h⟩ => h.val env.grow.sub (.str _)
def FlatV (v : V) (d : D) : Prop := ∀ (K : PySem.W.Frag) (H : Hp), Rp K H v d
theorem e_glob {x : Str} {v : V} {u : Value} {d : D} (hg : Gl X x) (hm : X.mg x = some u) (r : RelV v u) (hv : FlatV v d) (hd : (x == ("__debug__" : Str)) = false) : PE X (.Name x pos) (tE C fun _ => .ok d) :=
  PE.imp (pe_glob hg hm r hd) fun σ H Q ⟨Hf0, H0, Hf, ρ, env, h⟩ => h.val env.grow.sub (hv _ _)
def dNot : D → R D
  | .bool b => .ok (.bool (!b))
  | _ => .bad
def dNeg : D → R D
  | .int i => .ok (.int (-i))
  | _ => .bad
variable {a b : Expr} {fa fb fc : Env → R D}
theorem e_not (ha : PE X a (tP C fa)) : PE X (.UnaryOp .Not a pos) (tE C fun ρ => fa ρ >>= dNot) :=
  PE.imp (pe_not ha) fun σ H Q ⟨Hf0, H0, Hf, ρ, env, h⟩ => ⟨Hf0, H0, Hf, ρ, env, h.bind fun dx vx Hf1 H1 _ g1 r1 h1 => by
    unfold dNot at h1
    split at h1
    · obtain rfl := r1.bool_
      exact ⟨_, rfl, val_bl h1 g1.sub⟩
    · exact h1.elim⟩
theorem e_neg (ha : PE X a (tP C fa)) : PE X (.UnaryOp .USub a pos) (tE C fun ρ => fa ρ >>= dNeg) :=
  PE.imp (pe_un un_neg ha) fun σ H Q ⟨Hf0, H0, Hf, ρ, env, h⟩ => ⟨Hf0, H0, Hf, ρ, env, h.bind fun dx vx Hf1 H1 _ g1 r1 h1 => by
    unfold dNeg at h1
    split at h1
    · obtain rfl := r1.int_
      exact ⟨_, rfl, h1.val g1.sub (.int _)⟩
    · exact h1.elim⟩
def fAnd (fa fb : Env → R D) : Env → R D := fun ρ => fa ρ >>= fun x => match x with
  | .bool true => fb ρ
  | .bool false => .ok (.bool false)
  | _ => .bad
def fOr (fa fb : Env → R D) : Env → R D := fun ρ => fa ρ >>= fun x => match x with
  | .bool false => fb ρ
  | .bool true => .ok (.bool true)
  | _ => .bad
variable {rest : List Expr}
theorem e_and (ha : PE X a (tP C fa)) (hb : PE X (.BoolOp .And (b :: rest) pos) (tE C fb)) : PE X (.BoolOp .And (a :: b :: rest) pos) (tE C (fAnd fa fb)) :=
  PE.imp (pe_and ha hb) fun σ H Q ⟨Hf0, H0, Hf, ρ, env, h⟩ => ⟨Hf0, H0, Hf, ρ, env, OutG.bind (show OutG C (RelE C) Hf H (fAnd fa fb ρ) Q from h) fun dx vx Hf1 H1 _ g1 r1 h1 => by
    split at h1
    · obtain rfl := r1.bool_
      exact ⟨true, rfl, iteT ⟨Hf0, H0, Hf1, ρ, env.more g1, h1⟩⟩
    · obtain rfl := r1.bool_
      exact ⟨false, rfl, iteF (val_bl h1 g1.sub)⟩
    · exact h1.elim⟩
theorem e_or (ha : PE X a (tP C fa)) (hb : PE X (.BoolOp .Or (b :: rest) pos) (tE C fb)) : PE X (.BoolOp .Or (a :: b :: rest) pos) (tE C (fOr fa fb)) :=
  PE.imp (pe_or ha hb) fun σ H Q ⟨Hf0, H0, Hf, ρ, env, h⟩ => ⟨Hf0, H0, Hf, ρ, env, OutG.bind (show OutG C (RelE C) Hf H (fOr fa fb ρ) Q from h) fun dx vx Hf1 H1 _ g1 r1 h1 => by
    split at h1
    · obtain rfl := r1.bool_
      exact ⟨false, rfl, iteF ⟨Hf0, H0, Hf1, ρ, env.more g1, h1⟩⟩
    · obtain rfl := r1.bool_
      exact ⟨true, rfl, iteT (val_bl h1 g1.sub)⟩
    · exact h1.elim⟩
def dTru : D → R Bool
  | .bool b => .ok b
  | _ => .bad
def tstAnd (ta tb : Env → R Bool) : Env → R Bool := fun ρ => ta ρ >>= fun x => if x then tb ρ else .ok false
def tstOr (ta tb : Env → R Bool) : Env → R Bool := fun ρ => ta ρ >>= fun x => if x then .ok true else tb ρ
def tstNot (ta : Env → R Bool) : Env → R Bool := fun ρ => ta ρ >>= fun x => .ok (!x)
variable {ta tb : Env → R Bool}
theorem OutG.tru {Hf H : Hp} {b : Bool} {Q : Bool → Hp → Prop} (h : OutG C RelT Hf H (.ok b) Q) (s : Fit Hf H) : Q b H := h b Hf H (Grow.refl s) rfl
theorem t_val {e : Expr} (h : PE X e (tP C fa)) (he : ∀ whole, isTrue e X.env whole = (do let v ← whole; standAt e.pos; holding [v] (truthy v))) : PT X e (tT C fun ρ => fa ρ >>= dTru) :=
  PT.imp (pt_val h he) fun σ H Q ⟨Hf0, H0, Hf, ρ, env, h⟩ => ⟨Hf0, H0, Hf, ρ, env, h.bind fun dx vx Hf1 H1 _ g1 r1 h1 => by
    unfold dTru at h1
    split at h1
    · obtain rfl := r1.bool_
      exact ⟨_, rfl, h1.tru g1.sub⟩
    · exact h1.elim⟩
theorem w_and1 (ha : PT X a (tT C ta)) : PW X (.BoolOp .And [a] pos) (tT C ta) := pw_and1 ha
theorem w_or1 (ha : PT X a (tT C ta)) : PW X (.BoolOp .Or [a] pos) (tT C ta) := pw_or1 ha
theorem w_and (ha : PT X a (tT C ta)) (hb : PW X (.BoolOp .And (b :: rest) pos) (tT C tb)) : PW X (.BoolOp .And (a :: b :: rest) pos) (tT C (tstAnd ta tb)) :=
  PW.imp (pw_and ha hb) fun σ H Q ⟨Hf0, H0, Hf, ρ, env, h⟩ => ⟨Hf0, H0, Hf, ρ, env, OutG.bind (show OutG C RelT Hf H (tstAnd ta tb ρ) Q from h) fun x vx Hf1 H1 _ g1 r1 h1 => by
    subst r1
    cases vx with
    | true => exact iteT ⟨Hf0, H0, Hf1, ρ, env.more g1, h1⟩
    | false => exact iteF (OutG.tru (show OutG C RelT Hf1 H1 (.ok false) Q from h1) g1.sub)⟩
theorem w_or (ha : PT X a (tT C ta)) (hb : PW X (.BoolOp .Or (b :: rest) pos) (tT C tb)) : PW X (.BoolOp .Or (a :: b :: rest) pos) (tT C (tstOr ta tb)) :=
  PW.imp (pw_or ha hb) fun σ H Q ⟨Hf0, H0, Hf, ρ, env, h⟩ => ⟨Hf0, H0, Hf, ρ, env, OutG.bind (show OutG C RelT Hf H (tstOr ta tb ρ) Q from h) fun x vx Hf1 H1 _ g1 r1 h1 => by
    subst r1
    cases vx with
    | true => exact iteT (OutG.tru (show OutG C RelT Hf1 H1 (.ok true) Q from h1) g1.sub)
    | false => exact iteF ⟨Hf0, H0, Hf1, ρ, env.more g1, h1⟩⟩
theorem t_not (ha : PT X a (tT C ta)) : PT X (.UnaryOp .Not a pos) (tT C (tstNot ta)) :=
  PT.imp (pt_not ha) fun σ H Q ⟨Hf0, H0, Hf, ρ, env, h⟩ => ⟨Hf0, H0, Hf, ρ, env, OutG.bind (show OutG C RelT Hf H (tstNot ta ρ) Q from h) fun x vx Hf1 H1 _ g1 r1 h1 => by
    subst r1
    exact OutG.tru (show OutG C RelT Hf1 H1 (.ok (!vx)) Q from h1) g1.sub⟩
theorem asBool_out {Hf H : Hp} {r : R Bool} {Q : Bool → Hp → Prop} (h : OutG C RelT Hf H r Q) : OutG C (RelE C) Hf H (asBool r) (fun x H' => ∃ k, x = .bl k ∧ Q k H') := by
  cases r with
  | ok b =>
    intro v Hf3 H3 g3 r3
    cases r3
    exact ⟨b, rfl, h b Hf3 H3 g3 rfl⟩
  | exc c => exact h
  | bad => exact h.elim
theorem out_asBool {Hf H : Hp} {r : R Bool} {Q : VK} (h : OutG C (RelE C) Hf H (asBool r) Q) : OutG C RelT Hf H r (fun k H' => Q (.bl k) H') := by
  cases r with
  | ok b =>
    intro k Hf3 H3 g3 r3
    subst r3
    exact h _ Hf3 H3 g3 (.bl k)
  | exc c => exact h
  | bad => exact h.elim
theorem bool_out {Hf H : Hp} {r : R Bool} {Q : VK} (h : OutG C RelT Hf H r (fun k H' => Q (.bl k) H')) : OutG C (RelE C) Hf H (asBool r) Q := by
  cases r with
  | ok b =>
    intro v Hf3 H3 g3 r3
    cases r3
    exact h b Hf3 H3 g3 rfl
  | exc c => exact h
  | bad => exact h.elim
theorem t_cmp {op : CmpOp} {F : D → D → R Bool} (ho : OpR X (compareOp op) (rD2 C fun x y => asBool (F x y))) (ha : PE X a (tP C fa)) (hb : PE X b (tP C fb)) (hm : behindInMarks op b = false) :
    PT X (.Compare a [op] [b] pos) (tT C fun ρ => fa ρ >>= fun x => fb ρ >>= fun y => F x y) :=
  PT.imp (pt_cmpR ho ha hb hm) fun σ H Q ⟨Hf0, H0, Hf, ρ, env, h⟩ => ⟨Hf0, H0, Hf, ρ, env, h.bind fun dx vx Hf1 H1 _ g1 r1 h1 =>
    ⟨Hf0, H0, Hf1, ρ, env.more g1, h1.bind fun dy vy Hf2 H2 _ g2 r2 h2 => ⟨Hf2, dx, dy, g2.sub, r1.grow g2, r2, asBool_out h2⟩⟩⟩
def fChain (F G : D → D → R Bool) (fa fb fc : Env → R D) : Env → R Bool := fun ρ => fa ρ >>= fun x => fb ρ >>= fun y => F x y >>= fun k => if k then fc ρ >>= fun z => G y z else .ok false
variable {c : Expr} {op op' : CmpOp} {F G : D → D → R Bool}
theorem chain_in (ho : OpR X (compareOp op) (rD2 C fun x y => asBool (F x y))) (ho' : OpR X (compareOp op') (rD2 C fun x y => asBool (G x y))) {σ : L2.St} {H : Hp} {Q : VK}
    (h : tE C (fun ρ => asBool (fChain F G fa fb fc ρ)) σ H Q) : tChain (rD2 C fun x y => asBool (F x y)) (rD2 C fun x y => asBool (G x y)) (tP C fa) (tP C fb) (tP C fc) σ H Q := by
  obtain ⟨Hf0, H0, Hf, ρ, env, h⟩ := h
  have h := out_asBool h
  refine ⟨Hf0, H0, Hf, ρ, env, OutG.bind (show OutG C RelT Hf H (fChain F G fa fb fc ρ) _ from h) fun dx vx Hf1 H1 _ g1 r1 h1 => ⟨Hf0, H0, Hf1, ρ, env.more g1, h1.bind fun dy vy Hf2 H2 _ g2 r2 h2 => ⟨Hf2, dx, dy, g2.sub, r1.grow g2, r2, ?_⟩⟩⟩
  refine asBool_out (Q := fun k H' => if k = true then _ else _) (OutG.bind (Rel1 := RelT) h2 fun k k' Hf3 H3 _ g3 r3 h3 => ?_)
  subst r3
  cases k' with
  | true =>
    refine iteT ⟨Hf0, H0, Hf3, ρ, ((env.more g1).more g2).more g3, OutG.bind (k := fun z => G dy z) (show OutG C RelT Hf3 H3 (fc ρ >>= fun z => G dy z) _ from h3) fun dz vz Hf4 H4 _ g4 r4 h4 => ⟨Hf4, dy, dz, g4.sub, (r2.grow g3).grow g4, r4, bool_out h4⟩⟩
  | false => exact iteF (OutG.tru (show OutG C RelT Hf3 H3 (.ok false) _ from h3) g3.sub)
theorem e_chain (ho : OpR X (compareOp op) (rD2 C fun x y => asBool (F x y))) (ho' : OpR X (compareOp op') (rD2 C fun x y => asBool (G x y))) (ha : PE X a (tP C fa)) (hb : PE X b (tP C fb)) (hc : PE X c (tP C fc)) (hm : lastMarks [op, op'] [b, c] = false) :
    PE X (.Compare a [op, op'] [b, c] pos) (tE C fun ρ => asBool (fChain F G fa fb fc ρ)) := PE.imp (pe_chain ho ho' ha hb hc hm) fun σ H Q h => chain_in ho ho' h
theorem t_chain (ho : OpR X (compareOp op) (rD2 C fun x y => asBool (F x y))) (ho' : OpR X (compareOp op') (rD2 C fun x y => asBool (G x y))) (ha : PE X a (tP C fa)) (hb : PE X b (tP C fb)) (hc : PE X c (tP C fc)) (hm : lastMarks [op, op'] [b, c] = false) :
    PT X (.Compare a [op, op'] [b, c] pos) (tT C (fChain F G fa fb fc)) := PT.imp (pt_chain ho ho' ha hb hc hm) fun σ H Q ⟨Hf0, H0, Hf, ρ, env, h⟩ => chain_in ho ho' ⟨Hf0, H0, Hf, ρ, env, asBool_out h⟩
def fChain3 (F G G2 : D → D → R Bool) (fa fb fc fd : Env → R D) : Env → R Bool := fun ρ => fa ρ >>= fun x => fb ρ >>= fun y => F x y >>= fun k => if k then fc ρ >>= fun z => G y z >>= fun k2 => if k2 then fd ρ >>= fun u => G2 z u else .ok false else .ok false
variable {d : Expr} {op2 : CmpOp} {G2 : D → D → R Bool} {fd : Env → R D}
theorem e_chain3 (ho : OpR X (compareOp op) (rD2 C fun x y => asBool (F x y))) (ho' : OpR X (compareOp op') (rD2 C fun x y => asBool (G x y))) (ho2 : OpR X (compareOp op2) (rD2 C fun x y => asBool (G2 x y))) (ha : PE X a (tP C fa)) (hb : PE X b (tP C fb)) (hc : PE X c (tP C fc)) (hd : PE X d (tP C fd))
    (hm : lastMarks [op, op', op2] [b, c, d] = false) : PE X (.Compare a [op, op', op2] [b, c, d] pos) (tE C fun ρ => asBool (fChain3 F G G2 fa fb fc fd ρ)) := by
  refine PE.imp (pe_chain3 ho ho' ho2 ha hb hc hd hm) fun σ H Q h => ?_
  obtain ⟨Hf0, H0, Hf, ρ, env, h⟩ := h
  have h := out_asBool h
  refine ⟨Hf0, H0, Hf, ρ, env, OutG.bind (show OutG C RelT Hf H (fChain3 F G G2 fa fb fc fd ρ) _ from h) fun dx vx Hf1 H1 _ g1 r1 h1 => ⟨Hf0, H0, Hf1, ρ, env.more g1, h1.bind fun dy vy Hf2 H2 _ g2 r2 h2 => ⟨Hf2, dx, dy, g2.sub, r1.grow g2, r2, ?_⟩⟩⟩
  refine asBool_out (Q := fun k H' => if k = true then _ else _) (OutG.bind (Rel1 := RelT) h2 fun k k' Hf3 H3 _ g3 r3 h3 => ?_)
  subst r3
  have e3 := ((env.more g1).more g2).more g3
  cases k' with
  | false => exact iteF (OutG.tru (show OutG C RelT Hf3 H3 (.ok false) _ from h3) g3.sub)
  | true =>
    refine iteT ⟨Hf0, H0, Hf3, ρ, e3, OutG.bind (k := fun z => G dy z >>= fun k2 => if k2 then fd ρ >>= fun u => G2 z u else .ok false) (show OutG C RelT Hf3 H3 (fc ρ >>= fun z => G dy z >>= fun k2 => if k2 then fd ρ >>= fun u => G2 z u else .ok false) _ from h3) fun dz vz Hf4 H4 _ g4 r4 h4 => ⟨Hf4, dy, dz, g4.sub, (r2.grow g3).grow g4, r4, ?_⟩⟩
    refine asBool_out (Q := fun k H' => if k = true then _ else _) (OutG.bind (Rel1 := RelT) h4 fun k k' Hf5 H5 _ g5 r5 h5 => ?_)
    subst r5
    cases k' with
    | false => exact iteF (OutG.tru (show OutG C RelT Hf5 H5 (.ok false) _ from h5) g5.sub)
    | true =>
      exact iteT ⟨Hf0, H0, Hf5, ρ, (e3.more g4).more g5, OutG.bind (k := fun u => G2 dz u) (show OutG C RelT Hf5 H5 (fd ρ >>= fun u => G2 dz u) _ from h5) fun du vu Hf6 H6 _ g6 r6 h6 => ⟨Hf6, dz, du, g6.sub, (r4.grow g5).grow g6, r6, bool_out h6⟩⟩
def fIf (t : Env → R Bool) (fa fb : Env → R D) : Env → R D := fun ρ => t ρ >>= fun k => if k then fa ρ else fb ρ
theorem e_if (hc : PT X c (tT C ta)) (ha : PE X a (tE C fa)) (hb : PE X b (tE C fb)) : PE X (.IfExp c a b pos) (tE C (fIf ta fa fb)) :=
  PE.imp (pe_ifExp hc ha hb) fun σ H Q ⟨Hf0, H0, Hf, ρ, env, h⟩ => ⟨Hf0, H0, Hf, ρ, env, OutG.bind (show OutG C (RelE C) Hf H (fIf ta fa fb ρ) Q from h) fun x vx Hf1 H1 _ g1 r1 h1 => by
    subst r1
    cases vx with
    | true => exact iteT ⟨Hf0, H0, Hf1, ρ, env.more g1, h1⟩
    | false => exact iteF ⟨Hf0, H0, Hf1, ρ, env.more g1, h1⟩⟩
inductive Rp1L (K : PySem.W.Frag) (Hf H : Hp) : List V → List D → Prop
  | nil : Rp1L K Hf H [] []
  | cons {v : V} {vs : List V} {d : D} {ds : List D} : Rp1 K Hf H v d → Rp1L K Hf H vs ds → Rp1L K Hf H (v :: vs) (d :: ds)
abbrev RelPA (C : Pm) : Hp → Hp → List V → List D → Prop := fun Hf H vs ds => Rp1L C.K Hf H vs ds
abbrev tPA (C : Pm) (f : Env → R (List D)) : TA := tG C (RelPA C) f
def fCons (fa : Env → R D) (fr : Env → R (List D)) : Env → R (List D) := fun ρ => fa ρ >>= fun x => fr ρ >>= fun xs => .ok (x :: xs)
def isStar : Expr → Bool
  | .Starred .. => true
  | _ => false
theorem star_cons {e : Expr} {es : List Expr} {env : PySem.Env} (h : isStar e = false) : starEach (e :: es) env = (false, eval e env) :: starEach es env := by
  cases e <;> first | rfl | simp [isStar] at h
variable {e : Expr} {es : List Expr} {fr : Env → R (List D)}
theorem a_nil : PA X [] (tA C fun _ => .ok []) := PA.imp pa_nil fun σ H Q ⟨Hf0, H0, Hf, ρ, env, h⟩ => h _ Hf H (Grow.refl env.grow.sub) .nil
theorem a_nilP : PA X [] (tPA C fun _ => .ok []) := PA.imp pa_nil fun σ H Q ⟨Hf0, H0, Hf, ρ, env, h⟩ => h _ Hf H (Grow.refl env.grow.sub) .nil
theorem a_cons (hs : isStar e = false) (ha : PE X e (tE C fa)) (hr : PA X es (tA C fr)) : PA X (e :: es) (tA C (fCons fa fr)) :=
  PA.imp (pa_cons ha hr (star_cons hs)) fun σ H Q ⟨Hf0, H0, Hf, ρ, env, h⟩ => ⟨Hf0, H0, Hf, ρ, env, OutG.bind (show OutG C (RelA C) Hf H (fCons fa fr ρ) Q from h) fun dx vx Hf1 H1 _ g1 r1 h1 =>
    ⟨Hf0, H0, Hf1, ρ, env.more g1, h1.bind fun ds vs Hf2 H2 _ g2 r2 h2 => h2 _ Hf2 H2 (Grow.refl g2.sub) (.cons (r1.mono g2.f) r2)⟩⟩
theorem a_consP (hs : isStar e = false) (ha : PE X e (tP C fa)) (hr : PA X es (tPA C fr)) : PA X (e :: es) (tPA C (fCons fa fr)) :=
  PA.imp (pa_cons ha hr (star_cons hs)) fun σ H Q ⟨Hf0, H0, Hf, ρ, env, h⟩ => ⟨Hf0, H0, Hf, ρ, env, OutG.bind (show OutG C (RelPA C) Hf H (fCons fa fr ρ) Q from h) fun dx vx Hf1 H1 _ g1 r1 h1 =>
    ⟨Hf0, H0, Hf1, ρ, env.more g1, h1.bind fun ds vs Hf2 H2 _ g2 r2 h2 => h2 _ Hf2 H2 (Grow.refl g2.sub) (.cons (r1.grow g2) r2)⟩⟩
abbrev RelF (C : Pm) (Hp0 : Hp) : Hp → Hp → V → D → Prop := fun Hf H v d => ∃ a, v = .ref a ∧ Hp0 a = none ∧ OwnAt C.K Hf H a d
def tF (C : Pm) (f : Env → R D) : TE := fun σ H Q => ∃ (Hf0 H0 Hf : Hp) (ρ : Env), EnvR C.K Hf0 H0 Hf H σ ρ ∧ OutG C (RelF C H) Hf H (f ρ) Q
theorem OwnAt.give {K : PySem.W.Frag} {Hf H Hf' H' : Hp} {a : Addr} {ds : List D} (g : Grow Hf H Hf' H') (na : H a = none) (h : OwnAt K Hf' H' a (.list ds)) : ∃ Hf2, Grow Hf H Hf2 H' ∧ Rp K Hf2 (.ref a) (.list ds) := by
  obtain ⟨xs, h1, h2, h3, h4⟩ := h
  exact ⟨_, g.give na h1 h2, .newL h1 h3 h4⟩
theorem e_fresh {f : Env → R D} (h : PE X e (tF C f)) : PE X e (tE C f) := by
  refine ⟨fun pins s σ H Q I hq => ?_⟩
  obtain ⟨Hf0, H0, Hf, ρ, env, hq⟩ := hq
  cases e1 : f ρ with
  | bad => rw [e1] at hq; exact hq.elim
  | exc c => exact h.run pins s σ H Q I ⟨Hf0, H0, Hf, ρ, env, by rw [e1] at hq ⊢; exact hq⟩
  | ok d =>
    rw [e1] at hq
    refine thn (h.run pins s σ H (fun v H' => ∃ Hf', Grow Hf H Hf' H' ∧ ∃ a, v = .ref a ∧ H a = none ∧ OwnAt C.K Hf' H' a d) I ⟨Hf0, H0, Hf, ρ, env, by rw [e1]; exact fun v Hf' H' g ⟨a, e, na, o⟩ => ⟨Hf', g, a, e, na, o⟩⟩) fun u s1 ⟨v, H1, I1, rv, Hf', g, a, ev, na, o⟩ => ?_
    subst ev
    cases d with
    | list ds =>
      obtain ⟨Hf2, g2, r⟩ := o.give g na
      exact ⟨.ref a, H1, I1, rv, hq _ Hf2 H1 g2 r⟩
    | dict kds =>
      rcases o with ⟨kvs, h1, h2, h3, h4⟩ | ⟨nds, xs, q, h1, h2, h3, h4⟩
      · obtain ⟨od, I2⟩ := I1.lock h2 trivial
        exact ⟨.ref a, _, I2, rv, hq _ (upd Hf' a (.frz od (.dK kvs))) _ (g.lockd na h1) (.dic upd_same h3 (h4.mono (same_upd h1)))⟩
      · subst q
        obtain ⟨od, I2⟩ := I1.lock h2 trivial
        exact ⟨.ref a, _, I2, rv, hq _ (upd Hf' a (.frz od (NDO Lots.w a xs))) _ (g.lockd na h1) (.dit upd_same h3 (h4.mono (same_upd h1)))⟩
    | _ => exact o.elim
def okLen (ds : List D) (f : List D → D) : R D := if ds.length ≤ 1000 then .ok (f ds) else .bad
theorem le_line {n : Nat} (h : n ≤ 1000) : n ≤ sizeLine := by rw [sizeLine_eq]; omega
theorem e_tup {k : Nat} (h : PA X es (tA C fr)) : PE X (.Tuple es k pos) (tE C fun ρ => fr ρ >>= fun ds => okLen ds .tuple) :=
  PE.imp (pe_tup h) fun σ H Q ⟨Hf0, H0, Hf, ρ, env, h⟩ => ⟨Hf0, H0, Hf, ρ, env, h.bind fun ds vs Hf1 H1 _ g1 r1 h1 => by
    unfold okLen at h1
    split at h1
    · rename_i hl
      have e := r1.length
      exact ⟨le_line (by omega), fun p np => h1.made g1.sub np (.newT (Same.free g1.sub np) (le_line (by omega)) r1)⟩
    · exact h1.elim⟩
theorem f_lst (h : PA X es (tA C fr)) : PE X (.List es pos) (tF C fun ρ => fr ρ >>= fun ds => okLen ds .list) :=
  PE.imp (pe_lst h) fun σ H Q ⟨Hf0, H0, Hf, ρ, env, h⟩ => ⟨Hf0, H0, Hf, ρ, env, h.bind fun ds vs Hf1 H1 _ g1 r1 h1 => by
    unfold okLen at h1
    split at h1
    · rename_i hl
      have e := r1.length
      refine ⟨le_line (by omega), fun p np => h1 _ Hf1 _ (Grow.side g1.sub np) ⟨p, rfl, Same.free g1.h np, ?_⟩⟩
      exact ⟨vs, Same.free g1.sub np, upd_same, le_line (by omega), r1⟩
    · exact h1.elim⟩
end
end DL
namespace NS
open PySem PySem.Calls PyProof.Rows PySem.W PySem.SeqAt
section
variable {prog : Program} {w : World} {A : Around} {E : Value → Shared → Prop} {s : Shared}
theorem call_tuple_lt {Q : Value → Shared → Prop} {l b : Addr} {items items2 : Array Value} {e r : Nat → Bool} (hl : s.heap.IsTuple l items) (hb : s.heap.IsTuple b items2)
    (he : ∀ j (h1 : j < items.size) (h2 : j < items2.size), EqAt A.in1 s items[j] items2[j] (e j)) (hr : ∀ j (h1 : j < items.size) (h2 : j < items2.size), e j = false → RcLt A.in1 s items[j] items2[j] (r j))
    (h : Q (.bool (firstLt e r (decide (items.size < items2.size)) (List.range (min items.size items2.size)))) s) : wpAny (model prog w) A (call (.builtin "tuple.__lt__") [.ref l, .ref b]) Q E s := by
  obtain ⟨⟨cls, dd, data, sl⟩, ho, hc, n, hd⟩ := id hl
  obtain ⟨⟨cls2, dd2, data2, sl2⟩, ho2, hc2, n2, hd2⟩ := id hb
  simp only at hc hd hc2 hd2
  subst hc hd hc2 hd2
  exact call_meets F.slot_tuple_lt ⟨_, ho, rfl⟩ F.entry_tuple_lt (F.args_tuple_lt_2 _ _) (tuple_ltAt l b items items2 n n2 dd dd2 sl sl2 e r) ⟨ho, ho2, he, hr, h⟩
theorem oneLt_tuples {xs ys : List PyData} {a b : Value} {as bs : List Addr} {Q : Bool → Shared → Prop} (ra : Reads s.heap a (.tuple xs) as) (rb : Reads s.heap b (.tuple ys) bs) (h : alike (.tuple xs) (.tuple ys) = true)
    (hu : A.units + min (PyData.tuple xs).depth (PyData.tuple ys).depth < cLine) (hq : Q (dataLt (.tuple xs) (.tuple ys)) s) : wpAny (model prog w) A (oneLt' true a b) Q E s := by
  have hal : alikeAll xs ys = true := by simpa [alike] using h
  cases ra with
  | @tuple l o vs n _ as₁ h1 h2 h3 h4 =>
    cases rb with
    | @tuple l' o' vs' n' _ bs₁ k1 k2 k3 k4 =>
      have n1 : vs.size = xs.length := by simpa using ReadsAll.length _ _ _ h4
      have n2 : vs'.size = ys.length := by simpa using ReadsAll.length _ _ _ k4
      rw [dataLt_tuple, ← firstLt_toks xs ys hal, ← n1, ← n2] at hq
      rw [oneLt'_eq]
      simp only [if_true]
      refine wpAny_bind (wpAny_cRoomFor (room_here hu) ?_)
      refine wpAny_bind (wpAny_callSpecialIfBound?_slot (T := "tuple") ⟨_, h1, h2⟩ F.slot_tuple_lt (call_tuple_lt (e := pairEq xs ys) (r := fun j => dataLt (xs.getD j .none) (ys.getD j .none)) ⟨_, h1, h2, _, h3⟩ ⟨_, k1, k2, _, k3⟩ (fun j j1 j2 => ?_) (fun j j1 j2 hj => ?_) ?_))
      · have := eqAt_alikeAll xs ys A.in1 s vs.toList vs'.toList _ _ h4 k4 hal (room_in hu) j (by simpa using j1) (by simpa using j2)
        simpa using this
      · have := rcLt_alikeAll xs ys A.in1 s vs.toList vs'.toList _ _ h4 k4 hal (room_in hu) j (by simpa using j1) (by simpa using j2) hj
        simpa using this
      · exact wpAny_truthy_bool hq
theorem firsts_any {M : Model} : ∀ {vs : List Value} {ds : List PyData} {Q : List (Option Value) → Shared → Prop}, EachIs (fun v d => ∃ as, Reads s.heap v d as) vs ds → (∀ d, d ∈ ds → ∃ xs, d = .tuple xs) → (∀ fs : List (Option Value), fs.length = vs.length → (ds.head? = some (.tuple []) → fs.head? = some none) → Q fs s) → wpAny M A (vs.mapM firstOfTuple') Q E s
  | _, _, _, .nil, _, h => by rw [List.mapM_nil]; exact wpAny_pure (h [] rfl fun z => by simp at z)
  | _, _, Q, .cons (b := d) ⟨as, r⟩ t, ht, h => by
    obtain ⟨xs, rfl⟩ := ht d (List.mem_cons_self ..)
    cases r with
    | @tuple a o vs n _ _ ho hc hd hr =>
      rw [List.mapM_cons]
      refine wpAny_bind ?_
      rw [kas_first_eq]
      refine wpAny_bind (Looks.here (show Looks M s.heap (typeOf (.ref a)) o.cls from (Looks.ld ho).andThen .now) ?_)
      rw [hc, if_neg (by first | decide | simp)]
      refine wpAny_bind (listItems_at ho hd (wpAny_pure ?_))
      refine wpAny_bind (firsts_any t (fun d hd => ht d (List.mem_cons_of_mem _ hd)) fun fs h1 _ => wpAny_pure (h _ (by simp [h1]) fun z => ?_))
      simp only [List.head?_cons, Option.some.injEq, PyData.tuple.injEq] at z
      subst z
      have : vs.toList = [] := by
        cases q : vs.toList with
        | nil => rfl
        | cons _ _ => rw [q] at hr; cases hr
      have e0 : vs[0]? = none := by rw [← Array.getElem?_toList, this]; rfl
      simp [e0]
theorem sorts_tup0 {vs : List Value} {ds : List PyData} (e : EachIs (fun v d => ∃ as, Reads s.heap v d as) vs ds) (hal : AllAlike ds) (ht : ∀ d, d ∈ ds → ∃ xs, d = .tuple xs) (h0 : ds.head? = some (.tuple []))
    (hu : ∀ d, d ∈ ds → A.units + d.depth < cLine) : SortsAt prog w A s (dataKind s.heap ds) vs := by
  have room : ∀ {d d' : PyData}, d ∈ ds → A.units + min d.depth d'.depth < cLine := fun {d d'} hd => Nat.lt_of_le_of_lt (Nat.add_le_add_left (Nat.min_le_left _ _) _) (hu d hd)
  refine ⟨fun v hv => ?_, oneType', ?_, fun h2 E Q hq => ?_⟩
  · obtain ⟨d, hd, as, r⟩ := e.left v hv
    exact ⟨_, dataKind_some hal hd r⟩
  · intro E x y a b Q ha hb hq
    obtain ⟨d, as, hd, ra, rfl⟩ := dataKind_inv ha
    obtain ⟨d', as', hd', rb, rfl⟩ := dataKind_inv hb
    obtain ⟨xs, rfl⟩ := ht d hd
    obtain ⟨ys, rfl⟩ := ht d' hd'
    rw [keyLt'_oneType]
    exact oneLt_tuples ra rb (hal _ hd _ hd') (room hd) hq
  · have hty : ∀ v ∈ vs, Looks (model prog w) s.heap (typeOf v) (Value.type "tuple") := fun v hv => by
      obtain ⟨d, hd, as, r⟩ := e.left v hv
      obtain ⟨xs, rfl⟩ := ht d hd
      exact looks_reads r
    obtain ⟨v₁, v₂, rest, rfl⟩ : ∃ v₁ v₂ rest, vs = v₁ :: v₂ :: rest := by
      match vs, h2 with
      | [], h2 => simp at h2
      | [_], h2 => simp at h2
      | v₁ :: v₂ :: rest, _ => exact ⟨v₁, v₂, rest, rfl⟩
    rw [keyKind'_eq, List.mapM_toArray, map_eq_pure_bind]
    refine wpAny_bind (wpAny_bind (firsts_any e ht fun fs f1 f2 => wpAny_pure ?_))
    have f3 := f2 h0
    obtain ⟨f, fr, rfl⟩ : ∃ f fr, fs = f :: fr := by
      cases fs with
      | nil => simp at f1
      | cons f fr => exact ⟨f, fr, rfl⟩
    simp only [List.head?_cons, Option.some.injEq] at f3
    subst f3
    rw [if_neg (by simp), if_neg (by simp)]
    rw [oneTypeOnly'_eq, List.mapM_toArray, map_eq_pure_bind]
    refine wpAny_bind (wpAny_bind (wpAny_bind (kas_mapM (r := Value.type "tuple") _ (fun v hv Q' hq => (hty v hv).here hq) (wpAny_pure ?_))))
    have hall : ((List.map (fun _ => Value.type "tuple") (v₁ :: v₂ :: rest)).toArray.all fun x => x == Value.type "tuple") = true := by
      simp only [List.all_toArray, List.all_map, List.all_eq_true]
      intro _ _
      rfl
    have h0 : (List.map (fun _ => Value.type "tuple") (v₁ :: v₂ :: rest)).toArray[0]? = some (Value.type "tuple") := by simp
    rw [h0]
    simp only [hall, if_true]
    exact wpAny_pure (wpAny_pure hq)
theorem sorted_tup0 {l : Addr} {vs : List Value} {ds : List PyData} {R : Value → PyData → Prop} {Q : Value → Shared → Prop} (hl : s.heap.IsList l vs.toArray) (e : EachIs R vs ds) (er : EachIs (fun v b => ∃ as, Reads s.heap v b as) vs ds) (hal : AllAlike ds) (ht : ∀ d, d ∈ ds → ∃ xs, d = .tuple xs) (h0 : ds.head? = some (.tuple []))
    (hL : ds.length ≤ sizeLine) (hu : ∀ b, b ∈ ds → A.units + 2 + b.depth < cLine) (h : ∀ out, out.length = ds.length → EachIs R out (ds.mergeSort (dataLe false id)) → Q (.ref (s.heap.objs.size + 1)) { s with heap := sortedAll s.heap vs (List.toArray out) }) :
    wpAny (model prog w) A (call (.builtin "sorted") [.ref l]) Q E s := by
  have er' : EachIs (fun v b => ∃ as, Reads (sortingHeap (copyHeap s.heap vs) (s.heap.objs.size + 1) vs) v b as) vs ds := er.mono fun _ _ ⟨as, r⟩ => ⟨as, PyProof.Rows.Reads.keeps (fun _ _ => sorting_copy_old) r⟩
  refine sorted_vals hl (sorts_tup0 (s := { s with heap := sortingHeap (copyHeap s.heap vs) (s.heap.objs.size + 1) vs }) er' hal ht h0 (fun d hd => hu d hd)) (by rw [e.length]; exact hL) ?_
  refine h _ (by rw [sortVals_length false rfl]; exact e.length) ?_
  have := sortVals_data (enc := id) false e er' (by simpa using hal)
  simpa using this
end
end NS
namespace DL
open PySem PySem.Spec PyProof.Rows L2
variable [Lots]
theorem RpL.atI {K : PySem.W.Frag} {H : Hp} {xs : List V} {ds : List D} {i : Int} {d : D} (r : RpL K H xs ds) (h : L2.atI ds i = some d) : ∃ v, L2.atI xs i = some v ∧ Rp K H v d := by
  unfold L2.atI at h ⊢
  rw [r.length]
  cases e : ixN ds.length i with
  | none => rw [e] at h; cases h
  | some j =>
    rw [e] at h
    exact r.get h
def dIx (x y : D) : R D := match x, y with
  | .list ds, .int i => (match L2.atI ds i with | some d => .ok d | none => .bad)
  | .tuple ds, .int i => (match L2.atI ds i with | some d => .ok d | none => .bad)
  | .str z, .int i => if z.length ≤ sizeLine then (match L2.atI z.cps.toList i with | some c => .ok (.str ⟨#[c]⟩) | none => .bad) else .bad
  | .dict [(.none, .list ds)], .int i => (match L2.atI ds i with | some d => .ok d | none => .bad)
  | .dict kds, .str z => (match lookD kds (.str z) with | some d => .ok d | none => .bad)
  | .dict kds, .int z => (match lookD kds (.int z) with | some d => .ok d | none => .bad)
  | .dict [(.none, .dict nds)], .tuple ts => if keyT (.tuple ts) then (match lookN nds (.tuple ts) with | some d => .ok d | none => .bad) else .bad
  | _, _ => .bad
theorem plainIx_of : ∀ {b : Expr}, (match b with | .Slice .. => false | _ => true) = true → PlainIx b := by
  intro b h o i
  cases b <;> first | rfl | simp at h
section
variable {X : Cx} {C : Pm} {pos p : Pos} {a b e : Expr} {es : List Expr} {fa fb : Env → R D} {fr : Env → R (List D)}
theorem ix_any (hw : X.w = Lots.w) (hu : X.A.units + 65 < cLine) (hK : C.K = X.K) : IxR X (rD2 C dIx) := by
  intro value slice pins s σ H x y v u Q I rx ry ⟨Hf, dx, dy, sf, hx, hy, h⟩ hs
  unfold dIx at h
  split at h
  · obtain ⟨a, xs, rfl, ha, za, ra⟩ := hx.list_ sf
    obtain rfl := hy.int_
    split at h
    · rename_i d e1
      obtain ⟨w, h1, h2⟩ := ra.atI e1
      exact ix_list value slice pins s σ H _ _ v u Q I rx ry ⟨a, xs, _, w, rfl, rfl, SqL.of ha, h1, h.val sf h2⟩ hs
    · exact h.elim
  · obtain ⟨a, xs, rfl, fa, ha, za, ra⟩ := hx.tuple_ sf
    obtain rfl := hy.int_
    split at h
    · rename_i d e1
      obtain ⟨w, h1, h2⟩ := ra.atI e1
      exact ix_tup value slice pins s σ H _ _ v u Q I rx ry ⟨a, xs, _, w, rfl, rfl, SqT.of ha, h1, h.val sf h2⟩ hs
    · exact h.elim
  · split at h
    · rename_i hz
      obtain rfl := hx.str_
      obtain rfl := hy.int_
      split at h
      · rename_i c e1
        exact ix_str value slice pins s σ H _ _ v u Q I rx ry ⟨_, _, c, rfl, rfl, hz, e1, h.val sf (.str _)⟩ hs
      · exact h.elim
    · exact h.elim
  · obtain ⟨a, ns, rfl, rfl, hq, hl⟩ := hx.scr_ sf
    obtain rfl := hy.int_
    split at h
    · rename_i d e1
      obtain ⟨w, h1, h2⟩ := (rpL_ints (K := C.K) (H := Hf) ns).atI e1
      exact ix_list value slice pins s σ H _ _ v u Q I rx ry ⟨a, _, _, w, rfl, rfl, by rw [← hK]; exact hq, h1, h.val sf h2⟩ hs
    · exact h.elim
  · rename_i kds z
    split at h
    · rename_i d e1
      obtain ⟨a, kvs, rfl, ha, za, ra⟩ := hx.dict_ (k := .inr z) sf e1
      obtain rfl := hy.str_
      obtain ⟨w, h1, h2⟩ := ra.look (k := .inr z) e1
      cases rx
      have g : DGet H a (.str z) (some w) := by rw [← h1]; exact .inl ⟨kvs, .inr z, ha, rfl, rfl⟩
      exact tail_any (dict_typeIs I g) PySem.F.slot_dict_getitem.lookup (d_getItem (by omega) I g ry fun w' s3 I3 rw' => ⟨w, H, I3, rw', h.val sf h2⟩) hs
    · exact h.elim
  · rename_i kds z hn
    split at h
    · rename_i d e1
      obtain ⟨a, kvs, rfl, ha, za, ra⟩ := hx.dict_ (k := .inl z) sf e1
      obtain rfl := hy.int_
      obtain ⟨w, h1, h2⟩ := ra.look (k := .inl z) e1
      cases rx
      have g : DGet H a (.int z) (some w) := by rw [← h1]; exact .inl ⟨kvs, .inl z, ha, rfl, rfl⟩
      exact tail_any (dict_typeIs I g) PySem.F.slot_dict_getitem.lookup (d_getItem (by omega) I g ry fun w' s3 I3 rw' => ⟨w, H, I3, rw', h.val sf h2⟩) hs
    · exact h.elim
  · split at h
    · rename_i kt
      split at h
      · rename_i d e1
        obtain ⟨b, rfl, rb⟩ := hy.tupRp
        obtain ⟨a, xs, rfl, rd, _, ra⟩ := hx.nd_ sf
        cases rx
        cases ry
        rw [hK] at rb ra
        have ti := (nd_of hw I sf rd ra).1.typeIs
        exact tail_any ti PySem.F.slot_dict_getitem.lookup (n_getItem (v := .non) hw hu I sf rd ra rb kt e1 fun v w' s3 I3 rw' hv => ⟨v, H, I3, rw', h.val sf (by rw [hK]; exact hv)⟩) hs
      · exact h.elim
    · exact h.elim
  · exact h.elim
theorem e_ix (hw : X.w = Lots.w) (hu : X.A.units + 65 < cLine) (hK : C.K = X.K) (ha : PE X a (tP C fa)) (hb : PE X b (tP C fb)) (hs : PlainIx b) : PE X (.Subscript a b pos) (tE C fun ρ => fa ρ >>= fun x => fb ρ >>= fun y => dIx x y) :=
  PE.imp (pe_ix (ix_any hw hu hK) ha hb hs) fun σ H Q ⟨Hf0, H0, Hf, ρ, env, h⟩ => ⟨Hf0, H0, Hf, ρ, env, h.bind fun dx vx Hf1 H1 _ g1 r1 h1 =>
    ⟨Hf0, H0, Hf1, ρ, env.more g1, h1.bind fun dy vy Hf2 H2 _ g2 r2 h2 => ⟨Hf2, dx, dy, g2.sub, r1.grow g2, r2, h2⟩⟩⟩
def cutD {α : Type} (xs : List α) (lo hi : Option Int) : List α := (xs.drop (HT.sIx xs.length 0 lo)).take (HT.sIx xs.length xs.length hi - HT.sIx xs.length 0 lo)
theorem RpL.cut {K : PySem.W.Frag} {H : Hp} {xs : List V} {ds : List D} {lo hi : Option Int} (r : RpL K H xs ds) : RpL K H (cutV xs lo hi) (cutD ds lo hi) := by
  unfold cutV cutD
  rw [r.length]
  exact (r.drop _).take _
def dSl (x : D) (lo hi : Option Int) : R D := match x with
  | .list ds => .ok (.list (cutD ds lo hi))
  | .tuple ds => .ok (.tuple (cutD ds lo hi))
  | .str z => if z.length ≤ sizeLine then .ok (.str (cutS z lo hi)) else .bad
  | _ => .bad
def dPart : D → R (Option Int)
  | .int i => .ok (some i)
  | _ => .bad
abbrev RelO : Hp → Hp → Option Int → Option Int → Prop := fun _ _ a b => a = b
abbrev tO (C : Pm) (f : Env → R (Option Int)) : TO := tG C RelO f
theorem PO.imp {o : Option Expr} {t u : TO} (h : PO X o t) (q : ∀ σ H Q, u σ H Q → t σ H Q) : PO X o u := ⟨fun pins s σ H Q I hu => h.run pins s σ H Q I (q σ H Q hu)⟩
theorem o_none : PO X none (tO C fun _ => .ok none) := PO.imp po_none fun σ H Q ⟨Hf0, H0, Hf, ρ, env, h⟩ => h none Hf H (Grow.refl env.grow.sub) rfl
theorem o_some (ha : PE X a (tP C fa)) : PO X (some a) (tO C fun ρ => fa ρ >>= dPart) := PO.imp (po_some ha) fun σ H Q ⟨Hf0, H0, Hf, ρ, env, h⟩ => ⟨Hf0, H0, Hf, ρ, env, h.bind fun dx vx Hf1 H1 _ g1 r1 h1 => by
  unfold dPart at h1
  split at h1
  · obtain rfl := r1.int_
    exact ⟨_, rfl, h1 _ Hf1 H1 (Grow.refl g1.sub) rfl⟩
  · exact h1.elim⟩
theorem cutV_whole {xs : List V} {lo hi : Option Int} (h : HT.sIx xs.length 0 lo = 0 ∧ HT.sIx xs.length xs.length hi = xs.length) : cutV xs lo hi = xs := by
  unfold cutV
  rw [h.1, h.2]
  simp
theorem sl_any (hK : C.K = X.K) : SlR X (fun x lo hi H Q => ∃ (Hf : Hp) (d : D), Fit Hf H ∧ Rp1 C.K Hf H x d ∧ OutG C (RelE C) Hf H (dSl d lo hi) Q) := by
  intro pins s σ H x v vl vu lo hi sl Q I rx hs pl pu ⟨Hf, d, sf, hx, h⟩
  unfold dSl at h
  split at h
  · obtain ⟨a, xs, rfl, ha, za, ra⟩ := hx.list_ sf
    refine sl_list pins s σ H _ v vl vu lo hi sl Q I rx hs pl pu ⟨a, xs, rfl, SqL.of ha, fun p np => ?_⟩
    exact h.made sf np (.newL (Same.free sf np) (Nat.le_trans (cutV_length xs lo hi) za) ra.cut)
  · obtain ⟨a, xs, rfl, fa, ha, za, ra⟩ := hx.tuple_ sf
    refine sl_tupA pins s σ H _ v vl vu lo hi sl Q I rx hs pl pu ⟨a, xs, rfl, SqT.of ha, fun w => ?_, fun _ p np => ?_⟩
    · refine h.val sf (.tup fa za ?_)
      have := ra.cut (lo := lo) (hi := hi)
      rw [cutV_whole w] at this
      exact this
    · exact h.made sf np (.newT (Same.free sf np) (Nat.le_trans (cutV_length xs lo hi) za) ra.cut)
  · split at h
    · rename_i hz
      obtain rfl := hx.str_
      exact sl_str pins s σ H _ v vl vu lo hi sl Q I rx hs pl pu ⟨_, rfl, hz, h.val sf (.str _)⟩
    · exact h.elim
  · exact h.elim
theorem e_sl {lo hi : Option Expr} {fl fh : Env → R (Option Int)} {p2 : Pos} (hK : C.K = X.K) (ha : PE X a (tP C fa)) (hl : PO X lo (tO C fl)) (hh : PO X hi (tO C fh)) :
    PE X (.Subscript a (.Slice lo hi none p2) pos) (tE C fun ρ => fa ρ >>= fun x => fl ρ >>= fun l => fh ρ >>= fun u => dSl x l u) :=
  PE.imp (pe_slice (sl_any hK) ha hl hh) fun σ H Q ⟨Hf0, H0, Hf, ρ, env, h⟩ => ⟨Hf0, H0, Hf, ρ, env, h.bind fun dx vx Hf1 H1 _ g1 r1 h1 =>
    ⟨Hf0, H0, Hf1, ρ, env.more g1, h1.bind fun l vl Hf2 H2 _ g2 r2 h2 => ⟨Hf0, H0, Hf2, ρ, (env.more g1).more g2, h2.bind fun u vu Hf3 H3 _ g3 r3 h3 => by
      subst r2 r3
      exact ⟨Hf3, dx, g3.sub, (r1.grow g2).grow g3, h3⟩⟩⟩⟩
theorem RpL.down {K : PySem.W.Frag} {H : Hp} {xs : List V} {ds : List D} {lo : Option Int} (r : RpL K H xs ds) : RpL K H (downFrom xs lo) (downFrom ds lo) := by
  unfold downFrom
  rw [r.length]
  generalize List.range _ = ks
  induction ks with
  | nil => exact .nil
  | cons k ks ih =>
    rw [List.filterMap_cons, List.filterMap_cons]
    cases q : ds[((Builtin.Slice.sliceAdjust lo none (-1) ds.length).1 + (k : Int) * (-1)).toNat]? with
    | none =>
      have q2 : xs[((Builtin.Slice.sliceAdjust lo none (-1) ds.length).1 + (k : Int) * (-1)).toNat]? = none := by
        rw [List.getElem?_eq_none_iff] at q ⊢
        rw [r.length]
        exact q
      rw [q2]; exact ih
    | some x =>
      obtain ⟨u, h1, h2⟩ := r.get q
      rw [h1]
      exact .cons h2 ih
def dRev (x : D) (lo : Option Int) : R D := match x, lo with
  | .list ds, none => .ok (.list ds.reverse)
  | .tuple ds, lo => .ok (.tuple (downFrom ds lo))
  | _, _ => .bad
theorem PE.or {t u : TE} (h : PE X e t) (h' : PE X e u) : PE X e (fun σ H Q => t σ H Q ∨ u σ H Q) := ⟨fun pins s σ H R I hw => hw.elim (h.run pins s σ H R I) (h'.run pins s σ H R I)⟩
theorem down_in {lo : Option Expr} {fl : Env → R (Option Int)} (hK : C.K = X.K) {σ : L2.St} {H : Hp} {Q : VK} {Hf0 H0 Hf : Hp} {ρ : Env} (env : EnvR C.K Hf0 H0 Hf H σ ρ) {ds : List D} (e1 : fa ρ = .ok (.tuple ds)) (h : OutG C (RelE C) Hf H (fa ρ >>= fun x => fl ρ >>= fun l => dRev x l) Q) :
    tDownT X.K (tP C fa) (tO C fl) σ H Q :=
  ⟨Hf0, H0, Hf, ρ, env, h.bind fun dx vx Hf1 H1 ex g1 r1 h1 => ⟨Hf0, H0, Hf1, ρ, env.more g1, h1.bind fun l vl Hf2 H2 _ g2 r2 h2 => by
    subst r2
    rw [e1] at ex
    cases ex
    obtain ⟨a, xs, rfl, fa, ha, za, ra⟩ := (r1.grow g2).tuple_ g2.sub
    have dl := downFrom_len xs vl
    refine ⟨a, xs, rfl, SqT.of ha, fun p np => ?_⟩
    cases vl with
    | none => exact OutG.made (show OutG C (RelE C) Hf2 H2 (.ok (.tuple (downFrom ds none))) Q from h2) g2.sub np (.newT (Same.free g2.sub np) (by omega) ra.down)
    | some z => exact OutG.made (show OutG C (RelE C) Hf2 H2 (.ok (.tuple (downFrom ds (some z)))) Q from h2) g2.sub np (.newT (Same.free g2.sub np) (by omega) ra.down)⟩⟩
theorem e_rev0 {k : Nat} {p1 p2 p3 : Pos} (hK : C.K = X.K) (ha : PE X a (tP C fa)) : PE X (.Subscript a (.Slice none none (some (.UnaryOp .USub (.Constant (.int 1) k p1) p2)) p3) pos) (tE C fun ρ => fa ρ >>= fun x => (R.ok none : R (Option Int)) >>= fun l => dRev x l) := by
  refine PE.imp (PE.or (pe_revL ha) (pe_downT ha (o_none (C := C)))) fun σ H Q ⟨Hf0, H0, Hf, ρ, env, h⟩ => ?_
  have h : OutG C (RelE C) Hf H (fa ρ >>= fun x => (R.ok none : R (Option Int)) >>= fun l => dRev x l) Q := h
  cases e1 : fa ρ with
  | bad => rw [e1] at h; exact h.elim
  | exc c => rw [e1] at h; exact .inl ⟨Hf0, H0, Hf, ρ, env, by rw [e1]; exact h⟩
  | ok d =>
    cases d with
    | tuple ds => exact .inr (down_in (lo := none) (fl := fun _ => .ok none) hK env e1 h)
    | list ds =>
      refine .inl ⟨Hf0, H0, Hf, ρ, env, h.bind fun dx vx Hf1 H1 ex g1 r1 h1 => ?_⟩
      rw [e1] at ex
      cases ex
      obtain ⟨a, xs, rfl, ha, za, ra⟩ := r1.list_ g1.sub
      exact ⟨a, xs, rfl, SqL.of ha, fun p np => OutG.made (show OutG C (RelE C) Hf1 H1 (.ok (.list ds.reverse)) Q from h1) g1.sub np (.newL (Same.free g1.sub np) (by rw [List.length_reverse]; exact za) ra.rev)⟩
    | _ => rw [e1] at h; exact h.elim
theorem e_rev1 {lo : Expr} {fl : Env → R (Option Int)} {k : Nat} {p1 p2 p3 : Pos} (hK : C.K = X.K) (ha : PE X a (tP C fa)) (hl : PO X (some lo) (tO C fl)) :
    PE X (.Subscript a (.Slice (some lo) none (some (.UnaryOp .USub (.Constant (.int 1) k p1) p2)) p3) pos) (tE C fun ρ => fa ρ >>= fun x => match x with | .tuple _ => fl ρ >>= fun l => dRev x l | _ => .bad) := by
  refine PE.imp (pe_downT ha hl) fun σ H Q ⟨Hf0, H0, Hf, ρ, env, h⟩ => ?_
  have h : OutG C (RelE C) Hf H (fa ρ >>= fun x => match x with | .tuple _ => fl ρ >>= fun l => dRev x l | _ => .bad) Q := h
  cases e1 : fa ρ with
  | bad => rw [e1] at h; exact h.elim
  | exc c => rw [e1] at h; exact ⟨Hf0, H0, Hf, ρ, env, by rw [e1]; exact h⟩
  | ok d =>
    cases d with
    | tuple ds => exact down_in (lo := some lo) hK env e1 (by rw [e1] at h ⊢; exact h)
    | _ => rw [e1] at h; exact h.elim
def rDN (C : Pm) (F : List D → R D) : List V → Hp → VK → Prop := fun vs H Q => ∃ (Hf : Hp) (ds : List D), Fit Hf H ∧ Rp1L C.K Hf H vs ds ∧ OutG C (RelE C) Hf H (F ds) Q
def rDNF (C : Pm) (F : List D → R D) : List V → Hp → VK → Prop := fun vs H Q => ∃ (Hf : Hp) (ds : List D), Fit Hf H ∧ Rp1L C.K Hf H vs ds ∧ OutG C (RelF C H) Hf H (F ds) Q
theorem noStar_any {es : List Expr} {env : PySem.Env} {pos : Pos} (h : es.all (fun e => !isStar e) = true) : (backTo pos (starEach es env)).any (·.1) = false := by
  induction es with
  | nil => rfl
  | cons e es ih =>
    simp only [List.all_cons, Bool.and_eq_true, Bool.not_eq_true'] at h
    rw [star_cons h.1]
    have e1 := ih h.2
    show ((false, _) :: backTo pos (starEach es env)).any (·.1) = false
    rw [List.any_cons, e1]
    rfl
variable {x : Str} {id T : String} {F : List D → R D}
theorem e_callB (hc : CallR X (.builtin id) (rDN C F)) (hg : Gl X x) (hm : X.mg x = none) (hv : bootBuiltins x = some (.builtin id)) (ha : PA X (e :: es) (tPA C fr)) (hs : (e :: es).all (fun e => !isStar e) = true) (hn : x ≠ "__name__") (hdb : (x == ("__debug__" : Str)) = false) :
    PE X (.Call (.Name x p) (e :: es) [] pos) (tE C fun ρ => fr ρ >>= F) := by
  have hs' := hs
  simp only [List.all_cons, Bool.and_eq_true, Bool.not_eq_true'] at hs'
  exact PE.imp (pe_callB hc hg hm hv ha hn hdb (star_cons hs'.1) (noStar_any (by simpa using hs'.2))) fun σ H Q ⟨Hf0, H0, Hf, ρ, env, h⟩ => ⟨Hf0, H0, Hf, ρ, env, h.bind fun ds vs Hf1 H1 _ g1 r1 h1 => ⟨Hf1, ds, g1.sub, r1, h1⟩⟩
theorem e_callTy (hc : CallR X (.type T) (rDN C F)) (hg : Gl X x) (hm : X.mg x = none) (hv : bootBuiltins x = some (.type T)) (ha : PA X (e :: es) (tPA C fr)) (hs : (e :: es).all (fun e => !isStar e) = true) (hn : x ≠ "__name__") (hdb : (x == ("__debug__" : Str)) = false) :
    PE X (.Call (.Name x p) (e :: es) [] pos) (tE C fun ρ => fr ρ >>= F) := by
  have hs' := hs
  simp only [List.all_cons, Bool.and_eq_true, Bool.not_eq_true'] at hs'
  exact PE.imp (pe_callTy hc hg hm hv ha hn hdb (star_cons hs'.1) (noStar_any (by simpa using hs'.2))) fun σ H Q ⟨Hf0, H0, Hf, ρ, env, h⟩ => ⟨Hf0, H0, Hf, ρ, env, h.bind fun ds vs Hf1 H1 _ g1 r1 h1 => ⟨Hf1, ds, g1.sub, r1, h1⟩⟩
theorem relF_of {Hf H Hf1 H1 : Hp} {d : D} {Q : VK} {r : R D} (g : Grow Hf H Hf1 H1) (h : OutG C (RelF C H) Hf1 H1 r Q) : OutG C (RelF C H1) Hf1 H1 r Q := by
  cases r with
  | ok d =>
    rintro v Hf2 H2 g2 ⟨a, e1, na, o⟩
    exact h v Hf2 H2 g2 ⟨a, e1, Same.free g.h na, o⟩
  | exc c => exact h
  | bad => exact h.elim
theorem f_callB (hc : CallR X (.builtin id) (rDNF C F)) (hg : Gl X x) (hm : X.mg x = none) (hv : bootBuiltins x = some (.builtin id)) (ha : PA X (e :: es) (tPA C fr)) (hs : (e :: es).all (fun e => !isStar e) = true) (hn : x ≠ "__name__") (hdb : (x == ("__debug__" : Str)) = false) :
    PE X (.Call (.Name x p) (e :: es) [] pos) (tF C fun ρ => fr ρ >>= F) := by
  have hs' := hs
  simp only [List.all_cons, Bool.and_eq_true, Bool.not_eq_true'] at hs'
  exact PE.imp (pe_callB hc hg hm hv ha hn hdb (star_cons hs'.1) (noStar_any (by simpa using hs'.2))) fun σ H Q ⟨Hf0, H0, Hf, ρ, env, h⟩ => ⟨Hf0, H0, Hf, ρ, env, h.bind fun ds vs Hf1 H1 _ g1 r1 h1 => ⟨Hf1, ds, g1.sub, r1, relF_of (d := .none) g1 h1⟩⟩
theorem f_callTy (hc : CallR X (.type T) (rDNF C F)) (hg : Gl X x) (hm : X.mg x = none) (hv : bootBuiltins x = some (.type T)) (ha : PA X (e :: es) (tPA C fr)) (hs : (e :: es).all (fun e => !isStar e) = true) (hn : x ≠ "__name__") (hdb : (x == ("__debug__" : Str)) = false) :
    PE X (.Call (.Name x p) (e :: es) [] pos) (tF C fun ρ => fr ρ >>= F) := by
  have hs' := hs
  simp only [List.all_cons, Bool.and_eq_true, Bool.not_eq_true'] at hs'
  exact PE.imp (pe_callTy hc hg hm hv ha hn hdb (star_cons hs'.1) (noStar_any (by simpa using hs'.2))) fun σ H Q ⟨Hf0, H0, Hf, ρ, env, h⟩ => ⟨Hf0, H0, Hf, ρ, env, h.bind fun ds vs Hf1 H1 _ g1 r1 h1 => ⟨Hf1, ds, g1.sub, r1, relF_of (d := .none) g1 h1⟩⟩
theorem Rp1L.one {K : PySem.W.Frag} {Hf H : Hp} {vs : List V} {d : D} (h : Rp1L K Hf H vs [d]) : ∃ v, vs = [v] ∧ Rp1 K Hf H v d := by
  cases h with
  | cons h r => cases r; exact ⟨_, rfl, h⟩
theorem Rp1L.two {K : PySem.W.Frag} {Hf H : Hp} {vs : List V} {d e : D} (h : Rp1L K Hf H vs [d, e]) : ∃ v w, vs = [v, w] ∧ Rp1 K Hf H v d ∧ Rp1 K Hf H w e := by
  cases h with
  | cons h r =>
    cases r with
    | cons h2 r => cases r; exact ⟨_, _, rfl, h, h2⟩
def dLen : List D → R D
  | [.list ds] => .ok (.int ds.length)
  | [.tuple ds] => .ok (.int ds.length)
  | [.str z] => if z.length ≤ sizeLine then .ok (.int z.length) else .bad
  | [.dict [(.none, .list ds)]] => .ok (.int ds.length)
  | _ => .bad
theorem c_len (hK : C.K = X.K) : CallR X (.builtin "len") (rDN C dLen) := by
  intro pins s σ H xs us Q I r ⟨Hf, ds, sf, hx, h⟩
  unfold dLen at h
  split at h
  · obtain ⟨v, rfl, hv⟩ := hx.one
    obtain ⟨a, xs, rfl, ha, za, ra⟩ := hv.list_ sf
    refine call_len pins s σ H _ us Q I r ⟨_, xs.length, rfl, .inl ⟨xs, SqL.of ha, rfl⟩, ?_⟩
    rw [ra.length]
    exact h.val sf (.int _)
  · obtain ⟨v, rfl, hv⟩ := hx.one
    obtain ⟨a, xs, rfl, fa, ha, za, ra⟩ := hv.tuple_ sf
    refine call_len pins s σ H _ us Q I r ⟨_, xs.length, rfl, .inr ⟨xs, SqT.of ha, rfl⟩, ?_⟩
    rw [ra.length]
    exact h.val sf (.int _)
  · split at h
    · rename_i hz
      obtain ⟨v, rfl, hv⟩ := hx.one
      obtain rfl := hv.str_
      exact call_len pins s σ H _ us Q I r ⟨_, _, rfl, ⟨hz, rfl⟩, h.val sf (.int _)⟩
    · exact h.elim
  · obtain ⟨v, rfl, hv⟩ := hx.one
    obtain ⟨a, ns, rfl, rfl, hq, hl⟩ := hv.scr_ sf
    refine call_len pins s σ H _ us Q I r ⟨_, (ns.map V.int).length, rfl, .inl ⟨_, by rw [← hK]; exact hq, rfl⟩, ?_⟩
    rw [List.length_map]
    rw [List.length_map] at h
    exact h.val sf (.int _)
  · exact h.elim
def bools : List D → Option (List Bool)
  | [] => some []
  | .bool b :: ds => (bools ds).map (b :: ·)
  | _ :: _ => none
theorem bools_eq : ∀ {ds : List D} {bs : List Bool}, bools ds = some bs → ds = bs.map PyData.bool
  | [], bs, h => by
    unfold bools at h
    cases h
    rfl
  | d :: ds, bs, h => by
    unfold bools at h
    split at h
    · rename_i e; cases e
    · rename_i b ds' e
      cases e
      cases e2 : bools ds with
      | none => rw [e2] at h; cases h
      | some cs =>
        rw [e2] at h
        cases h
        rw [List.map_cons, ← bools_eq e2]
    · cases h
def dAll : List D → R D
  | [.list ds] => (match bools ds with | some bs => .ok (.bool (bs.all fun b => b)) | none => .bad)
  | _ => .bad
def dAny : List D → R D
  | [.list ds] => (match bools ds with | some bs => .ok (.bool (bs.any fun b => b)) | none => .bad)
  | _ => .bad
theorem c_all (hc : X.calm = true) : CallR X (.builtin "all") (rDN C dAll) := by
  intro pins s σ H xs us Q I r ⟨Hf, ds, sf, hx, h⟩
  unfold dAll at h
  split at h
  · split at h
    · rename_i bs e
      obtain ⟨v, rfl, hv⟩ := hx.one
      obtain ⟨a, xs, rfl, ha, za, ra⟩ := hv.list_ sf
      rw [bools_eq e] at ra
      have e2 := ra.bools
      subst e2
      exact cr_all hc pins s σ H _ us Q I r ⟨a, bs, rfl, SqL.of ha, val_bl h sf⟩
    · exact h.elim
  · exact h.elim
theorem c_any (hc : X.calm = true) : CallR X (.builtin "any") (rDN C dAny) := by
  intro pins s σ H xs us Q I r ⟨Hf, ds, sf, hx, h⟩
  unfold dAny at h
  split at h
  · split at h
    · rename_i bs e
      obtain ⟨v, rfl, hv⟩ := hx.one
      obtain ⟨a, xs, rfl, ha, za, ra⟩ := hv.list_ sf
      rw [bools_eq e] at ra
      have e2 := ra.bools
      subst e2
      exact cr_any hc pins s σ H _ us Q I r ⟨a, bs, rfl, SqL.of ha, val_bl h sf⟩
    · exact h.elim
  · exact h.elim
def dAbs : List D → R D
  | [.int i] => .ok (.int (if i < 0 then -i else i))
  | _ => .bad
theorem c_abs : CallR X (.builtin "abs") (rDN C dAbs) := by
  intro pins s σ H xs us Q I r ⟨Hf, ds, sf, hx, h⟩
  unfold dAbs at h
  split at h
  · obtain ⟨v, rfl, hv⟩ := hx.one
    obtain rfl := hv.int_
    exact call_abs pins s σ H _ us Q I r ⟨_, rfl, h.val sf (.int _)⟩
  · exact h.elim
end
def alikeAllB (ds : List D) : Bool := (ds.all fun d => ds.all fun e => PySem.W.alike d e) && ds.all fun d => !isNon d
def ordOk (ds : List D) : Bool := alikeAllB ds && PyData.canLayAll0 ds && decide (PyData.depthAll ds ≤ 60)
theorem alikeAllB_of {ds : List D} (h : alikeAllB ds = true) : PySem.W.AlikeAll ds := by
  simp only [alikeAllB, Bool.and_eq_true, List.all_eq_true, Bool.not_eq_true'] at h
  exact ⟨fun x hx y hy => h.1 x hx y hy, fun x hx e => by
    have := h.2 x hx
    rw [e] at this
    cases this⟩
def dMax : List D → R D
  | [.int i, .int j] => .ok (.int (if j > i then j else i))
  | [.list (d :: ds)] => if ordOk (d :: ds) then .ok (PySem.W.maxD d ds) else .bad
  | [.tuple (d :: ds)] => if ordOk (d :: ds) then .ok (PySem.W.maxD d ds) else .bad
  | _ => .bad
def dMin : List D → R D
  | [.int i, .int j] => .ok (.int (if j < i then j else i))
  | [.list (d :: ds)] => if ordOk (d :: ds) then .ok (PySem.W.minD d ds) else .bad
  | [.tuple (d :: ds)] => if ordOk (d :: ds) then .ok (PySem.W.minD d ds) else .bad
  | _ => .bad
theorem minD_mem (x : D) : ∀ xs : List D, PySem.W.minD x xs ∈ x :: xs := by
  intro xs
  unfold PySem.W.minD
  induction xs generalizing x with
  | nil => simp
  | cons y ys ih =>
    simp only [List.foldl_cons]
    by_cases q : PySem.W.dataLt y x = true
    · rw [if_pos q]; exact List.mem_cons_of_mem _ (ih y)
    · rw [if_neg q]
      rcases List.mem_cons.mp (ih x) with z | z
      · rw [z]; exact List.mem_cons_self
      · exact List.mem_cons_of_mem _ (List.mem_cons_of_mem _ z)
theorem maxD_mem (x : D) : ∀ xs : List D, PySem.W.maxD x xs ∈ x :: xs := by
  intro xs
  unfold PySem.W.maxD
  induction xs generalizing x with
  | nil => simp
  | cons y ys ih =>
    simp only [List.foldl_cons]
    by_cases q : PySem.W.dataLt x y = true
    · rw [if_pos q]; exact List.mem_cons_of_mem _ (ih y)
    · rw [if_neg q]
      rcases List.mem_cons.mp (ih x) with z | z
      · rw [z]; exact List.mem_cons_self
      · exact List.mem_cons_of_mem _ (List.mem_cons_of_mem _ z)
theorem canLay_mem : ∀ {ds : List D} {d : D}, PyData.canLayAll0 ds = true → d ∈ ds → d.canLay0 = true
  | _ :: _, _, h, .head _ => by
    simp only [PyData.canLayAll0, Bool.and_eq_true] at h
    exact h.1
  | _ :: _, _, h, .tail _ m => by
    simp only [PyData.canLayAll0, Bool.and_eq_true] at h
    exact canLay_mem h.2 m
theorem reads_at {h : Heap} : ∀ {vs : List Value} {ds : List D} {as : List Addr} {i : Nat} {v : Value} {d : D}, ReadsAll h vs ds as → vs[i]? = some v → ds[i]? = some d → ∃ cs, Reads h v d cs
  | _, _, _, _, _, _, .nil, hi, _ => by simp at hi
  | _, _, _, 0, _, _, .cons q _, hi, h1 => by
    simp at hi h1
    subst hi h1
    exact ⟨_, q⟩
  | _, _, _, i + 1, _, _, .cons _ r, hi, h1 => reads_at (i := i) r (by simpa using hi) (by simpa using h1)
theorem rp_of_reads {X : Cx} {pins : List (Addr × Obj)} {σ : L2.St} {H Hf : Hp} {s : Shared} {xs : List V} {its : List Value} {ds : List D} {d : D} {i : Nat} {v : Value} {h' : Heap} {as bs : List Addr} (r : RpL X.K Hf xs ds) (rv : Vals xs its)
    (hr : ReadsAll s.heap its ds as) (hi : its[i]? = some v) (hd : Reads h' v d bs) (hk : ∀ b o, s.heap.get? b = some o → h'.get? b = some o) (hc : PyData.canLayAll0 ds = true) (hm : d ∈ ds) : ∃ x, RelV x v ∧ Rp X.K Hf x d := by
  have e1 := SeqAt.readsAll_map ds its as hc hr
  have hl : i < its.length := (List.getElem?_eq_some_iff.mp hi).1
  have hl2 : i < xs.length := by rw [rv.length]; exact hl
  obtain ⟨dd, h1, h2⟩ := r.get' (List.getElem?_eq_getElem hl2)
  obtain ⟨u, h3, h4⟩ := rv.get (List.getElem?_eq_getElem hl2)
  rw [hi] at h3
  cases h3
  refine ⟨_, h4, ?_⟩
  obtain ⟨cs, r3⟩ := reads_at hr hi h1
  have e3 : dd = d := by
    have hdd : dd.canLay0 = true := canLay_mem hc (List.mem_of_getElem? h1)
    have r4 : Reads h' v dd cs := PyProof.Rows.Reads.keeps hk r3
    rw [← SeqAt.readOf_eq hdd r4, SeqAt.readOf_eq (canLay_mem hc hm) hd]
  rw [← e3]
  exact h2
section
variable {X : Cx} {C : Pm}
theorem ordOk_of {ds : List D} (h : ordOk ds = true) : PySem.W.AlikeAll ds ∧ PyData.canLayAll0 ds = true ∧ PyData.depthAll ds ≤ 60 := by
  simp only [ordOk, Bool.and_eq_true, decide_eq_true_eq] at h
  exact ⟨alikeAllB_of h.1.1, h.1.2, h.2⟩
def intsD : List D → Option (List Int)
  | [] => some []
  | .int i :: r => (intsD r).map (i :: ·)
  | _ => none
theorem intsD_eq : ∀ {ds : List D} {ns : List Int}, intsD ds = some ns → ds = ns.map PyData.int
  | [], _, h => by cases h; rfl
  | d :: r, ns, h => by
    cases d with
    | int i =>
      simp only [intsD, Option.map_eq_some_iff] at h
      obtain ⟨ms, h1, rfl⟩ := h
      rw [intsD_eq h1]
      rfl
    | _ => simp [intsD] at h
def dSum : List D → R D
  | [.list ds] => (match intsD ds with | some ns => .ok (.int ns.sum) | none => .bad)
  | _ => .bad
theorem c_sum (hK : C.K = X.K) (hc : X.calm = true) : CallR X (.builtin "sum") (rDN C dSum) := by
  intro pins s σ H xs us Q I r ⟨Hf, ds, sf, hx, h⟩
  unfold dSum at h
  split at h
  · split at h
    · rename_i ns hn
      obtain ⟨v, rfl, hv⟩ := hx.one
      rw [intsD_eq hn] at hv
      obtain ⟨a, xs, rfl, ha, za, ra⟩ := hv.list_ sf
      have e := ra.ints
      subst e
      exact cr_sum hc pins s σ H _ us Q I r ⟨a, ns, rfl, SqL.of ha, h.val sf (.int _)⟩
    · exact h.elim
  · exact h.elim
theorem c_max (hK : C.K = X.K) (hc : X.calm = true) (hu : X.A.units + 65 < cLine) : CallR X (.builtin "max") (rDN C dMax) := by
  intro pins s σ H xs us Q I r ⟨Hf, ds, sf, hx, h⟩
  unfold dMax at h
  split at h
  · obtain ⟨v, w, rfl, hv, hw⟩ := hx.two
    obtain rfl := hv.int_; obtain rfl := hw.int_
    exact call_max2 hc pins s σ H _ us Q I r ⟨_, _, rfl, h.val sf (.int _)⟩
  · rename_i d ds
    split at h
    · rename_i ho
      obtain ⟨o1, o2, o3⟩ := ordOk_of ho
      obtain ⟨v, rfl, hv⟩ := hx.one
      obtain ⟨a, xs, rfl, ha, za, ra⟩ := hv.list_ sf
      rw [Vals.ref1 r]
      obtain ⟨its, rv, hl, _⟩ := I.list (SqL.of ha)
      obtain ⟨as, hr⟩ := Dp.readsAll I (d :: ds) xs its (by rw [← hK]; exact ra.dp sf.lk (noDictL_of o2)) rv
      refine PySem.W.max_list_data (I.ok.hd hc) hl.isList (by simpa using hr) o1 (by omega) fun i v h' tk bs hi rd hk => ?_
      obtain ⟨y, r1, r2⟩ := rp_of_reads (X := X) (pins := pins) (σ := σ) (H := H) (s := s) (by rw [← hK]; exact ra) rv hr (by simpa using hi) rd hk o2 (maxD_mem d ds)
      exact ⟨y, H, I.kept (t' := tk) hk, r1, h.val sf (by rw [hK]; exact r2)⟩
    · exact h.elim
  · rename_i d ds
    split at h
    · rename_i ho
      obtain ⟨o1, o2, o3⟩ := ordOk_of ho
      obtain ⟨v, rfl, hv⟩ := hx.one
      obtain ⟨a, xs, rfl, fa, ha, za, ra⟩ := hv.tuple_ sf
      rw [Vals.ref1 r]
      obtain ⟨its, rv, hl, _⟩ := I.tuple (SqT.of ha)
      obtain ⟨as, hr⟩ := Dp.readsAll I (d :: ds) xs its (by rw [← hK]; exact ra.dp sf.lk (noDictL_of o2)) rv
      refine PySem.W.max_tuple_data (I.ok.hd hc) (show s.heap.IsTuple a its.toArray from hl) (by simpa using hr) o1 (by omega) fun i v h' tk bs hi rd hk => ?_
      obtain ⟨y, r1, r2⟩ := rp_of_reads (X := X) (pins := pins) (σ := σ) (H := H) (s := s) (by rw [← hK]; exact ra) rv hr (by simpa using hi) rd hk o2 (maxD_mem d ds)
      exact ⟨y, H, I.kept (t' := tk) hk, r1, h.val sf (by rw [hK]; exact r2)⟩
    · exact h.elim
  · exact h.elim
theorem c_min (hK : C.K = X.K) (hc : X.calm = true) (hu : X.A.units + 65 < cLine) : CallR X (.builtin "min") (rDN C dMin) := by
  intro pins s σ H xs us Q I r ⟨Hf, ds, sf, hx, h⟩
  unfold dMin at h
  split at h
  · obtain ⟨v, w, rfl, hv, hw⟩ := hx.two
    obtain rfl := hv.int_; obtain rfl := hw.int_
    exact call_min2 hc pins s σ H _ us Q I r ⟨_, _, rfl, h.val sf (.int _)⟩
  · rename_i d ds
    split at h
    · rename_i ho
      obtain ⟨o1, o2, o3⟩ := ordOk_of ho
      obtain ⟨v, rfl, hv⟩ := hx.one
      obtain ⟨a, xs, rfl, ha, za, ra⟩ := hv.list_ sf
      rw [Vals.ref1 r]
      obtain ⟨its, rv, hl, _⟩ := I.list (SqL.of ha)
      obtain ⟨as, hr⟩ := Dp.readsAll I (d :: ds) xs its (by rw [← hK]; exact ra.dp sf.lk (noDictL_of o2)) rv
      refine PySem.W.min_list_data (I.ok.hd hc) hl.isList (by simpa using hr) o1 (by omega) fun i v h' tk bs hi rd hk => ?_
      obtain ⟨y, r1, r2⟩ := rp_of_reads (X := X) (pins := pins) (σ := σ) (H := H) (s := s) (by rw [← hK]; exact ra) rv hr (by simpa using hi) rd hk o2 (minD_mem d ds)
      exact ⟨y, H, I.kept (t' := tk) hk, r1, h.val sf (by rw [hK]; exact r2)⟩
    · exact h.elim
  · rename_i d ds
    split at h
    · rename_i ho
      obtain ⟨o1, o2, o3⟩ := ordOk_of ho
      obtain ⟨v, rfl, hv⟩ := hx.one
      obtain ⟨a, xs, rfl, fa, ha, za, ra⟩ := hv.tuple_ sf
      rw [Vals.ref1 r]
      obtain ⟨its, rv, hl, _⟩ := I.tuple (SqT.of ha)
      obtain ⟨as, hr⟩ := Dp.readsAll I (d :: ds) xs its (by rw [← hK]; exact ra.dp sf.lk (noDictL_of o2)) rv
      refine PySem.W.min_tuple_data (I.ok.hd hc) (show s.heap.IsTuple a its.toArray from hl) (by simpa using hr) o1 (by omega) fun i v h' tk bs hi rd hk => ?_
      obtain ⟨y, r1, r2⟩ := rp_of_reads (X := X) (pins := pins) (σ := σ) (H := H) (s := s) (by rw [← hK]; exact ra) rv hr (by simpa using hi) rd hk o2 (minD_mem d ds)
      exact ⟨y, H, I.kept (t' := tk) hk, r1, h.val sf (by rw [hK]; exact r2)⟩
    · exact h.elim
  · exact h.elim
def dTuple : List D → R D
  | [.list ds] => .ok (.tuple ds)
  | [.tuple ds] => .ok (.tuple ds)
  | _ => .bad
theorem c_tuple (hK : C.K = X.K) : CallR X (.type "tuple") (rDN C dTuple) := by
  intro pins s σ H xs us Q I r ⟨Hf, ds, sf, hx, h⟩
  unfold dTuple at h
  split at h
  · obtain ⟨v, rfl, hv⟩ := hx.one
    obtain ⟨a, xs, rfl, ha, za, ra⟩ := hv.list_ sf
    exact call_tuple_of pins s σ H _ us Q I r ⟨a, xs, rfl, .inl ⟨SqL.of ha, fun p np => h.made sf np (.newT (Same.free sf np) za ra)⟩⟩
  · obtain ⟨v, rfl, hv⟩ := hx.one
    obtain ⟨a, xs, rfl, fa, ha, za, ra⟩ := hv.tuple_ sf
    exact call_tuple_of pins s σ H _ us Q I r ⟨a, xs, rfl, .inr ⟨SqT.of ha, h.val sf (.tup fa za ra)⟩⟩
  · exact h.elim
def dList : List D → R D
  | [.list ds] => .ok (.list ds)
  | [.tuple ds] => .ok (.list ds)
  | [.str z] => if z.length ≤ sizeLine then .ok (.list (z.cps.toList.map fun c => .str ⟨#[c]⟩)) else .bad
  | _ => .bad
theorem rpL_signs {K : PySem.W.Frag} {H : Hp} : ∀ cs : List Nat, RpL K H (cs.map fun c => V.str ⟨#[c]⟩) (cs.map fun c => PyData.str ⟨#[c]⟩)
  | [] => .nil
  | c :: cs => .cons (.str _) (rpL_signs cs)
theorem ownL {Hf H : Hp} {p : Addr} {xs : List V} {ds : List D} {K : PySem.W.Frag} (sf : Fit Hf H) (np : H p = none) (z : xs.length ≤ sizeLine) (r : RpL K Hf xs ds) : OwnAt K Hf (upd H p (.lst xs)) p (.list ds) := ⟨xs, Same.free sf np, upd_same, z, r⟩
theorem c_list (hK : C.K = X.K) (hc : X.calm = true) : CallR X (.type "list") (rDNF C dList) := by
  intro pins s σ H xs us Q I r ⟨Hf, ds, sf, hx, h⟩
  unfold dList at h
  split at h
  · obtain ⟨v, rfl, hv⟩ := hx.one
    obtain ⟨a, xs, rfl, ha, za, ra⟩ := hv.list_ sf
    exact call_list_of pins s σ H _ us Q I r ⟨a, xs, rfl, .inl (SqL.of ha), fun p np => h _ Hf _ (Grow.side sf np) ⟨p, rfl, np, ownL sf np za ra⟩⟩
  · obtain ⟨v, rfl, hv⟩ := hx.one
    obtain ⟨a, xs, rfl, fa, ha, za, ra⟩ := hv.tuple_ sf
    exact call_list_of pins s σ H _ us Q I r ⟨a, xs, rfl, .inr (SqT.of ha), fun p np => h _ Hf _ (Grow.side sf np) ⟨p, rfl, np, ownL sf np za ra⟩⟩
  · split at h
    · rename_i hz
      obtain ⟨v, rfl, hv⟩ := hx.one
      obtain rfl := hv.str_
      exact call_listS hc pins s σ H _ us Q I r ⟨_, rfl, hz, fun p np => h _ Hf _ (Grow.side sf np) ⟨p, rfl, np, ownL sf np (by rw [List.length_map, Array.length_toList]; exact hz) (rpL_signs _)⟩⟩
    · exact h.elim
  · exact h.elim
def dDict : List D → R D
  | [.list ds] => (match pairsD ds with | some md => .ok (.dict (mergeD [] md)) | none => .bad)
  | _ => .bad
theorem c_dict (hK : C.K = X.K) (hc : X.calm = true) : CallR X (.type "dict") (rDNF C dDict) := by
  intro pins s σ H xs us Q I r ⟨Hf, ds, sf, hx, h⟩
  unfold dDict at h
  split at h
  · split at h
    · rename_i md hm
      obtain ⟨v, rfl, hv⟩ := hx.one
      obtain ⟨a, xs, rfl, ha, za, ra⟩ := hv.list_ sf
      obtain ⟨ps, kvs, rfl, p1, p2⟩ := pairs_rp hm ra
      have hlen : kvs.length ≤ sizeLine := by
        have e1 := Paired.length p1
        rw [List.length_map] at za
        omega
      refine call_dictP hc pins s σ H _ us Q I r ⟨a, ps, kvs, rfl, SqL.of ha, L2.Paired.mapP p1 fun p kv q => SqT.of ((sf.lk _ _ q rfl)), fun p np => h _ Hf _ (Grow.side sf np) ⟨p, rfl, np, .inl ⟨_, Same.free sf np, upd_same, ?_, RpK.merge p2 .nil⟩⟩⟩
      have := length_mergeK kvs []
      simp at this
      omega
    · exact h.elim
  · exact h.elim
def sortOk (ds : List D) : Bool := ordOk ds && (((ds.all fun d => match d with | .tuple (_ :: _) => true | _ => false) || ds.all fun d => match d with | .none => false | .tuple _ => false | _ => true) || (match ds with | .tuple [] :: _ => (ds.all fun d => match d with | .tuple _ => true | _ => false) | _ => false))
def insD (a : D) : List D → List D
  | [] => [a]
  | b :: l => if PySem.W.dataLt b a = true then b :: insD a l else a :: b :: l
def sortD : List D → List D
  | [] => []
  | a :: l => insD a (sortD l)
theorem insD_mid (a : D) : ∀ (l1 l2 : List D), (∀ b ∈ l1, PySem.W.dataLt b a = true) → (∀ b ∈ l2, PySem.W.dataLt b a = false) → insD a (l1 ++ l2) = l1 ++ a :: l2
  | [], [], _, _ => rfl
  | [], c :: l, _, h2 => by simp [insD, h2 c (.head _)]
  | b :: l1, l2, h1, h2 => by
    simp only [List.cons_append, insD, h1 b (.head _), if_true]
    rw [insD_mid a l1 l2 (fun c hc => h1 c (.tail _ hc)) h2]
theorem leD_trans (a b c : D) (h1 : (!PySem.W.dataLt b a) = true) (h2 : (!PySem.W.dataLt c b) = true) : (!PySem.W.dataLt c a) = true := by
  simp only [Bool.not_eq_true'] at h1 h2 ⊢
  cases e : PySem.W.dataLt c a with
  | false => rfl
  | true =>
    rcases lex_negTrans (O := itemOrd) _ (PySem.W.keyToks b) _ e with h | h
    · have h2 : PyProof.Rows.lexLt itemOrd (PySem.W.keyToks c) (PySem.W.keyToks b) = false := h2
      rw [h2] at h; cases h
    · have h1 : PyProof.Rows.lexLt itemOrd (PySem.W.keyToks b) (PySem.W.keyToks a) = false := h1
      rw [h1] at h; cases h
theorem leD_total (a b : D) : ((!PySem.W.dataLt b a) || (!PySem.W.dataLt a b)) = true := by
  cases e : PySem.W.dataLt b a with
  | false => rfl
  | true =>
    have : PySem.W.dataLt a b = false := by
      cases e2 : PySem.W.dataLt a b with
      | false => rfl
      | true =>
        have := lex_trans (O := itemOrd) _ _ _ e e2
        rw [lex_irrefl] at this
        cases this
    simp [this]
theorem sortD_merge : ∀ ds : List D, sortD ds = ds.mergeSort fun a b => !PySem.W.dataLt b a
  | [] => by simp [sortD]
  | a :: l => by
    obtain ⟨l1, l2, e1, e2, h1⟩ := List.mergeSort_cons (le := fun a b => !PySem.W.dataLt b a) leD_trans leD_total a l
    have pw := List.pairwise_mergeSort (le := fun a b => !PySem.W.dataLt b a) leD_trans leD_total (a :: l)
    rw [e1] at pw ⊢
    show insD a (sortD l) = _
    rw [sortD_merge l, e2]
    refine insD_mid a l1 l2 (fun b hb => by simpa using h1 b hb) fun b hb => ?_
    have := (List.pairwise_append.mp pw).2.1
    simpa using (List.pairwise_cons.mp this).1 b hb
theorem sortD_eq {xs ys : List D} (hp : ys.Perm xs) (hs : ys.Pairwise fun a b => PySem.W.dataLt b a = false) (hi : ∀ a ∈ xs, ∀ b ∈ xs, PySem.W.keyToks a = PySem.W.keyToks b → a = b) : sortD xs = ys := by
  rw [sortD_merge]
  refine List.Perm.eq_of_pairwise (le := fun a b => (!PySem.W.dataLt b a) = true) (fun a b ha hb h1 h2 => ?_) ?_ ?_ ((List.mergeSort_perm _ _).trans hp.symm)
  · simp only [Bool.not_eq_true'] at h1 h2
    have ha : a ∈ xs := (List.mergeSort_perm _ _).mem_iff.mp ha
    exact hi a ha b (hp.mem_iff.mp hb) (lex_total (O := itemOrd) _ _ h2 h1)
  · refine List.pairwise_mergeSort (fun a b c h1 h2 => ?_) (fun a b => ?_) xs
    · simp only [Bool.not_eq_true'] at h1 h2 ⊢
      cases e : PySem.W.dataLt c a with
      | false => rfl
      | true =>
        rcases lex_negTrans (O := itemOrd) _ (PySem.W.keyToks b) _ e with h | h
        · have h2 : PyProof.Rows.lexLt itemOrd (PySem.W.keyToks c) (PySem.W.keyToks b) = false := h2
          rw [h2] at h; cases h
        · have h1 : PyProof.Rows.lexLt itemOrd (PySem.W.keyToks b) (PySem.W.keyToks a) = false := h1
          rw [h1] at h; cases h
    · cases e : PySem.W.dataLt b a with
      | false => rfl
      | true =>
        have : PySem.W.dataLt a b = false := by
          cases e2 : PySem.W.dataLt a b with
          | false => rfl
          | true =>
            have := lex_trans (O := itemOrd) _ _ _ e e2
            rw [lex_irrefl] at this
            cases this
        simp [this]
  · exact hs.imp fun h => by simp [h]
theorem sortD_sorted (xs : List D) : (sortD xs).Pairwise fun a b => PySem.W.dataLt b a = false := by
  rw [sortD_merge]
  exact (List.pairwise_mergeSort (le := fun a b => !PySem.W.dataLt b a) leD_trans leD_total xs).imp fun h => by simpa using h
theorem sortD_perm (xs : List D) : (sortD xs).Perm xs := by rw [sortD_merge]; exact List.mergeSort_perm _ _
theorem sortD_of_perm {xs ys : List D} (hp : xs.Perm ys) (hi : ∀ a ∈ xs, ∀ b ∈ xs, PySem.W.keyToks a = PySem.W.keyToks b → a = b) : sortD xs = sortD ys :=
  sortD_eq ((sortD_perm ys).trans hp.symm) (sortD_sorted ys) hi
def strKeys : List (D × D) → Option (List Str)
  | [] => some []
  | (.str x, _) :: r => (strKeys r).map (x :: ·)
  | _ => none
def dSortN : List (D × D) → R D
  | [(.none, .dict nds)] => if (ordOk (nds.map (·.1)) && nds.all fun kv => match kv.1 with | .tuple (_ :: _) => true | _ => false) && decide (nds.length < 10000) then .ok (.list (sortD (nds.map (·.1)))) else .bad
  | _ => .bad
def dSorted : List D → R D
  | [.list ds] => if sortOk ds then .ok (.list (sortD ds)) else .bad
  | [.dict kds] => (match strKeys kds with | some ks => if ks.length < 64 then .ok (.list (sortD (ks.map .str))) else .bad | none => dSortN kds)
  | _ => .bad
theorem sortable_of {ds : List D} (h : (((ds.all fun d => match d with | .tuple (_ :: _) => true | _ => false) || ds.all fun d => match d with | .none => false | .tuple _ => false | _ => true) || (match ds with | .tuple [] :: _ => (ds.all fun d => match d with | .tuple _ => true | _ => false) | _ => false)) = true) :
    PySem.W.Sortable ds ∨ (∀ d, d ∈ ds → ∃ xs, d = .tuple xs) ∧ ds.head? = some (.tuple []) := by
  rw [Bool.or_eq_true, Bool.or_eq_true] at h
  rcases h with (h | h) | h
  · refine .inl (.inl fun d hd => ?_)
    have := List.all_eq_true.mp h d hd
    split at this
    · exact ⟨_, _, rfl⟩
    · cases this
  · refine .inl (.inr fun d hd => ?_)
    have := List.all_eq_true.mp h d hd
    constructor
    · rintro rfl; cases this
    · rintro xs rfl; cases this
  · split at h
    · refine .inr ⟨fun d hd => ?_, rfl⟩
      have := List.all_eq_true.mp h d hd
      split at this
      · exact ⟨_, rfl⟩
      · cases this
    · cases h
theorem strKeys_rp {K : PySem.W.Frag} {H : Hp} : ∀ {kds : List (D × D)} {kvs : List (Key × V)} {ks : List Str}, RpK K H kvs kds → strKeys kds = some ks → kvs.map (·.1) = ks.map Sum.inr ∧ True
  | [], _, ks, r, h => by
    cases r
    cases h
    exact ⟨rfl, trivial⟩
  | (k, d) :: kds, _, ks, r, h => by
    cases r with
    | @cons k v kvs d _ h1 h2 =>
      cases k with
      | inl i => simp [keyD, strKeys] at h
      | inr x =>
        simp only [keyD, strKeys, Option.map_eq_some_iff] at h
        obtain ⟨ks', h3, rfl⟩ := h
        exact ⟨by simp [(strKeys_rp h2 h3).1], trivial⟩
theorem rp1_strs {K : PySem.W.Frag} {Hf H : Hp} {v : V} {kds : List (D × D)} {ks : List Str} (s : Fit Hf H) (h : Rp1 K Hf H v (.dict kds)) (hk : strKeys kds = some ks) : ∃ a kvs, v = .ref a ∧ Rd H a (.dK kvs) ∧ kvs.length ≤ sizeLine ∧ RpK K Hf kvs kds := by
  rcases h with h | ⟨a, rfl, ⟨kvs, h1, h2, h3, h4⟩ | ⟨nds, xs, q, _⟩⟩
  rotate_right
  · subst q
    simp [strKeys] at hk
  · generalize hd : PyData.dict kds = d at h
    cases h with
    | dic h1 h2 h3 =>
      cases hd
      exact ⟨_, _, rfl, .inr ⟨_, s.lk _ _ h1 rfl⟩, h2, h3⟩
    | scr h1 h2 =>
      simp only [scr, PyData.dict.injEq] at hd
      subst hd
      simp [strKeys] at hk
    | dit h1 h2 h3 =>
      simp only [tdD, PyData.dict.injEq] at hd
      subst hd
      simp [strKeys] at hk
    | kno h1 h2 h3 h4 h5 =>
      simp only [knD, PyData.dict.injEq] at hd
      subst hd
      simp [strKeys] at hk
    | _ => cases hd
  · exact ⟨a, kvs, rfl, .inl h2, h3, h4⟩
theorem rpL_strs {K : PySem.W.Frag} {H : Hp} : ∀ ys : List Str, RpL K H (ys.map V.str) (ys.map PyData.str)
  | [] => .nil
  | y :: ys => .cons (.str y) (rpL_strs ys)
theorem risingS_pw : ∀ (x : Str) (r : List Str), PyProof.Rows.risingS x r = true → ((x :: r).map PyData.str).Pairwise fun a b => PySem.W.dataLt b a = false
  | x, [], _ => by simp
  | x, y :: r, h => by
    have h' : (!ltCps y.cps.toList x.cps.toList && PyProof.Rows.risingS y r) = true := h
    rw [Bool.and_eq_true, Bool.not_eq_true'] at h'
    have ih := risingS_pw y r h'.2
    have e : PySem.W.dataLt (.str y) (.str x) = false := by rw [PySem.W.dataLt_str, ← ltCps_eq]; exact h'.1
    refine List.pairwise_cons.mpr ⟨fun d hd => ?_, ih⟩
    rcases List.mem_cons.mp hd with rfl | hd
    · exact e
    · have e2 := (List.pairwise_cons.mp ih).1 d hd
      cases e3 : PySem.W.dataLt d (.str x) with
      | false => rfl
      | true =>
        rcases lex_negTrans (O := itemOrd) _ (PySem.W.keyToks (.str y)) _ e3 with h | h
        · have e2 : PyProof.Rows.lexLt itemOrd (PySem.W.keyToks d) (PySem.W.keyToks (.str y)) = false := e2
          rw [e2] at h; cases h
        · have e : PyProof.Rows.lexLt itemOrd (PySem.W.keyToks (.str y)) (PySem.W.keyToks (.str x)) = false := e
          rw [e] at h; cases h
theorem sortedS_pw : ∀ (ys : List Str), PyProof.Rows.sortedS ys = true → (ys.map PyData.str).Pairwise fun a b => PySem.W.dataLt b a = false
  | [], _ => by simp
  | x :: r, h => risingS_pw x r h
theorem each_of {K : PySem.W.Frag} {Hf : Hp} : ∀ {xs : List V} {its : List Value} {ds : List D}, RpL K Hf xs ds → Vals xs its → PySem.W.EachIs (fun v d => ∃ x, RelV x v ∧ Rp K Hf x d) its ds
  | _, _, _, .nil, .nil => .nil
  | _, _, _, .cons h r, .cons q t => .cons ⟨_, q, h⟩ (each_of r t)
theorem each_back {K : PySem.W.Frag} {Hf : Hp} : ∀ {its : List Value} {ds : List D}, PySem.W.EachIs (fun v d => ∃ x, RelV x v ∧ Rp K Hf x d) its ds → ∃ xs, Vals xs its ∧ RpL K Hf xs ds
  | _, _, .nil => ⟨[], .nil, .nil⟩
  | _, _, .cons ⟨x, h1, h2⟩ r => by
    obtain ⟨xs, h3, h4⟩ := each_back r
    exact ⟨x :: xs, .cons h1 h3, .cons h2 h4⟩
theorem depth_mem : ∀ {ds : List D} {d : D}, d ∈ ds → d.depth ≤ PyData.depthAll ds
  | _ :: _, _, .head _ => by simp only [PyData.depthAll]; omega
  | _ :: _, _, .tail _ m => by have := depth_mem m; simp only [PyData.depthAll]; omega
mutual
theorem keyN_noAddr {h : Heap} : ∀ (d : D) (v : Value) (as : List Addr), Reads h v d as → keyN d = true → as = []
  | .none, _, _, r, _ => by cases r; rfl
  | .int _, _, _, r, _ => by cases r; rfl
  | .str _, _, _, r, _ => by cases r; rfl
  | .tuple ds, _, _, r, k => by
    cases r with
    | tuple g1 g2 g3 g4 =>
      simp only [keyN] at k
      exact keysN_noAddr ds _ _ g4 k
  | .bool _, _, _, _, k => by simp [keyN] at k
  | .list _, _, _, _, k => by simp [keyN] at k
  | .dict _, _, _, _, k => by simp [keyN] at k
theorem keysN_noAddr {h : Heap} : ∀ (ds : List D) (vs : List Value) (as : List Addr), ReadsAll h vs ds as → keysN ds = true → as = []
  | [], _, _, r, _ => by cases r; rfl
  | d :: ds, _, _, r, k => by
    cases r with
    | cons r1 r2 =>
      simp only [keysN, Bool.and_eq_true] at k
      rw [keyN_noAddr d _ _ r1 k.1, keysN_noAddr ds _ _ r2 k.2]
      rfl
end
theorem each_nd {R : Value → D → Prop} {K : PySem.W.Frag} {Hf : Hp} : ∀ {xs : List NE} {nds : List (D × D)}, RpN K Hf xs nds → (∀ b kd, Rp K Hf (.ref b) kd → keyT kd = true → R (.ref b) kd) → PySem.W.EachIs R (xs.map fun y => Value.ref y.2.1) (nds.map (·.1))
  | _, _, .nil, _ => .nil
  | _, _, .cons hb kt _ _ r, h => .cons (h _ _ hb kt) (each_nd r h)
theorem sort_nd {pins : List (Addr × Obj)} {s : Shared} {σ : L2.St} {H Hf : Hp} {a : Addr} {xs : List NE} {nds : List (D × D)} {Q : VK} (hK : C.K = X.K) (hc : X.calm = true) (hu : X.A.units + 65 < cLine) (I : Inv X pins σ H s) (sf : Fit Hf H) (ha : Rd H a (NDO Lots.w a xs)) (r : RpN C.K Hf xs nds)
    (ho : ordOk (nds.map (·.1)) = true) (ht : (nds.all fun kv => match kv.1 with | .tuple (_ :: _) => true | _ => false) = true) (hl : nds.length < 10000) (q : ∀ (p : Addr) (ys : List V), H p = none → ys.length ≤ sizeLine → RpL C.K Hf ys (sortD (nds.map (·.1))) → Q (.ref p) (upd H p (.lst ys))) :
    wpAny (model X.prog X.w) X.A (call (.builtin "sorted") [.ref a]) (EP X pins σ Q) X.xe s := by
  obtain ⟨o1, o2, o3⟩ := ordOk_of ho
  have x := ndo_back (rd_of I.hok ha)
  obtain ⟨o, es, ep, h1, h2, h3, h4⟩ := x.ex
  have hxl := r.length
  have hsz : es.size = xs.length := by rw [← Array.length_toList, h4, List.length_map]
  refine Calls.call_function_entry kind_sorted plain_sorted entry_sorted (args_sorted1 _) ?_
  unfold Builtin.«sorted»
  refine wpAny_bind (m := checkCount "sorted" 1 1 _) (wpAny_pure ?_)
  refine wpAny_bind (PySem.W.kdu_collect (A := X.A.in1) (KdlSrc.rawDict (es := es) (ep := ep) x.sm) (I.ok.hd hc) ⟨o, h1, h2, h3⟩ (by rw [hsz, sizeLine_eq]; omega) fun h' tk acc hk hacc => ?_)
  have evs : acc.toList = xs.map fun y => Value.ref y.2.1 := by
    refine List.ext_getElem? fun i => ?_
    by_cases hi : i < xs.length
    · have hi2 : i < acc.size := by rw [hacc.1, hsz]; exact hi
      have e1 : acc.toList[i]? = some (acc[i]'hi2) := by rw [Array.getElem?_toList, Array.getElem?_eq_getElem hi2]
      obtain ⟨hie, ev⟩ := hacc.2 i (acc[i]'hi2) (by rw [Array.getElem?_eq_getElem hi2])
      have e2 : es[i]? = some (entN Lots.w (xs[i]'hi)) := by rw [← Array.getElem?_toList, h4, List.getElem?_map, List.getElem?_eq_getElem hi]; rfl
      rw [Array.getElem?_eq_getElem hie] at e2
      injection e2 with e2
      rw [e1, ev, e2, List.getElem?_map, List.getElem?_eq_getElem hi]
      rfl
    · rw [List.getElem?_eq_none (by rw [Array.length_toList, hacc.1, hsz]; omega), List.getElem?_eq_none (by rw [List.length_map]; omega)]
  rw [evs]
  generalize hvs : (xs.map fun y => Value.ref y.2.1) = vs
  have hvl : vs.length = nds.length := by rw [← hvs, List.length_map, hxl]
  refine wpAny_bind (wpAny_newList ?_ (by rw [sizeLine_eq]; omega))
  have hoL : (h'.push (seqObj "list" vs.toArray 0)).get? h'.objs.size = some (seqObj "list" vs.toArray 0) := Heap.get?_push_size _ rfl
  have keep : ∀ b u, s.heap.get? b = some u → (h'.push (seqObj "list" vs.toArray 0)).get? b = some u := fun b u e => Heap.get?_push_of_some _ (hk b u e)
  have hz : s.heap.get? h'.objs.size = none := by
    cases z : s.heap.get? h'.objs.size with
    | none => rfl
    | some u => exact absurd (Heap.lt_size (hk _ _ z)) (Nat.lt_irrefl _)
  refine wpAny_bind (wpAny_holding (PySem.W.list_sort_data (s := { s with heap := h'.push (seqObj "list" vs.toArray 0), toks := tk }) (bs := nds.map (·.1)) (enc := id) (R := fun v d => ∃ x, RelV x v ∧ Rp C.K Hf x d) hoL
    (by rw [← hvs]; exact each_nd r fun b kd hb kt => ⟨.ref b, rfl, hb⟩)
    (by
      rw [← hvs]
      refine each_nd r fun b kd hb kt => ?_
      obtain ⟨k1, k2, _⟩ := keyT_n kt
      obtain ⟨as, rd⟩ := Dp.reads I kd (.ref b) (.ref b) (by rw [← hK]; exact hb.dp sf.lk (keyN_noDict kd k1)) rfl
      have e0 := keyN_noAddr _ _ _ rd k1
      subst e0
      exact ⟨[], by simp only [id]; rw [hvs]; exact PyProof.Rows.Reads.keeps keep rd, by simp⟩)
    (by rw [List.map_id]; exact fun d hd e he => o1.1 d hd e he)
    (by
      rw [List.map_id]
      refine .inl fun d hd => ?_
      obtain ⟨kv, hkv, rfl⟩ := List.mem_map.mp hd
      have y := List.all_eq_true.mp ht kv hkv
      split at y
      · rename_i e; exact ⟨_, _, e⟩
      · cases y)
    (by rw [List.length_map, sizeLine_eq]; omega)
    (fun b hb => by
      have := depth_mem hb
      simp only [id, Around.in1_units]
      omega) fun out l1 l2 => ?_))
  obtain ⟨c, hcx⟩ := sortedHeap_at (vs := vs) (out := out.toArray) hoL
  obtain ⟨ys, rv2, ry⟩ := each_back l2
  have hyl : ys.length ≤ sizeLine := by rw [rv2.length, l1, List.length_map, sizeLine_eq]; omega
  have kp : ∀ b u, s.heap.get? b = some u → (sortedHeap (h'.push (seqObj "list" vs.toArray 0)) h'.objs.size vs out.toArray).get? b = some u := fun b u e => by
    have y := hk b u e
    have lt := Heap.lt_size y
    rw [sortedHeap_old (Nat.ne_of_lt lt) (by rw [size_push']; exact Nat.lt_succ_of_lt lt)]
    exact Heap.get?_push_of_some _ y
  have np : H h'.objs.size = none := by
    cases z : H h'.objs.size with
    | none => rfl
    | some u =>
      obtain ⟨ob, e⟩ := objOk_get (I.hok _ u z)
      rw [hz] at e
      cases e
  refine wpAny_pure ⟨_, rfl, ?_⟩
  have hg : (sortedHeap (h'.push (seqObj "list" vs.toArray 0)) h'.objs.size vs out.toArray).get? h'.objs.size = some (seqObj "list" out.toArray c) := hcx
  exact ⟨.ref h'.objs.size, upd H h'.objs.size (.lst ys), I.laidN (t' := tk) kp hz np ⟨hyl, out, c, rv2, hg⟩, rfl, q _ ys np hyl (by rw [sortD_merge]; exact ry)⟩
theorem c_sorted (hK : C.K = X.K) (hc : X.calm = true) (hu : X.A.units + 65 < cLine) : CallR X (.builtin "sorted") (rDNF C dSorted) := by
  intro pins s σ H xs us Q I r ⟨Hf, ds, sf, hx, h⟩
  unfold dSorted at h
  split at h
  · rename_i ds
    split at h
    · rename_i ho
      simp only [sortOk, Bool.and_eq_true] at ho
      obtain ⟨o1, o2, o3⟩ := ordOk_of ho.1
      obtain ⟨v, rfl, hv⟩ := hx.one
      obtain ⟨a, xs, rfl, ha, za, ra⟩ := hv.list_ sf
      rw [Vals.ref1 r]
      obtain ⟨its, rv, hl, _⟩ := I.list (SqL.of ha)
      obtain ⟨as, hr⟩ := Dp.readsAll I ds xs its (by rw [← hK]; exact ra.dp sf.lk (noDictL_of o2)) rv
      have er : PySem.W.EachIs (fun v d => ∃ as, Reads s.heap v (id d) as) its ds := PySem.W.readsAll_each id (by simpa using hr)
      have hlen := ra.length
      have fin : ∀ out : List Value, out.length = ds.length → PySem.W.EachIs (fun v d => ∃ x, RelV x v ∧ Rp C.K Hf x d) out (sortD ds) → EP X pins σ Q (.ref (s.heap.objs.size + 1)) { s with heap := sortedAll s.heap its (List.toArray out) } := fun out h1 h2 => by
        obtain ⟨ys, rv2, ry⟩ := each_back h2
        obtain ⟨ep, he'⟩ := PyProof.Rows.sortedAll_at s.heap its out.toArray
        have hl2 : ys.length ≤ sizeLine := by rw [rv2.length, h1]; omega
        have np : H (s.heap.objs.size + 1) = none := I.hok.fresh (Nat.le_succ _)
        refine ⟨.ref _, upd H (s.heap.objs.size + 1) (.lst ys), I.laid (t' := s.toks) (fun _ _ => PyProof.Rows.sortedAll_old) (Nat.le_succ _) ⟨hl2, out, ep, rv2, by simpa using he'⟩, rfl, ?_⟩
        exact h _ Hf _ (Grow.side sf np) ⟨_, rfl, np, ownL sf np hl2 ry⟩
      rcases sortable_of ho.2 with hS | ⟨hT, hZ⟩
      · exact PySem.W.sorted_data (vs := its) (bs := ds) (enc := id) hl.isList (each_of ra rv) er (by rw [List.map_id]; exact fun d hd e he => o1.1 d hd e he) (by simpa using hS) (by omega) (fun b hb => by
        have := depth_mem hb
        show X.A.units + 2 + (id b).depth < cLine
        simp only [id]
        omega) fun out h1 h2 => fin out h1 (by rw [sortD_merge]; exact h2)
      · exact NS.sorted_tup0 (vs := its) (ds := ds) hl.isList (each_of ra rv) er (fun d hd e he => o1.1 d hd e he) hT hZ (by omega) (fun b hb => by
        have := depth_mem hb
        show X.A.units + 2 + (id b).depth < cLine
        simp only [id]
        omega) fun out h1 h2 => fin out h1 (by rw [sortD_merge]; exact h2)
    · exact h.elim
  · rename_i kds
    split at h
    · rename_i ks hks
      split at h
      · rename_i h64
        obtain ⟨v, rfl, hv⟩ := hx.one
        obtain ⟨a, kvs, rfl, hd, zk, rk⟩ := rp1_strs sf hv hks
        obtain ⟨k1, k2⟩ := strKeys_rp rk hks
        refine call_sortedD hc pins s σ H _ us Q I r ⟨a, kvs, ks, rfl, hd, k1, h64, fun ys p hp hs np => ?_⟩
        have e : sortD (ks.map .str) = ys.map .str := sortD_eq (hp.map _) (sortedS_pw ys hs) fun a ha b hb e => by
          obtain ⟨x, _, rfl⟩ := List.mem_map.mp ha
          obtain ⟨y, _, rfl⟩ := List.mem_map.mp hb
          have e : [Sum.inr x.cps.toList] = ([Sum.inr y.cps.toList] : List (Int ⊕ List Nat)) := by simpa [PySem.W.keyToks] using e
          simp only [List.cons.injEq, Sum.inr.injEq, and_true] at e
          obtain ⟨⟨x⟩⟩ := x
          obtain ⟨⟨y⟩⟩ := y
          simp at e
          rw [e]
        rw [e] at h
        exact h _ Hf _ (Grow.side sf np) ⟨p, rfl, np, ownL sf np (by rw [List.length_map, hp.length_eq, sizeLine_eq]; omega) (rpL_strs ys)⟩
      · exact h.elim
    · unfold dSortN at h
      split at h
      · split at h
        · rename_i ho
          simp only [Bool.and_eq_true, decide_eq_true_eq] at ho
          obtain ⟨v, rfl, hv⟩ := hx.one
          obtain ⟨a, xs, rfl, rd, _, ra⟩ := hv.nd_ sf
          rw [Vals.ref1 r]
          exact sort_nd hK hc hu I sf rd ra ho.1.1 ho.1.2 ho.2 fun p ys np hyl ry => h _ Hf _ (Grow.side sf np) ⟨_, rfl, np, ownL sf np hyl ry⟩
        · exact h.elim
      · exact h.elim
  · exact h.elim
end
end DL
namespace DL
open PySem PySem.Spec PyProof.Rows L2 NS
mutual
def keyB : D → Bool
  | .none => true
  | .int _ => true
  | .str _ => true
  | .tuple ds => keysB ds
  | _ => false
def keysB : List D → Bool
  | [] => true
  | d :: ds => keyB d && keysB ds
end
mutual
theorem key_reads {h : Heap} : ∀ (d : D) (v : Value) (as : List Addr), Reads h v d as → keyB d = true → NestedIs h (keyOf d) v
  | .none, _, _, r, _ => by cases r; exact .none
  | .int i, _, _, r, _ => by cases r; exact .int _ _
  | .tuple ds, _, _, r, k => by
    cases r with
    | tuple g1 g2 g3 g4 =>
      simp only [keyB] at k
      simp only [keyOf]
      exact .tup g1 g2 g3 (keys_reads ds _ _ g4 k)
  | .bool _, _, _, _, k => by simp [keyB] at k
  | .str x, v, as, r, _ => by cases r; exact .text _ _
  | .list _, _, _, _, k => by simp [keyB] at k
  | .dict _, _, _, _, k => by simp [keyB] at k
theorem keys_reads {h : Heap} : ∀ (ds : List D) (vs : List Value) (as : List Addr), ReadsAll h vs ds as → keysB ds = true → NestedAll h (keysOf ds) vs
  | [], _, _, r, _ => by cases r; exact .nil
  | d :: ds, _, _, r, k => by
    cases r with
    | cons r1 r2 =>
      simp only [keysB, Bool.and_eq_true] at k
      simp only [keysOf]
      exact .cons (key_reads d _ _ r1 k.1) (keys_reads ds _ _ r2 k.2)
end
mutual
theorem key_inj : ∀ (d e : D), keyB d = true → keyB e = true → keyOf d = keyOf e → d = e
  | .none, e, _, k, h => by cases e <;> simp [keyB, keyOf] at k h ⊢
  | .int i, e, _, k, h => by cases e <;> simp [keyB, keyOf] at k h ⊢; exact h
  | .tuple ds, e, k1, k, h => by
    cases e with
    | tuple es =>
      simp only [keyB] at k1 k
      simp only [keyOf, NestedKey.tup.injEq] at h
      rw [keys_inj ds es k1 k h]
    | _ => simp [keyB, keyOf] at k h
  | .bool _, _, k, _, _ => by simp [keyB] at k
  | .str i, e, _, k, h => by cases e <;> simp [keyB, keyOf] at k h ⊢; exact h
  | .list _, _, k, _, _ => by simp [keyB] at k
  | .dict _, _, k, _, _ => by simp [keyB] at k
theorem keys_inj : ∀ (ds es : List D), keysB ds = true → keysB es = true → keysOf ds = keysOf es → ds = es
  | [], [], _, _, _ => rfl
  | [], _ :: _, _, _, h => by simp [keysOf] at h
  | _ :: _, [], _, _, h => by simp [keysOf] at h
  | d :: ds, e :: es, k1, k2, h => by
    simp only [keysB, Bool.and_eq_true] at k1 k2
    simp only [keysOf, List.cons.injEq] at h
    rw [key_inj d e k1.1 k2.1 h.1, keys_inj ds es k1.2 k2.2 h.2]
end
mutual
theorem key_depth : ∀ d : D, (keyOf d).depth ≤ d.depth
  | .none => Nat.le_refl _
  | .int _ => Nat.le_refl _
  | .bool _ => Nat.le_refl _
  | .str _ => Nat.le_refl _
  | .list _ => by simp [keyOf, NestedKey.depth]
  | .dict _ => by simp [keyOf, NestedKey.depth]
  | .tuple ds => by
    have := keys_depth ds
    simp only [keyOf, NestedKey.depth, PyData.depth]
    omega
theorem keys_depth : ∀ ds : List D, NestedKey.depthAll (keysOf ds) ≤ PyData.depthAll ds
  | [] => Nat.le_refl _
  | d :: ds => by
    have h1 := key_depth d
    have h2 := keys_depth ds
    simp only [keysOf, NestedKey.depthAll, PyData.depthAll]
    omega
end
def memB (d : D) : Bool := keyB d && decide (d.depth ≤ 8) && match d with | .tuple (_ :: _) => true | _ => false
theorem key_at {h : Heap} {d : D} {b : Addr} {as : List Addr} (r : Reads h (.ref b) d as) (k : memB d = true) : KeyAt h (keyOf d) b := by
  simp only [memB, Bool.and_eq_true, decide_eq_true_eq] at k
  exact ⟨key_reads d _ _ r k.1.1, Nat.le_trans (key_depth d) k.1.2⟩
def nubD : List D → List D
  | [] => []
  | d :: ds => if ds.any (fun e => decide (keyOf e = keyOf d)) then nubD ds else d :: nubD ds
def strsOf : List D → Option (List Str)
  | [] => some []
  | .str x :: r => (strsOf r).map (x :: ·)
  | _ => none
def nubS : List Str → List Str
  | [] => []
  | x :: xs => if x ∈ xs then nubS xs else x :: nubS xs
def dSortSet : List D → R D
  | [.list ds] => if decide ((nubD ds).length < 64) && (ds.all memB && ordOk ds) then .ok (.list (sortD (nubD ds))) else (match strsOf ds with | some xs => if xs.length < 4000 then .ok (.list (sortD ((nubS xs).map .str))) else .bad | none => .bad)
  | _ => .bad
theorem nub_sub : ∀ {ds : List D} {d : D}, d ∈ nubD ds → d ∈ ds
  | [], _, h => h
  | e :: ds, d, h => by
    unfold nubD at h
    split at h
    · exact .tail _ (nub_sub h)
    · rcases List.mem_cons.mp h with rfl | h
      · exact .head _
      · exact .tail _ (nub_sub h)
theorem nub_all : ∀ {ds : List D} {d : D}, d ∈ ds → keyOf d ∈ (nubD ds).map keyOf
  | e :: ds, d, h => by
    unfold nubD
    split
    · rename_i c
      rcases List.mem_cons.mp h with rfl | h
      · simp only [List.any_eq_true, decide_eq_true_eq] at c
        obtain ⟨x, hx, e⟩ := c
        rw [← e]
        exact nub_all hx
      · exact nub_all h
    · rcases List.mem_cons.mp h with rfl | h
      · exact .head _
      · exact .tail _ (nub_all h)
theorem nub_nodup : ∀ ds : List D, ((nubD ds).map keyOf).Nodup
  | [] => List.nodup_nil
  | d :: ds => by
    unfold nubD
    split
    · exact nub_nodup ds
    · rename_i c
      refine List.nodup_cons.mpr ⟨fun h => c ?_, nub_nodup ds⟩
      obtain ⟨e, he, q⟩ := List.mem_map.mp h
      simp only [List.any_eq_true, decide_eq_true_eq]
      exact ⟨e, nub_sub he, q⟩
end DL
namespace DL
open PySem PySem.Spec PyProof.Rows L2 NS
variable [Lots]
mutual
theorem eqv_key : ∀ (x y : D), keyB x = true → keyB y = true → PyData.eqv x y = true → x = y
  | .none, y, _, k, h => by cases y <;> simp [keyB, PyData.eqv] at k h ⊢
  | .int i, y, _, k, h => by cases y <;> simp [keyB, PyData.eqv] at k h ⊢; exact h
  | .tuple xs, y, k1, k, h => by
    cases y with
    | tuple ys =>
      simp only [keyB] at k1 k
      simp only [PyData.eqv] at h
      rw [eqvAll_key xs ys k1 k h]
    | _ => simp [keyB, PyData.eqv] at k h
  | .bool _, _, k, _, _ => by simp [keyB] at k
  | .str x, y, _, k, h => by cases y <;> simp [keyB, PyData.eqv] at k h ⊢; exact h
  | .list _, _, k, _, _ => by simp [keyB] at k
  | .dict _, _, k, _, _ => by simp [keyB] at k
theorem eqvAll_key : ∀ (xs ys : List D), keysB xs = true → keysB ys = true → PyData.eqvAll xs ys = true → xs = ys
  | [], [], _, _, _ => rfl
  | [], _ :: _, _, _, h => by simp [PyData.eqvAll] at h
  | _ :: _, [], _, _, h => by simp [PyData.eqvAll] at h
  | x :: xs, y :: ys, k1, k2, h => by
    simp only [keysB, Bool.and_eq_true] at k1 k2
    simp only [PyData.eqvAll, Bool.and_eq_true] at h
    rw [eqv_key x y k1.1 k2.1 h.1, eqvAll_key xs ys k1.2 k2.2 h.2]
end
theorem toks_key {x y : D} (ha : PySem.W.alike x y = true) (k1 : keyB x = true) (k2 : keyB y = true) (h : PySem.W.keyToks x = PySem.W.keyToks y) : x = y := by
  cases e : PyData.eqv x y with
  | true => exact eqv_key x y k1 k2 e
  | false =>
    have q := (PySem.W.toks_eqv x y ha).2 e [.inl 0] [.inl 1]
    rw [h, PySem.W.lex_pre, lex_irrefl] at q
    exact absurd q (by decide)
structure Set0 (w : World) (h : Heap) (a : Addr) (L : List KA) : Prop where
  ex : ∃ (es : Array (Int × Value)) (ep : Nat) (t : SetTable), (∃ o, h.get? a = some o ∧ o.ExactSet ∧ o.data = .set es ep t) ∧ es.toList = rowsN w L ∧ TabOk t (hsN w L) ∧ (L.map (·.2)).Nodup ∧ (w.params.followText "set-order" = true ∨ t.led = true) ∧ L.length * 5 < t.mask * 3 ∧ L.length < 64
def NO (w : World) (a : Addr) (L : List KA) : HO := .ext fun h => Set0 w h a L
theorem set0_of {w : World} {h : Heap} {a : Addr} {L : List KA} {es : Array (Int × Value)} {ep : Nat} {t : SetTable} (R : SetN w h a L es ep t) : Set0 w h a L := ⟨es, ep, t, R.at_, R.rows, R.tab, R.nd, R.led, R.room, R.few⟩
theorem Set0.back {w : World} {h : Heap} {a : Addr} {L : List KA} (R : Set0 w h a L) (hk : ∀ q ∈ L, KeyAt h q.2 q.1) : ∃ es ep t, SetN w h a L es ep t := by
  obtain ⟨es, ep, t, h1, h2, h3, h4, h5, h6, h7⟩ := R.ex
  exact ⟨es, ep, t, h1, h2, h3, h4, hk, h5, h6, h7⟩
theorem no_new {P : Program} {w : World} {H : Hp} {h : Heap} {a : Addr} {L : List KA} (R : Set0 w h a L) : ObjOk P w H h a (NO w a L) := by
  have ⟨es, ep, t, ⟨o, ho, r⟩, q⟩ := R.ex
  refine ⟨R, ⟨o, ho⟩, fun h1 h2 p k => ?_⟩
  have ⟨es2, ep2, t2, ⟨o2, ho2, r2⟩, q2⟩ := Set0.ex p
  exact ⟨es2, ep2, t2, ⟨o2, k o2 ho2, r2⟩, q2⟩
section
variable {X : Cx} {C : Pm}
def rSetN (C : Pm) (w : World) : List V → Hp → VK → Prop := fun vs H Q => ∃ (Hf : Hp) (l : Addr) (xs : List V) (ds : List D), Fit Hf H ∧ vs = [V.ref l] ∧ H l = some (.lst xs) ∧ RpL C.K Hf xs ds ∧ ds.all memB = true ∧ PyData.canLayAll0 ds = true ∧ (nubD ds).length < 64 ∧
  ∀ a (L : List KA), H a = none → (∀ q ∈ L, ∃ d ∈ ds, q.2 = keyOf d ∧ Rp C.K Hf (.ref q.1) d) → (∀ d ∈ ds, keyOf d ∈ L.map (·.2)) → Q (.ref a) (upd H a (NO w a L))
theorem refs_of {K : PySem.W.Frag} {Hf : Hp} : ∀ {xs : List V} {ds : List D}, RpL K Hf xs ds → ds.all memB = true → ∃ bs : List Addr, xs = bs.map V.ref ∧ bs.length = ds.length
  | _, _, .nil, _ => ⟨[], rfl, rfl⟩
  | _, _, .cons (v := v) (d := d) h r, k => by
    simp only [List.all_cons, Bool.and_eq_true] at k
    obtain ⟨bs, e1, e2⟩ := refs_of r k.2
    cases d with
    | tuple es =>
      cases h with
      | tup _ _ _ => exact ⟨_ :: bs, by rw [e1]; rfl, by simp [e2]⟩
    | _ => simp [memB] at k
end
end DL
namespace DL
open PySem PySem.Spec PyProof.Rows L2 NS
variable [Lots]
theorem vals_refs : ∀ {bs : List Addr} {us : List Value}, Vals (bs.map V.ref) us → us = bs.map Value.ref
  | [], _, .nil => rfl
  | _ :: bs, _, .cons r t => by
    cases r
    rw [vals_refs t]
    rfl
theorem keys_at {h : Heap} : ∀ {bs : List Addr} {ds : List D} {as : List Addr}, ReadsAll h (bs.map Value.ref) ds as → ds.all memB = true → ∀ q ∈ bs.zip (ds.map keyOf), KeyAt h q.2 q.1
  | [], _, _, _, _, q, hq => by simp at hq
  | b :: bs, _, _, .cons (d := d) (ds := ds) r t, k, q, hq => by
    simp only [List.all_cons, Bool.and_eq_true] at k
    simp only [List.map_cons, List.zip_cons_cons] at hq
    rcases List.mem_cons.mp hq with rfl | hq
    · exact key_at r k.1
    · exact keys_at t k.2 q hq
theorem rp_at {K : PySem.W.Frag} {Hf : Hp} : ∀ {bs : List Addr} {ds : List D}, RpL K Hf (bs.map V.ref) ds → ∀ q ∈ bs.zip (ds.map keyOf), ∃ d ∈ ds, q.2 = keyOf d ∧ Rp K Hf (.ref q.1) d
  | [], _, _, q, hq => by simp at hq
  | b :: bs, _, .cons (d := d) (ds := ds) r t, q, hq => by
    simp only [List.map_cons, List.zip_cons_cons] at hq
    rcases List.mem_cons.mp hq with rfl | hq
    · exact ⟨d, .head _, rfl, r⟩
    · obtain ⟨e, he, h⟩ := rp_at t q hq
      exact ⟨e, .tail _ he, h⟩
section
variable {X : Cx} {C : Pm}
theorem c_setN (hK : C.K = X.K) (hc : X.calm = true) (hu : X.A.units + 65 < cLine) : CallR X (.type "set") (rSetN C X.w) := by
  intro pins s σ H vs us Q I r ⟨Hf, l, xs, ds, sf, e, hl, rx, hm, hcan, few, q⟩
  subst e
  rw [Vals.ref1 r]
  obtain ⟨its, rv, pl, hz⟩ := I.list (SqL.of hl)
  obtain ⟨as, hr⟩ := Dp.readsAll I ds xs its (by rw [← hK]; exact rx.dp sf.lk (noDictL_of hcan)) rv
  obtain ⟨bs, rfl, lb⟩ := refs_of rx hm
  have ei := vals_refs rv
  subst ei
  have hn : H s.heap.objs.size = none := I.hok.fresh (Nat.le_refl _)
  have hz1 : (bs.zip (ds.map keyOf)).map Prod.fst = bs := List.map_fst_zip (by simp [lb])
  have hz2 : (bs.zip (ds.map keyOf)).map Prod.snd = ds.map keyOf := List.map_snd_zip (by simp [lb])
  have hz3 : (bs.zip (ds.map keyOf)).length = ds.length := by simp [lb]
  refine callSetN (P := X.prog) (w := X.w) (bs.zip (ds.map keyOf)) (I.ok.hd hc) pl.isList (by
    have : (bs.zip (ds.map keyOf)).map (fun q => Value.ref q.1) = ((bs.zip (ds.map keyOf)).map Prod.fst).map Value.ref := by rw [List.map_map]; rfl
    rw [this, hz1]) (keys_at hr hm) (fun l nd hl => by
      rw [hz2] at hl
      have := nd_len (m := (nubD ds).map keyOf) nd fun k hk => by
        obtain ⟨d, hd, e⟩ := List.mem_map.mp (hl k hk)
        rw [← e]
        exact nub_all hd
      rw [List.length_map] at this
      omega) (by omega) fun h2 tk ⟨L, es, ep, t, R, g, k⟩ => ?_
  refine ⟨.ref s.heap.objs.size, upd H s.heap.objs.size (NO X.w s.heap.objs.size L), I.laid (t' := tk) k (Nat.le_refl _) (no_new (set0_of R)), rfl, q _ L hn (fun p hp => rp_at rx p (List.mem_of_mem_take (g.sub p hp))) fun d hd => ?_⟩
  have : keyOf d ∈ (bs.zip (ds.map keyOf)).map Prod.snd := by rw [hz2]; exact List.mem_map_of_mem hd
  obtain ⟨p, hp, e⟩ := List.mem_map.mp this
  rw [← e]
  exact g.all p (by rw [List.take_length]; exact hp)
mutual
theorem key_data : ∀ d : D, keyB d = true → (keyOf d).data = d
  | .none, _ => rfl
  | .int _, _ => rfl
  | .tuple ds, k => by simp only [keyB] at k; simp only [keyOf, NestedKey.data, keys_data ds k]
  | .bool _, k => by simp [keyB] at k
  | .str _, _ => rfl
  | .list _, k => by simp [keyB] at k
  | .dict _, k => by simp [keyB] at k
theorem keys_data : ∀ ds : List D, keysB ds = true → NestedKey.datas (keysOf ds) = ds
  | [], _ => rfl
  | d :: ds, k => by
    simp only [keysB, Bool.and_eq_true] at k
    simp only [keysOf, NestedKey.datas, key_data d k.1, keys_data ds k.2]
end
mutual
theorem key_noAddr {h : Heap} : ∀ (d : D) (v : Value) (as : List Addr), Reads h v d as → keyB d = true → as = []
  | .none, _, _, r, _ => by cases r; rfl
  | .int _, _, _, r, _ => by cases r; rfl
  | .tuple ds, _, _, r, k => by
    cases r with
    | tuple g1 g2 g3 g4 =>
      simp only [keyB] at k
      exact keys_noAddr ds _ _ g4 k
  | .bool _, _, _, _, k => by simp [keyB] at k
  | .str _, _, _, r, _ => by cases r; rfl
  | .list _, _, _, _, k => by simp [keyB] at k
  | .dict _, _, _, _, k => by simp [keyB] at k
theorem keys_noAddr {h : Heap} : ∀ (ds : List D) (vs : List Value) (as : List Addr), ReadsAll h vs ds as → keysB ds = true → as = []
  | [], _, _, r, _ => by cases r; rfl
  | d :: ds, _, _, r, k => by
    cases r with
    | cons r1 r2 =>
      simp only [keysB, Bool.and_eq_true] at k
      rw [key_noAddr d _ _ r1 k.1, keys_noAddr ds _ _ r2 k.2]
      rfl
end
theorem each_mk {α β : Type} {R : α → β → Prop} {f : α → β} : ∀ {xs : List α}, (∀ x ∈ xs, R x (f x)) → PySem.W.EachIs R xs (xs.map f)
  | [], _ => .nil
  | x :: xs, h => .cons (h x (.head _)) (each_mk fun y hy => h y (.tail _ hy))
mutual
theorem key_noDict : ∀ d : D, keyB d = true → noDict d = true
  | .none, _ => rfl
  | .int _, _ => rfl
  | .tuple ds, k => by simp only [keyB] at k; exact keys_noDict ds k
  | .bool _, k => by simp [keyB] at k
  | .str _, _ => rfl
  | .list _, k => by simp [keyB] at k
  | .dict _, k => by simp [keyB] at k
theorem keys_noDict : ∀ ds : List D, keysB ds = true → noDictL ds = true
  | [], _ => rfl
  | d :: ds, k => by
    simp only [keysB, Bool.and_eq_true] at k
    simp only [noDictL, key_noDict d k.1, keys_noDict ds k.2, Bool.and_self]
end
theorem nub_perm {ds : List D} {L : List KA} (hm : ds.all memB = true) (nd : (L.map (·.2)).Nodup) (h1 : ∀ q ∈ L, ∃ d ∈ ds, q.2 = keyOf d) (h2 : ∀ d ∈ ds, keyOf d ∈ L.map (·.2)) : (L.map fun q => q.2.data).Perm (nubD ds) := by
  have hk : ∀ d ∈ ds, keyB d = true := fun d hd => by
    have := List.all_eq_true.mp hm d hd
    simp only [memB, Bool.and_eq_true] at this
    exact this.1.1
  have e1 : (L.map fun q => q.2.data) = (L.map (·.2)).map NestedKey.data := by rw [List.map_map]; rfl
  have e2 : nubD ds = ((nubD ds).map keyOf).map NestedKey.data := by
    rw [List.map_map]
    refine Eq.symm (Eq.trans (List.map_congr_left fun d hd => ?_) (List.map_id _))
    exact key_data d (hk d (nub_sub hd))
  rw [e1, e2]
  refine List.Perm.map _ ((List.perm_ext_iff_of_nodup nd (nub_nodup ds)).mpr fun k => ⟨fun h => ?_, fun h => ?_⟩)
  · obtain ⟨q, hq, rfl⟩ := List.mem_map.mp h
    obtain ⟨d, hd, e⟩ := h1 q hq
    rw [e]
    exact nub_all hd
  · obtain ⟨d, hd, rfl⟩ := List.mem_map.mp h
    exact h2 d (nub_sub hd)
def rSortN (C : Pm) (w : World) : List V → Hp → VK → Prop := fun vs H Q => ∃ (Hf : Hp) (a : Addr) (L : List KA) (ds : List D), Fit Hf H ∧ vs = [V.ref a] ∧ H a = some (NO w a L) ∧ (∀ q ∈ L, ∃ d ∈ ds, q.2 = keyOf d ∧ Rp C.K Hf (.ref q.1) d) ∧ (∀ d ∈ ds, keyOf d ∈ L.map (·.2)) ∧ ds.all memB = true ∧ ordOk ds = true ∧
  ∀ (p : Addr) (ys : List V), H p = none → ys.length ≤ sizeLine → RpL C.K Hf ys (sortD (nubD ds)) → Q (.ref p) (upd H p (.lst ys))
theorem c_sortN (hK : C.K = X.K) (hc : X.calm = true) (hu : X.A.units + 65 < cLine) : CallR X (.builtin "sorted") (rSortN C X.w) := by
  intro pins s σ H vs us Q I r ⟨Hf, a, L, ds, sf, e, ha, hq, hall, hm, ho, q⟩
  subst e
  rw [Vals.ref1 r]
  obtain ⟨o1, o2, o3⟩ := ordOk_of ho
  have hmem : ∀ d ∈ ds, memB d = true := fun d hd => List.all_eq_true.mp hm d hd
  have hkb : ∀ d ∈ ds, keyB d = true ∧ d.depth ≤ 8 := fun d hd => by
    have := hmem d hd
    simp only [memB, Bool.and_eq_true, decide_eq_true_eq] at this
    exact this.1
  have hrd : ∀ q ∈ L, ∃ as, Reads s.heap (.ref q.1) q.2.data as ∧ q.2.data ∈ ds ∧ q.2 = keyOf q.2.data ∧ Rp C.K Hf (.ref q.1) q.2.data := fun p hp => by
    obtain ⟨d, hd, e1, rp⟩ := hq p hp
    have ed : p.2.data = d := by rw [e1]; exact key_data d (hkb d hd).1
    obtain ⟨as, rd⟩ := Dp.reads I d (.ref p.1) (.ref p.1) (by rw [← hK]; exact rp.dp sf.lk (key_noDict d (hkb d hd).1)) rfl
    rw [ed]
    exact ⟨as, rd, hd, e1, rp⟩
  have hky : ∀ q ∈ L, KeyAt s.heap q.2 q.1 := fun p hp => by
    obtain ⟨as, rd, hd, e1, _⟩ := hrd p hp
    rw [e1]
    exact key_at rd (hmem _ hd)
  have R0 : Set0 X.w s.heap a L := (I.hok a _ ha).1
  obtain ⟨es, ep, t, R⟩ := R0.back hky
  obtain ⟨o, g1, g2, g3⟩ := R.at_
  have hfew := R.few
  have hsz := rowsN_len R.rows
  refine Calls.call_function_entry kind_sorted plain_sorted entry_sorted (args_sorted1 _) ?_
  unfold Builtin.«sorted»
  refine wpAny_bind (m := checkCount "sorted" 1 1 _) (wpAny_pure ?_)
  refine wpAny_bind (collect_set (A := X.A.in1) (I.ok.hd hc) ⟨o, g1, g2.1, g3⟩ (SetN.fits R) (by unfold scanBound; omega) R.tab.ris R.led fun s1 vs k1 z1 gn1 os1 pm => ?_)
  have er : es.toList.map (·.2) = L.map fun q => Value.ref q.1 := by
    rw [R.rows, rowsN, List.map_map]
    rfl
  rw [er] at pm
  let φ : Value → D := fun v => match L.find? (fun q => decide (v = .ref q.1)) with
    | some q => q.2.data
    | none => .none
  have hφ : ∀ q ∈ L, φ (.ref q.1) = q.2.data := fun p hp => by
    have : (L.find? fun q => decide (Value.ref p.1 = .ref q.1)).isSome = true := by
      rw [List.find?_isSome]
      exact ⟨p, hp, by simp⟩
    obtain ⟨p2, e2⟩ := Option.isSome_iff_exists.mp this
    have e3 : p.1 = p2.1 := by simpa using List.find?_some e2
    have e4 : p2 ∈ L := List.mem_of_find?_eq_some e2
    have e5 : p.2 = p2.2 := by
      have y1 := (hky p hp).nk
      rw [e3] at y1
      exact NestedIs.inj _ _ _ y1 (hky p2 e4).nk
    show (match L.find? (fun q => decide (Value.ref p.1 = .ref q.1)) with | some q => q.2.data | none => .none) = _
    rw [e2, e5]
  have hvs : ∀ v ∈ vs, ∃ q ∈ L, v = .ref q.1 := fun v hv => by
    obtain ⟨p, hp, e⟩ := List.mem_map.mp (pm.mem_iff.mp hv)
    exact ⟨p, hp, e.symm⟩
  have pb : (vs.map φ).Perm (nubD ds) := by
    have y1 := pm.map φ
    have y2 : (L.map fun q => Value.ref q.1).map φ = L.map fun q => q.2.data := by
      rw [List.map_map]
      exact List.map_congr_left fun p hp => hφ p hp
    rw [y2] at y1
    exact y1.trans (nub_perm hm R.nd (fun p hp => by obtain ⟨d, hd, e1, _⟩ := hq p hp; exact ⟨d, hd, e1⟩) hall)
  have hin : ∀ b ∈ vs.map φ, b ∈ ds := fun b hb => nub_sub (pb.mem_iff.mp hb)
  have hvl : vs.length < 64 := by rw [pm.length_eq, List.length_map]; exact hfew
  refine wpAny_bind (wpAny_newList ?_ (by rw [sizeLine_eq]; omega))
  have hoL : (s1.heap.push (seqObj "list" vs.toArray 0)).get? s1.heap.objs.size = some (seqObj "list" vs.toArray 0) := Heap.get?_push_size _ rfl
  have keep : ∀ b u, s.heap.get? b = some u → (s1.heap.push (seqObj "list" vs.toArray 0)).get? b = some u := fun b u e => Heap.get?_push_of_some _ (k1 b u e)
  refine wpAny_bind (wpAny_holding (PySem.W.list_sort_data (s := { s1 with heap := s1.heap.push (seqObj "list" vs.toArray 0) }) (bs := vs.map φ) (enc := id) (R := fun v d => ∃ x, RelV x v ∧ Rp C.K Hf x d) hoL
    (each_mk fun v hv => by
      obtain ⟨p, hp, rfl⟩ := hvs v hv
      obtain ⟨as, rd, hd, e1, rp⟩ := hrd p hp
      exact ⟨.ref p.1, rfl, by rw [hφ p hp]; exact rp⟩)
    (each_mk fun v hv => by
      obtain ⟨p, hp, rfl⟩ := hvs v hv
      obtain ⟨as, rd, hd, e1, rp⟩ := hrd p hp
      have e0 := key_noAddr _ _ _ rd (hkb _ hd).1
      subst e0
      exact ⟨[], by simp only [id]; rw [hφ p hp]; exact PyProof.Rows.Reads.keeps keep rd, by simp⟩)
    (by rw [List.map_id]; exact fun d hd e he => o1.1 d (hin d hd) e (hin e he))
    (by
      rw [List.map_id]
      refine .inl fun d hd => ?_
      have y := hmem d (hin d hd)
      simp only [memB, Bool.and_eq_true] at y
      have y2 := y.2
      split at y2
      · exact ⟨_, _, rfl⟩
      · cases y2)
    (by rw [List.length_map, sizeLine_eq]; omega)
    (fun b hb => by
      have := (hkb b (hin b hb)).2
      simp only [id, Around.in1_units]
      omega) fun out l1 l2 => ?_))
  obtain ⟨c, hcx⟩ := sortedHeap_at (vs := vs) (out := out.toArray) hoL
  obtain ⟨ys, rv2, ry⟩ := each_back l2
  have es2 : sortD (vs.map φ) = sortD (nubD ds) := sortD_of_perm pb fun x hx y hy e => toks_key (o1.1 x (hin x hx) y (hin y hy)) (hkb x (hin x hx)).1 (hkb y (hin y hy)).1 e
  have ry2 : RpL C.K Hf ys (sortD (nubD ds)) := by rw [← es2, sortD_merge]; exact ry
  have hyl : ys.length ≤ sizeLine := by rw [rv2.length, l1, List.length_map, sizeLine_eq]; omega
  have kp : ∀ b u, s.heap.get? b = some u → (sortedHeap (s1.heap.push (seqObj "list" vs.toArray 0)) s1.heap.objs.size vs out.toArray).get? b = some u := fun b u e => by
    have y := k1 b u e
    have lt := Heap.lt_size y
    rw [sortedHeap_old (Nat.ne_of_lt lt) (by rw [size_push']; exact Nat.lt_succ_of_lt lt)]
    exact Heap.get?_push_of_some _ y
  have np : H s1.heap.objs.size = none := I.hok.fresh z1
  refine wpAny_pure ⟨_, rfl, ?_⟩
  have hg : (sortedHeap (s1.heap.push (seqObj "list" vs.toArray 0)) s1.heap.objs.size vs out.toArray).get? s1.heap.objs.size = some (seqObj "list" out.toArray c) := hcx
  have J : Inv X pins σ (upd H s1.heap.objs.size (.lst ys)) { s with heap := sortedHeap (s1.heap.push (seqObj "list" vs.toArray 0)) s1.heap.objs.size vs out.toArray, gens := s1.gens, drawn := s1.drawn, toks := s1.toks } :=
    I.call (ch := []) (Un.laid kp z1 np) (I.hok.laid kp z1 ⟨hyl, out, c, rv2, hg⟩) (by rw [gn1]; exact I.bare) (fun _ z => nomatch z)
  have e : ({ s1 with heap := sortedHeap (s1.heap.push (seqObj "list" vs.toArray 0)) s1.heap.objs.size vs out.toArray } : Shared) = { s with heap := sortedHeap (s1.heap.push (seqObj "list" vs.toArray 0)) s1.heap.objs.size vs out.toArray, gens := s1.gens, drawn := s1.drawn, toks := s1.toks } := by
    cases s1
    cases s
    cases os1
    rfl
  show ∃ v H2, Inv X pins σ H2 ({ s1 with heap := sortedHeap (s1.heap.push (seqObj "list" vs.toArray 0)) s1.heap.objs.size vs out.toArray } : Shared) ∧ _
  rw [e]
  exact ⟨.ref s1.heap.objs.size, _, J, rfl, q _ ys np hyl ry2⟩
end
end DL
namespace NS
open PySem PySem.Spec PyProof.Rows L2
def keyS (e : Int × Value) : Str := match e.2 with | .str x _ => x | _ => ⟨#[]⟩
def GoodS (w : World) (e : Int × Value) : Prop := ∃ x tk, e.2 = Value.str x tk ∧ e.1 = hashStr w x
structure SetS (w : World) (h : Heap) (a : Addr) (L : List Str) (es : Array (Int × Value)) (ep : Nat) (t : SetTable) : Prop where
  at_ : ∃ o, h.get? a = some o ∧ o.ExactSet ∧ o.data = .set es ep t
  good : ∀ e ∈ es.toList, GoodS w e
  mem : L = es.toList.map keyS
  nd : L.Nodup
  few : es.size < scanBound
  fits : t.fits es.size = true
  ris : Ris t.place.toList
  led : w.params.followText "set-order" = true ∨ t.led = true
section
variable {P : Program} {w : World} {A : Around} {E : Value → Shared → Prop} {s : Shared} {a : Addr}
theorem str_is (x : Str) (tk : Tok) : (PySem.strKind P w).is x (.str x tk) = true := by
  show Value.isStrOf x (.str x tk) = true
  simp [Value.isStrOf]
theorem goodS_elems {l : List (Int × Value)} (g : ∀ e ∈ l, GoodS w e) : ElemsOf (PySem.strKind P w) l := fun e he => by
  obtain ⟨k, tk, h1, h2⟩ := g e he
  exact ⟨⟨k, by rw [h1]; exact str_is k tk, h2⟩, by rw [h1] <;> rfl⟩
theorem goodS_is {e : Int × Value} (g : GoodS w e) (k : Str) : (PySem.strKind P w).is k e.2 = true ↔ keyS e = k := by
  obtain ⟨k0, tk, h1, _⟩ := g
  unfold keyS
  rw [h1]
  show Value.isStrOf k (.str k0 tk) = true ↔ k0 = k
  simp [Value.isStrOf]
  try exact eq_comm
theorem goodS_mem {l : List (Int × Value)} (g : ∀ e ∈ l, GoodS w e) (k : Str) : k ∈ l.map keyS ↔ ∃ e ∈ l, (PySem.strKind P w).is k e.2 = true := by
  rw [List.mem_map]
  constructor
  · rintro ⟨e, he, q⟩
    exact ⟨e, he, (goodS_is (g e he) k).2 q⟩
  · rintro ⟨e, he, q⟩
    exact ⟨e, he, (goodS_is (g e he) k).1 q⟩
theorem addS_tail {g : Bool → Sem Unit} (hg : ∀ (b : Bool) (s₁ : Shared) (Q' : Unit → Shared → Prop), Q' () s₁ → wpAny (model P w) A (g b) Q' E s₁)
    {o : Obj} {es : Array (Int × Value)} {ep : Nat} {t : SetTable} (ho : s.heap.get? a = some o) (hex : o.ExactSet) (hd : o.data = .set es ep t)
    {es1 : Array (Int × Value)} {t2 : SetTable} (g1 : ∀ e ∈ es1.toList, GoodS w e) (nd1 : (es1.toList.map keyS).Nodup)
    (hb1 : es1.size < scanBound) (hf2 : t2.fits es1.size = true) (hr : Ris t2.place.toList) (hl : w.params.followText "set-order" = true ∨ t2.led = true) {wasDummy : Bool} {R : Option Bool → Shared → Prop}
    (hR : ∀ h' L es' ep' t', Heap.SameBut a s.heap h' → SetS w h' a L es' ep' t' → L.Perm (es1.toList.map keyS) → R (some true) { s with heap := h' }) :
    wpAny (model P w) A (do
        storeSet a es1 t2
        if (!wasDummy && t2.tooFull) = true then do
            g (relayAll t2 es1 (SetTable.grown es1.size)).2.2
            storeSet a (relayAll t2 es1 (SetTable.grown es1.size)).1 (relayAll t2 es1 (SetTable.grown es1.size)).2.1
            pure (some true)
          else pure (some true)) R E s := by
  refine wpAny_bind (wpAny_storeSet_of ho hd ?_ (fits_of_scanBound hb1))
  have ho1 := store_at (es' := es1) (t' := t2) ho hd
  have sb1 := Heap.SameBut.update s.heap a (Obj.putSet es1 t2)
  split
  · have pm := relayAll_perm t2 es1 (SetTable.grown es1.size)
    have hf3 := relayAll_fits t2 es1 (SetTable.grown es1.size)
    have hr3 := relayAll_ris t2 es1 (SetTable.grown es1.size)
    have hl3 := relayAll_led t2 es1 (SetTable.grown es1.size)
    generalize relayAll t2 es1 (SetTable.grown es1.size) = Z at pm hf3 hr3 hl3 ⊢
    obtain ⟨es2, t3, gave⟩ := Z
    dsimp only at pm hf3 hr3 hl3 ⊢
    have hsz : es2.size = es1.size := by rw [← Array.length_toList, pm.length_eq, Array.length_toList]
    have hb2 : es2.size < scanBound := by rw [hsz]; exact hb1
    refine wpAny_bind (hg _ _ _ ?_)
    refine wpAny_bind (wpAny_storeSet_of ho1 rfl ?_ (fits_of_scanBound hb2))
    have ho2 := store_at (es' := es2) (t' := t3) ho1 rfl
    refine wpAny_pure (hR _ _ es2 _ t3 (sb1.trans (Heap.SameBut.update _ a _)) ⟨⟨_, ho2, hex, rfl⟩, fun e he => g1 e (pm.mem_iff.mp he), rfl, (pm.map keyS).nodup_iff.mpr nd1, hb2, hf3, hr3, hl.imp id fun z => by rw [hl3]; exact z⟩ (pm.map keyS))
  · exact wpAny_pure (hR _ _ es1 _ t2 sb1 ⟨⟨_, ho1, hex, rfl⟩, g1, rfl, nd1, hb1, hf2, hr, hl⟩ (List.Perm.refl _))
theorem addS {k : Str} {tk : Tok} {L : List Str} {es : Array (Int × Value)} {ep : Nat} {t : SetTable} {Q : Bool → Shared → Prop} (R : SetS w s.heap a L es ep t) (room : L.length + 1 < scanBound)
    (hQ : ∀ b h' L' es' ep' t', Heap.SameBut a s.heap h' → SetS w h' a L' es' ep' t' → (k ∈ L → L' = L) → (k ∉ L → L'.Perm (k :: L)) → Q b { s with heap := h' }) :
    wpAny (model P w) A (setAddHashed a (.str k tk) ((PySem.strKind P w).hash k)) Q E s := by
  obtain ⟨⟨o, ho, hex, hd⟩, g, hm, nd, hb, hf, hr, hl⟩ := id R
  have hn : es.size = L.length := by rw [hm, List.length_map, Array.length_toList]
  have hkey : (PySem.strKind P w).is k (.str k tk) = true := str_is k tk
  have hsc : (Value.str k tk).scannable = true := rfl
  have hel : ElemsOf (PySem.strKind P w) es.toList := goodS_elems g
  unfold setAddHashed setAddHashedIn
  refine wpAny_holding (wpAny_bind (wpAny_setState_of ho hd hf ?_))
  dsimp only
  rw [byScan_of hsc hb hel]
  simp only [↓reduceIte]
  unfold setAddByScan
  refine wpAny_bind ?_
  refine wpAny_bind (wpAny_rule ?_)
  refine wpAny_bind (wpAny_setScan_of hkey ho hd hf hel ?_)
  cases hfi : List.findIdx? (fun e => (PySem.strKind P w).is k e.2) es.toList with
  | some j =>
    dsimp only
    obtain ⟨hj, pj, _⟩ := List.findIdx?_eq_some_iff_getElem.mp hfi
    have hSk : k ∈ L := by rw [hm]; exact (goodS_mem (P := P) (w := w) g k).2 ⟨es.toList[j], List.getElem_mem hj, pj⟩
    refine wpAny_pure (wpAny_pure ?_)
    exact hQ _ s.heap L es ep t (Heap.SameBut.refl a s.heap) R (fun _ => rfl) fun z => absurd hSk z
  | none =>
    dsimp only
    have hnk : k ∉ es.toList.map keyS := fun z => by
      obtain ⟨e, he, q⟩ := (goodS_mem (P := P) (w := w) g k).1 z
      have c := List.findIdx?_eq_none_iff.mp hfi e he
      rw [q] at c
      cases c
    have hgw : ∀ (b : Bool) {s₁ : Shared} {Q' : Unit → Shared → Prop}, Q' () s₁ → wpAny (model P w) A (match b with | true => rule "set.scan.the-table-gave-way" | false => pure ()) Q' E s₁ :=
      fun b s₁ Q' q => by cases b <;> first | exact wpAny_pure q | exact wpAny_rule q
    have pm := layNew_perm t es ((PySem.strKind P w).hash k) (.str k tk)
    have hf1 := layNew_fits t es ((PySem.strKind P w).hash k) (.str k tk)
    have hr1 := layNew_ris t es ((PySem.strKind P w).hash k) (.str k tk) hr
    have hl1 := layNew_led t es ((PySem.strKind P w).hash k) (.str k tk)
    generalize layNew t es ((PySem.strKind P w).hash k) (.str k tk) = Z at pm hf1 hr1 hl1 ⊢
    obtain ⟨es1, t1, wasDummy, gave⟩ := Z
    dsimp only at pm hf1 hr1 hl1 ⊢
    rw [Array.toList_push] at pm
    have pc : es1.toList.Perm (((PySem.strKind P w).hash k, Value.str k tk) :: es.toList) := pm.trans (List.perm_append_singleton _ _)
    have pk : (es1.toList.map keyS).Perm (k :: L) := by rw [hm]; exact pc.map keyS
    have g1 : ∀ e ∈ es1.toList, GoodS w e := fun e he => by
      rcases List.mem_cons.mp (pc.mem_iff.mp he) with z | z
      · rw [z]; exact ⟨k, tk, rfl, rfl⟩
      · exact g e z
    have nd1 : (es1.toList.map keyS).Nodup := pk.nodup_iff.mpr (List.nodup_cons.mpr ⟨by rw [hm]; exact hnk, nd⟩)
    have hb1 : es1.size < scanBound := by rw [← Array.length_toList, pc.length_eq, List.length_cons, Array.length_toList, hn]; exact room
    have hled : w.params.followText "set-order" = true ∨ t1.led = true := hl.imp id fun z => by rw [hl1]; exact z
    have fin : ∀ h' L' es' ep' t', Heap.SameBut a s.heap h' → SetS w h' a L' es' ep' t' → L'.Perm (es1.toList.map keyS) → Q true { s with heap := h' } := fun h' L' es' ep' t' sb r p => hQ _ h' L' es' ep' t' sb r (fun z => absurd (by rw [hm] at z; exact z) hnk) fun _ => p.trans pk
    refine wpAny_bind (hgw _ ?_)
    split
    · refine wpAny_bind ?_
      rw [hashByValue_scannable 8 hsc]
      refine wpAny_pure ?_
      refine addS_tail ?_ ho hex hd g1 nd1 hb1 ?_ ?_ ?_ ?_
      · intro b s₁ Q' q; cases b <;> first | exact wpAny_pure q | exact wpAny_rule q
      · first | (split <;> first | exact hf1 | exact SetTable.fits_plain_off hf1) | exact hf1
      · first | (split <;> exact hr1) | exact hr1
      · first | (split <;> exact hled) | exact hled
      · intro h' L' es' ep' t' sb r p; dsimp only; exact wpAny_pure (fin h' L' es' ep' t' sb r p)
    · refine wpAny_bind (wpAny_pure ?_)
      simp only [↓reduceIte]
      refine addS_tail ?_ ho hex hd g1 nd1 hb1 hf1 hr1 hled ?_
      · intro b s₁ Q' q; cases b <;> first | exact wpAny_pure q | exact wpAny_rule q
      · intro h' L' es' ep' t' sb r p; dsimp only; exact wpAny_pure (fin h' L' es' ep' t' sb r p)
structure HadS (xs : List Str) (i : Nat) (L : List Str) : Prop where
  all : ∀ x, x ∈ L ↔ x ∈ xs.take i
  len : L.length ≤ i
theorem HadS.old {xs L : List Str} {i : Nat} {x : Str} (g : HadS xs i L) (h : xs[i]? = some x) (hm : x ∈ L) : HadS xs (i + 1) L := by
  refine ⟨fun y => ?_, Nat.le_succ_of_le g.len⟩
  rw [take_next h, List.mem_append, ← g.all y]
  simp only [List.mem_singleton]
  exact ⟨.inl, fun z => z.elim id fun e => e ▸ hm⟩
theorem HadS.new {xs L L2 : List Str} {i : Nat} {x : Str} (g : HadS xs i L) (h : xs[i]? = some x) (pm : L2.Perm (x :: L)) : HadS xs (i + 1) L2 := by
  refine ⟨fun y => ?_, by rw [pm.length_eq, List.length_cons]; have := g.len; omega⟩
  rw [take_next h, List.mem_append, ← g.all y, pm.mem_iff, List.mem_cons]
  simp only [List.mem_singleton]
  exact Or.comm
theorem SetS.keep {h h2 : Heap} {L : List Str} {es : Array (Int × Value)} {ep : Nat} {t : SetTable} (R : SetS w h a L es ep t) (k1 : ∀ o, h.get? a = some o → h2.get? a = some o) : SetS w h2 a L es ep t := by
  obtain ⟨o, g, r⟩ := R.at_
  exact ⟨⟨o, k1 o g, r⟩, R.good, R.mem, R.nd, R.few, R.fits, R.ris, R.led⟩
theorem SetS.fresh {h : Heap} (g : h.get? a = some (newSet w)) : SetS w h a [] #[] 0 (.fresh 0 0 (!w.params.followText "set-order")) where
  at_ := ⟨_, g, ⟨rfl, rfl, rfl⟩, rfl⟩
  good := fun e he => by simp at he
  mem := rfl
  nd := List.nodup_nil
  few := by decide
  fits := by rfl
  ris := List.Pairwise.nil
  led := by
    show _ ∨ (!w.params.followText "set-order") = true
    cases w.params.followText "set-order"
    · exact .inr rfl
    · exact .inl rfl
theorem updateS {I : Addr} {fp wr : List Addr} {G : Array GenState → Array GenState → Prop} {n : Nat} {Pv : Nat → Value → Prop} {St : Nat → Shared → Prop} {R : Result → Shared → Prop}
    (W : WalksS P w A.in1 I fp wr G n Pv St) (S : Addr) (nS : S ∉ fp) (xs : List Str) (hn : n = xs.length) (few : xs.length + 1 < scanBound) (hv : ∀ i v, Pv i v → ∃ x tk, xs[i]? = some x ∧ v = .str x tk)
    (h0 : Heap) (z0 : h0.get? S = none) (zw : ∀ b ∈ wr, h0.get? b = none) :
    ∀ (m i : Nat) (s : Shared), n - i = m → i ≤ n → St i s → (∀ b o, h0.get? b = some o → s.heap.get? b = some o) → (∃ L es ep t, SetS w s.heap S L es ep t ∧ HadS xs i L) →
      (∀ s2 L es ep t, Moved (S :: wr) G s s2 → SetS w s2.heap S L es ep t → HadS xs n L → (∀ b o, h0.get? b = some o → s2.heap.get? b = some o) → R (.ok (.ret .none)) s2) →
      codeAny (model P w) A (.builtin "set.update.loop" ⟨[.ref S, .ref I], []⟩) R s := by
  have nW : S ∉ wr := fun h => nS (W.sub _ h)
  have wide : ∀ b ∈ wr, b ∈ S :: wr := fun b hb => .tail _ hb
  have hold : ∀ {s1 s2 : Shared}, Moved wr G s1 s2 → (∀ b o, h0.get? b = some o → s1.heap.get? b = some o) → ∀ b o, h0.get? b = some o → s2.heap.get? b = some o := fun mv k b o e => mv.heap b o (fun hb => by rw [zw b hb] at e; cases e) (k b o e)
  intro m
  induction m with
  | zero =>
    intro i s e1 hi st kp ⟨L, es, ep, t, hS, g⟩ hR
    obtain rfl : i = n := by omega
    refine codeAny_builtin F.entry_set_update_loop ?_
    rw [Around.under_plainId F.plain_set_update_loop _]
    show wpAny _ A.in1 (pyNext (.ref I) >>= _) _ _ s
    refine wpAny_bind (W.done s _ _ st fun s2 mv => ?_)
    show wpAny _ A.in1 (ret Value.none) _ _ s2
    exact wpAny_pure (hR s2 L es ep t (mv.mono wide) (hS.keep fun o e => mv.heap S o nW e) g (hold mv kp))
  | succ m ih =>
    intro i s e1 hi st kp ⟨L, es, ep, t, hS, g⟩ hR
    have lt : i < n := by omega
    refine codeAny_builtin F.entry_set_update_loop ?_
    rw [Around.under_plainId F.plain_set_update_loop _]
    show wpAny _ A.in1 (pyNext (.ref I) >>= _) _ _ s
    refine wpAny_bind (W.item i s _ _ lt st fun v s2 pv st2 mv => ?_)
    obtain ⟨x, tk, hq, rfl⟩ := hv i v pv
    have kp2 := hold mv kp
    have hS2 : SetS w s2.heap S L es ep t := hS.keep fun o e => mv.heap S o nW e
    show wpAny _ A.in1 (holding [Value.str x tk] (setAdd S (.str x tk)) >>= _) _ _ s2
    refine wpAny_bind (wpAny_holding ?_)
    unfold setAdd
    refine wpAny_holding ?_
    refine wpAny_bind ((PySem.strKind P w).pyHash (k := x) (str_is x tk) ?_)
    refine addS (s := { s2 with toks := s2.toks + 1 }) hS2 (by have := g.len; omega) fun b h3 L3 es3 ep3 t3 sb hS3 c1 c2 => ?_
    have g3 : HadS xs (i + 1) L3 := by
      by_cases c : x ∈ L
      · rw [c1 c]; exact g.old hq c
      · exact g.new hq (c2 c)
    have kp3 : ∀ b o, h0.get? b = some o → h3.get? b = some o := fun b o e => (sb.2 b (fun z => by rw [z, z0] at e; cases e)).trans (kp2 b o e)
    refine wpAny_pure ⟨plainId_quiet F.plain_set_update_loop _, ih (i + 1) _ (by omega) lt (W.frame _ s2 _ _ st2 (Nat.le_succ _) fun b hb o e => ?_) kp3 ⟨L3, es3, ep3, t3, hS3, g3⟩ fun s4 L4 es4 ep4 t4 mv4 hS4 g4 kp4 => ?_⟩
    · rw [sb.2 b fun z => nS (by rw [← z]; exact hb)]; exact e
    · refine hR s4 L4 es4 ep4 t4 (Moved.trans W.gtrans ((mv.mono wide).then_heap (Nat.le_succ _) fun b o hb e => ?_) mv4) hS4 g4 kp4
      rw [sb.2 b fun z => hb (by rw [z]; exact List.mem_cons_self)]; exact e
abbrev LeftS (w : World) (s : Shared) (xs : List Str) (h2 : Heap) : Prop := ∃ L es ep t, SetS w h2 s.heap.objs.size L es ep t ∧ HadS xs xs.length L ∧ ∀ b o, s.heap.get? b = some o → h2.get? b = some o
theorem initS {l : Addr} {items : Array Value} (xs : List Str) (hh : A.handled = none) (hl : s.heap.IsList l items) (hit : items.size = xs.length) (hv : ∀ (i : Nat) (v : Value), items[i]? = some v → ∃ x tk, xs[i]? = some x ∧ v = .str x tk) (few : xs.length + 1 < scanBound)
    {R : PySem.Fin → Shared → Prop} (hR : ∀ h2 tk, LeftS w s xs h2 → R (.done (.ret .none)) { s with heap := h2, toks := tk }) :
    wpAny (model P w) A.in1.in1 (Builtin.«set.__init__» ⟨[.ref s.heap.objs.size, .ref l], []⟩) R E { s with heap := s.heap.push (newSet w) } := by
  obtain ⟨ol, hol, hcl, nl, hdl⟩ := hl
  obtain ⟨ocls, odict, odata, oslots⟩ := ol
  simp only at hcl hdl
  subst hcl; subst hdl
  have hS : (s.heap.push (newSet w)).get? s.heap.objs.size = some (newSet w) := Heap.get?_push_size _ rfl
  have hol2 : (s.heap.push (newSet w)).get? l = some { cls := .type "list", dict := odict, data := .seq items nl, slots := oslots } := Heap.get?_push_of_some _ hol
  have a1 := F.sub_list_set
  have a2 := F.sub_list_frozenset
  have a3 : (Value.type "list" == Value.type "dict") = false := by decide
  have hl2 : (s.heap.push (newSet w)).IsList l items := ⟨_, hol2, rfl, nl, rfl⟩
  unfold Builtin.«set.__init__» noKeywords Builtin.Frozenset.updateFrom
  generalize hPI : pyIter = PI
  wp_walk
  subst hPI
  refine wpAny_pyIter_list hl2 ?_
  refine wpAny_bind (wpAny_runValue ?_)
  have lS : l < s.heap.objs.size := Heap.lt_size hol
  have hh3 : A.in1.in1.in1.handled = none := by simp [hh]
  have zp : (s.heap.push (newSet w)).objs.size = s.heap.objs.size + 1 := Heap.size_push ..
  have nl2 : l ≠ (s.heap.push (newSet w)).objs.size := by rw [zp]; exact Nat.ne_of_lt (Nat.lt_succ_of_lt lS)
  have nS : s.heap.objs.size ∉ [(s.heap.push (newSet w)).objs.size, l] := by
    rw [zp]
    simp only [List.mem_cons, List.not_mem_nil, or_false, not_or]
    exact ⟨Nat.ne_of_lt (Nat.lt_succ_self _), Nat.ne_of_gt lS⟩
  refine updateS ((Walks.list hh3 _ l nl2 items).toS) s.heap.objs.size nS xs hit few hv s.heap (none_from (Nat.le_refl _)) (fun b hb => none_from (by
      rw [List.mem_singleton.mp hb, zp]
      exact Nat.le_succ _)) (items.size - 0) 0 _ (by omega) (Nat.zero_le _) ⟨⟨_, Heap.get?_push_size _ rfl, rfl, rfl⟩, hl2.push _⟩ (fun b o e => Heap.get?_push_of_some _ (Heap.get?_push_of_some _ e)) ⟨[], #[], 0, _, SetS.fresh (Heap.get?_push_of_some _ hS), fun x => by simp, Nat.le_refl _⟩ ?_
  intro s2 L es ep t mv hS2 g2 kp
  obtain ⟨h2, gn, dr, tk, osx⟩ := s2
  have eg : gn = s.gens := mv.gens
  have ed : dr = s.drawn := mv.drawn
  have eo : osx = s.os := mv.os
  subst eg; subst ed; subst eo
  show wpAny _ _ _ _ _ _
  refine wpAny_pure ?_
  show wpAny _ _ (ret Value.none) _ _ _
  rw [hit] at g2
  exact wpAny_pure (hR h2 tk ⟨L, es, ep, t, hS2, g2, kp⟩)
theorem callSetS {l : Addr} {items : Array Value} (xs : List Str) {Q : Value → Shared → Prop} (hh : A.handled = none) (hl : s.heap.IsList l items) (hit : items.size = xs.length) (hv : ∀ (i : Nat) (v : Value), items[i]? = some v → ∃ x tk, xs[i]? = some x ∧ v = .str x tk) (few : xs.length + 1 < scanBound)
    (h : ∀ h2 tk, LeftS w s xs h2 → Q (.ref s.heap.objs.size) { s with heap := h2, toks := tk }) : wpAny (model P w) A (call (.type "set") [.ref l]) Q E s := by
  obtain ⟨c, tl, hmro⟩ := F.called_set.mro
  have hmade := F.called_set.made
  have hsub := F.called_set.sub
  refine wpAny_call (codeAny_of_tree ?_)
  show wpAny _ _ (callAny (.type "set") _) _ _ _
  refine wpAny_pure ⟨Code.quiet_builtin _ (by decide +kernel), codeAny_builtin F.entry_type_call ?_⟩
  rw [Around.under_plain (weight_type_call_type "set" [.ref l] []) rfl]
  have n1 := F.called_set.notType
  have n2 := F.called_set.canCreate
  have n3 := F.typeCall_set_1 (.ref l)
  repeat (any_goals (first | assumption | wp_step))
  refine codeAny_mono (code_set_led1 (.ref l) (E := E) (Q₁ := fun v s1 => v = .ref s.heap.objs.size ∧ s1 = { s with heap := s.heap.push (newSet w) }) ⟨rfl, rfl⟩) fun r s1 hr => ?_
  cases r with
  | error e => exact hr
  | ok fl =>
    cases fl with
    | ret v =>
      obtain ⟨rfl, rfl⟩ := hr
      have hS : (s.heap.push (newSet w)).get? s.heap.objs.size = some (newSet w) := Heap.get?_push_size _ rfl
      have ty : Shared.TypeIs { s with heap := s.heap.push (newSet w) } (.ref s.heap.objs.size) "set" := ⟨_, hS, rfl⟩
      have i1 := F.called_set.init.lookup
      have i2 := F.called_set.init.bind (.ref s.heap.objs.size)
      repeat (any_goals (first | assumption | wp_step))
      refine codeAny_mono (codeAny_call_builtin (R := wants (fun r s2 => r = .none ∧ ∃ h2 tk, s2 = { s with heap := h2, toks := tk } ∧ LeftS w s xs h2) E) F.called_set.init.plain F.entry_set_init (check_set_init_1 ty (initS xs hh hl hit hv few fun h2 tk z => ⟨rfl, h2, tk, rfl, z⟩))) fun r2 s2 hr2 => ?_
      cases r2 with
      | error e => exact hr2
      | ok fl2 =>
        cases fl2 with
        | ret r =>
          obtain ⟨rfl, h2, tk, rfl, z⟩ := hr2
          repeat (any_goals (first | assumption | wp_step))
          exact h _ _ z
        | _ => exact hr2.elim
    | _ => exact hr.elim
end
end NS
namespace DL
open PySem PySem.Spec PyProof.Rows L2 NS
variable [Lots]
theorem nubS_mem : ∀ {xs : List Str} {x : Str}, x ∈ nubS xs ↔ x ∈ xs
  | [], x => Iff.rfl
  | y :: ys, x => by
    unfold nubS
    split
    · rename_i h
      rw [nubS_mem, List.mem_cons]
      exact ⟨.inr, fun z => z.elim (fun e => e ▸ h) id⟩
    · rw [List.mem_cons, List.mem_cons, nubS_mem]
theorem nubS_nd : ∀ xs : List Str, (nubS xs).Nodup
  | [] => List.nodup_nil
  | y :: ys => by
    unfold nubS
    split
    · exact nubS_nd ys
    · rename_i h
      exact List.nodup_cons.mpr ⟨fun z => h (nubS_mem.mp z), nubS_nd ys⟩
theorem perm_of_mem {α : Type} [DecidableEq α] : ∀ {xs ys : List α}, xs.Nodup → ys.Nodup → (∀ x, x ∈ xs ↔ x ∈ ys) → xs.Perm ys := fun {xs ys} h1 h2 h3 => by
  rw [List.perm_iff_count]
  intro a
  rw [h1.count, h2.count]
  simp only [h3 a]
def SO (w : World) (a : Addr) (L : List Str) : HO := .ext fun h => ∃ es ep t, SetS w h a L es ep t
theorem so_new {P : Program} {w : World} {H : Hp} {h : Heap} {a : Addr} {L : List Str} (R : ∃ es ep t, SetS w h a L es ep t) : ObjOk P w H h a (SO w a L) := by
  have ⟨es, ep, t, r⟩ := R
  obtain ⟨o, ho, q⟩ := r.at_
  refine ⟨R, ⟨o, ho⟩, fun h1 h2 p k => ?_⟩
  have ⟨es2, ep2, t2, r2⟩ := p
  exact ⟨es2, ep2, t2, r2.keep k⟩
section
variable {X : Cx} {C : Pm}
theorem vals_strs : ∀ {xs : List Str} {us : List Value}, Vals (xs.map V.str) us → us.length = xs.length ∧ ∀ (i : Nat) (v : Value), us[i]? = some v → ∃ x tk, xs[i]? = some x ∧ v = .str x tk
  | [], _, r => by
    cases r
    exact ⟨rfl, fun i v e => by simp at e⟩
  | x :: xs, _, r => by
    cases r with
    | cons h t =>
      obtain ⟨l, g⟩ := vals_strs t
      obtain ⟨tk, rfl⟩ := h
      refine ⟨by simp [l], fun i v e => ?_⟩
      cases i with
      | zero =>
        simp at e
        exact ⟨x, tk, rfl, e.symm⟩
      | succ i => exact g i v (by simpa using e)
def rSetS (w : World) : List V → Hp → VK → Prop := fun vs H Q => ∃ (l : Addr) (xs : List Str), vs = [V.ref l] ∧ H l = some (.lst (xs.map V.str)) ∧ xs.length < 4000 ∧ ∀ a (L : List Str), H a = none → L.Nodup → (∀ x, x ∈ L ↔ x ∈ xs) → L.length ≤ xs.length → Q (.ref a) (upd H a (SO w a L))
theorem c_setS (hc : X.calm = true) : CallR X (.type "set") (rSetS X.w) := by
  intro pins s σ H vs us Q I r ⟨l, xs, e, hl, few, q⟩
  subst e
  rw [Vals.ref1 r]
  obtain ⟨its, rv, pl, hz⟩ := I.list (SqL.of hl)
  obtain ⟨l1, l2⟩ := vals_strs rv
  have hn : H s.heap.objs.size = none := I.hok.fresh (Nat.le_refl _)
  refine callSetS (P := X.prog) (w := X.w) xs (I.ok.hd hc) pl.isList (by simpa using l1) (fun i v e => l2 i v (by simpa using e)) (by unfold scanBound; omega) fun h2 tk ⟨L, es, ep, t, R, g, k⟩ => ?_
  exact ⟨.ref s.heap.objs.size, upd H s.heap.objs.size (SO X.w s.heap.objs.size L), I.laid (t' := tk) k (Nat.le_refl _) (so_new ⟨es, ep, t, R⟩), rfl, q _ L hn R.nd (fun x => by rw [g.all x, List.take_length]) g.len⟩
def rSortS (w : World) : List V → Hp → VK → Prop := fun vs H Q => ∃ (a : Addr) (L : List Str), vs = [V.ref a] ∧ H a = some (SO w a L) ∧ L.length < 4000 ∧ ∀ (p : Addr) (ys : List Str), H p = none → ys.length ≤ sizeLine → ys.map PyData.str = sortD (L.map .str) → Q (.ref p) (upd H p (.lst (ys.map V.str)))
theorem str_toks {x y : Str} (e : PySem.W.keyToks (.str x) = PySem.W.keyToks (.str y)) : x = y := by
  have e : [Sum.inr x.cps.toList] = ([Sum.inr y.cps.toList] : List (Int ⊕ List Nat)) := by simpa [PySem.W.keyToks] using e
  simp only [List.cons.injEq, Sum.inr.injEq, and_true] at e
  obtain ⟨⟨x⟩⟩ := x
  obtain ⟨⟨y⟩⟩ := y
  simp at e
  rw [e]
theorem each_strs {h : Heap} : ∀ {vs : List Value}, (∀ v ∈ vs, ∃ x tk, v = Value.str x tk) → PySem.W.EachIs (fun v (x : Str) => ∃ tk, v = Value.str x tk) vs (vs.map fun v => keyS (0, v))
  | [], _ => .nil
  | v :: vs, hv => by
    obtain ⟨x, tk, rfl⟩ := hv v (.head _)
    exact .cons ⟨tk, rfl⟩ (each_strs (h := h) fun u hu => hv u (.tail _ hu))
theorem each_strs_back : ∀ {vs : List Value} {xs : List Str}, PySem.W.EachIs (fun v (x : Str) => ∃ tk, v = Value.str x tk) vs xs → Vals (xs.map V.str) vs
  | _, _, .nil => .nil
  | _, _, .cons ⟨tk, e⟩ r => by
    subst e
    exact .cons ⟨tk, rfl⟩ (each_strs_back r)
theorem map_sortD (xs : List Str) : (xs.mergeSort (PySem.W.dataLe false (PyData.str : Str → PyData))).map PyData.str = sortD (xs.map .str) := by
  refine (sortD_eq ((List.mergeSort_perm _ _).map _) ?_ fun a ha b hb e => ?_).symm
  · have h : (xs.mergeSort (PySem.W.dataLe false (PyData.str : Str → PyData))).Pairwise fun a b => PySem.W.dataLe false (PyData.str : Str → PyData) a b = true := by
      refine List.pairwise_mergeSort (fun a b c h1 h2 => ?_) (fun a b => ?_) xs
      · simp only [PySem.W.dataLe_eq, Bool.not_eq_true'] at h1 h2 ⊢
        cases e : PySem.W.dataLt (.str c) (.str a) with
        | false => simp
        | true =>
          rcases lex_negTrans (O := itemOrd) _ (PySem.W.keyToks (.str b)) _ e with h | h
          · have h2 : PyProof.Rows.lexLt itemOrd (PySem.W.keyToks (.str c)) (PySem.W.keyToks (.str b)) = false := (by simpa using h2 : PySem.W.dataLt (.str c) (.str b) = false)
            rw [h2] at h; cases h
          · have h1 : PyProof.Rows.lexLt itemOrd (PySem.W.keyToks (.str b)) (PySem.W.keyToks (.str a)) = false := (by simpa using h1 : PySem.W.dataLt (.str b) (.str a) = false)
            rw [h1] at h; cases h
      · simp only [PySem.W.dataLe_eq]
        cases e : PySem.W.dataLt (.str b) (.str a) with
        | false => simp
        | true =>
          have : PySem.W.dataLt (.str a) (.str b) = false := by
            cases e2 : PySem.W.dataLt (.str a) (.str b) with
            | false => rfl
            | true =>
              have := lex_trans (O := itemOrd) _ _ _ e e2
              rw [lex_irrefl] at this
              cases this
          simp [this]
    rw [List.pairwise_map]
    exact h.imp fun h => by simpa [PySem.W.dataLe_eq] using h
  · obtain ⟨x, _, rfl⟩ := List.mem_map.mp ha
    obtain ⟨y, _, rfl⟩ := List.mem_map.mp hb
    rw [str_toks e]
theorem c_sortS (hc : X.calm = true) (hu : X.A.units + 65 < cLine) : CallR X (.builtin "sorted") (rSortS X.w) := by
  intro pins s σ H vs us Q I r ⟨a, L, e, ha, few, q⟩
  subst e
  rw [Vals.ref1 r]
  obtain ⟨es, ep, t, R⟩ := (I.hok a _ ha).1
  obtain ⟨o, g1, g2, g3⟩ := R.at_
  refine Calls.call_function_entry kind_sorted plain_sorted entry_sorted (args_sorted1 _) ?_
  unfold Builtin.«sorted»
  refine wpAny_bind (m := checkCount "sorted" 1 1 _) (wpAny_pure ?_)
  refine wpAny_bind (collect_set (A := X.A.in1) (I.ok.hd hc) ⟨o, g1, g2.1, g3⟩ R.fits R.few R.ris R.led fun s1 vs k1 z1 gn1 os1 pm => ?_)
  have hvs : ∀ v ∈ vs, ∃ x tk, v = Value.str x tk := fun v hv => by
    obtain ⟨e, he, rfl⟩ := List.mem_map.mp (pm.mem_iff.mp hv)
    obtain ⟨x, tk, h1, _⟩ := R.good e he
    exact ⟨x, tk, h1⟩
  have pk : (vs.map fun v => keyS (0, v)).Perm L := by
    have y := pm.map fun v => keyS (0, v)
    rw [List.map_map] at y
    rw [R.mem]
    exact y
  have hvl : vs.length < 4000 := by
    have := pk.length_eq
    rw [List.length_map] at this
    omega
  refine wpAny_bind (wpAny_newList ?_ (by rw [sizeLine_eq]; omega))
  have hoL : (s1.heap.push (seqObj "list" vs.toArray 0)).get? s1.heap.objs.size = some (seqObj "list" vs.toArray 0) := Heap.get?_push_size _ rfl
  refine wpAny_bind (wpAny_holding (PySem.W.list_sort_data (s := { s1 with heap := s1.heap.push (seqObj "list" vs.toArray 0) }) (bs := vs.map fun v => keyS (0, v)) (enc := (PyData.str : Str → PyData)) (R := fun v (x : Str) => ∃ tk, v = Value.str x tk) hoL
    (each_strs (h := s1.heap) hvs)
    ((each_strs (h := s1.heap) hvs).mono fun v x ⟨tk, e⟩ => ⟨[], by rw [e]; exact .str _ _, by simp⟩)
    (PySem.W.AllAlike.of fun _ _ => by simp [PySem.W.alike])
    (PySem.W.Sortable.others fun x => ⟨by simp, by simp⟩)
    (by rw [List.length_map, sizeLine_eq]; omega)
    (fun b hb => by
      simp only [Around.in1_units, PyData.depth]
      omega) fun out l1 l2 => ?_))
  obtain ⟨c, hcx⟩ := sortedHeap_at (vs := vs) (out := out.toArray) hoL
  have rv2 := each_strs_back l2
  have ey : ((vs.map fun v => keyS (0, v)).mergeSort (PySem.W.dataLe false (PyData.str : Str → PyData))).map PyData.str = sortD (L.map .str) := by
    rw [map_sortD]
    exact sortD_of_perm (pk.map _) fun x hx y hy e => by
      obtain ⟨x, _, rfl⟩ := List.mem_map.mp hx
      obtain ⟨y, _, rfl⟩ := List.mem_map.mp hy
      rw [str_toks e]
  generalize (vs.map fun v => keyS (0, v)).mergeSort (PySem.W.dataLe false (PyData.str : Str → PyData)) = ys at rv2 ey
  have hyl : ys.length ≤ sizeLine := by
    have h1 := rv2.length
    rw [List.length_map] at h1
    rw [h1, l1, List.length_map, sizeLine_eq]
    omega
  have kp : ∀ b u, s.heap.get? b = some u → (sortedHeap (s1.heap.push (seqObj "list" vs.toArray 0)) s1.heap.objs.size vs out.toArray).get? b = some u := fun b u e => by
    have y := k1 b u e
    have lt := Heap.lt_size y
    rw [sortedHeap_old (Nat.ne_of_lt lt) (by rw [size_push']; exact Nat.lt_succ_of_lt lt)]
    exact Heap.get?_push_of_some _ y
  have np : H s1.heap.objs.size = none := I.hok.fresh z1
  refine wpAny_pure ⟨_, rfl, ?_⟩
  have hg : (sortedHeap (s1.heap.push (seqObj "list" vs.toArray 0)) s1.heap.objs.size vs out.toArray).get? s1.heap.objs.size = some (seqObj "list" out.toArray c) := hcx
  have J : Inv X pins σ (upd H s1.heap.objs.size (.lst (ys.map V.str))) { s with heap := sortedHeap (s1.heap.push (seqObj "list" vs.toArray 0)) s1.heap.objs.size vs out.toArray, gens := s1.gens, drawn := s1.drawn, toks := s1.toks } :=
    I.call (ch := []) (Un.laid kp z1 np) (I.hok.laid kp z1 ⟨by rw [List.length_map]; exact hyl, out, c, rv2, hg⟩) (by rw [gn1]; exact I.bare) (fun _ z => nomatch z)
  have e : ({ s1 with heap := sortedHeap (s1.heap.push (seqObj "list" vs.toArray 0)) s1.heap.objs.size vs out.toArray } : Shared) = { s with heap := sortedHeap (s1.heap.push (seqObj "list" vs.toArray 0)) s1.heap.objs.size vs out.toArray, gens := s1.gens, drawn := s1.drawn, toks := s1.toks } := by
    cases s1
    cases s
    cases os1
    rfl
  show ∃ v H2, Inv X pins σ H2 ({ s1 with heap := sortedHeap (s1.heap.push (seqObj "list" vs.toArray 0)) s1.heap.objs.size vs out.toArray } : Shared) ∧ _
  rw [e]
  exact ⟨.ref s1.heap.objs.size, _, J, rfl, q _ ys np hyl ey⟩
theorem strs_rp {K : PySem.W.Frag} {H : Hp} : ∀ {vs : List V} {ds : List D} {xs : List Str}, RpL K H vs ds → strsOf ds = some xs → vs = xs.map V.str ∧ ds = xs.map .str
  | _, [], xs, r, h => by
    cases r
    cases h
    exact ⟨rfl, rfl⟩
  | _, d :: ds, xs, r, h => by
    cases r with
    | cons h1 h2 =>
      cases d with
      | str x =>
        simp only [strsOf, Option.map_eq_some_iff] at h
        obtain ⟨ys, h3, rfl⟩ := h
        obtain ⟨e1, e2⟩ := strs_rp h2 h3
        cases h1
        exact ⟨by rw [e1]; rfl, by rw [e2]; rfl⟩
      | _ => simp [strsOf] at h
end
end DL
namespace DL
open PySem PySem.Spec PyProof.Rows L2 NS
variable [Lots]
section
variable {X : Cx} {C : Pm} {a : Expr} {p p2 q2 pos : Pos} {fr : Env → R (List D)}
theorem set_ty : bootBuiltins "set" = some (.type "set") := by decide +kernel
theorem sorted_bl : bootBuiltins "sorted" = some (.builtin "sorted") := by decide +kernel
theorem f_sortset (hK : C.K = X.K) (hc : X.calm = true) (hu : X.A.units + 65 < cLine) (g1 : Gl X "sorted") (m1 : X.mg "sorted" = none) (g2 : Gl X "set") (m2 : X.mg "set" = none) (ha : PA X [a] (tPA C fr)) (hs : isStar a = false) :
    PE X (.Call (.Name "sorted" p) [.Call (.Name "set" p2) [a] [] q2] [] pos) (tF C fun ρ => fr ρ >>= dSortSet) := by
  have c1 : CallR X (.type "set") (fun xs H Q => rSetN C X.w xs H Q ∨ rSetS X.w xs H Q) := fun pins s σ H xs us Q I r h => h.elim (c_setN hK hc hu pins s σ H xs us Q I r) (c_setS hc pins s σ H xs us Q I r)
  have c2 : CallR X (.builtin "sorted") (fun xs H Q => rSortN C X.w xs H Q ∨ rSortS X.w xs H Q) := fun pins s σ H xs us Q I r h => h.elim (c_sortN hK hc hu pins s σ H xs us Q I r) (c_sortS hc hu pins s σ H xs us Q I r)
  have h1 := pe_callTy (p := p2) (pos := q2) c1 g2 m2 set_ty ha (by decide) (by decide) (star_cons hs) rfl
  have h2 := pe_callB (p := p) (pos := pos) c2 g1 m1 sorted_bl (pa_cons h1 pa_nil (star_cons (by rfl))) (by decide) (by decide) (star_cons (by rfl)) rfl
  refine PE.imp h2 fun σ H Q ⟨Hf0, H0, Hf, ρ, env, h⟩ => ⟨Hf0, H0, Hf, ρ, env, h.bind fun ds vs Hf1 H1 _ gr r1 h3 => ?_⟩
  have h3 : OutG C (RelF C H) Hf1 H1 (dSortSet ds) Q := h3
  unfold dSortSet at h3
  split at h3
  · rename_i es _ _
    obtain ⟨v, rfl, hv⟩ := r1.one
    obtain ⟨l, xs, rfl, hl, zl, rl⟩ := hv.list_ gr.sub
    have sf := gr.sub
    split at h3
    · rename_i ok
      simp only [Bool.and_eq_true, decide_eq_true_eq] at ok
      refine .inl ⟨Hf1, l, xs, es, sf, rfl, hl, rl, ok.2.1, (ordOk_of ok.2.2).2.1, ok.1, fun b L nb k1 k2 => ?_⟩
      have gs := Grow.side (o := NO X.w b L) sf nb
      refine .inl ⟨Hf1, b, L, es, gs.sub, rfl, upd_same, k1, k2, ok.2.1, ok.2.2, fun c ys nc zy ry => ?_⟩
      refine h3 _ Hf1 _ (gs.trans (Grow.side gs.sub nc)) ⟨c, rfl, ?_, ownL gs.sub nc zy ry⟩
      exact Same.free gr.h (Same.free gs.h nc)
    · split at h3
      · rename_i zs hz
        split at h3
        · rename_i few
          obtain ⟨e1, e2⟩ := strs_rp rl hz
          subst e1
          refine .inr ⟨l, zs, rfl, hl, few, fun b L nb nd mem len => ?_⟩
          have gs := Grow.side (o := SO X.w b L) sf nb
          refine .inr ⟨b, L, rfl, upd_same, by omega, fun c ys nc zy ey => ?_⟩
          have eL : sortD (L.map .str) = sortD ((nubS zs).map .str) := sortD_of_perm ((perm_of_mem nd (nubS_nd zs) fun x => by rw [mem x, nubS_mem]).map _) fun x hx y hy e => by
            obtain ⟨x, _, rfl⟩ := List.mem_map.mp hx
            obtain ⟨y, _, rfl⟩ := List.mem_map.mp hy
            rw [str_toks e]
          refine h3 _ Hf1 _ (gs.trans (Grow.side gs.sub nc)) ⟨c, rfl, ?_, ?_⟩
          · exact Same.free gr.h (Same.free gs.h nc)
          · rw [← eL, ← ey]
            exact ownL gs.sub nc (by rw [List.length_map]; exact zy) (rpL_strs ys)
        · exact h3.elim
      · exact h3.elim
  · exact h3.elim
end
end DL
namespace RE
open PySem PySem.Spec PyProof.Rows L2
theorem meets_enum1B {v : Value} {o : Obj} {H : Heap → Prop} (B : Begins v o H) :
    Meets (Builtin.«enumerate.__new__» ⟨[.type "enumerate", v], []⟩) (fun _ R s => H s.heap ∧
      R (.ok (.ret (.ref (s.heap.push o).objs.size))) { s with heap := (s.heap.push o).push { cls := .type "enumerate", data := .fields #[.none, .bool false, .ref s.heap.objs.size, rawInt 0, .none, .none] } }) :=
  .of_wp fun prog w A R s h => by
    obtain ⟨hp, g, d, tk, os⟩ := s; obtain ⟨h1, h⟩ := h
    have hsub := sub_enumerate
    have q1 : ∀ {A' : Around} {E : Value → Shared → Prop} {Q : Value → Shared → Prop}, Q (.ref hp.objs.size) ⟨hp.push o, g, d, tk, os⟩ → wpAny (model prog w) A' (pyIter v) Q E ⟨hp, g, d, tk, os⟩ :=
      fun q => B.iter prog w _ _ ⟨hp, g, d, tk, os⟩ _ h1 q
    wp_walk using q1
    refine wpAny_stack_any fun st => wpAny_pure ?_
    split
    · rename_i c _ _ _ _ _
      cases (c == Value.type "enumerate")
      · wp_walk using q1
        exact ⟨_, rfl, h⟩
      · wp_walk using q1
        exact ⟨_, rfl, h⟩
    · wp_walk using q1
      exact ⟨_, rfl, h⟩
section
variable {prog : Program} {w : World} {A : Around} {E : Value → Shared → Prop} {s : Shared}
theorem call_enum1B {v : Value} {o : Obj} {H : Heap → Prop} {Q : Value → Shared → Prop} (B : Begins v o H) (h1 : H s.heap)
    (h : ∀ h', IsEnum h' (s.heap.objs.size + 1) s.heap.objs.size 0 .none → h'.get? s.heap.objs.size = some o → h'.objs.size = s.heap.objs.size + 2 →
      (∀ b o, s.heap.get? b = some o → h'.get? b = some o) → Q (.ref (s.heap.objs.size + 1)) { s with heap := h' }) :
    wpAny (model prog w) A (call (.type "enumerate") [v]) Q E s := by
  refine callType_new F.called_enumerate (by decide) (F.typeCall_enumerate_1 _) (F.newCall_enumerate_1 _) (fun obj => F.args_object_init_2 obj _) F.entry_enumerate_new
    (meets_enum1B B) ⟨h1, ?_⟩
  have hz : (s.heap.push o).objs.size = s.heap.objs.size + 1 := Heap.size_push ..
  show _ ∧ _
  rw [hz]
  have he : IsEnum ((s.heap.push o).push { cls := .type "enumerate", data := .fields #[.none, .bool false, .ref s.heap.objs.size, rawInt 0, .none, .none] }) (s.heap.objs.size + 1) s.heap.objs.size 0 .none := by
    have := Heap.get?_push_size (s.heap.push o) (o := { cls := .type "enumerate", data := .fields #[.none, .bool false, .ref s.heap.objs.size, rawInt 0, .none, .none] }) rfl
    rw [hz] at this; exact this
  refine ⟨⟨_, he, rfl⟩, h _ he (Heap.get?_push_of_some _ (Heap.get?_push_size _ B.free)) (by rw [Heap.size_push, hz]) fun b o x => Heap.get?_push_of_some _ (Heap.get?_push_of_some _ x)⟩
end
def IteT (K : PySem.W.Frag) (a : Addr) : It :=
  ⟨fun i H => ∃ (xs : List V) (x : V), SqT K H a xs ∧ xs[i]? = some x, fun i H v H' => ∃ T x, v = .ref T ∧ H T = none ∧ H' = upd H T (.tup [.int (i : Nat), x]) ∧ ∀ xs, SqT K H a xs → xs[i]? = some x, fun i H => ∃ xs : List V, SqT K H a xs ∧ xs.length = i⟩
theorem turn_enumT {P : Program} {w : World} {K : PySem.W.Frag} {elts : List Expr} {kk : Nat} {tpos : Pos} (a e it : Addr) :
    Turn P w K (.Tuple elts kk tpos) (IteT K a) [e, it] e (fun i h => (∃ old, IsEnum h e it ((i : Nat) : Int) old) ∧ h.IsTupleIter it a i ∧ e ≠ it) where
  mem := by simp
  obj := fun i h st b hb => by
    obtain ⟨⟨old, he⟩, ⟨o, ho, hc, hd⟩, _⟩ := st
    have e' : b = e ∨ b = it := by simpa using hb
    rcases e' with z | z
    · rw [z]; exact ⟨_, he, fun v q => nomatch q⟩
    · rw [z]; exact ⟨o, ho, fun v q => by rw [hd] at q; cases q⟩
  keep := fun i h h' st k => let ⟨⟨old, he⟩, hi, hne⟩ := st; ⟨⟨old, k e (by simp) _ he⟩, hi.at fun o q => k it (by simp) o q, hne⟩
  item := by
    intro X hP hw hK hc i pins s σ H E I hf st hg
    subst hP hw hK
    obtain ⟨⟨old, he⟩, hit, hne⟩ := st
    obtain ⟨xs, x, hq, hx⟩ := hg
    obtain ⟨its, rv, p, hz⟩ := I.tuple hq
    obtain ⟨u, hu, ru⟩ := rv.get hx
    have hel : e < s.heap.objs.size := Heap.lt_size he
    have hil : it < s.heap.objs.size := by obtain ⟨_, q, _⟩ := hit; exact Heap.lt_size q
    have ha : a ≠ it := fun z => by
      obtain ⟨o1, q1, q2, _⟩ := hit
      obtain ⟨o2, q3, q4, _⟩ := p
      rw [z, q1] at q3
      cases q3
      rw [q2] at q4
      exact absurd q4 (by simp)
    have hea : e ≠ a := fun z => by
      obtain ⟨o2, q3, q4, _⟩ := p
      rw [← z, he] at q3
      cases q3
      exact absurd q4 (by simp)
    have hi : i < its.toArray.size := by
      have := (List.getElem?_eq_some_iff.mp hu).1
      simpa using this
    refine wpAny_pyNext_enum_itemC (Draws.tuple (show X.A.in1.handled = none from I.ok.hd hc) it a ha its.toArray) he ⟨hit, p⟩ hi hne (by simp [hne, hea]) fun x' h' tk hx' ho hit' hT hsz hk => ?_
    have ex : x' = u := by
      have hu' : its.toArray[i]? = some u := by simpa using hu
      rw [hu'] at hx'
      exact (Option.some.inj hx').symm
    subst ex
    refine ⟨_, rfl, wpAny_letOwnedTupleGo_enum (s := { s with heap := h', toks := tk + 1 }) ho fun h'' he' sb => ?_⟩
    have hT2 : h''.get? s.heap.objs.size = some { cls := .type "tuple", data := .seq #[.int i tk, x'] } := (sb.2 _ (Nat.ne_of_gt hel)).trans hT
    have new : ObjOk X.prog X.w (upd H s.heap.objs.size (.tup [.int (i : Nat), x])) h'' s.heap.objs.size (.tup [.int (i : Nat), x]) :=
      ⟨by show 2 ≤ sizeLine; decide, [.int i tk, x'], .cons ⟨_, rfl⟩ (.cons ru .nil), ⟨_, hT2, rfl, _, rfl⟩⟩
    have I1 : Inv X pins σ (upd H s.heap.objs.size (.tup [.int (i : Nat), x])) { s with heap := h'', toks := tk + 1 } :=
      I.turnedNew (ch := [e, it]) (fun b ob hb q => (sb.2 b (fun z => hb (by simp [z]))).trans (hk b ob (fun z => hb (by simp [z])) (fun z => hb (by simp [z])) q)) hf (Nat.le_refl _) new
    refine ⟨.ref s.heap.objs.size, _, I1, rfl, ⟨_, x, rfl, I.hok.fresh (Nat.le_refl _), rfl, fun ys hy => by rw [I.tuple_inj hy hq]; exact hx⟩, ⟨⟨x', ?_⟩, hit'.1.at fun o q => (sb.2 it (Ne.symm hne)).trans q, hne⟩, fun b hb => ?_⟩
    · have e1 : ((i + 1 : Nat) : Int) = (i : Int) + 1 := by omega
      rw [e1]; exact he'
    · have hb' : b < s.heap.objs.size := by
        have e' : b = e ∨ b = it := by simpa using hb
        rcases e' with z | z
        · rw [z]; exact hel
        · rw [z]; exact hil
      rw [upd_ne (Nat.ne_of_lt hb')]
      exact (hf b hb).1
  done := by
    intro X hP hw hK hc i pins s σ H E I hf st hg
    subst hP hw hK
    obtain ⟨⟨old, he⟩, hit, hne⟩ := st
    obtain ⟨xs, hq, hx⟩ := hg
    obtain ⟨its, rv, p, hz⟩ := I.tuple hq
    obtain ⟨f0, f1, f2, f3, f4, f5⟩ := hf it (by simp)
    have hl := rv.length
    have ha : a ≠ it := fun z => by
      obtain ⟨o1, q1, q2, _⟩ := hit
      obtain ⟨o2, q3, q4, _⟩ := p
      rw [z, q1] at q3
      cases q3
      rw [q2] at q4
      exact absurd q4 (by simp)
    have hsz : its.toArray.size = i := by rw [← hx, hl]; simp
    exact wpAny_pyNext_enum_endD (Draws.tuple (show X.A.in1.handled = none from I.ok.hd hc) it a ha its.toArray) he (by rw [hsz]; exact ⟨hit, p⟩) fun h' eb => ⟨rfl, I.turned (t' := s.toks) (fun b o hb q => eb b o hb q) f0 f1 f3 f4 f5⟩
  self := fun A i s Q E st h => let ⟨⟨_, he⟩, _⟩ := st; wpAny_pyIter_enum he h
def iEnumA (K : PySem.W.Frag) (ta : TA) : TI := fun σ H R => ta σ H fun vs H1 => ∃ a xs, vs = [.ref a] ∧ ((SqL K H1 a xs ∧ R (Ite K a) H1) ∨ (SqT K H1 a xs ∧ R (IteT K a) H1))
theorem pi_enumA {X : Cx} {e : Expr} {ta : TA} {p pos tpos : Pos} {elts : List Expr} {kk : Nat} (hg : Gl X "enumerate") (hm : X.mg "enumerate" = none) (ha : PA X [e] ta) (hs : starEach [e] X.env = [(false, eval e X.env)] := by rfl) :
    PI X (.Tuple elts kk tpos) (.Call (.Name "enumerate" p) [e] [] pos) (iEnumA X.K ta) := by
  refine ⟨fun pins s σ H R I h => ?_⟩
  refine Call_ (ld_blt I hg hm boot_enumerate (PyProof.Rows.callWith_type1 (thn (ha.run pos pins s σ H _ I h) fun us s1 ⟨vs, H1, I1, r1, q1⟩ => ?_) hs rfl))
  obtain ⟨a, xs, ex, q⟩ := q1
  subst ex
  cases r1 with
  | cons r rr =>
    cases rr
    cases r
    have hfp : ∀ b, b ∈ [s1.heap.objs.size + 1, s1.heap.objs.size] → s1.heap.objs.size ≤ b := fun b hb => by
      have e' : b = s1.heap.objs.size + 1 ∨ b = s1.heap.objs.size := by simpa using hb
      rcases e' with z | z
      · rw [z]; exact Nat.le_add_right _ _
      · rw [z]; exact Nat.le_refl _
    rcases q with ⟨hq, q⟩ | ⟨hq, q⟩
    · obtain ⟨its, rv, p', hz⟩ := I1.list hq
      refine call_enumerate_list p'.isList fun h' he hit hsz hk => wpAny_pyIter_enum he ?_
      have I2 : Inv X pins σ H1 { s1 with heap := h' } := I1.kept (t' := s1.toks) hk
      exact ⟨s1.heap.objs.size + 1, [s1.heap.objs.size + 1, s1.heap.objs.size], _, _, H1, rfl, I2, turn_enum a (s1.heap.objs.size + 1) s1.heap.objs.size, ⟨⟨.none, he⟩, hit, Nat.succ_ne_self _⟩, fun b hb => I1.fpOk (hfp b hb) (I1.hok.fresh (hfp b hb)), q⟩
    · obtain ⟨its, rv, p', hz⟩ := I1.tuple hq
      refine call_enum1B (begins_tuple a its.toArray) p' fun h' he hit hsz hk => wpAny_pyIter_enum he ?_
      have I2 : Inv X pins σ H1 { s1 with heap := h' } := I1.kept (t' := s1.toks) hk
      exact ⟨s1.heap.objs.size + 1, [s1.heap.objs.size + 1, s1.heap.objs.size], _, _, H1, rfl, I2, turn_enumT a (s1.heap.objs.size + 1) s1.heap.objs.size, ⟨⟨.none, he⟩, ⟨_, hit, rfl, rfl⟩, Nat.succ_ne_self _⟩, fun b hb => I1.fpOk (hfp b hb) (I1.hok.fresh (hfp b hb)), q⟩
end RE
namespace DL
open PySem PySem.Spec PyProof.Rows L2
variable [Lots]
def tyName : D → String
  | .none => "NoneType"
  | .bool _ => "bool"
  | .int _ => "int"
  | .str _ => "str"
  | .list _ => "list"
  | .tuple _ => "tuple"
  | .dict _ => "dict"
def isiTys : List String := ["int", "bool", "str", "tuple", "list", "dict"]
def isiB (t : String) : D → Bool
  | .none => false
  | .bool _ => t == "bool" || t == "int"
  | .int _ => t == "int"
  | .str _ => t == "str"
  | .list _ => t == "list"
  | .tuple _ => t == "tuple"
  | .dict _ => t == "dict"
theorem kitB_all : ∀ a ∈ ["NoneType", "bool", "int", "str", "list", "tuple", "dict"], ∀ t ∈ isiTys, kitB a t = some (t == a || (a == "bool" && t == "int")) := by decide +kernel
theorem isi_tbl (d : D) : ∀ t ∈ isiTys, kitB (tyName d) t = some (isiB t d) := by
  intro t ht
  have h := kitB_all (tyName d) (by cases d <;> simp [tyName]) t ht
  rw [h]
  have : ∀ t ∈ isiTys, (t == "NoneType") = false := by decide
  have h2 := this t ht
  cases d <;> simp_all [tyName, isiB]
theorem tyX_of {K : PySem.W.Frag} {Hf H : Hp} {v : V} {d : D} (s : Fit Hf H) (h : Rp1 K Hf H v d) (hs : isScr d = none) : TyX K H v (.type (tyName d)) := by
  rcases h with h | ⟨a, e, h⟩
  · cases h with
    | non => exact .base .non
    | bl b => exact .base (.bl b)
    | int i => exact .base (.int i)
    | str x => exact .base (.str x)
    | lst h1 _ _ => exact .base (.lst (s.lk _ _ h1 rfl))
    | tup h1 _ _ => exact .base (.tup (s.lk _ _ h1 rfl))
    | dic h1 _ _ => exact .fDict (s.lk _ _ h1 rfl)
    | scr _ _ => simp [scr, isScr] at hs
    | dit _ _ _ => simp [tdD, isScr] at hs
    | kno _ _ _ _ _ => simp [knD, isScr] at hs
  · subst e
    cases d with
    | list ds =>
      obtain ⟨xs, _, h2, _, _⟩ := h
      exact .base (.lst h2)
    | dict ds =>
      rcases h with ⟨xs, _, h2, _, _⟩ | ⟨nds, xs, q, _⟩
      · exact .base (.dK h2)
      · subst q
        simp [isScr] at hs
    | _ => exact h.elim
def dIsi (t : String) (d : D) : R D := match isScr d with
  | some _ => .bad
  | none => .ok (.bool (isiB t d))
section
variable {X : Cx} {C : Pm} {pos p p2 : Pos} {a e : Expr} {es : List Expr} {fa : Env → R D} {fr : Env → R (List D)}
theorem e_isi (hK : C.K = X.K) {t : String} (ht : t ∈ isiTys) (hg : Gl X "isinstance") (hm : X.mg "isinstance" = none) (hgt : Gl X (Str.ofString t)) (hmt : X.mg (Str.ofString t) = none) (hv : bootBuiltins (Str.ofString t) = some (.type t))
    (hn : (Str.ofString t) ≠ "__name__") (hdb : ((Str.ofString t) == ("__debug__" : Str)) = false) (ha : PE X a (tP C fa)) (hs : isStar a = false) :
    PE X (.Call (.Name "isinstance" p) [a, .Name (Str.ofString t) p2] [] pos) (tE C fun ρ => fa ρ >>= dIsi t) := by
  have h1 : PA X [a, .Name (Str.ofString t) p2] (tCons (tP C fa) (tCons (tC (.ty t)) tNil)) := pa_cons ha (pa_cons (pe_bltn (v := .ty t) hgt hmt hv rfl hn hdb) pa_nil) (star_cons hs)
  refine PE.imp (pe_callB call_isi hg hm (by decide +kernel) h1 (by decide) (by decide) (star_cons hs) (noStar_any (by rfl))) fun σ H Q ⟨Hf0, H0, Hf, ρ, env, h⟩ => ⟨Hf0, H0, Hf, ρ, env, h.bind fun dx vx Hf1 H1 _ g1 r1 h1 => ?_⟩
  unfold dIsi at h1
  split at h1
  · exact h1.elim
  · rename_i hn
    exact ⟨vx, .ty t, .type (tyName dx), .type t, isiB t dx, rfl, .ty t, by rw [← hK]; exact tyX_of g1.sub r1 hn, kit_ty (isi_tbl dx t ht), val_bl h1 g1.sub⟩
def spD (K : PySem.W.Frag) (cl : Str → Addr) (n : Nat) (F : List D → R D) : Sp := fun vs H Q E => ∃ (Hf : Hp) (ds : List D), Fit Hf H ∧ RpL K Hf vs ds ∧ ds.length = n ∧ OutG ⟨K, E, cl, false⟩ (RelE ⟨K, E, cl, false⟩) Hf H (F ds) Q
def ari (n : Nat) (F : List D → R D) (ds : List D) : R D := if ds.length = n then F ds else .bad
theorem e_call {k n : Nat} {f : Addr} {fd : FuncData} {ps : List Str} {x : Str} {F : List D → R D} (hK : C.K = X.K) (FO : FnOk X.prog X.w X.K X.mg X.base (L2.CX X.prog X.w) k f fd ps (spD X.K C.cl n F)) (hr : Room k X.A) (hg : Gl X x) (hm : X.mg x = some (.ref f))
    (hk : PySem.W.keepIn X.K (.ref f) = true) (hb : Binds X.K fd ps []) (tk : Takes X fun cls d _ H => C.E cls d H) (ha : PA X (e :: es) (tA C fr)) (hs : (e :: es).all (fun e => !isStar e) = true) (hdb : (x == ("__debug__" : Str)) = false) :
    PE X (.Call (.Name x p) (e :: es) [] pos) (tE C fun ρ => fr ρ >>= ari n F) := by
  have hs' := hs
  simp only [List.all_cons, Bool.and_eq_true, Bool.not_eq_true'] at hs'
  refine PE.imp (pe_call FO hr hg hm hk hb .nil (passes_call tk fun _ _ _ _ h => h) ha hdb (star_cons hs'.1) (noStar_any (by simpa using hs'.2))) fun σ H Q ⟨Hf0, H0, Hf, ρ, env, h⟩ => ⟨Hf0, H0, Hf, ρ, env, h.bind fun ds vs Hf1 H1 _ g1 r1 h1 => ?_⟩
  unfold ari at h1
  split at h1
  · rename_i hl
    obtain ⟨CK, CE, Ccl, Cfr⟩ := C
    cases hK
    rw [List.append_nil]
    exact ⟨Hf1, ds, g1.sub, r1, hl, h1⟩
  · exact h1.elim
def spF (K : PySem.W.Frag) (cl : Str → Addr) (n : Nat) (F : List D → R D) : Sp := fun vs H Q E => ∃ (Hf : Hp) (ds : List D), Fit Hf H ∧ RpL K Hf vs ds ∧ ds.length = n ∧ OutG ⟨K, E, cl, true⟩ (RelF ⟨K, E, cl, true⟩ H) Hf H (F ds) Q
theorem f_call {k n : Nat} {f : Addr} {fd : FuncData} {ps : List Str} {x : Str} {F : List D → R D} (hK : C.K = X.K) (FO : FnOk X.prog X.w X.K X.mg X.base (L2.CX X.prog X.w) k f fd ps (spF X.K C.cl n F)) (hr : Room k X.A) (hg : Gl X x) (hm : X.mg x = some (.ref f))
    (hk : PySem.W.keepIn X.K (.ref f) = true) (hb : Binds X.K fd ps []) (tk : Takes X fun cls d _ H => C.E cls d H) (ha : PA X (e :: es) (tA C fr)) (hs : (e :: es).all (fun e => !isStar e) = true) (hdb : (x == ("__debug__" : Str)) = false) :
    PE X (.Call (.Name x p) (e :: es) [] pos) (tF C fun ρ => fr ρ >>= ari n F) := by
  have hs' := hs
  simp only [List.all_cons, Bool.and_eq_true, Bool.not_eq_true'] at hs'
  refine PE.imp (pe_call FO hr hg hm hk hb .nil (passes_call tk fun _ _ _ _ h => h) ha hdb (star_cons hs'.1) (noStar_any (by simpa using hs'.2))) fun σ H Q ⟨Hf0, H0, Hf, ρ, env, h⟩ => ⟨Hf0, H0, Hf, ρ, env, OutG.bind (show OutG C (RelF C H) Hf H (fr ρ >>= ari n F) Q from h) fun ds vs Hf1 H1 _ g1 r1 h1 => ?_⟩
  unfold ari at h1
  split at h1
  · rename_i hl
    obtain ⟨CK, CE, Ccl, Cfr⟩ := C
    cases hK
    rw [List.append_nil]
    refine ⟨Hf1, ds, g1.sub, r1, hl, ?_⟩
    cases q : F ds with
    | bad => rw [q] at h1; exact h1.elim
    | exc c => rw [q] at h1; exact h1
    | ok d =>
      rw [q] at h1
      intro v Hf2 H2 g2 ⟨a, e, na, o⟩
      exact h1 v Hf2 H2 g2 ⟨a, e, Same.free g1.h na, o⟩
  · exact h1.elim
structure WalkD (K : PySem.W.Frag) (Hf : Hp) (J : It) (ds : List D) : Prop where
  len : ds.length ≤ sizeLine
  goes : ∀ (i : Nat) (H : Hp), i < ds.length → Lk Hf H → J.go i H
  stops : ∀ H, Lk Hf H → J.stop ds.length H
  yields : ∀ (i : Nat) (Hg H H2 : Hp) (x : V) (d : D), ds[i]? = some d → Same Hf Hg → Fit Hg H → J.yld i H x H2 → ∃ Hg2, Grow Hg H Hg2 H2 ∧ Rp K Hg2 x d
abbrev RelI (C : Pm) : Hp → Hp → It → List D → Prop := fun Hf _ J ds => WalkD C.K Hf J ds
abbrev tI (C : Pm) (f : Env → R (List D)) : TI := tG C (RelI C) f
variable {K : PySem.W.Frag} {Hf : Hp}
theorem walkL {a : Addr} {xs : List V} {ds : List D} (h : Hf a = some (.lst xs)) (z : xs.length ≤ sizeLine) (r : RpL K Hf xs ds) : WalkD K Hf (Itl K a) ds := by
  have hl := r.length
  refine ⟨by omega, fun i H hi s => ⟨xs, xs[i], SqL.of ((s _ _ h rfl)), by simp [show i < xs.length by omega]⟩, fun H s => ⟨xs, SqL.of ((s _ _ h rfl)), by omega⟩, fun i Hg H H2 x d hd s1 s2 y => ?_⟩
  obtain ⟨e, q⟩ := y
  subst e
  obtain ⟨v, h1, h2⟩ := r.get hd
  have e2 := q xs (SqL.of (s2.lk _ _ (s1 _ _ h) rfl))
  rw [h1] at e2
  cases e2
  exact ⟨Hg, Grow.refl s2, h2.mono s1⟩
theorem walkT {a : Addr} {xs : List V} {ds : List D} (h : Hf a = some (.tup xs)) (z : xs.length ≤ sizeLine) (r : RpL K Hf xs ds) : WalkD K Hf (Itt K a) ds := by
  have hl := r.length
  refine ⟨by omega, fun i H hi s => ⟨xs, xs[i], SqT.of ((s _ _ h rfl)), by simp [show i < xs.length by omega]⟩, fun H s => ⟨xs, SqT.of ((s _ _ h rfl)), by omega⟩, fun i Hg H H2 x d hd s1 s2 y => ?_⟩
  obtain ⟨e, q⟩ := y
  subst e
  obtain ⟨v, h1, h2⟩ := r.get hd
  have e2 := q xs (SqT.of (s2.lk _ _ (s1 _ _ h) rfl))
  rw [h1] at e2
  cases e2
  exact ⟨Hg, Grow.refl s2, h2.mono s1⟩
def signs (z : Str) : List D := z.cps.toList.map fun c => .str ⟨#[c]⟩
theorem walkS {z : Str} (hz : z.length ≤ sizeLine) : WalkD K Hf (Its z) (signs z) := by
  have hl : (signs z).length = z.cps.size := by simp [signs]
  refine ⟨by rw [hl]; exact hz, fun i H hi s => (by rw [hl] at hi; exact hi), fun H s => (by show z.cps.size ≤ _; rw [hl]; exact Nat.le_refl _), fun i Hg H H2 x d hd s1 s2 y => ?_⟩
  obtain ⟨e, c, h1, h2⟩ := y
  subst e h2
  refine ⟨Hg, Grow.refl s2, ?_⟩
  have e2 : (signs z)[i]? = some (.str ⟨#[c]⟩) := by simp [signs, h1]
  rw [hd] at e2
  cases e2
  exact .str _
def rngD (lo : Int) (n : Nat) : List D := (List.range n).map fun (i : Nat) => .int (lo + i)
theorem walkR {lo : Int} {n : Nat} (hn : n ≤ sizeLine) : WalkD K Hf (Itr lo n) (rngD lo n) := by
  have hl : (rngD lo n).length = n := by simp [rngD]
  refine ⟨by rw [hl]; exact hn, fun i H hi s => (by rw [hl] at hi; exact hi), fun H s => (by show n ≤ _; rw [hl]; exact Nat.le_refl _), fun i Hg H H2 x d hd s1 s2 y => ?_⟩
  obtain ⟨e, h2⟩ := y
  subst e h2
  refine ⟨Hg, Grow.refl s2, ?_⟩
  have hi : i < n := by rw [← hl]; exact (List.getElem?_eq_some_iff.mp hd).1
  have e2 : (rngD lo n)[i]? = some (.int (lo + (i : Nat))) := by simp [rngD, hi]
  rw [hd] at e2
  cases e2
  exact .int _
def pairs (xs ys : List D) : List D := (xs.zip ys).map fun p => .tuple [p.1, p.2]
theorem pairRp {Hg H H2 : Hp} {T : Addr} {x y : V} {d e : D} (s2 : Fit Hg H) (nT : H T = none) (hx : Rp K Hg x d) (hy : Rp K Hg y e) : ∃ Hg2, Grow Hg H Hg2 (upd H T (.tup [x, y])) ∧ Rp K Hg2 (.ref T) (.tuple [d, e]) :=
  ⟨upd Hg T (.tup [x, y]), Grow.push s2 nT, .newT (Same.free s2 nT) (by show 2 ≤ sizeLine; decide) (.cons hx (.cons hy .nil))⟩
theorem pairs_get {xs ys : List D} {i : Nat} {d : D} (h : (pairs xs ys)[i]? = some d) : ∃ a b, xs[i]? = some a ∧ ys[i]? = some b ∧ d = .tuple [a, b] := by
  unfold pairs at h
  rw [List.getElem?_map] at h
  cases e : (xs.zip ys)[i]? with
  | none => rw [e] at h; cases h
  | some p =>
    rw [e] at h
    cases h
    obtain ⟨h1, h2⟩ := List.getElem?_zip_eq_some.mp e
    exact ⟨p.1, p.2, h1, h2, rfl⟩
theorem walkZL {a b : Addr} {xs ys : List V} {ds es : List D} (ha : Hf a = some (.lst xs)) (hb : Hf b = some (.lst ys)) (za : xs.length ≤ sizeLine) (ra : RpL K Hf xs ds) (rb : RpL K Hf ys es) : WalkD K Hf (Itz K a b) (pairs ds es) := by
  have e1 := ra.length
  have e2 := rb.length
  have hl : (pairs ds es).length = min ds.length es.length := by simp [pairs]
  refine ⟨by omega, fun i H hi s => ?_, fun H s => ⟨xs, ys, SqL.of ((s _ _ ha rfl)), SqL.of ((s _ _ hb rfl)), by omega⟩, fun i Hg H H2 x d hd s1 s2 y => ?_⟩
  · exact ⟨xs, ys, xs[i]'(by omega), ys[i]'(by omega), SqL.of ((s _ _ ha rfl)), SqL.of ((s _ _ hb rfl)), by simp, by simp⟩
  · obtain ⟨T, x1, y1, rfl, nT, rfl, q1, q2⟩ := y
    obtain ⟨d1, d2, h1, h2, rfl⟩ := pairs_get hd
    obtain ⟨v1, g1, r1⟩ := ra.get h1
    obtain ⟨v2, g2, r2⟩ := rb.get h2
    have f1 := q1 xs (SqL.of (s2.lk _ _ (s1 _ _ ha) rfl))
    have f2 := q2 ys (SqL.of (s2.lk _ _ (s1 _ _ hb) rfl))
    rw [g1] at f1
    rw [g2] at f2
    cases f1
    cases f2
    exact pairRp (H2 := H) s2 nT (r1.mono s1) (r2.mono s1)
theorem walkZT {a b : Addr} {xs ys : List V} {ds es : List D} (ha : Hf a = some (.tup xs)) (hb : Hf b = some (.tup ys)) (za : xs.length ≤ sizeLine) (ra : RpL K Hf xs ds) (rb : RpL K Hf ys es) : WalkD K Hf (RZ.ItzT K a b) (pairs ds es) := by
  have e1 := ra.length
  have e2 := rb.length
  have hl : (pairs ds es).length = min ds.length es.length := by simp [pairs]
  refine ⟨by omega, fun i H hi s => ?_, fun H s => ⟨xs, ys, SqT.of ((s _ _ ha rfl)), SqT.of ((s _ _ hb rfl)), by omega⟩, fun i Hg H H2 x d hd s1 s2 y => ?_⟩
  · exact ⟨xs, ys, xs[i]'(by omega), ys[i]'(by omega), SqT.of ((s _ _ ha rfl)), SqT.of ((s _ _ hb rfl)), by simp, by simp⟩
  · obtain ⟨T, x1, y1, rfl, nT, rfl, q1, q2⟩ := y
    obtain ⟨d1, d2, h1, h2, rfl⟩ := pairs_get hd
    obtain ⟨v1, g1, r1⟩ := ra.get h1
    obtain ⟨v2, g2, r2⟩ := rb.get h2
    have f1 := q1 xs (SqT.of (s2.lk _ _ (s1 _ _ ha) rfl))
    have f2 := q2 ys (SqT.of (s2.lk _ _ (s1 _ _ hb) rfl))
    rw [g1] at f1
    rw [g2] at f2
    cases f1
    cases f2
    exact pairRp (H2 := H) s2 nT (r1.mono s1) (r2.mono s1)
theorem walkE {a : Addr} {xs : List V} {ds : List D} (ha : Hf a = some (.lst xs)) (za : xs.length ≤ sizeLine) (ra : RpL K Hf xs ds) : WalkD K Hf (Ite K a) (pairs (rngD 0 ds.length) ds) := by
  have e1 := ra.length
  have hl : (pairs (rngD 0 ds.length) ds).length = ds.length := by simp [pairs, rngD]
  refine ⟨by omega, fun i H hi s => ?_, fun H s => ⟨xs, SqL.of ((s _ _ ha rfl)), by omega⟩, fun i Hg H H2 x d hd s1 s2 y => ?_⟩
  · exact ⟨xs, xs[i]'(by omega), SqL.of ((s _ _ ha rfl)), by simp⟩
  · obtain ⟨T, x1, rfl, nT, rfl, q1⟩ := y
    obtain ⟨d1, d2, h1, h2, rfl⟩ := pairs_get hd
    obtain ⟨v2, g2, r2⟩ := ra.get h2
    have f2 := q1 xs (SqL.of (s2.lk _ _ (s1 _ _ ha) rfl))
    rw [g2] at f2
    cases f2
    have hi : i < ds.length := (List.getElem?_eq_some_iff.mp h2).1
    have e3 : (rngD 0 ds.length)[i]? = some (.int (i : Nat)) := by simp [rngD, hi]
    rw [h1] at e3
    cases e3
    exact pairRp (H2 := H) s2 nT (.int _) (r2.mono s1)
theorem walkET {a : Addr} {xs : List V} {ds : List D} (ha : Hf a = some (.tup xs)) (za : xs.length ≤ sizeLine) (ra : RpL K Hf xs ds) : WalkD K Hf (RE.IteT K a) (pairs (rngD 0 ds.length) ds) := by
  have e1 := ra.length
  have hl : (pairs (rngD 0 ds.length) ds).length = ds.length := by simp [pairs, rngD]
  refine ⟨by omega, fun i H hi s => ?_, fun H s => ⟨xs, SqT.of ((s _ _ ha rfl)), by omega⟩, fun i Hg H H2 x d hd s1 s2 y => ?_⟩
  · exact ⟨xs, xs[i]'(by omega), SqT.of ((s _ _ ha rfl)), by simp⟩
  · obtain ⟨T, x1, rfl, nT, rfl, q1⟩ := y
    obtain ⟨d1, d2, h1, h2, rfl⟩ := pairs_get hd
    obtain ⟨v2, g2, r2⟩ := ra.get h2
    have f2 := q1 xs (SqT.of (s2.lk _ _ (s1 _ _ ha) rfl))
    rw [g2] at f2
    cases f2
    have hi : i < ds.length := (List.getElem?_eq_some_iff.mp h2).1
    have e3 : (rngD 0 ds.length)[i]? = some (.int (i : Nat)) := by simp [rngD, hi]
    rw [h1] at e3
    cases e3
    exact pairRp (H2 := H) s2 nT (.int _) (r2.mono s1)
def dKeysN : List (D × D) → R (List D)
  | [(.none, .dict nds)] => .ok (nds.map (·.1))
  | _ => .bad
def dItems : D → R (List D)
  | .list ds => .ok ds
  | .tuple ds => .ok ds
  | .str z => if z.length ≤ sizeLine then .ok (signs z) else .bad
  | .dict kds => if dkB kds then .ok (kds.map (·.1)) else dKeysN kds
  | _ => .bad
theorem RpN.get {K : PySem.W.Frag} {H : Hp} : ∀ {xs : List NE} {nds : List (D × D)} {i : Nat} {kd : D × D}, RpN K H xs nds → nds[i]? = some kd → ∃ y v, xs[i]? = some y ∧ Rp K H (.ref y.2.1) kd.1 ∧ RelV v y.2.2 ∧ Rp K H v kd.2
  | _, _, _, _, .nil, e => by simp at e
  | _, _, 0, _, .cons hb kt rv hv r, e => by
    simp only [List.getElem?_cons_zero, Option.some.injEq] at e
    subst e
    exact ⟨_, _, rfl, hb, rv, hv⟩
  | _, _, i + 1, _, .cons hb kt rv hv r, e => by
    simp only [List.getElem?_cons_succ] at e ⊢
    exact RpN.get r e
theorem walkN {a : Addr} {ob : Obj} {xs : List NE} {nds : List (D × D)} (h : Hf a = some (.frz ob (NDO Lots.w a xs))) (z : xs.length ≤ sizeLine) (r : RpN K Hf xs nds) : WalkD K Hf (Itkn a ob xs) (nds.map (·.1)) := by
  have hl := r.length
  refine ⟨by rw [List.length_map]; omega, fun i H hi s => ⟨(s _ _ h rfl), by rw [List.length_map] at hi; omega⟩, fun H s => ⟨(s _ _ h rfl), by rw [List.length_map]; omega⟩, fun i Hg H H2 x d hd s1 s2 y => ?_⟩
  obtain ⟨e, y, q1, q2⟩ := y
  subst e
  rw [List.getElem?_map] at hd
  obtain ⟨kd, hkd, rfl⟩ := Option.map_eq_some_iff.mp hd
  obtain ⟨y', v', h1, h2, h3⟩ := r.get hkd
  rw [q1] at h1
  cases h1
  subst q2
  exact ⟨Hg, Grow.refl s2, h2.mono s1⟩
theorem RpN.vals {K : PySem.W.Frag} {H : Hp} : ∀ {xs : List NE} {nds : List (D × D)}, RpN K H xs nds → ∃ vs : List V, Paired (fun (y : NE) (v : V) => RelV v y.2.2) xs vs ∧ RpL K H vs (nds.map (·.2))
  | _, _, .nil => ⟨[], .nil, .nil⟩
  | _, _, .cons hb kt rv hv r => by
    obtain ⟨vs, h1, h2⟩ := RpN.vals r
    exact ⟨_ :: vs, .cons rv h1, .cons hv h2⟩
theorem walkItN {a : Addr} {ob : Obj} {xs : List NE} {nds : List (D × D)} {vs : List V} (h : Hf a = some (.frz ob (NDO Lots.w a xs))) (z : xs.length ≤ sizeLine) (r : RpN K Hf xs nds) (hp : Paired (fun (y : NE) (v : V) => RelV v y.2.2) xs vs) (rv : RpL K Hf vs (nds.map (·.2))) : WalkD K Hf (Itin a ob xs vs) (nds.map fun kv => .tuple [kv.1, kv.2]) := by
  have hl := r.length
  refine ⟨by rw [List.length_map]; omega, fun i H hi s => ⟨(s _ _ h rfl), by rw [List.length_map] at hi; omega, hp⟩, fun H s => ⟨(s _ _ h rfl), by rw [List.length_map]; omega⟩, fun i Hg H H2 x d hd s1 s2 y => ?_⟩
  obtain ⟨T, y, v, q1, q2, q3, q4, q5⟩ := y
  subst q3 q5
  rw [List.getElem?_map] at hd
  obtain ⟨kd, hkd, rfl⟩ := Option.map_eq_some_iff.mp hd
  obtain ⟨y', v', h1, h2, h3⟩ := r.get hkd
  rw [q1] at h1
  cases h1
  obtain ⟨d2, e2, r2⟩ := rv.get' q2
  rw [List.getElem?_map, hkd] at e2
  cases e2
  have nf : Hg T = none := Same.free s2 q4
  exact ⟨_, Grow.push s2 q4, .newT nf (by rw [sizeLine_eq]; simp) (.cons (h2.mono s1) (.cons (r2.mono s1) .nil))⟩
theorem walkK {a : Addr} {ob : Obj} {kvs : List (Key × V)} {kds : List (D × D)} (h : Hf a = some (.frz ob (.dK kvs))) (z : kvs.length ≤ sizeLine) (r : RpK K Hf kvs kds) : WalkD K Hf (Itk a ob kvs) (kds.map (·.1)) := by
  have hl := r.length
  refine ⟨by rw [List.length_map]; omega, fun i H hi s => ⟨(s _ _ h rfl), by rw [List.length_map] at hi; omega⟩, fun H s => ⟨(s _ _ h rfl), by rw [List.length_map]; omega⟩, fun i Hg H H2 x d hd s1 s2 y => ?_⟩
  obtain ⟨e, k, v, q1, q2⟩ := y
  subst e
  rw [List.getElem?_map] at hd
  obtain ⟨kd, hkd, rfl⟩ := Option.map_eq_some_iff.mp hd
  obtain ⟨k', v', h1, h2, h3⟩ := r.get hkd
  rw [q1] at h1
  cases h1
  subst q2
  rw [h2]
  exact ⟨Hg, Grow.refl s2, by cases k <;> constructor⟩
theorem walkIt {a : Addr} {ob : Obj} {kvs : List (Key × V)} {kds : List (D × D)} (h : Hf a = some (.frz ob (.dK kvs))) (z : kvs.length ≤ sizeLine) (r : RpK K Hf kvs kds) : WalkD K Hf (Iti a ob kvs) (kds.map fun kv => .tuple [kv.1, kv.2]) := by
  have hl := r.length
  refine ⟨by rw [List.length_map]; omega, fun i H hi s => ⟨(s _ _ h rfl), by rw [List.length_map] at hi; omega⟩, fun H s => ⟨(s _ _ h rfl), by rw [List.length_map]; omega⟩, fun i Hg H H2 x d hd s1 s2 y => ?_⟩
  obtain ⟨T, k, v, q1, q2, q3, q4⟩ := y
  subst q2 q4
  rw [List.getElem?_map] at hd
  obtain ⟨kd, hkd, rfl⟩ := Option.map_eq_some_iff.mp hd
  obtain ⟨k', v', h1, h2, h3⟩ := r.get hkd
  rw [q1] at h1
  cases h1
  have nf : Hg T = none := Same.free s2 q3
  refine ⟨_, Grow.push s2 q3, .newT nf (by rw [sizeLine_eq]; simp) (.cons ?_ (.cons (h3.mono s1) .nil))⟩
  rw [h2]
  cases k <;> constructor
variable {tg : Expr}
theorem PI.or {t u : TI} (h : PI X tg e t) (h' : PI X tg e u) : PI X tg e (fun σ H R => t σ H R ∨ u σ H R) := ⟨fun pins s σ H R I hw => hw.elim (h.run pins s σ H R I) (h'.run pins s σ H R I)⟩
theorem i_any (hK : C.K = X.K) (ha : PE X a (tE C fa)) : PI X tg a (tI C fun ρ => fa ρ >>= dItems) := by
  refine PI.imp (PI.or (pi_list ha) (PI.or (pi_tup ha) (PI.or (pi_str ha) (PI.or (pi_keys ha) (pi_keysN ha))))) fun σ H Rr ⟨Hf0, H0, Hf, ρ, env, h⟩ => ?_
  have h : OutG C (RelI C) Hf H (fa ρ >>= dItems) Rr := h
  cases e1 : fa ρ with
  | bad => rw [e1] at h; exact h.elim
  | exc c => rw [e1] at h; exact .inl ⟨Hf0, H0, Hf, ρ, env, by rw [e1]; exact h⟩
  | ok d =>
    rw [e1] at h
    cases d with
    | list ds =>
      refine .inl ⟨Hf0, H0, Hf, ρ, env, ?_⟩
      rw [e1]
      intro v Hf1 H1 g r
      cases r with
      | lst h1 h2 h3 => exact ⟨_, rfl, ⟨_, SqL.of ((g.sub.lk _ _ h1 rfl))⟩, by rw [← hK]; exact h _ Hf1 H1 g (walkL h1 h2 h3)⟩
    | tuple ds =>
      refine .inr (.inl ⟨Hf0, H0, Hf, ρ, env, ?_⟩)
      rw [e1]
      intro v Hf1 H1 g r
      cases r with
      | tup h1 h2 h3 => exact ⟨_, rfl, ⟨_, SqT.of ((g.sub.lk _ _ h1 rfl))⟩, by rw [← hK]; exact h _ Hf1 H1 g (walkT h1 h2 h3)⟩
    | dict kds =>
      have h : OutG C (RelI C) Hf H (dItems (.dict kds)) Rr := h
      by_cases hk : dkB kds = true
      · refine .inr (.inr (.inr (.inl ⟨Hf0, H0, Hf, ρ, env, ?_⟩)))
        rw [e1]
        intro v Hf1 H1 g r
        have e2 : dItems (.dict kds) = .ok (kds.map (·.1)) := by simp only [dItems, hk, if_true]
        rw [e2] at h
        generalize e : (PyData.dict kds : D) = z at r
        cases r with
        | scr h1 h2 =>
          cases e
          simp [dkB, keyOfD] at hk
        | dit _ _ _ =>
          cases e
          simp [dkB, keyOfD] at hk
        | kno _ _ _ _ _ =>
          cases e
          simp [dkB, keyOfD] at hk
        | dic h1 h2 h3 =>
          cases e
          exact ⟨_, _, rfl, .inl ⟨_, (g.sub.lk _ _ h1 rfl), h _ Hf1 H1 g (walkK h1 h2 h3)⟩⟩
        | _ => cases e
      · have e2 : dItems (.dict kds) = dKeysN kds := by simp [dItems, hk]
        rw [e2] at h
        unfold dKeysN at h
        split at h
        · refine .inr (.inr (.inr (.inr ⟨Hf0, H0, Hf, ρ, env, ?_⟩)))
          rw [e1]
          intro v Hf1 H1 g r
          obtain ⟨a, ob, xs, rfl, h1, h2, h3⟩ := r.nd_
          exact ⟨_, _, _, rfl, (g.sub.lk _ _ h1 rfl), h _ Hf1 H1 g (walkN h1 h2 h3)⟩
        · exact h.elim
    | str z =>
      refine .inr (.inr (.inl ⟨Hf0, H0, Hf, ρ, env, ?_⟩))
      rw [e1]
      intro v Hf1 H1 g r
      cases r
      by_cases hz : z.length ≤ sizeLine
      · have h' : OutG C (RelI C) Hf H (R.ok (signs z)) Rr := by
          have e2 : (R.ok (PyData.str z) >>= dItems : DL.R (List D)) = .ok (signs z) := by show dItems (.str z) = _; simp [dItems, hz]
          rw [← e2]; exact h
        exact ⟨z, rfl, h' _ Hf1 H1 g (walkS hz)⟩
      · have e2 : (R.ok (PyData.str z) >>= dItems : DL.R (List D)) = .bad := by show dItems (.str z) = _; simp [dItems, hz]
        exact (show OutG C (RelI C) Hf H R.bad Rr by rw [← e2]; exact h).elim
    | _ => exact h.elim
def dRng1 : List D → R (List D)
  | [.int j] => if j ≤ 1000000 && decide (-1000000 ≤ j) then .ok (rngD 0 j.toNat) else .bad
  | _ => .bad
def dRng2 : List D → R (List D)
  | [.int i, .int j] => if decide (j ≤ 1000000) && decide (-1000000 ≤ j) && decide (i ≤ 1000000) && decide (-1000000 ≤ i) then .ok (rngD i (j - i).toNat) else .bad
  | _ => .bad
variable {b : Expr}
theorem i_rng1 (hg : Gl X "range") (hm : X.mg "range" = none) (ha : PA X [a] (tPA C fr)) (hs : isStar a = false) : PI X tg (.Call (.Name "range" p) [a] [] pos) (tI C fun ρ => fr ρ >>= dRng1) :=
  PI.imp (pi_range1 hg hm ha (by rw [star_cons hs]; rfl)) fun σ H Rr ⟨Hf0, H0, Hf, ρ, env, h⟩ => ⟨Hf0, H0, Hf, ρ, env, h.bind fun ds vs Hf1 H1 _ g1 r1 h1 => by
    unfold dRng1 at h1
    split at h1
    · split at h1
      · rename_i hj
        simp only [Bool.and_eq_true, decide_eq_true_eq] at hj
        obtain ⟨v, rfl, hv⟩ := r1.one
        obtain rfl := hv.int_
        exact ⟨_, rfl, by omega, by omega, h1 _ Hf1 H1 (Grow.refl g1.sub) (walkR (by rw [sizeLine_eq]; omega))⟩
      · exact h1.elim
    · exact h1.elim⟩
theorem i_rng2 (hg : Gl X "range") (hm : X.mg "range" = none) (ha : PA X [a, b] (tPA C fr)) (hs : isStar a = false) (hs2 : isStar b = false) : PI X tg (.Call (.Name "range" p) [a, b] [] pos) (tI C fun ρ => fr ρ >>= dRng2) :=
  PI.imp (pi_range2 hg hm ha (by rw [star_cons hs, star_cons hs2]; rfl) (by rw [star_cons hs2]; rfl)) fun σ H Rr ⟨Hf0, H0, Hf, ρ, env, h⟩ => ⟨Hf0, H0, Hf, ρ, env, h.bind fun ds vs Hf1 H1 _ g1 r1 h1 => by
    unfold dRng2 at h1
    split at h1
    · split at h1
      · rename_i hj
        simp only [Bool.and_eq_true, decide_eq_true_eq] at hj
        obtain ⟨v, w, rfl, hv, hw⟩ := r1.two
        obtain rfl := hv.int_
        obtain rfl := hw.int_
        exact ⟨_, _, rfl, ⟨by omega, by omega, by omega, by omega⟩, h1 _ Hf1 H1 (Grow.refl g1.sub) (walkR (by rw [sizeLine_eq]; omega))⟩
      · exact h1.elim
    · exact h1.elim⟩
def dRng3 : List D → R (List D)
  | [.int i, .int j, .int c] => if decide (c ≠ 0) && decide (c.natAbs < 1073741824) && Builtin.Range.small i j c && decide (0 ≤ Builtin.Range.rangeSize i j c) && decide (Builtin.Range.rangeSize i j c ≤ 1000) then .ok ((List.range (Builtin.Range.rangeSize i j c).toNat).map fun (k : Nat) => .int (i + k * c)) else .bad
  | _ => .bad
theorem walkR3 {K : PySem.W.Frag} {Hf : Hp} {lo c : Int} {n : Nat} (hn : n ≤ sizeLine) : WalkD K Hf (Itc lo c n) ((List.range n).map fun (k : Nat) => .int (lo + k * c)) := by
  have hl : ((List.range n).map fun (k : Nat) => (PyData.int (lo + k * c) : D)).length = n := by simp
  refine ⟨by rw [hl]; exact hn, fun i H hi s => (by rw [hl] at hi; exact hi), fun H s => (by show n ≤ _; rw [hl]; exact Nat.le_refl _), fun i Hg H H2 x d hd s1 s2 y => ?_⟩
  obtain ⟨e, h2⟩ := y
  subst e h2
  refine ⟨Hg, Grow.refl s2, ?_⟩
  have hi : i < n := by rw [← hl]; exact (List.getElem?_eq_some_iff.mp hd).1
  have e2 : ((List.range n).map fun (k : Nat) => (PyData.int (lo + k * c) : D))[i]? = some (.int (lo + (i : Nat) * c)) := by simp [hi]
  rw [hd] at e2
  cases e2
  exact .int _
theorem Rp1L.three {K : PySem.W.Frag} {Hf H : Hp} {vs : List V} {d e f : D} (h : Rp1L K Hf H vs [d, e, f]) : ∃ v w u, vs = [v, w, u] ∧ Rp1 K Hf H v d ∧ Rp1 K Hf H w e ∧ Rp1 K Hf H u f := by
  cases h with
  | cons h r =>
    cases r with
    | cons h2 r => cases r with
      | cons h3 r => cases r; exact ⟨_, _, _, rfl, h, h2, h3⟩
theorem i_rng3 {a b c : Expr} (hg : Gl X "range") (hm : X.mg "range" = none) (ha : PA X [a, b, c] (tPA C fr)) (hs : isStar a = false) (hs2 : isStar b = false) (hs3 : isStar c = false) : PI X tg (.Call (.Name "range" p) [a, b, c] [] pos) (tI C fun ρ => fr ρ >>= dRng3) :=
  PI.imp (pi_range3 hg hm ha (by rw [star_cons hs]) (by rw [star_cons hs2, star_cons hs3]; rfl)) fun σ H Rr ⟨Hf0, H0, Hf, ρ, env, h⟩ => ⟨Hf0, H0, Hf, ρ, env, h.bind fun ds vs Hf1 H1 _ g1 r1 h1 => by
    unfold dRng3 at h1
    split at h1
    · split at h1
      · rename_i hj
        simp only [Bool.and_eq_true, decide_eq_true_eq] at hj
        obtain ⟨⟨⟨⟨q1, q2⟩, q3⟩, q4⟩, q5⟩ := hj
        obtain ⟨v, w, u, rfl, hv, hw, hu⟩ := r1.three
        obtain rfl := hv.int_
        obtain rfl := hw.int_
        obtain rfl := hu.int_
        exact ⟨_, _, _, _, rfl, ⟨q1, q2, q3, (Int.toNat_of_nonneg q4).symm⟩, h1 _ Hf1 H1 (Grow.refl g1.sub) (walkR3 (by rw [sizeLine_eq]; omega))⟩
      · exact h1.elim
    · exact h1.elim⟩
theorem RpL.two {K : PySem.W.Frag} {H : Hp} {vs : List V} {d e : D} (h : RpL K H vs [d, e]) : ∃ v w, vs = [v, w] ∧ Rp K H v d ∧ Rp K H w e := by
  cases h with
  | cons h r =>
    cases r with
    | cons h2 r => cases r; exact ⟨_, _, rfl, h, h2⟩
theorem RpL.one {K : PySem.W.Frag} {H : Hp} {vs : List V} {d : D} (h : RpL K H vs [d]) : ∃ v, vs = [v] ∧ Rp K H v d := by
  cases h with
  | cons h r => cases r; exact ⟨_, rfl, h⟩
def dZip : List D → R (List D)
  | [.list xs, .list ys] => .ok (pairs xs ys)
  | [.tuple xs, .tuple ys] => .ok (pairs xs ys)
  | _ => .bad
theorem i_zip {elts : List Expr} {kk : Nat} {tpos : Pos} (hK : C.K = X.K) (hg : Gl X "zip") (hm : X.mg "zip" = none) (ha : PA X [a, b] (tA C fr)) (hs : isStar a = false) (hs2 : isStar b = false) : PI X (.Tuple elts kk tpos) (.Call (.Name "zip" p) [a, b] [] pos) (tI C fun ρ => fr ρ >>= dZip) :=
  PI.imp (RZ.pi_zipA hg hm ha (star_cons hs) (noStar_any (by simp [hs2]))) fun σ H Rr ⟨Hf0, H0, Hf, ρ, env, h⟩ => ⟨Hf0, H0, Hf, ρ, env, h.bind fun ds vs Hf1 H1 _ g1 r1 h1 => by
    unfold dZip at h1
    split at h1
    · obtain ⟨v, w, rfl, hv, hw⟩ := r1.two
      cases hv with
      | lst a1 a2 a3 =>
        cases hw with
        | lst b1 b2 b3 => exact ⟨_, _, _, _, rfl, .inl ⟨SqL.of ((g1.sub.lk _ _ a1 rfl)), SqL.of ((g1.sub.lk _ _ b1 rfl)), by rw [← hK]; exact h1 _ Hf1 H1 (Grow.refl g1.sub) (walkZL a1 b1 a2 a3 b3)⟩⟩
    · obtain ⟨v, w, rfl, hv, hw⟩ := r1.two
      cases hv with
      | tup a1 a2 a3 =>
        cases hw with
        | tup b1 b2 b3 => exact ⟨_, _, _, _, rfl, .inr ⟨SqT.of ((g1.sub.lk _ _ a1 rfl)), SqT.of ((g1.sub.lk _ _ b1 rfl)), by rw [← hK]; exact h1 _ Hf1 H1 (Grow.refl g1.sub) (walkZT a1 b1 a2 a3 b3)⟩⟩
    · exact h1.elim⟩
def dEnum : List D → R (List D)
  | [.list xs] => .ok (pairs (rngD 0 xs.length) xs)
  | [.tuple xs] => .ok (pairs (rngD 0 xs.length) xs)
  | _ => .bad
theorem i_enum {elts : List Expr} {kk : Nat} {tpos : Pos} (hK : C.K = X.K) (hg : Gl X "enumerate") (hm : X.mg "enumerate" = none) (ha : PA X [a] (tA C fr)) (hs : isStar a = false) : PI X (.Tuple elts kk tpos) (.Call (.Name "enumerate" p) [a] [] pos) (tI C fun ρ => fr ρ >>= dEnum) :=
  PI.imp (RE.pi_enumA hg hm ha (by rw [star_cons hs]; rfl)) fun σ H Rr ⟨Hf0, H0, Hf, ρ, env, h⟩ => ⟨Hf0, H0, Hf, ρ, env, h.bind fun ds vs Hf1 H1 _ g1 r1 h1 => by
    unfold dEnum at h1
    split at h1
    · obtain ⟨v, rfl, hv⟩ := r1.one
      cases hv with
      | lst a1 a2 a3 => exact ⟨_, _, rfl, .inl ⟨SqL.of ((g1.sub.lk _ _ a1 rfl)), by rw [← hK]; exact h1 _ Hf1 H1 (Grow.refl g1.sub) (walkE a1 a2 a3)⟩⟩
    · obtain ⟨v, rfl, hv⟩ := r1.one
      cases hv with
      | tup a1 a2 a3 => exact ⟨_, _, rfl, .inr ⟨SqT.of ((g1.sub.lk _ _ a1 rfl)), by rw [← hK]; exact h1 _ Hf1 H1 (Grow.refl g1.sub) (walkET a1 a2 a3)⟩⟩
    · exact h1.elim⟩
end
end DL
namespace DL
open PySem PySem.Spec PyProof.Rows L2
variable [Lots]
section
variable {X : Cx} {C : Pm}
theorem rgV_0 (n : Int) : rgV 0 n = (List.range n.toNat).map fun (i : Nat) => V.int i := by
  unfold rgV
  rw [Int.sub_zero]
  refine List.map_congr_left fun i _ => ?_
  rw [Int.zero_add]
theorem rpl_rng {K : PySem.W.Frag} {H : Hp} : ∀ l : List Nat, RpL K H (l.map fun (i : Nat) => V.int i) (l.map fun (i : Nat) => (.int i : D))
  | [] => .nil
  | i :: l => .cons (.int _) (rpl_rng l)
theorem rngD_0 (n : Nat) : rngD 0 n = (List.range n).map fun (i : Nat) => (.int i : D) := by
  unfold rngD
  refine List.map_congr_left fun i _ => ?_
  rw [Int.zero_add]
theorem f_lrng {a : Expr} {fa : Env → R D} {p p2 q2 q : Pos} (hc : X.calm = true) (hg : Gl X "list") (hm : X.mg "list" = none) (hg2 : Gl X "range") (hm2 : X.mg "range" = none) (ha : PE X a (tP C fa)) (hs : isStar a = false) :
    PE X (.Call (.Name "list" p) [.Call (.Name "range" p2) [a] [] q2] [] q) (tF C fun ρ => (fa ρ >>= fun d => dRng1 [d]) >>= fun xs => .ok (.list xs)) := by
  refine PE.imp (pe_listRg hc hg hm (prg_1 hg2 hm2 ha (by rw [star_cons hs])) (by rw [star_cons rfl])) fun σ H Q ⟨Hf0, H0, Hf, ρ, env, h⟩ => ⟨Hf0, H0, Hf, ρ, env, OutG.bind (show OutG C (RelF C H) Hf H (fa ρ >>= fun d => (dRng1 [d] >>= fun xs => .ok (.list xs))) Q from ?_) fun d v Hf1 H1 _ g1 r1 h1 => ?_⟩
  · have h : OutG C (RelF C H) Hf H ((fa ρ >>= fun d => dRng1 [d]) >>= fun xs => .ok (.list xs)) Q := h
    cases e : fa ρ with
    | ok d => rw [e] at h; exact h
    | bad => rw [e] at h; exact h
    | exc c => rw [e] at h; exact h
  · unfold dRng1 at h1
    split at h1
    · rename_i j ej
      cases ej
      split at h1
      · rename_i hj
        simp only [Bool.and_eq_true, decide_eq_true_eq] at hj
        obtain rfl := r1.int_
        refine ⟨_, rfl, ⟨by omega, by omega, by omega, by omega, by omega⟩, fun y ny => ?_⟩
        have h1 : OutG C (RelF C H) Hf1 H1 (R.ok (.list (rngD 0 j.toNat))) Q := h1
        have hr : RpL C.K Hf1 (rgV 0 j) (rngD 0 j.toNat) := by rw [rgV_0, rngD_0]; exact rpl_rng _
        have hl : (rgV 0 j).length ≤ sizeLine := by rw [rgV_length, sizeLine_eq]; omega
        exact h1 _ Hf1 _ (Grow.side g1.sub ny) ⟨y, rfl, Same.free g1.h ny, ownL g1.sub ny hl hr⟩
      · exact h1.elim
    · exact h1.elim
end
end DL
namespace DL
open PySem PySem.Spec PyProof.Rows L2
variable [Lots]
theorem EnvR.put {K : PySem.W.Frag} {Hf0 H0 Hf H : Hp} {σ : L2.St} {ρ : Env} {i : Nat} {v : V} {d : D} (e : EnvR K Hf0 H0 Hf H σ ρ) (r : Rp K Hf v d) : EnvR K Hf0 H0 Hf H (σ.set i (some v)) (ρ.set i (.va d)) := by
  refine ⟨e.grow, by rw [List.length_set, List.length_set]; exact e.len, fun j s w h1 h2 => ?_, fun j k d1 d2 a h1 h2 h3 h4 => ?_⟩
  · by_cases q : i = j
    · subst q
      have l1 : i < ρ.length := by simpa using (List.getElem?_eq_some_iff.mp h1).1
      have l2 : i < σ.length := by simpa using (List.getElem?_eq_some_iff.mp h2).1
      rw [List.getElem?_set_self l1] at h1
      rw [List.getElem?_set_self l2] at h2
      cases h1
      cases h2
      exact ⟨v, rfl, r⟩
    · rw [List.getElem?_set_ne q] at h1 h2
      exact e.slot j s w h1 h2
  · have nj : i ≠ j := fun q => by
      subst q
      have l1 : i < ρ.length := by simpa using (List.getElem?_eq_some_iff.mp h1).1
      rw [List.getElem?_set_self l1] at h1
      cases h1
    have nk : i ≠ k := fun q => by
      subst q
      have l1 : i < ρ.length := by simpa using (List.getElem?_eq_some_iff.mp h2).1
      rw [List.getElem?_set_self l1] at h2
      cases h2
    rw [List.getElem?_set_ne nj] at h1 h3
    rw [List.getElem?_set_ne nk] at h2 h4
    exact e.dis j k d1 d2 a h1 h2 h3 h4
theorem EnvR.putOwn {K : PySem.W.Frag} {Hf0 H0 Hf H : Hp} {σ : L2.St} {ρ : Env} {i : Nat} {a : Addr} {d : D} (e : EnvR K Hf0 H0 Hf H σ ρ) (o : OwnAt K Hf H a d) (n0 : H0 a = none)
    (nw : ∀ (j : Nat) (e : D), ρ[j]? = some (.ow e) → σ[j]? ≠ some (some (.ref a))) : EnvR K Hf0 H0 Hf H (σ.set i (some (.ref a))) (ρ.set i (.ow d)) := by
  refine ⟨e.grow, by rw [List.length_set, List.length_set]; exact e.len, fun j s w h1 h2 => ?_, fun j k d1 d2 b h1 h2 h3 h4 => ?_⟩
  · by_cases q : i = j
    · subst q
      have l1 : i < ρ.length := by simpa using (List.getElem?_eq_some_iff.mp h1).1
      have l2 : i < σ.length := by simpa using (List.getElem?_eq_some_iff.mp h2).1
      rw [List.getElem?_set_self l1] at h1
      rw [List.getElem?_set_self l2] at h2
      cases h1
      cases h2
      exact ⟨a, rfl, o, n0⟩
    · rw [List.getElem?_set_ne q] at h1 h2
      exact e.slot j s w h1 h2
  · by_cases qj : i = j
    · by_cases qk : i = k
      · omega
      · exfalso
        subst qj
        rw [List.getElem?_set_ne qk] at h2 h4
        have l2 : i < σ.length := by simpa using (List.getElem?_eq_some_iff.mp h3).1
        rw [List.getElem?_set_self l2] at h3
        cases h3
        exact nw k d2 h2 h4
    · by_cases qk : i = k
      · exfalso
        subst qk
        rw [List.getElem?_set_ne qj] at h1 h3
        have l2 : i < σ.length := by simpa using (List.getElem?_eq_some_iff.mp h4).1
        rw [List.getElem?_set_self l2] at h4
        cases h4
        exact nw j d1 h1 h3
      · rw [List.getElem?_set_ne qj] at h1 h3
        rw [List.getElem?_set_ne qk] at h2 h4
        exact e.dis j k d1 d2 b h1 h2 h3 h4
theorem EnvR.notOwn {K : PySem.W.Frag} {Hf0 H0 Hf H : Hp} {σ : L2.St} {ρ : Env} {a : Addr} (e : EnvR K Hf0 H0 Hf H σ ρ) (na : H a = none) : ∀ (j : Nat) (d : D), ρ[j]? = some (.ow d) → σ[j]? ≠ some (some (.ref a)) := by
  intro j d h1 h2
  obtain ⟨b, h3, h4, _⟩ := e.slot j _ _ h1 h2
  cases h3
  obtain ⟨u, q⟩ := h4.there
  rw [na] at q
  cases q
theorem EnvR.un {K : PySem.W.Frag} {Hf0 H0 Hf H : Hp} {σ : L2.St} {ρ : Env} {i : Nat} {v : Option V} (e : EnvR K Hf0 H0 Hf H σ ρ) : EnvR K Hf0 H0 Hf H (σ.set i v) (ρ.set i .un) := by
  refine ⟨e.grow, by rw [List.length_set, List.length_set]; exact e.len, fun j s w h1 h2 => ?_, fun j k d1 d2 b h1 h2 h3 h4 => ?_⟩
  · by_cases q : i = j
    · subst q
      have l1 : i < ρ.length := by simpa using (List.getElem?_eq_some_iff.mp h1).1
      rw [List.getElem?_set_self l1] at h1
      cases h1
      trivial
    · rw [List.getElem?_set_ne q] at h1 h2
      exact e.slot j s w h1 h2
  · have nj : i ≠ j := fun q => by
      subst q
      have l1 : i < ρ.length := by simpa using (List.getElem?_eq_some_iff.mp h1).1
      rw [List.getElem?_set_self l1] at h1
      cases h1
    have nk : i ≠ k := fun q => by
      subst q
      have l1 : i < ρ.length := by simpa using (List.getElem?_eq_some_iff.mp h2).1
      rw [List.getElem?_set_self l1] at h2
      cases h2
    rw [List.getElem?_set_ne nj] at h1 h3
    rw [List.getElem?_set_ne nk] at h2 h4
    exact e.dis j k d1 d2 b h1 h2 h3 h4
def wipeR (ρ : Env) : List Nat → Env
  | [] => ρ
  | v :: vs => (wipeR ρ vs).set v .un
theorem EnvR.wipe {K : PySem.W.Frag} {Hf0 H0 Hf H : Hp} {σ : L2.St} {ρ : Env} (e : EnvR K Hf0 H0 Hf H σ ρ) : ∀ vs, EnvR K Hf0 H0 Hf H (L2.wipe σ vs) (wipeR ρ vs)
  | [] => e
  | v :: vs => (EnvR.wipe e vs).un
theorem wipe_get (σ : L2.St) (j : Nat) : ∀ vs, (L2.wipe σ vs)[j]? = if j ∈ vs then (σ[j]?).map (fun _ => none) else σ[j]?
  | [] => by simp [L2.wipe]
  | v :: vs => by
    unfold L2.wipe
    by_cases q : v = j
    · subst q
      rw [List.getElem?_set]
      simp only [if_pos rfl, L2.wipe_length, List.mem_cons_self, if_true]
      by_cases hl : v < σ.length
      · simp [hl, List.getElem?_eq_getElem hl]
      · simp [hl, List.getElem?_eq_none (by omega : σ.length ≤ v)]
    · rw [List.getElem?_set_ne q, wipe_get σ j vs]
      have : (j ∈ v :: vs) ↔ j ∈ vs := by simp [show j ≠ v from fun e => q e.symm]
      simp [this]
theorem wipe_set {σ : L2.St} {i : Nat} {x : Option V} {vs : List Nat} (h : i ∈ vs) : L2.wipe (σ.set i x) vs = L2.wipe σ vs := by
  refine List.ext_getElem? fun j => ?_
  rw [wipe_get, wipe_get]
  by_cases q : i = j
  · subst q
    rw [if_pos h, if_pos h, List.getElem?_set]
    by_cases hl : i < σ.length
    · simp [hl, List.getElem?_eq_getElem hl]
    · simp [hl, List.getElem?_eq_none (by omega : σ.length ≤ i)]
  · rw [List.getElem?_set_ne q]
inductive Tg where
  | one (i : Nat)
  | many (is : List Nat)
def Tg.ixs : Tg → List Nat
  | .one i => [i]
  | .many is => is
def setMany : List Nat → List D → Env → Env
  | i :: is, d :: ds, ρ => setMany is ds (ρ.set i (.va d))
  | _, _, ρ => ρ
def fTg : Tg → D → Env → R Env
  | .one i, d, ρ => .ok (ρ.set i (.va d))
  | .many is, .tuple ds, ρ => if ds.length = is.length then .ok (setMany is ds ρ) else .bad
  | .many is, .list ds, ρ => if ds.length = is.length then .ok (setMany is ds ρ) else .bad
  | .many _, _, _ => .bad
def tGt (C : Pm) (t : Tg) : TG := fun v σ H Q => ∃ (Hf0 H0 Hf : Hp) (ρ : Env) (d : D), EnvR C.K Hf0 H0 Hf H σ ρ ∧ Rp C.K Hf v d ∧ ∃ ρ', fTg t d ρ = .ok ρ' ∧
  ∀ σ', EnvR C.K Hf0 H0 Hf H σ' ρ' → (∀ vs, (∀ i ∈ t.ixs, i ∈ vs) → L2.wipe σ' vs = L2.wipe σ vs) → Q σ' H
def tGts (C : Pm) (is : List Nat) : TGs := fun xs σ H Q => ∃ (Hf0 H0 Hf : Hp) (ρ : Env) (ds : List D), EnvR C.K Hf0 H0 Hf H σ ρ ∧ RpL C.K Hf xs ds ∧ ds.length = is.length ∧
  ∀ σ', EnvR C.K Hf0 H0 Hf H σ' (setMany is ds ρ) → (∀ vs, (∀ i ∈ is, i ∈ vs) → L2.wipe σ' vs = L2.wipe σ vs) → Q σ' H
def StoreOk (X : Cx) (i : Nat) (x : Str) : Prop := X.N[i]? = some x ∧ Loc X.env.scope x ∧ (X.fn x = true ∨ X.env.scope.names.lookup x = some .local)
theorem PGs.imp {X : Cx} {es : List Expr} {t u : TGs} (h : PGs X es t) (q : ∀ v σ H Q, u v σ H Q → t v σ H Q) : PGs X es u := ⟨fun pins s σ H v u' Q I r hu => h.run pins s σ H v u' Q I r (q v σ H Q hu)⟩
section
variable {X : Cx} {C : Pm} {pos : Pos}
theorem g_one {i : Nat} {x : Str} (hN : X.N.Nodup) (h : StoreOk X i x) : PG X (.Name x pos) (tGt C (.one i)) :=
  PG.imp (pg_name hN h.1 h.2.1 h.2.2) fun v σ H Q ⟨Hf0, H0, Hf, ρ, d, env, r, ρ', e, q⟩ => by
    cases e
    exact q _ (env.put r) fun vs hv => wipe_set (hv i (by simp [Tg.ixs]))
theorem assignEach_name {x : Str} {es : List Expr} {env : PySem.Env} : (assignEach (.Name x pos :: es) env).map (·.2) = assign (.Name x pos) env :: (assignEach es env).map (·.2) := rfl
theorem g_nil : PGs X [] (tGts C []) := PGs.imp pgs_nil fun v σ H Q ⟨Hf0, H0, Hf, ρ, ds, env, r, hl, q⟩ => by
  cases ds with
  | nil =>
    cases r
    exact ⟨rfl, q σ env fun _ _ => rfl⟩
  | cons _ _ => cases hl
theorem g_cons {i : Nat} {x : Str} {es : List Expr} {is : List Nat} (hN : X.N.Nodup) (h : StoreOk X i x) (hr : PGs X es (tGts C is)) : PGs X (.Name x pos :: es) (tGts C (i :: is)) :=
  PGs.imp (pgs_cons (pg_name hN h.1 h.2.1 h.2.2) hr assignEach_name) fun v σ H Q ⟨Hf0, H0, Hf, ρ, ds, env, r, hl, q⟩ => by
    cases ds with
    | nil => cases hl
    | cons d ds =>
      cases r with
      | cons r1 r2 =>
        refine ⟨_, _, rfl, Hf0, H0, Hf, ρ.set i (.va d), ds, env.put r1, r2, by simpa using hl, fun σ' e' w' => q σ' e' fun vs hv => ?_⟩
        rw [w' vs fun j hj => hv j (List.mem_cons_of_mem _ hj)]
        exact wipe_set (hv i List.mem_cons_self)
inductive Nms (X : Cx) : List Expr → List Nat → Prop
  | nil : Nms X [] []
  | cons {i : Nat} {x : Str} {pos : Pos} {es : List Expr} {is : List Nat} : StoreOk X i x → Nms X es is → Nms X (.Name x pos :: es) (i :: is)
theorem g_all {es : List Expr} {is : List Nat} (hN : X.N.Nodup) (h : Nms X es is) : PGs X es (tGts C is) := by
  induction h with
  | nil => exact g_nil
  | cons h _ ih => exact g_cons hN h ih
theorem nms_len {es : List Expr} {is : List Nat} (h : Nms X es is) (env : PySem.Env) : (assignEach es env).length = is.length := by
  induction h with
  | nil => rfl
  | cons h _ ih =>
    show (assignEach _ env).length + 1 = _
    rw [ih]
    rfl
theorem nms_star {es : List Expr} {is : List Nat} (h : Nms X es is) (env : PySem.Env) : (assignEach es env).findIdx? (·.1) = none := by
  induction h with
  | nil => rfl
  | @cons i x pos es is h _ ih =>
    have e : assignEach (.Name x pos :: es) env = (false, assign (.Name x pos) env) :: assignEach es env := rfl
    rw [e, List.findIdx?_cons]
    simp [ih]
theorem PG.or {e : Expr} {t u : TG} (h : PG X e t) (h' : PG X e u) : PG X e (fun v σ H Q => t v σ H Q ∨ u v σ H Q) := ⟨fun pins s σ H v u' Q I r hw => hw.elim (h.run pins s σ H v u' Q I r) (h'.run pins s σ H v u' Q I r)⟩
theorem g_many {es : List Expr} {is : List Nat} {k : Nat} (hK : C.K = X.K) (hc : X.calm = true) (hN : X.N.Nodup) (h : Nms X es is) : PG X (.Tuple es k pos) (tGt C (.many is)) :=
  PG.imp (PG.or (pg_tup (n := is.length) hc (g_all (C := C) hN h) (nms_len h _) (nms_star h _)) (pg_lst (n := is.length) hc (g_all (C := C) hN h) (nms_len h _) (nms_star h _))) fun v σ H Q ⟨Hf0, H0, Hf, ρ, d, env, r, ρ', e, q⟩ => by
    unfold fTg at e
    split at e
    · rename_i e1; cases e1
    · rename_i e1
      cases e1
      split at e
      · rename_i hl
        cases e
        cases r with
        | tup h1 h2 h3 => exact .inl ⟨_, _, rfl, SqT.of ((env.grow.sub.lk _ _ h1 rfl)), h3.length.trans hl, Hf0, H0, Hf, _, _, env, h3, hl, q⟩
      · cases e
    · rename_i e1
      cases e1
      split at e
      · rename_i hl
        cases e
        cases r with
        | lst h1 h2 h3 => exact .inr ⟨_, _, rfl, SqL.of ((env.grow.sub.lk _ _ h1 rfl)), h3.length.trans hl, Hf0, H0, Hf, _, _, env, h3, hl, q⟩
      · cases e
    · cases e
end
def lcLoop (tg : Tg) (ft : Env → R Bool) (fe : Env → R D) (ρ : Env) : List D → R (List D)
  | [] => .ok []
  | d :: ds => fTg tg d ρ >>= fun ρ1 => ft ρ1 >>= fun b => if b then fe ρ1 >>= fun y => lcLoop tg ft fe ρ ds >>= fun ys => .ok (y :: ys) else lcLoop tg ft fe ρ ds
def fLc (fi : Env → R (List D)) (tg : Tg) (ft : Env → R Bool) (fe : Env → R D) (own : List Nat) : Env → R D := fun ρ => fi ρ >>= fun ds => (lcLoop tg ft fe (wipeR ρ own) ds).calm >>= fun ys => .ok (.list ys)
abbrev Pm.calm (C : Pm) : Pm := ⟨C.K, E0, C.cl, false⟩
theorem bind_ok {α β : Type} {r : R α} {k : α → R β} {b : β} (h : (r >>= k) = .ok b) : ∃ a, r = .ok a ∧ k a = .ok b := by
  cases r with
  | ok a => exact ⟨a, rfl, h⟩
  | exc c => cases h
  | bad => cases h
section
variable {X : Cx} {C : Pm}
theorem lc_data {fi : Env → R (List D)} {tg : Tg} {ft : Env → R Bool} {fe : Env → R D} {own : List Nat} (hown : ∀ i ∈ tg.ixs, i ∈ own) {σ : L2.St} {H : Hp} {Q : VK} (h : tF C (fLc fi tg ft fe own) σ H Q) :
    tLc (tI C fi) (tGt C.calm tg) (tT C.calm ft) (tE C.calm fe) own σ H Q := by
  obtain ⟨Hf0, H0, Hf, ρ, env, h⟩ := h
  refine ⟨Hf0, H0, Hf, ρ, env, OutG.bind (show OutG C (RelF C H) Hf H (fLc fi tg ft fe own ρ) Q from h) fun ds J Hf1 H1 _ g1 w h1 => fun Da nD => ?_⟩
  cases e1 : lcLoop tg ft fe (wipeR ρ own) ds with
  | exc c => rw [e1] at h1; exact h1.elim
  | bad => rw [e1] at h1; exact h1.elim
  | ok tot =>
    rw [e1] at h1
    have h1 : OutG C (RelF C H) Hf1 H1 (.ok (.list tot)) Q := h1
    have ew : EnvR C.K Hf0 H0 Hf1 H1 (L2.wipe σ own) (wipeR ρ own) := (env.more g1).wipe own
    have nD0 : H Da = none := Same.free g1.h nD
    have nDf : Hf1 Da = none := Same.free g1.sub nD
    refine ⟨fun i m H2 => m = ds.length - i ∧ i ≤ ds.length ∧ ∃ (Hf2 : Hp) (acc : List V) (accD ys : List D), Grow Hf1 H1 Hf2 H2 ∧ Hf2 Da = none ∧ H2 Da = some (.lst acc) ∧ acc.length ≤ i ∧ RpL C.K Hf2 acc accD ∧ lcLoop tg ft fe (wipeR ρ own) (ds.drop i) = .ok ys ∧ accD ++ ys = tot,
      ⟨ds.length, by simp, Nat.zero_le _, Hf1, [], [], tot, Grow.side g1.sub nD, nDf, upd_same, Nat.le_refl _, .nil, e1, rfl⟩, ?_⟩
    rintro i m H2 ⟨rfl, hi, Hf2, acc, accD, ys, g2, n2, hD, hl, ra, el, et⟩
    have s12 : Lk Hf1 H2 := Lk.back g2.f g2.sub.lk
    by_cases hlt : i < ds.length
    · refine .inr ⟨w.goes i H2 hlt s12, fun H3 => (ds.length - (i + 1) = ds.length - (i + 1)) ∧ i + 1 ≤ ds.length ∧ ∃ (Hf3 : Hp) (acc : List V) (accD ys : List D), Grow Hf1 H1 Hf3 H3 ∧ Hf3 Da = none ∧ H3 Da = some (.lst acc) ∧ acc.length ≤ i + 1 ∧ RpL C.K Hf3 acc accD ∧ lcLoop tg ft fe (wipeR ρ own) (ds.drop (i + 1)) = .ok ys ∧ accD ++ ys = tot,
        fun H3 p => ⟨ds.length - (i + 1), by omega, p⟩, fun x H3 y => ?_⟩
      have hd : ds[i]? = some ds[i] := List.getElem?_eq_getElem hlt
      obtain ⟨Hg, g3, rx⟩ := w.yields i Hf2 H2 H3 x ds[i] hd g2.f g2.sub y
      rw [List.drop_eq_getElem_cons hlt] at el
      unfold lcLoop at el
      obtain ⟨ρ1, b1, el⟩ := bind_ok el
      obtain ⟨b, b2, el⟩ := bind_ok el
      have e3 : EnvR C.K Hf0 H0 Hg H3 (L2.wipe σ own) (wipeR ρ own) := ew.more (g2.trans g3)
      refine ⟨Hf0, H0, Hg, wipeR ρ own, ds[i], e3, rx, ρ1, b1, fun σ2 e4 hw => ⟨?_, Hf0, H0, Hg, ρ1, e4, ?_⟩⟩
      · have z := hw own hown
        rw [z]
        refine List.ext_getElem? fun j => ?_
        rw [wipe_get, wipe_get]
        split
        · cases σ[j]? <;> rfl
        · rfl
      rw [b2]
      intro b' Hf4 H4 g4 eb
      subst eb
      cases b' with
      | true =>
        refine iteT ⟨Hf0, H0, Hf4, ρ1, e4.more g4, ?_⟩
        have el : (fe ρ1 >>= fun y => lcLoop tg ft fe (wipeR ρ own) (ds.drop (i + 1)) >>= fun ys => .ok (y :: ys)) = .ok ys := el
        obtain ⟨yd, b3, el⟩ := bind_ok el
        obtain ⟨zs, b4, el⟩ := bind_ok el
        rw [b3]
        intro yv Hf5 H5 g5 ry
        have gg : Grow Hf2 H2 Hf5 H5 := (g3.trans g4).trans g5
        have n5 : Hf5 Da = none := gg.off n2 hD (fun _ z => by cases z)
        have hD5 : H5 Da = some (.lst acc) := gg.h.at hD n2
        refine ⟨acc, hD5, by have := w.len; omega, rfl, hlt, Hf5, acc ++ [yv], accD ++ [yd], zs, ?_, n5, upd_same, by rw [List.length_append]; simp; omega, (ra.mono gg.f).append (.cons ry .nil), b4, ?_⟩
        · have gt := g2.trans gg
          exact gt.turn nD n5
        · cases el
          rw [List.append_assoc]
          exact et
      | false =>
        have gg : Grow Hf2 H2 Hf4 H4 := g3.trans g4
        have n4 : Hf4 Da = none := gg.off n2 hD (fun _ z => by cases z)
        exact iteF ⟨rfl, hlt, Hf4, acc, accD, ys, g2.trans gg, n4, gg.h.at hD n2, by omega, ra.mono gg.f, el, et⟩
    · have ei : i = ds.length := by omega
      subst ei
      rw [List.drop_length] at el
      cases el
      rw [List.append_nil] at et
      subst et
      exact .inl ⟨w.stops H2 s12, h1 _ Hf2 H2 g2 ⟨Da, rfl, nD0, acc, n2, hD, Nat.le_trans hl w.len, ra⟩⟩
end
end DL
namespace DL
open PySem PySem.Spec PyProof.Rows L2
variable [Lots]
inductive Out where
  | nx (ρ : Env)
  | rt (d : D)
  | bk (ρ : Env)
  | ct (ρ : Env)
def RtR (C : Pm) (H0 Hf H : Hp) (v : V) (d : D) : Prop := match C.fr with
  | false => Rp C.K Hf v d
  | true => ∃ a, v = .ref a ∧ H0 a = none ∧ OwnAt C.K Hf H a d
theorem RtR.val {C : Pm} {H0 Hf H : Hp} {v : V} {d : D} (h : C.fr = false) (r : Rp C.K Hf v d) : RtR C H0 Hf H v d := by unfold RtR; rw [h]; exact r
theorem RtR.own {C : Pm} {H0 Hf H : Hp} {a : Addr} {d : D} (h : C.fr = true) (n : H0 a = none) (r : OwnAt C.K Hf H a d) : RtR C H0 Hf H (.ref a) d := by unfold RtR; rw [h]; exact ⟨a, rfl, n, r⟩
def SOut (C : Pm) (Hf0 H0 Hf : Hp) (Dn : Ends) : R Out → Prop
  | .ok (.nx ρ') => ∀ Hf' H' σ', Same Hf Hf' → EnvR C.K Hf0 H0 Hf' H' σ' ρ' → Dn.nx σ' H'
  | .ok (.bk ρ') => ∀ Hf' H' σ', Same Hf Hf' → EnvR C.K Hf0 H0 Hf' H' σ' ρ' → Dn.bk σ' H'
  | .ok (.ct ρ') => ∀ Hf' H' σ', Same Hf Hf' → EnvR C.K Hf0 H0 Hf' H' σ' ρ' → Dn.ct σ' H'
  | .ok (.rt d) => ∀ v Hf' H', Grow Hf0 H0 Hf' H' → RtR C H0 Hf' H' v d → Dn.rt v H'
  | .exc c => ∀ Hf' H', Grow Hf0 H0 Hf' H' → C.E (.ref (C.cl c)) none H'
  | .bad => False
def tS (C : Pm) (F : Env → R Out) : TS := fun Dn σ H => ∃ (Hf0 H0 Hf : Hp) (ρ : Env), EnvR C.K Hf0 H0 Hf H σ ρ ∧ SOut C Hf0 H0 Hf Dn (F ρ)
theorem SOut.mono {C : Pm} {Hf0 H0 Hf Hf1 : Hp} {Dn : Ends} {r : R Out} (h : SOut C Hf0 H0 Hf Dn r) (s : Same Hf Hf1) : SOut C Hf0 H0 Hf1 Dn r := by
  cases r with
  | ok o =>
    cases o with
    | nx ρ => exact fun Hf' H' σ' q e => h Hf' H' σ' (s.trans q) e
    | bk ρ => exact fun Hf' H' σ' q e => h Hf' H' σ' (s.trans q) e
    | ct ρ => exact fun Hf' H' σ' q e => h Hf' H' σ' (s.trans q) e
    | rt d => exact h
  | exc c => exact h
  | bad => exact h
theorem ps_bad {X : Cx} {st : Stmt} {C : Pm} : PS X st (tS C fun _ => .bad) := ⟨fun _ _ _ _ _ _ ⟨_, _, _, _, _, h⟩ => h.elim⟩
theorem SOut.bind {α β : Type} {C : Pm} {Rel : Hp → Hp → β → α → Prop} {Hf0 H0 Hf H : Hp} {σ : L2.St} {ρ : Env} {Dn : Ends} {r : R α} {k : α → R Out} {Q : β → Hp → Prop} (env : EnvR C.K Hf0 H0 Hf H σ ρ) (h : SOut C Hf0 H0 Hf Dn (r >>= k))
    (hk : ∀ a b Hf1 H1, r = .ok a → Grow Hf H Hf1 H1 → Rel Hf1 H1 b a → SOut C Hf0 H0 Hf1 Dn (k a) → Q b H1) : OutG C Rel Hf H r Q := by
  cases r with
  | ok a => exact fun b Hf1 H1 g q => hk a b Hf1 H1 rfl g q (SOut.mono (show SOut C Hf0 H0 Hf Dn (k a) from h) g.f)
  | exc c => exact fun Hf1 H1 g => h Hf1 H1 (env.grow.trans g)
  | bad => exact h.elim
def relR1 (i : Nat) (ρ : Env) : Env := match ρ[i]? with
  | some (.ow d) => ρ.set i (.va d)
  | _ => ρ
def relR : List Nat → Env → Env
  | [], ρ => ρ
  | i :: is, ρ => relR is (relR1 i ρ)
theorem EnvR.rel1 {K : PySem.W.Frag} {Hf0 H0 Hf H : Hp} {σ : L2.St} {ρ : Env} (i : Nat) (e : EnvR K Hf0 H0 Hf H σ ρ) (nd : ∀ k, ρ[i]? ≠ some (.ow (.dict k))) : ∃ Hf', Same Hf Hf' ∧ EnvR K Hf0 H0 Hf' H σ (relR1 i ρ) := by
  unfold relR1
  split
  · rename_i d hd
    obtain ⟨v, hv, a, h2, o, n0⟩ := slot_there e hd
    subst h2
    have mk : ∀ u, isMk u = false → Hf a = none → H a = some u → Rp K (upd Hf a u) (.ref a) d → ∃ Hf', Same Hf Hf' ∧ EnvR K Hf0 H0 Hf' H σ (ρ.set i (.va d)) := fun u hmu nf ha rp => by
      have sm : Same Hf (upd Hf a u) := same_upd nf
      have gw : Grow Hf0 H0 (upd Hf a u) H := e.grow.give n0 nf ha hmu
      refine ⟨_, sm, gw, by rw [List.length_set]; exact e.len, fun j s w h1 h2 => ?_, fun j k d1 d2 b h1 h2 h3 h4 => ?_⟩
      · by_cases q : i = j
        · subst q
          have l1 : i < ρ.length := by simpa using (List.getElem?_eq_some_iff.mp h1).1
          rw [List.getElem?_set_self l1] at h1
          cases h1
          rw [hv] at h2
          cases h2
          exact ⟨_, rfl, rp⟩
        · rw [List.getElem?_set_ne q] at h1
          have z := e.slot j s w h1 h2
          cases s with
          | un => trivial
          | va d' => obtain ⟨x, q1, q2⟩ := z; exact ⟨x, q1, q2.mono sm⟩
          | ow d' =>
            obtain ⟨b, q1, q2, q3⟩ := z
            subst q1
            have nb : b ≠ a := fun z => by subst z; exact q (e.dis i j d d' b hd h1 hv h2)
            exact ⟨b, rfl, q2.side sm (upd_ne nb) rfl, q3⟩
      · have nj : i ≠ j := fun q => by
          subst q
          have l1 : i < ρ.length := by simpa using (List.getElem?_eq_some_iff.mp h1).1
          rw [List.getElem?_set_self l1] at h1
          cases h1
        have nk : i ≠ k := fun q => by
          subst q
          have l1 : i < ρ.length := by simpa using (List.getElem?_eq_some_iff.mp h2).1
          rw [List.getElem?_set_self l1] at h2
          cases h2
        rw [List.getElem?_set_ne nj] at h1
        rw [List.getElem?_set_ne nk] at h2
        exact e.dis j k d1 d2 b h1 h2 h3 h4
    cases d with
    | list ds =>
      obtain ⟨xs, p1, p2, p3, p4⟩ := o
      exact mk _ rfl p1 p2 (.newL p1 p3 p4)
    | dict ds => exact absurd hd (nd ds)
    | _ => exact o.elim
  · exact ⟨Hf, Same.refl _, e⟩
theorem EnvR.rel1d {K : PySem.W.Frag} {Hf0 H0 Hf H : Hp} {σ : L2.St} {ρ : Env} {i : Nat} {kds : List (D × D)} (e : EnvR K Hf0 H0 Hf H σ ρ) (hd : ρ[i]? = some (.ow (.dict kds))) : ∃ a u, H a = some u ∧ Mut (some u) ∧ ∀ od : Obj, ∃ Hf', Same Hf Hf' ∧ EnvR K Hf0 H0 Hf' (upd H a (.frz od u)) σ (relR1 i ρ) := by
  obtain ⟨v, hv, a, h2, o, n0⟩ := slot_there e hd
  subst h2
  obtain ⟨u, p1, p2, mu, p4⟩ : ∃ u, Hf a = none ∧ H a = some u ∧ Mut (some u) ∧ ∀ od : Obj, Rp K (upd Hf a (.frz od u)) (.ref a) (.dict kds) := by
    rcases o with ⟨kvs, p1, p2, p3, p4⟩ | ⟨nds, xs, q, p1, p2, p3, p4⟩
    · exact ⟨_, p1, p2, trivial, fun od => .dic upd_same p3 (p4.mono (same_upd p1))⟩
    · subst q
      exact ⟨_, p1, p2, trivial, fun od => .dit upd_same p3 (p4.mono (same_upd p1))⟩
  refine ⟨a, u, p2, mu, fun od => ?_⟩
  have sm : Same Hf (upd Hf a (.frz od u)) := same_upd p1
  have er : relR1 i ρ = ρ.set i (.va (.dict kds)) := by unfold relR1; rw [hd]
  rw [er]
  refine ⟨upd Hf a (.frz od u), sm, e.grow.lockd n0 p1, by rw [List.length_set]; exact e.len, fun j s w h1 h2 => ?_, fun j k d1 d2 b h1 h2 h3 h4 => ?_⟩
  · by_cases q : i = j
    · subst q
      have l1 : i < ρ.length := by simpa using (List.getElem?_eq_some_iff.mp h1).1
      rw [List.getElem?_set_self l1] at h1
      cases h1
      rw [hv] at h2
      cases h2
      exact ⟨_, rfl, p4 od⟩
    · rw [List.getElem?_set_ne q] at h1
      have z := e.slot j s w h1 h2
      cases s with
      | un => trivial
      | va d' => obtain ⟨x, q1, q2⟩ := z; exact ⟨x, q1, q2.mono sm⟩
      | ow d' =>
        obtain ⟨b, q1, q2, q3⟩ := z
        subst q1
        have nb : b ≠ a := fun z => by subst z; exact q (e.dis i j (.dict kds) d' b hd h1 hv h2)
        exact ⟨b, rfl, q2.side sm (upd_ne nb) (upd_ne nb), q3⟩
  · have nj : i ≠ j := fun q => by
      subst q
      have l1 : i < ρ.length := by simpa using (List.getElem?_eq_some_iff.mp h1).1
      rw [List.getElem?_set_self l1] at h1
      cases h1
    have nk : i ≠ k := fun q => by
      subst q
      have l1 : i < ρ.length := by simpa using (List.getElem?_eq_some_iff.mp h2).1
      rw [List.getElem?_set_self l1] at h2
      cases h2
    rw [List.getElem?_set_ne nj] at h1
    rw [List.getElem?_set_ne nk] at h2
    exact e.dis j k d1 d2 b h1 h2 h3 h4
section
variable {X : Cx} {C : Pm} {pos : Pos} {st : Stmt} {sts : List Stmt} {F G : Env → R Out} {e : Expr} {fe : Env → R D}
theorem s_rel1 (i : Nat) (h : PS X st (tS C F)) : PS X st (tS C fun ρ => F (relR1 i ρ)) := by
  refine ⟨fun pins s σ H D I hq => ?_⟩
  obtain ⟨Hf0, H0, Hf, ρ, env, q⟩ := hq
  by_cases hd : ∃ k, ρ[i]? = some (.ow (.dict k))
  · obtain ⟨k, hd⟩ := hd
    obtain ⟨a, u, ha, mu, hh⟩ := env.rel1d hd
    obtain ⟨od, I2⟩ := I.lock ha mu
    obtain ⟨Hf', s1, e1⟩ := hh od
    exact h.run pins s σ _ D I2 ⟨Hf0, H0, Hf', _, e1, q.mono s1⟩
  · obtain ⟨Hf', s1, e1⟩ := env.rel1 i fun k z => hd ⟨k, z⟩
    exact h.run pins s σ H D I ⟨Hf0, H0, Hf', _, e1, q.mono s1⟩
theorem s_rel : ∀ (is : List Nat) {F : Env → R Out}, PS X st (tS C F) → PS X st (tS C fun ρ => F (relR is ρ))
  | [], _, h => h
  | i :: is, F, h => s_rel1 i (F := fun ρ => F (relR is ρ)) (s_rel is h)
def fSeq (F G : Env → R Out) : Env → R Out := fun ρ => F ρ >>= fun o => match o with
  | .nx ρ' => G ρ'
  | o => .ok o
theorem s_nil : PSs X [] (tS C fun ρ => .ok (.nx ρ)) := PSs.imp pss_nil fun Dn σ H ⟨Hf0, H0, Hf, ρ, env, h⟩ => h Hf H σ (Same.refl _) env
theorem s_cons (h1 : PS X st (tS C F)) (h2 : PSs X sts (tS C G)) : PSs X (st :: sts) (tS C (fSeq F G)) := PSs.imp (pss_cons h1 h2) fun Dn σ H ⟨Hf0, H0, Hf, ρ, env, h⟩ => ⟨Hf0, H0, Hf, ρ, env, by
  have h : SOut C Hf0 H0 Hf Dn (F ρ >>= fun o => match o with | .nx ρ' => G ρ' | o => .ok o) := h
  cases e1 : F ρ with
  | bad => rw [e1] at h; exact h.elim
  | exc c => rw [e1] at h; exact h
  | ok o =>
    rw [e1] at h
    cases o with
    | nx ρ' => exact fun Hf' H' σ' s1 env' => ⟨Hf0, H0, Hf', ρ', env', SOut.mono (show SOut C Hf0 H0 Hf Dn (G ρ') from h) s1⟩
    | rt d => exact h
    | bk ρ' => exact h
    | ct ρ' => exact h⟩
theorem s_pass : PS X (.Pass pos) (tS C fun ρ => .ok (.nx ρ)) := PS.imp ps_pass fun Dn σ H ⟨Hf0, H0, Hf, ρ, env, h⟩ => h Hf H σ (Same.refl _) env
theorem s_break : PS X (.Break pos) (tS C fun ρ => .ok (.bk ρ)) := PS.imp ps_break fun Dn σ H ⟨Hf0, H0, Hf, ρ, env, h⟩ => h Hf H σ (Same.refl _) env
theorem s_continue : PS X (.Continue pos) (tS C fun ρ => .ok (.ct ρ)) := PS.imp ps_continue fun Dn σ H ⟨Hf0, H0, Hf, ρ, env, h⟩ => h Hf H σ (Same.refl _) env
def isComp : Expr → Bool
  | .ListComp .. => true
  | .SetComp .. => true
  | .DictComp .. => true
  | _ => false
theorem sw_false {t : Option Expr} {l : Nat} {env : PySem.Env} (h : isComp e = false) : swapsWith e t l env = pure false := by
  cases e <;> first | rfl | simp [isComp] at h
theorem s_expr (he : PE X e (tE C fe)) (hs : isComp e = false) : PS X (.Expr e pos) (tS C fun ρ => fe ρ >>= fun _ => .ok (.nx ρ)) := PS.imp (ps_expr he (sw_false hs)) fun Dn σ H ⟨Hf0, H0, Hf, ρ, env, h⟩ => ⟨Hf0, H0, Hf, ρ, env,
  SOut.bind env h fun d v Hf1 H1 _ g r h1 => h1 Hf1 H1 σ (Same.refl _) (env.more g)⟩
theorem s_ret (hfr : C.fr = false) (he : PE X e (tE C fe)) : PS X (.Return (some e) pos) (tS C fun ρ => fe ρ >>= fun d => .ok (.rt d)) := PS.imp (ps_ret he) fun Dn σ H ⟨Hf0, H0, Hf, ρ, env, h⟩ => ⟨Hf0, H0, Hf, ρ, env,
  SOut.bind env h fun d v Hf1 H1 _ g r h1 => h1 v Hf1 H1 (env.grow.trans g) (.val hfr r)⟩
theorem s_retF (hfr : C.fr = true) (he : PE X e (tF C fe)) : PS X (.Return (some e) pos) (tS C fun ρ => fe ρ >>= fun d => .ok (.rt d)) := PS.imp (ps_ret he) fun Dn σ H ⟨Hf0, H0, Hf, ρ, env, h⟩ => ⟨Hf0, H0, Hf, ρ, env,
  SOut.bind (Rel := RelF C H) env h fun d v Hf1 H1 _ g r h1 => by
    obtain ⟨a, rfl, na, o⟩ := r
    exact h1 _ Hf1 H1 (env.grow.trans g) (.own hfr (Same.free env.grow.h na) o)⟩
def fRetO (i : Nat) : Env → R Out := fun ρ => match ρ[i]? with
  | some (.ow d) => .ok (.rt d)
  | _ => .bad
theorem s_retO {i : Nat} {x : Str} {p : Pos} (hfr : C.fr = true) (hN : X.N[i]? = some x) (hv : Vis X.env.scope x) (hd : (x == ("__debug__" : Str)) = false) (hcd : (x == ("__classdict__" : Str)) = false) : PS X (.Return (some (.Name x p)) pos) (tS C (fRetO i)) :=
  PS.imp (ps_ret (pe_var hN hv hd hcd)) fun Dn σ H ⟨Hf0, H0, Hf, ρ, env, h⟩ => by
    unfold fRetO at h
    split at h
    · rename_i d hi
      obtain ⟨v0, hσ, a, h2, o, n0⟩ := slot_there env hi
      subst h2
      exact ⟨_, hσ, h _ Hf H env.grow (.own hfr n0 o)⟩
    · exact h.elim
theorem s_retN (hfr : C.fr = false) : PS X (.Return none pos) (tS C fun _ => .ok (.rt .none)) := PS.imp ps_retN fun Dn σ H ⟨Hf0, H0, Hf, ρ, env, h⟩ => h _ Hf H env.grow (.val hfr .non)
def fIfS (t : Env → R Bool) (F G : Env → R Out) : Env → R Out := fun ρ => t ρ >>= fun b => if b then F ρ else G ρ
theorem s_if {c : Expr} {a b : List Stmt} {t : Env → R Bool} (hc : PT X c (tT C t)) (ha : PSs X a (tS C F)) (hb : PSs X b (tS C G)) : PS X (.If c a b pos) (tS C (fIfS t F G)) := PS.imp (ps_if hc ha hb) fun Dn σ H ⟨Hf0, H0, Hf, ρ, env, h⟩ => ⟨Hf0, H0, Hf, ρ, env,
  SOut.bind env (show SOut C Hf0 H0 Hf Dn (fIfS t F G ρ) from h) fun b b' Hf1 H1 _ g r h1 => by
    subst r
    cases b' with
    | true => exact iteT ⟨Hf0, H0, Hf1, ρ, env.more g, h1⟩
    | false => exact iteF ⟨Hf0, H0, Hf1, ρ, env.more g, h1⟩⟩
theorem s_set {i : Nat} {x : Str} {pos' : Pos} (hN : X.N.Nodup) (hi : StoreOk X i x) (he : PE X e (tE C fe)) (hs : isComp e = false) : PS X (.Assign [.Name x pos'] e pos) (tS C fun ρ => fe ρ >>= fun d => .ok (.nx (ρ.set i (.va d)))) :=
  PS.imp (ps_set hN hi.1 hi.2.1 he (sw_false hs) hi.2.2) fun Dn σ H ⟨Hf0, H0, Hf, ρ, env, h⟩ => ⟨Hf0, H0, Hf, ρ, env, SOut.bind env h fun d v Hf1 H1 _ g r h1 => h1 Hf1 H1 _ (Same.refl _) ((env.more g).put r)⟩
theorem setF_in {i : Nat} {te : TE} {Dn : Ends} {σ : L2.St} {H : Hp} (ht : ∀ Q, tF C fe σ H Q → te σ H Q) (h : tS C (fun ρ => fe ρ >>= fun d => .ok (.nx (ρ.set i (.ow d)))) Dn σ H) : tAsg te (gName i) Dn σ H := by
  obtain ⟨Hf0, H0, Hf, ρ, env, h⟩ := h
  refine ht _ ⟨Hf0, H0, Hf, ρ, env, SOut.bind env h fun d v Hf1 H1 _ g r h1 => ?_⟩
  obtain ⟨a, rfl, na, o⟩ := r
  exact h1 Hf1 H1 _ (Same.refl _) ((env.more g).putOwn o (Same.free env.grow.h na) (env.notOwn na))
theorem s_setF {i : Nat} {x : Str} {pos' : Pos} (hN : X.N.Nodup) (hi : StoreOk X i x) (he : PE X e (tF C fe)) (hs : isComp e = false) : PS X (.Assign [.Name x pos'] e pos) (tS C fun ρ => fe ρ >>= fun d => .ok (.nx (ρ.set i (.ow d)))) :=
  PS.imp (ps_set hN hi.1 hi.2.1 he (sw_false hs) hi.2.2) fun Dn σ H h => setF_in (fun _ q => q) h
def fSetT (tg : Tg) (fe : Env → R D) : Env → R Out := fun ρ => fe ρ >>= fun d => fTg tg d ρ >>= fun ρ' => .ok (.nx ρ')
theorem s_setT {tg : Expr} {t : Tg} (he : PE X e (tE C fe)) (hg : PG X tg (tGt C t)) (hs : swapsWithSole [tg] e pos.line X.env = pure false) (hw : swappedStores [tg] e X.env = pure none) (h1 : (assignEach [tg] X.env).map (·.2) = [assign tg X.env]) :
    PS X (.Assign [tg] e pos) (tS C (fSetT t fe)) :=
  PS.imp (ps_asg he hg hs hw h1) fun Dn σ H ⟨Hf0, H0, Hf, ρ, env, h⟩ => ⟨Hf0, H0, Hf, ρ, env, SOut.bind env (show SOut C Hf0 H0 Hf Dn (fSetT t fe ρ) from h) fun d v Hf1 H1 _ g r h1 => by
    cases e1 : fTg t d ρ with
    | bad => rw [e1] at h1; exact h1.elim
    | exc c =>
      exfalso
      unfold fTg at e1
      split at e1
      · cases e1
      · split at e1 <;> cases e1
      · split at e1 <;> cases e1
      · cases e1
    | ok ρ' =>
      rw [e1] at h1
      exact ⟨Hf0, H0, Hf1, ρ, d, env.more g, r, ρ', e1, fun σ' e' _ => h1 Hf1 H1 σ' (Same.refl _) e'⟩⟩
def forLoop (tg : Tg) (fb : Env → R Out) : List D → Env → R Out
  | [], ρ => .ok (.nx ρ)
  | d :: ds, ρ => fTg tg d ρ >>= fun ρ1 => fb ρ1 >>= fun o => match o with
    | .nx ρ' => forLoop tg fb ds ρ'
    | .ct ρ' => forLoop tg fb ds ρ'
    | .bk ρ' => .ok (.nx ρ')
    | .rt v => .ok (.rt v)
def fFor (fi : Env → R (List D)) (tg : Tg) (fb : Env → R Out) : Env → R Out := fun ρ => fi ρ >>= fun ds => forLoop tg fb ds ρ
theorem s_for {tgE iter : Expr} {t : Tg} {fi : Env → R (List D)} {body : List Stmt} (hp : PassesOwn (model X.prog X.w) X.A X.env X.xe) (hc : X.calm = true) (hi : PI X tgE iter (tI C fi)) (hg : PG X tgE (tGt C t)) (hb : PSs X body (tS C F))
    (hs : ∀ x, foldedSetIterable iter X.env x = pure x) : PS X (.For tgE iter body [] pos) (tS C (fFor fi t F)) :=
  PS.imp (ps_for hp hc hi hg hb hs) fun Dn σ H ⟨Hf0, H0, Hf, ρ, env, h⟩ => ⟨Hf0, H0, Hf, ρ, env, SOut.bind env (show SOut C Hf0 H0 Hf Dn (fFor fi t F ρ) from h) fun ds J Hf1 H1 _ g1 w h1 => by
    refine ⟨fun i m σ2 H2 => m = ds.length - i ∧ i ≤ ds.length ∧ ∃ (Hf2 : Hp) (ρ2 : Env), Same Hf1 Hf2 ∧ EnvR C.K Hf0 H0 Hf2 H2 σ2 ρ2 ∧ SOut C Hf0 H0 Hf2 Dn (forLoop t F (ds.drop i) ρ2), ⟨ds.length, by simp, Nat.zero_le _, Hf1, ρ, Same.refl _, env.more g1, h1⟩, ?_⟩
    rintro i m σ2 H2 ⟨rfl, hi, Hf2, ρ2, s2, e2, h2⟩
    by_cases hlt : i < ds.length
    · refine .inr ⟨w.goes i H2 hlt (Lk.back s2 e2.grow.sub.lk), fun σ3 H3 => i + 1 ≤ ds.length ∧ ∃ (Hf3 : Hp) (ρ3 : Env), Same Hf1 Hf3 ∧ EnvR C.K Hf0 H0 Hf3 H3 σ3 ρ3 ∧ SOut C Hf0 H0 Hf3 Dn (forLoop t F (ds.drop (i + 1)) ρ3), fun σ3 H3 p => ⟨ds.length - (i + 1), by omega, rfl, p⟩, fun x H3 y => ?_⟩
      obtain ⟨Hg, g3, rx⟩ := w.yields i Hf2 H2 H3 x ds[i] (List.getElem?_eq_getElem hlt) s2 e2.grow.sub y
      rw [List.drop_eq_getElem_cons hlt] at h2
      unfold forLoop at h2
      cases e1 : fTg t ds[i] ρ2 with
      | bad => rw [e1] at h2; exact h2.elim
      | exc c =>
        exfalso
        unfold fTg at e1
        split at e1
        · cases e1
        · split at e1 <;> cases e1
        · split at e1 <;> cases e1
        · cases e1
      | ok ρ1 =>
        rw [e1] at h2
        have h2 : SOut C Hf0 H0 Hf2 Dn (F ρ1 >>= fun o => match o with | .nx ρ' => forLoop t F (ds.drop (i + 1)) ρ' | .ct ρ' => forLoop t F (ds.drop (i + 1)) ρ' | .bk ρ' => .ok (.nx ρ') | .rt v => .ok (.rt v)) := h2
        refine ⟨Hf0, H0, Hg, ρ2, ds[i], e2.more g3, rx, ρ1, e1, fun σ3 e3 _ => ⟨Hf0, H0, Hg, ρ1, e3, ?_⟩⟩
        have sg : Same Hf1 Hg := s2.trans g3.f
        cases eo : F ρ1 with
        | bad => rw [eo] at h2; exact h2.elim
        | exc c => rw [eo] at h2; exact h2
        | ok o =>
          rw [eo] at h2
          cases o with
          | nx ρ' => exact fun Hf' H' σ' s' e' => ⟨hlt, Hf', ρ', sg.trans s', e', SOut.mono (show SOut C Hf0 H0 Hf2 Dn (forLoop t F (ds.drop (i + 1)) ρ') from h2) (g3.f.trans s')⟩
          | ct ρ' => exact fun Hf' H' σ' s' e' => ⟨hlt, Hf', ρ', sg.trans s', e', SOut.mono (show SOut C Hf0 H0 Hf2 Dn (forLoop t F (ds.drop (i + 1)) ρ') from h2) (g3.f.trans s')⟩
          | bk ρ' => exact fun Hf' H' σ' s' e' => h2 Hf' H' σ' (g3.f.trans s') e'
          | rt v => exact h2
    · have ei : i = ds.length := by omega
      subst ei
      rw [List.drop_length] at h2
      exact .inl ⟨w.stops H2 (Lk.back s2 e2.grow.sub.lk), h2 Hf2 H2 σ2 (Same.refl _) e2⟩⟩
def whLoop (ft : Env → R Bool) (fb : Env → R Out) : Nat → Env → R Out
  | 0, _ => .bad
  | n + 1, ρ => ft ρ >>= fun b => if b then fb ρ >>= fun o => match o with
      | .nx ρ' => whLoop ft fb n ρ'
      | .ct ρ' => whLoop ft fb n ρ'
      | .bk ρ' => .ok (.nx ρ')
      | .rt v => .ok (.rt v)
    else .ok (.nx ρ)
theorem s_while {c : Expr} {t : Env → R Bool} {body : List Stmt} (n : Nat) (hp : PassesOwn (model X.prog X.w) X.A X.env X.xe) (hc : PT X c (tT C t)) (hb : PSs X body (tS C F)) : PS X (.While c body [] pos) (tS C (whLoop t F n)) :=
  PS.imp (ps_while hp hc hb) fun Dn σ H ⟨Hf0, H0, Hf, ρ, env, h⟩ => by
    refine ⟨fun m σ2 H2 => ∃ (Hf2 : Hp) (ρ2 : Env), EnvR C.K Hf0 H0 Hf2 H2 σ2 ρ2 ∧ SOut C Hf0 H0 Hf2 Dn (whLoop t F m ρ2), ⟨n, Hf, ρ, env, h⟩, ?_⟩
    rintro m σ2 H2 ⟨Hf2, ρ2, e2, h2⟩
    cases m with
    | zero => exact h2.elim
    | succ m =>
      unfold whLoop at h2
      refine ⟨Hf0, H0, Hf2, ρ2, e2, SOut.bind e2 h2 fun b b' Hf3 H3 _ g3 r3 h3 => ?_⟩
      subst r3
      cases b' with
      | false => exact iteF (h3 Hf3 H3 σ2 (Same.refl _) (e2.more g3))
      | true =>
        have h3 : SOut C Hf0 H0 Hf3 Dn (F ρ2 >>= fun o => match o with | .nx ρ' => whLoop t F m ρ' | .ct ρ' => whLoop t F m ρ' | .bk ρ' => .ok (.nx ρ') | .rt v => .ok (.rt v)) := h3
        refine iteT ⟨fun σ4 H4 => ∃ (Hf4 : Hp) (ρ4 : Env), EnvR C.K Hf0 H0 Hf4 H4 σ4 ρ4 ∧ SOut C Hf0 H0 Hf4 Dn (whLoop t F m ρ4), fun σ4 H4 p => ⟨m, by omega, p⟩, Hf0, H0, Hf3, ρ2, e2.more g3, ?_⟩
        cases eo : F ρ2 with
        | bad => rw [eo] at h3; exact h3.elim
        | exc c => rw [eo] at h3; exact h3
        | ok o =>
          rw [eo] at h3
          cases o with
          | nx ρ' => exact fun Hf' H' σ' s' e' => ⟨Hf', ρ', e', SOut.mono (show SOut C Hf0 H0 Hf3 Dn (whLoop t F m ρ') from h3) s'⟩
          | ct ρ' => exact fun Hf' H' σ' s' e' => ⟨Hf', ρ', e', SOut.mono (show SOut C Hf0 H0 Hf3 Dn (whLoop t F m ρ') from h3) s'⟩
          | bk ρ' => exact fun Hf' H' σ' s' e' => h3 Hf' H' σ' s' e'
          | rt v => exact h3
end
end DL
namespace DL
open PySem PySem.Spec PyProof.Rows L2
variable [Lots]
theorem EnvR.turn {K : PySem.W.Frag} {Hf0 H0 Hf H : Hp} {σ : L2.St} {ρ : Env} {i : Nat} {d d' : D} {a : Addr} {o : HO} (e : EnvR K Hf0 H0 Hf H σ ρ) (hi : ρ[i]? = some (.ow d)) (ha : σ[i]? = some (some (.ref a))) (n0 : H0 a = none) (nf : Hf a = none)
    (ow : OwnAt K Hf (upd H a o) a d') : EnvR K Hf0 H0 Hf (upd H a o) σ (ρ.set i (.ow d')) := by
  refine ⟨e.grow.turn n0 nf, by rw [List.length_set]; exact e.len, fun j s w h1 h2 => ?_, fun j k d1 d2 b h1 h2 h3 h4 => ?_⟩
  · by_cases q : i = j
    · subst q
      have l1 : i < ρ.length := by simpa using (List.getElem?_eq_some_iff.mp h1).1
      rw [List.getElem?_set_self l1] at h1
      cases h1
      rw [ha] at h2
      cases h2
      exact ⟨a, rfl, ow, n0⟩
    · rw [List.getElem?_set_ne q] at h1
      have z := e.slot j s w h1 h2
      cases s with
      | un => trivial
      | va d' => exact z
      | ow d2 =>
        obtain ⟨b, q1, q2, q3⟩ := z
        subst q1
        have nb : b ≠ a := fun z => by subst z; exact q (e.dis i j d d2 b hi h1 ha h2)
        exact ⟨b, rfl, q2.side (L2.Same.refl _) rfl (upd_ne nb), q3⟩
  · have keep : ∀ (j : Nat) (d1 : D), (ρ.set i (DL.Slot.ow d'))[j]? = some (DL.Slot.ow d1) → ∃ d3 : D, ρ[j]? = some (DL.Slot.ow d3) := fun j d1 h => by
      by_cases q : i = j
      · subst q; exact ⟨d, hi⟩
      · rw [List.getElem?_set_ne q] at h; exact ⟨d1, h⟩
    obtain ⟨d3, q1⟩ := keep j d1 h1
    obtain ⟨d4, q2⟩ := keep k d2 h2
    exact e.dis j k d3 d4 b q1 q2 h3 h4
section
variable {X : Cx} {C : Pm} {pos p1 apos cpos : Pos} {e : Expr} {fe : Env → R D} {i : Nat} {x : Str}
theorem few_one (hs : isStar e = false) : ((backTo cpos (starEach [e] X.env)).all (fun x => !x.1) && (backToKw cpos (keywordEach [] X.env)).all (fun x => x.1.isSome)
      && decide (([e] : List Expr).length + ([] : List Keyword).length + (if ([] : List Keyword).isEmpty then 0 else 1) < 30)) = true := by
  rw [star_cons hs]
  rfl
def fApp (i : Nat) (fe : Env → R D) : Env → R Out := fun ρ => match ρ[i]? with
  | some (.ow (.list ds)) => fe ρ >>= fun d => if ds.length < 1000000 then .ok (.nx (ρ.set i (.ow (.list (ds ++ [d]))))) else .bad
  | _ => .bad
theorem s_app (hN : X.N[i]? = some x) (hv : Vis X.env.scope x) (hd : (x == ("__debug__" : Str)) = false) (hcd : (x == ("__classdict__" : Str)) = false) (he : PE X e (tE C fe)) (hs : isStar e = false) (hl : (apos.endLine == cpos.line) = true) :
    PS X (.Expr (.Call (.Attribute (.Name x p1) "append" apos) [e] [] cpos) pos) (tS C (fApp i fe)) := by
  have hp : PE X (.Call (.Attribute (.Name x p1) "append" apos) [e] [] cpos) (tBM X.K "list" rAppend (tVar i) (tCons (tE C fe) tNil)) :=
    pe_bm PySem.F.plainAttrs_list PySem.F.slot_list_append PySem.F.type_list_append mt_append (pe_var hN hv hd hcd) (pa_cons he pa_nil (star_cons hs)) rfl (few_one hs) hl (star_cons hs) rfl
  refine PS.imp (ps_expr hp rfl) fun Dn σ H ⟨Hf0, H0, Hf, ρ, env, h⟩ => ?_
  unfold fApp at h
  split at h
  · rename_i ds hi
    obtain ⟨v, hσ, a, h2, ⟨xs, p1, p2, p3, p4⟩, n0⟩ := slot_there env hi
    subst h2
    refine ⟨.ref a, hσ, .inl ⟨rfl, xs, SqL.of p2⟩, Hf0, H0, Hf, ρ, env, SOut.bind env h fun d y Hf1 H1 _ g r h1 => ?_⟩
    split at h1
    · rename_i hlen
      have e1 := env.more g
      obtain ⟨v', hσ', a', h2', ⟨ys, q1, q2, q3, q4⟩, _⟩ := slot_there e1 hi
      rw [hσ] at hσ'
      cases hσ'
      cases h2'
      have q5 : H1 a = some (.lst xs) := g.h.at p2 p1
      rw [q5] at q2
      cases q2
      have hl2 := q4.length
      refine ⟨a, xs, y, rfl, rfl, q5, by rw [sizeLine_eq]; omega, h1 Hf1 _ σ (Same.refl _) (e1.turn hi hσ n0 q1 ⟨_, q1, upd_same, ?_, q4.append (.cons r .nil)⟩)⟩
      rw [List.length_append, sizeLine_eq]
      simp
      omega
    · exact h1.elim
  · exact h.elim
def fExt (i : Nat) (fe : Env → R D) : Env → R Out := fun ρ => match ρ[i]? with
  | some (.ow (.list ds)) => fe ρ >>= fun d => match d with
    | .list es => if ds.length + es.length < 1000000 then .ok (.nx (ρ.set i (.ow (.list (ds ++ es))))) else .bad
    | _ => .bad
  | _ => .bad
theorem s_ext (hN : X.N[i]? = some x) (hv : Vis X.env.scope x) (hd : (x == ("__debug__" : Str)) = false) (hcd : (x == ("__classdict__" : Str)) = false) (he : PE X e (tE C fe)) (hs : isStar e = false) (hl : (apos.endLine == cpos.line) = true) :
    PS X (.Expr (.Call (.Attribute (.Name x p1) "extend" apos) [e] [] cpos) pos) (tS C (fExt i fe)) := by
  have hp : PE X (.Call (.Attribute (.Name x p1) "extend" apos) [e] [] cpos) (tBM X.K "list" rExtend (tVar i) (tCons (tE C fe) tNil)) :=
    pe_bm PySem.F.plainAttrs_list PySem.F.slot_list_extend PySem.F.type_list_extend mt_extend (pe_var hN hv hd hcd) (pa_cons he pa_nil (star_cons hs)) rfl (few_one hs) hl (star_cons hs) rfl
  refine PS.imp (ps_expr hp rfl) fun Dn σ H ⟨Hf0, H0, Hf, ρ, env, h⟩ => ?_
  unfold fExt at h
  split at h
  · rename_i ds hi
    obtain ⟨v, hσ, a, h2, ⟨xs, p1, p2, p3, p4⟩, n0⟩ := slot_there env hi
    subst h2
    refine ⟨.ref a, hσ, .inl ⟨rfl, xs, SqL.of p2⟩, Hf0, H0, Hf, ρ, env, SOut.bind env h fun d y Hf1 H1 _ g r h1 => ?_⟩
    split at h1
    · split at h1
      · rename_i es hlen
        cases r with
        | @lst b zs _ b1 b2 b3 =>
          have e1 := env.more g
          obtain ⟨v', hσ', a', h2', ⟨ys, q1, q2, q3, q4⟩, _⟩ := slot_there e1 hi
          rw [hσ] at hσ'
          cases hσ'
          cases h2'
          have q5 : H1 a = some (.lst xs) := g.h.at p2 p1
          rw [q5] at q2
          cases q2
          have hl2 := q4.length
          have hl3 := b3.length
          refine ⟨a, b, xs, zs, rfl, rfl, q5, (g.sub.lk _ _ b1 rfl), by rw [sizeLine_eq]; omega, h1 Hf1 _ σ (Same.refl _) (e1.turn hi hσ n0 q1 ⟨_, q1, upd_same, ?_, q4.append b3⟩)⟩
          rw [List.length_append, sizeLine_eq]
          omega
      · exact h1.elim
    · exact h1.elim
  · exact h.elim
structure ExcOk (X : Cx) (cl : Str → Addr) (x : Str) : Prop where
  q : PySem.W.excIn X.K (cl x) [.type "ValueError", .type "Exception", .type "BaseException", .type "object"] "ValueError.__new__" = true
  g : X.mg x = some (.ref (cl x))
  k : PySem.W.keepIn X.K (.ref (cl x)) = true
  r : Raises X (.ref (cl x))
theorem s_raise {m : Str} {j : Nat} {p p2 : Pos} (hc : X.calm = true) (tk : Takes X fun cls d _ H => C.E cls d H) (ok : ExcOk X C.cl x) (hg : Gl X x) (hdb : (x == ("__debug__" : Str)) = false) :
    PS X (.Raise (some (.Call (.Name x p) [.Constant (.str m) j p2] [] cpos)) none pos) (tS C fun _ => .exc x) :=
  PS.imp (ps_raise hc tk (pmk_own PySem.F.excBase_ValueError ok.q ok.g ok.k ok.r hg hdb)) fun Dn σ H ⟨Hf0, H0, Hf, ρ, env, h⟩ => h Hf H env.grow
def owns : List Bool → List V → List Addr
  | true :: fl, .ref a :: vs => a :: owns fl vs
  | true :: fl, _ :: vs => owns fl vs
  | false :: fl, _ :: vs => owns fl vs
  | _, _ => []
inductive Mix (K : PySem.W.Frag) (Hp0 Hf H : Hp) : List Bool → List V → List D → Prop
  | nil : Mix K Hp0 Hf H [] [] []
  | va {v : V} {d : D} {fl : List Bool} {vs : List V} {ds : List D} : Rp K Hf v d → Mix K Hp0 Hf H fl vs ds → Mix K Hp0 Hf H (false :: fl) (v :: vs) (d :: ds)
  | ow {a : Addr} {d : D} {fl : List Bool} {vs : List V} {ds : List D} : Hp0 a = none → OwnAt K Hf H a d → a ∉ owns fl vs → Mix K Hp0 Hf H fl vs ds → Mix K Hp0 Hf H (true :: fl) (.ref a :: vs) (d :: ds)
theorem Mix.free {K : PySem.W.Frag} {Hp0 Hf H : Hp} {fl : List Bool} {vs : List V} {ds : List D} (m : Mix K Hp0 Hf H fl vs ds) : ∀ b ∈ owns fl vs, Hp0 b = none := by
  induction m with
  | nil => intro b hb; simp [owns] at hb
  | va _ _ ih => intro b hb; simp only [owns] at hb; exact ih b hb
  | ow h _ _ _ ih =>
    intro b hb
    simp only [owns, List.mem_cons] at hb
    rcases hb with z | z
    · subst z; exact h
    · exact ih b z
theorem Mix.back {K : PySem.W.Frag} {Hp0 Hp1 Hf H : Hp} {fl : List Bool} {vs : List V} {ds : List D} {R : Prop} [FreeOf R Hp0 Hp1] (s : R) (m : Mix K Hp1 Hf H fl vs ds) : Mix K Hp0 Hf H fl vs ds := by
  induction m with
  | nil => exact .nil
  | va h _ ih => exact .va h ih
  | ow h o n _ ih => exact .ow (Same.free s h) o n ih
theorem Mix.grow {K : PySem.W.Frag} {Hp0 Hf H Hf' H' : Hp} {fl : List Bool} {vs : List V} {ds : List D} (g : Grow Hf H Hf' H') (m : Mix K Hp0 Hf H fl vs ds) : Mix K Hp0 Hf' H' fl vs ds := by
  induction m with
  | nil => exact .nil
  | va h _ ih => exact .va (h.mono g.f) ih
  | ow h o n _ ih => exact .ow h (o.grow g) n ih
theorem Mix.len {K : PySem.W.Frag} {Hp0 Hf H : Hp} {fl : List Bool} {vs : List V} {ds : List D} (m : Mix K Hp0 Hf H fl vs ds) : vs.length = fl.length ∧ ds.length = fl.length := by
  induction m with
  | nil => exact ⟨rfl, rfl⟩
  | va _ _ ih => exact ⟨by simp [ih.1], by simp [ih.2]⟩
  | ow _ _ _ _ ih => exact ⟨by simp [ih.1], by simp [ih.2]⟩
abbrev RelM (C : Pm) (fl : List Bool) (Hp0 : Hp) : Hp → Hp → List V → List D → Prop := fun Hf H vs ds => Mix C.K Hp0 Hf H fl vs ds
def tM (C : Pm) (fl : List Bool) (f : Env → R (List D)) : TA := fun σ H Q => ∃ (Hf0 H0 Hf : Hp) (ρ : Env), EnvR C.K Hf0 H0 Hf H σ ρ ∧ OutG C (RelM C fl H) Hf H (f ρ) Q
variable {es : List Expr} {fl : List Bool} {fr : Env → R (List D)}
theorem m_nil : PA X [] (tM C [] fun _ => .ok []) := PA.imp pa_nil fun σ H Q ⟨Hf0, H0, Hf, ρ, env, h⟩ => h _ Hf H (Grow.refl env.grow.sub) .nil
theorem m_va (hs : isStar e = false) (ha : PE X e (tE C fe)) (hr : PA X es (tM C fl fr)) : PA X (e :: es) (tM C (false :: fl) (fCons fe fr)) :=
  PA.imp (pa_cons ha hr (star_cons hs)) fun σ H Q ⟨Hf0, H0, Hf, ρ, env, h⟩ => ⟨Hf0, H0, Hf, ρ, env, OutG.bind (show OutG C (RelM C (false :: fl) H) Hf H (fCons fe fr ρ) Q from h) fun dx vx Hf1 H1 _ g1 r1 h1 =>
    ⟨Hf0, H0, Hf1, ρ, env.more g1, h1.bind fun ds vs Hf2 H2 _ g2 r2 h2 => h2 _ Hf2 H2 (Grow.refl g2.sub) (.va (r1.mono g2.f) (r2.back g1.h))⟩⟩
theorem m_ow (hs : isStar e = false) (ha : PE X e (tF C fe)) (hr : PA X es (tM C fl fr)) : PA X (e :: es) (tM C (true :: fl) (fCons fe fr)) :=
  PA.imp (pa_cons ha hr (star_cons hs)) fun σ H Q ⟨Hf0, H0, Hf, ρ, env, h⟩ => ⟨Hf0, H0, Hf, ρ, env, OutG.bind (show OutG C (RelM C (true :: fl) H) Hf H (fCons fe fr ρ) Q from h) fun dx vx Hf1 H1 _ g1 r1 h1 =>
    ⟨Hf0, H0, Hf1, ρ, env.more g1, h1.bind fun ds vs Hf2 H2 _ g2 r2 h2 => by
      obtain ⟨a, rfl, na, o⟩ := r1
      obtain ⟨u, hu⟩ := o.there
      refine h2 _ Hf2 H2 (Grow.refl g2.sub) (.ow na (o.grow g2) (fun z => ?_) (r2.back g1.h))
      have := r2.free a z
      rw [hu] at this
      cases this⟩⟩
def setV : List Nat → List V → L2.St → L2.St
  | i :: is, v :: vs, σ => setV is vs (σ.set i (some v))
  | _, _, σ => σ
def setFl : List Bool → List Nat → List D → Env → Env
  | true :: fl, i :: is, d :: ds, ρ => setFl fl is ds (ρ.set i (.ow d))
  | false :: fl, i :: is, d :: ds, ρ => setFl fl is ds (ρ.set i (.va d))
  | _, _, _, ρ => ρ
theorem EnvR.putMix {K : PySem.W.Frag} {Hf0 H0 Hf H Hp0 : Hp} {R : Prop} [FreeOf R H0 Hp0] (s0 : R) : ∀ {fl : List Bool} {vs : List V} {ds : List D}, Mix K Hp0 Hf H fl vs ds → ∀ {is : List Nat} {σ : L2.St} {ρ : Env}, EnvR K Hf0 H0 Hf H σ ρ →
    (∀ (j : Nat) (d : D) (a : Addr), ρ[j]? = some (DL.Slot.ow d) → σ[j]? = some (some (.ref a)) → a ∉ owns fl vs) → is.length = fl.length → EnvR K Hf0 H0 Hf H (setV is vs σ) (setFl fl is ds ρ)
  | _, _, _, .nil, [], σ, ρ, e, _, _ => e
  | _, _, _, .nil, _ :: _, _, _, _, _, hl => by simp at hl
  | _, _, _, .va _ _, [], _, _, _, _, hl => by simp at hl
  | _, _, _, .ow _ _ _ _, [], _, _, _, _, hl => by simp at hl
  | _, _, _, .va (v := v) (d := d) h m, i :: is, σ, ρ, e, hp, hl => by
    unfold setV setFl
    refine EnvR.putMix s0 m (e.put h) (fun j d1 a h1 h2 => ?_) (by simpa using hl)
    by_cases q : i = j
    · subst q
      have l1 : i < ρ.length := by simpa using (List.getElem?_eq_some_iff.mp h1).1
      rw [List.getElem?_set_self l1] at h1
      cases h1
    · rw [List.getElem?_set_ne q] at h1 h2
      have := hp j d1 a h1 h2
      simpa [owns] using this
  | _, _, _, .ow (a := b) (d := d) h o n m, i :: is, σ, ρ, e, hp, hl => by
    unfold setV setFl
    refine EnvR.putMix s0 m (e.putOwn o (Same.free s0 h) fun j d1 h1 h2 => ?_) (fun j d1 a h1 h2 => ?_) (by simpa using hl)
    · have := hp j d1 b h1 h2
      simp [owns] at this
    · by_cases q : i = j
      · subst q
        have l2 : i < σ.length := by simpa using (List.getElem?_eq_some_iff.mp h2).1
        rw [List.getElem?_set_self l2] at h2
        cases h2
        exact n
      · rw [List.getElem?_set_ne q] at h1 h2
        have := hp j d1 a h1 h2
        simp only [owns, List.mem_cons, not_or] at this
        exact this.2
def fPar (fl : List Bool) (is : List Nat) (fr : Env → R (List D)) : Env → R Out := fun ρ => fr ρ >>= fun ds => .ok (.nx (setFl fl is ds ρ))
theorem par_in {is : List Nat} (hl : is.length = fl.length) {Dn : Ends} {σ : L2.St} {H : Hp} {Q : List V → Hp → Prop} (h : tS C (fPar fl is fr) Dn σ H) (hq : ∀ vs H1, vs.length = is.length → (∀ H2, Same H1 H2 → Dn.nx (setV is vs σ) H2) → Q vs H1) : tM C fl fr σ H Q := by
  obtain ⟨Hf0, H0, Hf, ρ, env, h⟩ := h
  refine ⟨Hf0, H0, Hf, ρ, env, SOut.bind env (show SOut C Hf0 H0 Hf Dn (fPar fl is fr ρ) from h) fun ds vs Hf1 H1 _ g m h1 => hq vs H1 (by rw [m.len.1, hl]) fun H2 s2 => ?_⟩
  have g2 : Grow Hf1 H1 Hf1 H2 := ⟨Same.refl _, .of s2, fun _ _ q => .inl q, g.sub.up s2⟩
  refine h1 Hf1 H2 _ (Same.refl _) (EnvR.putMix (Hp0 := H) env.grow.h (m.grow g2) ((env.more g).more g2) (fun j d a q1 q2 q3 => ?_) hl)
  have z := m.free a q3
  exact env.notOwn z j d q1 q2
def gNames (is : List Nat) : TGs := fun vs σ H Q => vs.length = is.length ∧ Q (setV is vs σ) H
theorem g_names {ts : List Expr} {is : List Nat} (hN : X.N.Nodup) (h : Nms X ts is) : PGs X ts (gNames is) := by
  induction h with
  | nil =>
    refine PGs.imp pgs_nil fun v σ H Q ⟨h1, h2⟩ => ?_
    have e : v = [] := List.eq_nil_of_length_eq_zero h1
    subst e
    exact ⟨rfl, h2⟩
  | cons h _ ih =>
    refine PGs.imp (pgs_cons (pg_name hN h.1 h.2.1 h.2.2) ih assignEach_name) fun v σ H Q ⟨h1, h2⟩ => ?_
    cases v with
    | nil => cases h1
    | cons v vs => exact ⟨v, vs, rfl, by simpa using h1, h2⟩
theorem len_sz {X : Cx} {vs : List V} {is : List Nat} (h : vs.length = is.length) (hs : is.length ≤ 1000) : vs.length ≤ sizeLine := le_line (by omega)
theorem s_parN {ts : List Expr} {is : List Nat} {k k2 : Nat} {pt pt2 : Pos} (hc : X.calm = true) (hN : X.N.Nodup) (hn : Nms X ts is) (hl : is.length = fl.length) (hsz : is.length ≤ 1000) (ha : PA X es (tM C fl fr))
    (hw : swappedStores [.Tuple ts k pt] (.Tuple es k2 pt2) X.env = pure none) : PS X (.Assign [.Tuple ts k pt] (.Tuple es k2 pt2) pos) (tS C (fPar fl is fr)) :=
  PS.imp (ps_asg (pe_tup ha) (pg_tup (n := is.length) hc (g_names hN hn) (nms_len hn _) (nms_star hn _)) rfl hw rfl) fun Dn σ H h => par_in hl h fun vs H1 e q =>
    ⟨len_sz (X := X) e hsz, fun p np => ⟨p, vs, rfl, SqT.of upd_same, e, e, q _ (same_upd np)⟩⟩
theorem s_par2 {i j : Nat} {x y : Str} {a b : Expr} {px py pt pt2 : Pos} {kt k2 : Nat} (hc : X.calm = true) (hN : X.N.Nodup) (hi : X.N[i]? = some x) (hj : X.N[j]? = some y) (hij : i ≠ j)
    (hx : X.env.scope.names.lookup x = some .local) (hy : X.env.scope.names.lookup y = some .local) (hl : fl.length = 2) (ha : PA X [a, b] (tM C fl fr))
    (hw : swappedStores [.Tuple [.Name x px, .Name y py] kt pt] (.Tuple [a, b] k2 pt2) X.env = pure (some [x, y])) :
    PS X (.Assign [.Tuple [.Name x px, .Name y py] kt pt] (.Tuple [a, b] k2 pt2) pos) (tS C (fPar fl [i, j] fr)) :=
  PS.imp (ps_par hc hN hi hj hij hx hy ha hw rfl) fun Dn σ H h => par_in (is := [i, j]) (by rw [hl]; rfl) h fun vs H1 e q => by
    match vs, e with
    | [v, w], _ => exact ⟨v, w, rfl, q _ (Same.refl _)⟩
theorem s_par3 {i j l : Nat} {x y z : Str} {a b c : Expr} {px py pz pt pt2 : Pos} {kt k2 : Nat} (hc : X.calm = true) (hN : X.N.Nodup) (hi : X.N[i]? = some x) (hj : X.N[j]? = some y) (hk : X.N[l]? = some z) (hij : i ≠ j) (hil : i ≠ l) (hjl : j ≠ l)
    (hx : X.env.scope.names.lookup x = some .local) (hy : X.env.scope.names.lookup y = some .local) (hz : X.env.scope.names.lookup z = some .local) (hl : fl.length = 3) (ha : PA X [a, b, c] (tM C fl fr))
    (hw : swappedStores [.Tuple [.Name x px, .Name y py, .Name z pz] kt pt] (.Tuple [a, b, c] k2 pt2) X.env = pure (some [x, y, z])) :
    PS X (.Assign [.Tuple [.Name x px, .Name y py, .Name z pz] kt pt] (.Tuple [a, b, c] k2 pt2) pos) (tS C (fPar fl [i, j, l] fr)) :=
  PS.imp (ps_par3 hc hN hi hj hk hij hil hjl hx hy hz ha hw rfl) fun Dn σ H h => par_in (is := [i, j, l]) (by rw [hl]; rfl) h fun vs H1 e q => by
    match vs, e with
    | [u, v, w], _ => exact ⟨u, v, w, rfl, q _ (Same.refl _)⟩
def swNames (sc : Scope) (ts : List Expr) : List Str := ts.filterMap fun
  | .Name id pos => if sc.names.lookup id == some .local && pos.line == (ts.head?.map (·.pos.line)).getD 0 then some id else none
  | _ => none
def swap? (sc : Scope) (ts vs : List Expr) : Option (Option (List Str)) :=
  if (!(ts.length == 2 || ts.length == 3) || vs.length != ts.length) = true then some none
  else if (vs.any fun | .Starred .. => true | _ => false) = true then some none
  else if ((swNames sc ts).length != ts.length || (swNames sc ts).eraseDups.length != (swNames sc ts).length) = true then some none
  else if vs.all (foldedForSure 8) = true then some none
  else if vs.all (constantsAlone 8) = true then none
  else some (some (swNames sc ts))
theorem swap_ok {ts vs : List Expr} {k k2 : Nat} {pt pt2 : Pos} {env : PySem.Env} {o : Option (List Str)} (hk : env.scope.kind = .function) (h : swap? env.scope ts vs = some o) : swappedStores [.Tuple ts k pt] (.Tuple vs k2 pt2) env = pure o := by
  have hb : env.blockKind = .function := by unfold PySem.Env.blockKind; rw [hk]; rfl
  unfold swap? at h
  unfold swappedStores
  simp only [hb]
  split at h
  · rename_i c
    cases h
    have c2 : (!(ts.length == 2 || ts.length == 3) || vs.length != ts.length || ScopeKind.function != ScopeKind.function) = true := by rw [c]; rfl
    rw [if_pos c2]
  · rename_i c
    have c2 : ¬ (!(ts.length == 2 || ts.length == 3) || vs.length != ts.length || ScopeKind.function != ScopeKind.function) = true := by
      have z : (ScopeKind.function != ScopeKind.function) = false := rfl
      rw [z, Bool.or_false]
      exact c
    rw [if_neg c2]
    split at h
    · rename_i c
      cases h
      exact if_pos c
    · rename_i c
      split at h
      · rename_i c1
        cases h
        exact (if_neg c).trans (if_pos c1)
      · rename_i c1
        split at h
        · rename_i c3
          cases h
          exact (if_neg c).trans ((if_neg c1).trans (if_pos c3))
        · rename_i c3
          split at h
          · cases h
          · rename_i c4
            cases h
            exact (if_neg c).trans ((if_neg c1).trans ((if_neg c3).trans (if_neg c4)))
end
end DL
namespace DL
open PySem PySem.Spec PyProof.Rows L2
variable [Lots]
def dIndex (ds : List D) (y : D) : R D := if SeqAt.shaped y && SeqAt.shaped (.list ds) then (match ds.findIdx? fun z => PyData.eqv z y with | some j => .ok (.int j) | none => .bad) else .bad
def dCount (ds : List D) (y : D) : R D := if SeqAt.shaped y && SeqAt.shaped (.list ds) then .ok (.int (ds.countP fun z => PyData.eqv z y : Nat)) else .bad
def fMeth (F : List D → D → R D) (fo fe : Env → R D) : Env → R D := fun ρ => fo ρ >>= fun x => match x with | .list ds => fe ρ >>= F ds | _ => .bad
def baseOk : Expr → Bool
  | .Call (.Name _ _) [] [] _ => false
  | _ => true
theorem base_of {o : Expr} {m : Str} {env : PySem.Env} {w : Sem Value} (h : baseOk o = true) : attributeBase o m env w = w := by
  unfold attributeBase
  split
  · simp [baseOk] at h
  · rfl
section
variable {X : Cx} {C : Pm} {o e : Expr} {apos cpos : Pos} {fo fe : Env → R D}
def rCountD (K : PySem.W.Frag) : V → List V → Hp → VK → Prop := fun x xs H Q => ∃ (a : Addr) (y : V) (d : PyData) (ds : List PyData), x = V.ref a ∧ xs = [y] ∧ Dp K H (V.ref a) (.list ds) ∧ Dp K H y d ∧
  SeqAt.shaped (.list ds) = true ∧ SeqAt.shaped d = true ∧ Q (.int (ds.countP fun z => PyData.eqv z d : Nat)) H
theorem mt_countD (hu : X.A.units + 65 < cLine) : MtR X "list.count" (rCountD X.K) := by
  intro pins s σ H x xs v us Q I rx rxs h
  obtain ⟨a, y, d, ds, rfl, rfl, hl, hy, sl, sd, q⟩ := h
  cases rx
  cases rxs with
  | cons ry rt =>
    rename_i uy ut
    cases rt
    obtain ⟨bs, r1⟩ := Dp.reads I d y uy hy ry
    have hxs : PyData.canLayAll0 ds = true := SeqAt.canLay_of_shaped sl
    have hroom : X.A.units + 1 + min (PyData.depthAll ds) d.depth < cLine := room_in_shaped sd hu
    cases hl with
    | lst hs ha =>
      obtain ⟨its, rv, ⟨⟨cls, dd, data, sls⟩, n, ho, hc, hdn, hdt⟩, hlen⟩ := I.list hs
      simp only at hc hdt
      subst hc hdt
      obtain ⟨as, h4⟩ := Dp.readsAll I ds _ its ha rv
      have hmap : its.map (SeqAt.readOf s.heap) = ds := SeqAt.readsAll_map ds its as hxs h4
      refine call_meets PySem.F.slot_list_count ⟨_, ho, rfl⟩ PySem.F.entry_list_count (PySem.F.args_list_count_2 _ _)
        (SeqAt.list_countAt a its.toArray n dd sls uy (fun u => PyData.eqv (SeqAt.readOf s.heap u) d)) ⟨ho, SeqAt.items_eqAt (vs := its.toArray) (show ReadsAll s.heap its.toArray.toList ds as from h4) r1 hxs (SeqAt.canLay_of_shaped sd) hroom, ?_⟩
      have e : its.countP (fun u => PyData.eqv (SeqAt.readOf s.heap u) d) = ds.countP fun z => PyData.eqv z d := by
        rw [← hmap, List.countP_map]
        rfl
      refine ⟨.int (ds.countP fun z => PyData.eqv z d : Nat), H, I.tok _, ⟨s.toks, ?_⟩, q⟩
      rw [← e]
theorem e_meth {m : Str} {id : String} {F : List D → D → R D} {r : V → List V → Hp → VK → Prop} (slot : PySem.Slot "list" m id) (hty : typeOf (.builtin id) = pure (.type "method_descriptor")) (hm : MtR X id r)
    (hr : ∀ (Hf H : Hp) (a : Addr) (y : V) (ds : List D) (d : D) (Q : VK), Fit Hf H → Rp1 C.K Hf H (.ref a) (.list ds) → Rp1 C.K Hf H y d → OutG C (RelE C) Hf H (F ds d) Q → r (.ref a) [y] H Q)
    (hK : C.K = X.K) (ho : PE X o (tP C fo)) (he : PE X e (tP C fe)) (hs : isStar e = false) (hb : baseOk o = true) (hl : (apos.endLine == cpos.line) = true) :
    PE X (.Call (.Attribute o m apos) [e] [] cpos) (tE C (fMeth F fo fe)) := by
  refine PE.imp (pe_bm PySem.F.plainAttrs_list slot hty hm ho (pa_cons he pa_nil (star_cons hs)) (base_of hb) (few_one hs) hl (star_cons hs) rfl) ?_
  intro σ H Q ⟨Hf0, H0, Hf, ρ, env, h⟩
  refine ⟨Hf0, H0, Hf, ρ, env, OutG.bind (show OutG C (RelE C) Hf H (fMeth F fo fe ρ) Q from h) fun dx vx Hf1 H1 _ g1 r1 h1 => ?_⟩
  cases dx with
  | list ds =>
    obtain ⟨a, xs, rfl, ha, _, _⟩ := Rp1.list_ g1.sub r1
    refine ⟨.inl ⟨rfl, xs, SqL.of ha⟩, Hf0, H0, Hf1, ρ, env.more g1, OutG.bind h1 fun dy vy Hf2 H2 _ g2 r2 h2 => ?_⟩
    exact hr Hf2 H2 a vy ds dy Q g2.sub (r1.grow g2) r2 h2
  | _ => exact h1.elim
theorem e_index (hu : X.A.units + 65 < cLine) (hK : C.K = X.K) (ho : PE X o (tP C fo)) (he : PE X e (tP C fe)) (hs : isStar e = false) (hb : baseOk o = true) (hl : (apos.endLine == cpos.line) = true) :
    PE X (.Call (.Attribute o "index" apos) [e] [] cpos) (tE C (fMeth dIndex fo fe)) := by
  refine e_meth PySem.F.slot_list_index PySem.F.type_list_index (mt_indexD hu) (fun Hf H a y ds d Q sf hx hy h => ?_) hK ho he hs hb hl
  unfold dIndex at h
  split at h
  · rename_i c
    simp only [Bool.and_eq_true] at c
    split at h
    · rename_i j hj
      obtain ⟨h1, h2, h3⟩ := List.findIdx?_eq_some_iff_getElem.mp hj
      refine ⟨a, y, d, ds, j, ds[j], rfl, rfl, ?_, ?_, c.2, c.1, List.getElem?_eq_getElem h1, h2, fun m z' hm hz => ?_, h.val sf (.int _)⟩
      · rw [← hK]; exact hx.dp sf c.2
      · rw [← hK]; exact hy.dp sf c.1
      · obtain ⟨q1, rfl⟩ := List.getElem?_eq_some_iff.mp hz
        have := h3 m hm
        simpa using this
    · exact h.elim
  · exact h.elim
theorem e_count (hu : X.A.units + 65 < cLine) (hK : C.K = X.K) (ho : PE X o (tP C fo)) (he : PE X e (tP C fe)) (hs : isStar e = false) (hb : baseOk o = true) (hl : (apos.endLine == cpos.line) = true) :
    PE X (.Call (.Attribute o "count" apos) [e] [] cpos) (tE C (fMeth dCount fo fe)) := by
  refine e_meth PySem.F.slot_list_count PySem.F.type_list_count (mt_countD hu) (fun Hf H a y ds d Q sf hx hy h => ?_) hK ho he hs hb hl
  unfold dCount at h
  split at h
  · rename_i c
    simp only [Bool.and_eq_true] at c
    refine ⟨a, y, d, ds, rfl, rfl, ?_, ?_, c.2, c.1, h.val sf (.int _)⟩
    · rw [← hK]; exact hx.dp sf c.2
    · rw [← hK]; exact hy.dp sf c.1
  · exact h.elim
end
end DL
namespace DL
open PySem PySem.Spec PyProof.Rows L2
variable [Lots]
def dDict1 (k d : D) : R D := if (keyOfD k).isSome then .ok (.dict [(k, d)]) else if keyT k then .ok (tdD [(k, d)]) else .bad
theorem PS.or {X : Cx} {e : Stmt} {t u : TS} (h : PS X e t) (h' : PS X e u) : PS X e (fun Dn σ H => t Dn σ H ∨ u Dn σ H) := ⟨fun pins s σ H Dn I hw => hw.elim (h.run pins s σ H Dn I) (h'.run pins s σ H Dn I)⟩
theorem inv_nd {X : Cx} {pins : List (Addr × Obj)} {σ : L2.St} {H : Hp} {s : Shared} {a : Addr} (I : Inv X pins σ H s) (ha : H a = some (.dK [])) : Inv X pins σ (upd H a (NDO Lots.w a [])) s := by
  have x := nd_emptyR I (.inl ha)
  obtain ⟨o, ho⟩ : ∃ o, s.heap.get? a = some o := let ⟨o, _, _, ho, _⟩ := x.ex; ⟨o, ho⟩
  exact d_write (h' := s.heap) (t' := s.toks) I (by rw [ha]; exact True.intro) (Heap.SameBut.refl _ _) ⟨o, ho⟩ (ndo_ok x)
section
variable {X : Cx} {pos pos' : Pos} {o i k v value : Expr} {tk tv td ty : TE}
theorem pe_disp1N (hw : X.w = Lots.w) (hu : X.A.units + 65 < cLine) (hk : PE X k tk) (hv : PE X v tv) : PE X (.Dict [some k] [v] pos) (fun σ H Q => ∀ p, H p = none → tPairs [(tk, tv)] σ (upd H p (.dK [])) fun ps H2 => H2 p = some (.dK []) ∧
    ∃ (b : Addr) (y : V) (kd : D) (Hf : Hp), ps = [(.ref b, y)] ∧ Fit Hf H2 ∧ Rp X.K Hf (.ref b) kd ∧ keyT kd = true ∧ ∀ u, RelV y u → Q (.ref p) (upd H2 p (NDO Lots.w p [(keyOf kd, b, u)]))) := by
  refine ⟨fun pins s σ H Q I q => ?_⟩
  have hn := I.hok.fresh (Nat.le_refl s.heap.objs.size)
  have J := I.laid (a := s.heap.objs.size) (o := .dK []) (h' := s.heap.push { cls := .type "dict", data := .dict #[] }) (t' := s.toks) (fun _ _ q => Heap.get?_push_of_some _ q) (Nat.le_refl _) (dk_empty s.heap I.big)
  have hp := pps_cons (pos := pos) hk hv (pps_nil (X := X))
  rw [arm_eval_Dict, zip_pairTrees [some k] [v] X.env pos rfl rfl, dictDisplay_pairs _ (by simp [pairTrees]) (by simp [pairTrees])]
  refine wpAny_bind (wpAny_standAt (wpAny_bind (wpAny_subDictH (knd := nestedKind X.prog X.w) (by show X.A.units + 8 < cLine; omega) (by simp [pairTrees]) (thn (hp.run pins _ σ _ _ J (q _ hn)) fun ws s2 ⟨ps, H2, I2, rel, e, b, y, kd, Hf, ep, sf, rb, kt, q2⟩ => ?_))))
  subst ep
  cases rel with
  | @cons _ w1 _ _ r1 r2 =>
    cases r2
    obtain ⟨wk, wv⟩ := w1
    obtain ⟨rk, rv⟩ := r1
    have rk : wk = Value.ref b := rk
    subst rk
    have x := nd_emptyR I2 (.inl e)
    have dd : s2.heap.DictOfH (nestedKind X.prog X.w) s.heap.objs.size [] := ND0.to (P := X.prog) (w := X.w) ⟨x.ex, x.nd, x.sm⟩ fun y hy => nomatch hy
    refine ⟨[(keyOf kd, b, wv)], ⟨rfl, rfl, key_is I2 sf rb kt, trivial⟩, dd, fun h' tk dd' hs => wpAny_pure ⟨.ref s.heap.objs.size, upd H2 s.heap.objs.size (NDO Lots.w s.heap.objs.size [(keyOf kd, b, wv)]), ?_, rfl, q2 wv rv⟩⟩
    have x' := ND0.of x.sm dd'
    obtain ⟨o, ho⟩ : ∃ o, h'.get? s.heap.objs.size = some o := let ⟨o, _, _, ho, _⟩ := x'.ex; ⟨o, ho⟩
    refine d_write (t' := tk) I2 (by rw [e]; exact True.intro) hs ⟨o, ho⟩ (ndo_ok ?_)
    rw [← hw]
    exact x'
theorem ps_nput (hw : X.w = Lots.w) (hu : X.A.units + 65 < cLine) (ho : PE X o td) (hi : PE X i ty) (hv : PE X value tv) (hs : swapsWith value (some (.Subscript o i pos')) pos.line X.env = pure false) :
    PS X (.Assign [.Subscript o i pos'] value pos) (fun Dn σ H => tv σ H fun v H1 => td σ H1 fun x H2 => ty σ H2 fun y H3 => ∃ (a b : Addr) (Hf : Hp) (xs : List NE) (nds : List (D × D)) (kd : D), x = .ref a ∧ y = .ref b ∧ Fit Hf H3 ∧ (H3 a = some (NDO Lots.w a xs) ∨ H3 a = some (.dK []) ∧ xs = []) ∧ Hf a = none ∧ xs.length ≤ sizeLine ∧ RpN X.K Hf xs nds ∧
      Rp X.K Hf (.ref b) kd ∧ keyT kd = true ∧ ∀ u, RelV v u → Dn.nx σ (upd H3 a (NDO Lots.w a (storedH xs (keyOf kd) b u)))) := by
  refine ⟨fun pins s σ H Dn I h => ?_⟩
  refine wpAny_Assign_Subscript (thn (hv.run pins s σ H _ I h) fun r s1 ⟨v, H1, I1, rv, q1⟩ => thn (ho.run pins s1 σ H1 _ I1 q1) fun u s2 ⟨x, H2, I2, rx, q2⟩ => thn (hi.run pins s2 σ H2 _ I2 q2) fun iv s3 ⟨y, H3, I3, ry, a, b, Hf, xs, nds, kd, ex, ey, sf, ha, nf, hl, rn, rb, kt, q3⟩ => ?_) hs
  subst ex ey
  obtain rfl : u = Value.ref a := rx
  obtain rfl : iv = Value.ref b := ry
  rcases ha with ha | ⟨ha, rfl⟩
  · exact n_setItem hw hu I3 sf ha hl rn rb kt rv fun s4 I4 => ⟨σ, _, I4, q3 r rv⟩
  · have I4 := inv_nd I3 ha
    refine n_setItem (v := v) hw hu I4 (sf.turn nf) upd_same hl rn rb kt rv fun s5 I5 => ⟨σ, _, I5, ?_⟩
    rw [L2.upd_upd]
    exact q3 r rv
end
section
variable {X : Cx} {C : Pm} {pos apos cpos : Pos} {o e g k v : Expr} {fo fe fg fk fv : Env → R D}
theorem f_dict0 : PE X (.Dict [] [] pos) (tF C fun _ => .ok (.dict [])) :=
  PE.imp pe_dnewK fun σ H Q ⟨Hf0, H0, Hf, ρ, env, h⟩ p np => h _ Hf _ (Grow.side env.grow.sub np) ⟨p, rfl, np, .inl ⟨[], Same.free env.grow.sub np, upd_same, Nat.zero_le _, .nil⟩⟩
theorem f_dict1 (hw : X.w = Lots.w) (hK : C.K = X.K) (hu : X.A.units + 65 < cLine) (hk : PE X k (tE C fk)) (hv : PE X v (tE C fv)) : PE X (.Dict [some k] [v] pos) (tF C fun ρ => fk ρ >>= fun dk => fv ρ >>= fun dv => dDict1 dk dv) := by
  refine PE.imp (PE.or (pe_disp (pps_cons hk hv pps_nil) rfl rfl (by simp) (by simp)) (pe_disp1N hw hu hk hv)) fun σ H Q ⟨Hf0, H0, Hf, ρ, env, h⟩ => ?_
  have h : OutG C (RelF C H) Hf H (fk ρ >>= fun dk => fv ρ >>= fun dv => dDict1 dk dv) Q := h
  have walk : ∀ {F : List (V × V) → Hp → Prop} (p : Addr), H p = none → (∀ dk dv x y Hf2 H2, fk ρ = .ok dk → fv ρ = .ok dv → Grow Hf (upd H p (.dK [])) Hf2 H2 → Rp C.K Hf2 x dk → Rp C.K Hf2 y dv → F [(x, y)] H2) → tPairs [(tE C fk, tE C fv)] σ (upd H p (.dK [])) F := fun {F} p np hF => by
    have g0 : Grow Hf H Hf (upd H p (.dK [])) := Grow.side env.grow.sub np
    refine ⟨Hf0, H0, Hf, ρ, env.more g0, ?_⟩
    cases e1 : fk ρ with
    | bad => rw [e1] at h; exact h.elim
    | exc c => rw [e1] at h; exact fun Hf' H' g => h Hf' H' (g0.trans g)
    | ok dk =>
      rw [e1] at h
      have h : OutG C (RelF C H) Hf H (fv ρ >>= fun dv => dDict1 dk dv) Q := h
      intro x Hf1 H1 g1 r1
      refine ⟨Hf0, H0, Hf1, ρ, (env.more g0).more g1, ?_⟩
      cases e2 : fv ρ with
      | bad => rw [e2] at h; exact h.elim
      | exc c => rw [e2] at h; exact fun Hf' H' g => h Hf' H' ((g0.trans g1).trans g)
      | ok dv =>
        intro y Hf2 H2 g2 r2
        exact hF dk dv x y Hf2 H2 e1 e2 (g1.trans g2) (r1.mono g2.f) r2
  by_cases hc : ∃ dk, fk ρ = .ok dk ∧ (keyOfD dk).isSome = false ∧ keyT dk = true
  · obtain ⟨dk, e1, c1, c2⟩ := hc
    refine .inr fun p np => walk p np fun dk' dv x y Hf2 H2 e1' e2 g rk rv => ?_
    rw [e1] at e1'
    cases e1'
    have nf : Hf p = none := Same.free env.grow.sub np
    have hp : H2 p = some (.dK []) := g.h.at upd_same nf
    have nf2 : Hf2 p = none := g.off nf upd_same (fun _ z => by cases z)
    obtain ⟨_, _, ds, eds⟩ := keyT_n c2
    obtain ⟨b, rfl, rb⟩ : ∃ b, x = .ref b ∧ Rp C.K Hf2 (.ref b) dk := by
      rw [eds] at rk ⊢
      exact Rp1.tupRp (H := H2) (.inl rk)
    refine ⟨hp, b, y, dk, Hf2, rfl, g.sub, by rw [← hK]; exact rb, c2, fun u ru => ?_⟩
    have h : OutG C (RelF C H) Hf H (dDict1 dk dv) Q := by
      rw [e1, R.ok_bind, e2] at h
      exact h
    have e3 : dDict1 dk dv = .ok (tdD [(dk, dv)]) := by simp [dDict1, c1, c2]
    rw [e3] at h
    have gg : Grow Hf H Hf2 H2 := (Grow.side env.grow.sub np).trans g
    exact h _ Hf2 _ (gg.turn np nf2) ⟨p, rfl, np, .inr ⟨_, _, rfl, nf2, upd_same, by rw [sizeLine_eq]; simp, .cons rb c2 ru rv .nil⟩⟩
  · refine .inl fun p np => walk p np fun dk dv x y Hf2 H2 e1 e2 g rk rv => ?_
    have nf : Hf p = none := Same.free env.grow.sub np
    have hp : H2 p = some (.dK []) := g.h.at upd_same nf
    have nf2 : Hf2 p = none := g.off nf upd_same (fun _ z => by cases z)
    have h : OutG C (RelF C H) Hf H (dDict1 dk dv) Q := by
      rw [e1, R.ok_bind, e2] at h
      exact h
    unfold dDict1 at h
    split at h
    · rename_i hs
      obtain ⟨k', ek⟩ := Option.isSome_iff_exists.mp hs
      have e3 := keyOf_ok ek
      subst e3
      have hx : x = kV k' := Rp1.key_ (K := C.K) (Hf := Hf2) (H := H2) (.inl rk)
      subst hx
      have gg : Grow Hf H Hf2 H2 := (Grow.side env.grow.sub np).trans g
      refine ⟨hp, [(k', y)], rfl, by simp, ?_⟩
      have e4 : mergeK [] [(k', y)] = [(k', y)] := rfl
      rw [e4]
      exact h _ Hf2 _ (gg.turn np nf2) ⟨p, rfl, np, .inl ⟨[(k', y)], nf2, upd_same, by rw [sizeLine_eq]; simp, .cons rv .nil⟩⟩
    · rename_i hs
      split at h
      · rename_i hk'
        exact absurd ⟨dk, e1, by simpa using hs, hk'⟩ hc
      · exact h.elim
def dGet2 (kds : List (D × D)) (k z : D) : R D := if dkB kds && (keyOfD k).isSome then .ok ((lookD kds k).getD z) else .bad
def fGet (fo fe fg : Env → R D) : Env → R D := fun ρ => fo ρ >>= fun x => match x with | .dict kds => if dkB kds then fe ρ >>= fun k => fg ρ >>= fun z => dGet2 kds k z else .bad | _ => .bad
theorem e_get (hu : X.A.units + 65 < cLine) (ho : PE X o (tP C fo)) (he : PE X e (tP C fe)) (hg : PE X g (tE C fg)) (hs : isStar e = false) (hs2 : isStar g = false) (hb : attributeBase o "get" X.env (eval o X.env) = eval o X.env) (hl : (apos.endLine == cpos.line) = true) :
    PE X (.Call (.Attribute o "get" apos) [e, g] [] cpos) (tE C (fGet fo fe fg)) := by
  have m : M2 X o "get" apos e g cpos := ⟨hb, by rw [star_cons hs, star_cons hs2]; rfl, hl, by rw [star_cons hs, star_cons hs2]; rfl⟩
  refine PE.imp (pe_dget2 (by omega) ho he hg m) fun σ H Q ⟨Hf0, H0, Hf, ρ, env, h⟩ => ⟨Hf0, H0, Hf, ρ, env, OutG.bind (show OutG C (RelE C) Hf H (fGet fo fe fg ρ) Q from h) fun dx vx Hf1 H1 _ g1 r1 h1 => ?_⟩
  cases dx with
  | dict kds =>
    have h1 : OutG C (RelE C) Hf1 H1 (if dkB kds then fe ρ >>= fun k => fg ρ >>= fun z => dGet2 kds k z else .bad) Q := h1
    split at h1
    · rename_i hk
      obtain ⟨a, kvs, rfl, rd, zl, ra⟩ := r1.dic_ g1.sub hk
      refine ⟨a, rfl, .inl ⟨kvs, rd⟩, Hf0, H0, Hf1, ρ, env.more g1, h1.bind fun dk vk Hf2 H2 _ g2 r2 h2 => ⟨Hf0, H0, Hf2, ρ, (env.more g1).more g2, h2.bind fun dz vz Hf3 H3 _ g3 r3 h3 => ?_⟩⟩
      unfold dGet2 at h3
      split at h3
      · rename_i hc
        simp only [Bool.and_eq_true] at hc
        obtain ⟨k', ek⟩ := Option.isSome_iff_exists.mp hc.2
        have e3 := keyOf_ok ek
        subst e3
        obtain rfl := r2.key_
        obtain ⟨a', kvs', ea, rd', _, ra'⟩ := (r1.grow (g2.trans g3)).dic_ g3.sub hk
        cases ea
        refine ⟨valV kvs' k', .inl ⟨kvs', k', rd', rfl, rfl⟩, ?_⟩
        cases q : lookD kds (keyD k') with
        | none =>
          rw [q] at h3
          rw [ra'.none q]
          exact h3.val g3.sub r3
        | some d =>
          rw [q] at h3
          obtain ⟨w, w1, w2⟩ := ra'.look q
          rw [w1]
          exact h3.val g3.sub w2
      · exact h3.elim
    · exact h1.elim
  | _ => exact h1.elim
def fPutN (i : Nat) (ρ : Env) (kds : List (D × D)) (k d : D) : R Out := if keyT k then (match kds with
    | [] => .ok (.nx (ρ.set i (.ow (tdD [(k, d)]))))
    | [(.none, .dict nds)] => if nds.length < 1000000 then .ok (.nx (ρ.set i (.ow (tdD (putN nds k d))))) else .bad
    | _ => .bad) else .bad
def fPut (i : Nat) (fk fv : Env → R D) : Env → R Out := fun ρ => match ρ[i]? with
  | some (.ow (.dict kds)) => fv ρ >>= fun d => fk ρ >>= fun k => if ((keyOfD k).isSome && decide (kds.length < 1000000)) && dkB kds then .ok (.nx (ρ.set i (.ow (.dict (putD kds k d))))) else fPutN i ρ kds k d
  | _ => .bad
theorem putK_len (kvs : List (Key × V)) (k : Key) (v : V) : (putK kvs k v).length ≤ kvs.length + 1 := by
  unfold putK
  split <;> simp
theorem s_put {i : Nat} {x : Str} {p1 pos' : Pos} (hw : X.w = Lots.w) (hK : C.K = X.K) (hu : X.A.units + 65 < cLine) (hN : X.N[i]? = some x) (hv : Vis X.env.scope x) (hd : (x == ("__debug__" : Str)) = false) (hcd : (x == ("__classdict__" : Str)) = false) (hk : PE X k (tP C fk)) (he : PE X v (tE C fv)) (hc : isComp v = false) :
    PS X (.Assign [.Subscript (.Name x p1) k pos'] v pos) (tS C (fPut i fk fv)) := by
  refine PS.imp (PS.or (ps_dput (by omega) (pe_var hN hv hd hcd) hk he (sw_false hc)) (ps_nput hw hu (pe_var hN hv hd hcd) hk he (sw_false hc))) fun Dn σ H ⟨Hf0, H0, Hf, ρ, env, h⟩ => ?_
  unfold fPut at h
  split at h
  · rename_i kds hi
    obtain ⟨v0, hσ, a, h2, ow, n0⟩ := slot_there env hi
    subst h2
    by_cases hn : ∃ d k, fv ρ = .ok d ∧ fk ρ = .ok k ∧ (((keyOfD k).isSome && decide (kds.length < 1000000)) && dkB kds) = false
    · obtain ⟨d, kd, ev, ek, hf⟩ := hn
      refine .inr ⟨Hf0, H0, Hf, ρ, env, SOut.bind env h fun d' y Hf1 H1 e1 g r h1 => ⟨.ref a, hσ, Hf0, H0, Hf1, ρ, env.more g, SOut.bind (env.more g) h1 fun dk vk Hf2 H2 e2' g2 r2 h2 => ?_⟩⟩
      rw [ev] at e1
      cases e1
      rw [ek] at e2'
      cases e2'
      rw [if_neg (by simp [hf])] at h2
      have e2 := (env.more g).more g2
      obtain ⟨v', hσ', a', h2', ow', _⟩ := slot_there e2 hi
      rw [hσ] at hσ'
      cases hσ'
      cases h2'
      unfold fPutN at h2
      split at h2
      · rename_i kt
        obtain ⟨_, _, ds, eds⟩ := keyT_n kt
        obtain ⟨b, rfl, rb⟩ : ∃ b, vk = .ref b ∧ Rp C.K Hf2 (.ref b) kd := by
          rw [eds] at r2 ⊢
          exact Rp1.tupRp r2
        split at h2
        · rcases ow' with ⟨kvs, q1, q2, q3, q4⟩ | ⟨nds, xs, q, _⟩
          · cases q4
            exact ⟨a, b, Hf2, [], [], kd, rfl, rfl, e2.grow.sub, .inr ⟨q2, rfl⟩, q1, by simp, .nil, by rw [← hK]; exact rb, kt, fun u ru => h2 Hf2 _ σ (Same.refl _) (e2.turn hi hσ n0 q1 (.inr ⟨_, _, rfl, q1, upd_same, by rw [sizeLine_eq]; simp [storedH, atKey], .cons rb kt ru (r.mono g2.f) .nil⟩))⟩
          · cases q
        · rename_i nds
          rcases ow' with ⟨kvs, q1, q2, q3, q4⟩ | ⟨nds', xs, q, q1, q2, q3, q4⟩
          · exact (RpK.noScr q4).elim
          · cases q
            split at h2
            · rename_i hl
              have hl2 := q4.length
              have hl3 := storedH_length xs (keyOf kd) b
              exact ⟨a, b, Hf2, xs, nds, kd, rfl, rfl, e2.grow.sub, .inl q2, q1, q3, by rw [← hK]; exact q4, by rw [← hK]; exact rb, kt, fun u ru => h2 Hf2 _ σ (Same.refl _) (e2.turn hi hσ n0 q1 (.inr ⟨_, _, rfl, q1, upd_same, by rw [sizeLine_eq]; have := hl3 u; omega, q4.put rb kt ru (r.mono g2.f)⟩))⟩
            · exact h2.elim
        · exact h2.elim
      · exact h2.elim
    · refine .inl ⟨Hf0, H0, Hf, ρ, env, SOut.bind env h fun d y Hf1 H1 e1 g r h1 => ⟨.ref a, hσ, Hf0, H0, Hf1, ρ, env.more g, SOut.bind (env.more g) h1 fun dk vk Hf2 H2 e2' g2 r2 h2 => ?_⟩⟩
      have hc : (((keyOfD dk).isSome && decide (kds.length < 1000000)) && dkB kds) = true := by
        cases q : (((keyOfD dk).isSome && decide (kds.length < 1000000)) && dkB kds) with
        | true => rfl
        | false => exact absurd ⟨d, dk, e1, e2', q⟩ hn
      rw [if_pos hc] at h2
      simp only [Bool.and_eq_true, decide_eq_true_eq] at hc
      obtain ⟨k', ek⟩ := Option.isSome_iff_exists.mp hc.1.1
      have e3 := keyOf_ok ek
      have e2 := (env.more g).more g2
      obtain ⟨v', hσ', a', h2', ow', _⟩ := slot_there e2 hi
      rw [hσ] at hσ'
      cases hσ'
      cases h2'
      rcases ow' with ⟨kvs', q1, q2, q3, q4⟩ | ⟨nds, xs, q, q1, q2, q3, q4⟩
      · subst e3
        obtain rfl := Rp1.key_ r2
        have hl := q4.length
        refine ⟨a, _, rfl, DPut.k q2 (by rw [sizeLine_eq]; omega), h2 Hf2 _ σ (Same.refl _) (e2.turn hi hσ n0 q1 (.inl ⟨_, q1, upd_same, ?_, q4.put (r.mono g2.f)⟩))⟩
        have := putK_len kvs' k' y
        rw [sizeLine_eq]
        omega
      · rw [q] at hc
        simp [dkB, keyOfD] at hc
  · exact h.elim
def dPairsN : List (D × D) → R (List D)
  | [(.none, .dict nds)] => .ok (nds.map fun kv => .tuple [kv.1, kv.2])
  | _ => .bad
def dPairs : D → R (List D)
  | .dict kds => if dkB kds then .ok (kds.map fun kv => .tuple [kv.1, kv.2]) else dPairsN kds
  | _ => .bad
theorem i_items {elts : List Expr} {kk : Nat} {tpos : Pos} (ho : PE X o (tE C fo)) (hb : attributeBase o "items" X.env (eval o X.env) = eval o X.env) (hl : (apos.endLine == cpos.line) = true) :
    PI X (.Tuple elts kk tpos) (.Call (.Attribute o "items" apos) [] [] cpos) (tI C fun ρ => fo ρ >>= dPairs) := by
  refine PI.imp (PI.or (pi_items ho hb hl) (pi_itemsN ho hb hl)) fun σ H Rr ⟨Hf0, H0, Hf, ρ, env, h⟩ => ?_
  have h : OutG C (RelI C) Hf H (fo ρ >>= dPairs) Rr := h
  by_cases hn : ∃ nds, fo ρ = .ok (.dict [(.none, .dict nds)])
  · obtain ⟨nds, en⟩ := hn
    refine .inr ⟨Hf0, H0, Hf, ρ, env, h.bind fun d v Hf1 H1 e1 g r h1 => ?_⟩
    rw [en] at e1
    cases e1
    have e2 : dPairs (.dict [(.none, .dict nds)]) = .ok (nds.map fun kv => .tuple [kv.1, kv.2]) := by simp [dPairs, dPairsN, dkB, keyOfD]
    rw [e2] at h1
    obtain ⟨a, ob, xs, rfl, q1, q2, q3⟩ := r.nd_
    obtain ⟨vs, p1, p2⟩ := q3.vals
    exact ⟨_, _, _, vs, rfl, (g.sub.lk _ _ q1 rfl), h1 _ Hf1 H1 (Grow.refl g.sub) (walkItN q1 q2 q3 p1 p2)⟩
  · refine .inl ⟨Hf0, H0, Hf, ρ, env, h.bind fun d v Hf1 H1 e1 g r h1 => ?_⟩
    unfold dPairs at h1
    split at h1
    · rename_i kds
      split at h1
      · rename_i hk
        generalize e : (PyData.dict kds : D) = z at r
        cases r with
        | scr q1 q2 =>
          cases e
          simp [dkB, keyOfD] at hk
        | dit _ _ _ =>
          cases e
          simp [dkB, keyOfD] at hk
        | kno _ _ _ _ _ =>
          cases e
          simp [dkB, keyOfD] at hk
        | dic q1 q2 q3 =>
          cases e
          exact ⟨_, _, _, rfl, (g.sub.lk _ _ q1 rfl), h1 _ Hf1 H1 (Grow.refl g.sub) (walkIt q1 q2 q3)⟩
        | _ => cases e
      · unfold dPairsN at h1
        split at h1
        · exact absurd ⟨_, e1⟩ hn
        · exact h1.elim
    · exact h1.elim
end
end DL
namespace DL
open PySem PySem.Spec PyProof.Rows L2 NS
variable [Lots]
def itmD (kds : List (D × D)) : List D := kds.map fun kv => .tuple [kv.1, kv.2]
def atomB : D → Bool
  | .list _ => false
  | .tuple _ => false
  | .dict _ => false
  | _ => true
def dSortItems : D → R D
  | .dict kds => if dkB kds && ((kds.all fun kv => atomB kv.2) && (sortOk (itmD kds) && decide (kds.length ≤ 100000))) then .ok (.list (sortD (itmD kds))) else .bad
  | _ => .bad
theorem canAll_mem : ∀ {ds : List D} {d : D}, PyData.canLayAll0 ds = true → d ∈ ds → d.canLay0 = true
  | [], _, _, h => nomatch h
  | x :: xs, d, hc, h => by
    simp only [PyData.canLayAll0, Bool.and_eq_true] at hc
    rcases List.mem_cons.mp h with rfl | h
    · exact hc.1
    · exact canAll_mem hc.2 h
theorem atom_noAddr {h : Heap} {v : Value} {d : D} {rs : List Addr} (a : atomB d = true) (r : Reads h v d rs) : rs = [] := by
  cases r <;> first | rfl | simp [atomB] at a
theorem readsAll2 {h : Heap} : ∀ {vs : List Value} {ds : List D} {rs : List Addr}, ReadsAll h vs ds rs → ds.all atomB = true → rs = []
  | _, _, _, .nil, _ => rfl
  | _, _, _, .cons r t, k => by
    simp only [List.all_cons, Bool.and_eq_true] at k
    rw [atom_noAddr k.1 r, readsAll2 t k.2]
    rfl
theorem pair_noAddr {h : Heap} {v : Value} {a b : D} {rs : List Addr} (ha : atomB a = true) (hb : atomB b = true) (r : Reads h v (.tuple [a, b]) rs) : rs = [] := by
  cases r with
  | tuple g1 g2 g3 g4 => exact readsAll2 g4 (by simp [ha, hb])
theorem nd_ix {α : Type} : ∀ {l : List α} {i j : Nat} {x : α}, l.Nodup → l[i]? = some x → l[j]? = some x → i = j
  | [], _, _, _, _, h, _ => by simp at h
  | a :: l, 0, 0, _, _, _, _ => rfl
  | a :: l, 0, j + 1, x, nd, h1, h2 => by
    simp at h1 h2
    subst h1
    exact absurd (List.mem_of_getElem? h2) (List.nodup_cons.mp nd).1
  | a :: l, i + 1, 0, x, nd, h1, h2 => by
    simp at h1 h2
    subst h2
    exact absurd (List.mem_of_getElem? h1) (List.nodup_cons.mp nd).1
  | a :: l, i + 1, j + 1, x, nd, h1, h2 => by
    simp at h1 h2
    rw [nd_ix (List.nodup_cons.mp nd).2 h1 h2]
section
variable {X : Cx} {C : Pm} {o : Expr} {apos cpos p pos : Pos} {fo : Env → R D} {te : TE}
theorem pe_itemsV (he : PE X o te) (hbase : attributeBase o "items" X.env (eval o X.env) = eval o X.env) (hline : (apos.endLine == cpos.line) = true) :
    PE X (.Call (.Attribute o "items" apos) [] [] cpos) (fun σ H Q => te σ H fun x H1 => ∃ d kvs, x = .ref d ∧ Rd H1 d (.dK kvs) ∧ ∀ p, H1 p = none → Q (.ref p) (upd H1 p (DX.itemsO p d))) := by
  refine ⟨fun pins s σ H Q I hq => ?_⟩
  refine wpAny_Call_method (T := "dict") (id := "dict.items") hbase rfl hline F.plainAttrs_dict F.slot_dict_items F.type_dict_items (thn (he.run pins s σ H _ I hq) fun u s1 ⟨x, H1, I1, rx, d, kvs, ex, rd, q⟩ => ?_)
  subst ex
  obtain rfl : u = Value.ref d := rx
  obtain ⟨hz, hs0, vs, kv, hdo⟩ := dk_rd I1.hok rd
  refine ⟨hdo.typeIs, hdo.mapOf.noDict, ?_⟩
  show wpAny _ _ (callWith cpos (.builtin "dict.items") [.ref d] [] []) _ X.xe s1
  refine method_meetsIn F.slot_dict_items F.entry_dict_items rfl (PySem.evalArgs_none ⟨rfl, hdo.typeIs, F.args_dict_items_1 _, _, meets_dict_items (mixKind X.prog X.w) d hs0, ⟨vs, hdo⟩, ?_⟩)
  exact ⟨.ref s1.heap.objs.size, upd H1 s1.heap.objs.size (DX.itemsO s1.heap.objs.size d), I1.laid (t' := s1.toks) (fun b u e => Heap.get?_push_of_some _ e) (Nat.le_refl _) (DX.itemsO_ok (Heap.get?_push_size _ rfl)), rfl, q _ (I1.hok.fresh (Nat.le_refl _))⟩
theorem ent_get {es : List DictEntry} {vs : List (Key × Value)} (h : Pairs (mixKind X.prog X.w) es vs) : ∀ {j : Nat} {e : DictEntry}, es[j]? = some e → ∃ kv, vs[j]? = some kv ∧ keyIs kv.1 e.key = true ∧ e.val = kv.2 := by
  induction h with
  | nil => intro j e h; simp at h
  | cons h1 h2 _ ih =>
    intro j e h
    cases j with
    | zero =>
      simp at h
      subst h
      exact ⟨_, rfl, h1, h2⟩
    | succ j => exact ih (by simpa using h)
theorem kv_at {kvs : List (Key × V)} {vs : List (Key × Value)} (h : KV kvs vs) : ∀ {j : Nat} {q : Key × Value}, vs[j]? = some q → ∃ v, kvs[j]? = some (q.1, v) ∧ RelV v q.2 := by
  induction h with
  | nil => intro j q h; simp at h
  | @cons a b as bs r t ih =>
    intro j q h
    cases j with
    | zero =>
      simp at h
      subst h
      obtain ⟨e, r⟩ := r
      exact ⟨a.2, by show some a = some (b.1, a.2); rw [← e], r⟩
    | succ j => exact ih (by simpa using h)
def rSortIK (C : Pm) : List V → Hp → VK → Prop := fun vs H Q => ∃ (Hf : Hp) (p d : Addr) (ob : Obj) (kvs : List (Key × V)) (kds : List (D × D)), Fit Hf H ∧ vs = [V.ref p] ∧ H p = some (DX.itemsO p d) ∧ Hf d = some (.frz ob (.dK kvs)) ∧ RpK C.K Hf kvs kds ∧ (∀ kv ∈ kds, atomB kv.1 = true ∧ atomB kv.2 = true) ∧ sortOk (itmD kds) = true ∧ kds.length ≤ 100000 ∧
  ∀ (H' Hf' : Hp) (l : Addr) (ys : List V), Grow Hf H Hf' H' → H l = none → Hf' l = none → H' l = some (.lst ys) → ys.length ≤ sizeLine → RpL C.K Hf' ys (sortD (itmD kds)) → Q (.ref l) H'
theorem each_ix {α β : Type} {R : α → β → Prop} : ∀ {xs : List α} {ys : List β}, xs.length = ys.length → (∀ (j : Nat) (x : α) (y : β), xs[j]? = some x → ys[j]? = some y → R x y) → PySem.W.EachIs R xs ys
  | [], [], _, _ => .nil
  | [], _ :: _, h, _ => by simp at h
  | _ :: _, [], h, _ => by simp at h
  | x :: xs, y :: ys, h, k => .cons (k 0 x y rfl rfl) (each_ix (by simpa using h) fun j a b ha hb => k (j + 1) a b (by simpa using ha) (by simpa using hb))
theorem c_sortIK (hK : C.K = X.K) (hc : X.calm = true) (hu : X.A.units + 65 < cLine) : CallR X (.builtin "sorted") (rSortIK C) := by
  intro pins s σ H vs us Q I r ⟨Hf, p, d, ob, kvs, kds, sf, e, hp, hd, rk, hat, so, few, q⟩
  subst e
  rw [Vals.ref1 r]
  have view : s.heap.IsItemsView p d := (show ObjOk X.prog X.w H s.heap p (DX.itemsO p d) from I.hok p _ hp).1
  obtain ⟨hz, hd0, vs, kv, hdo⟩ := dk_rd I.hok (.inr ⟨ob, (sf.lk _ _ hd rfl)⟩)
  obtain ⟨od, es, ep, ho, hx, hdat, hkeys, hpairs, nd⟩ := hdo
  have lk : kvs.length = vs.length := Paired.length kv
  have le : es.size = vs.length := by rw [← Array.length_toList]; exact hpairs.length
  have lkd := rk.length
  have hso := so
  simp only [sortOk, Bool.and_eq_true] at hso
  obtain ⟨o1, o2, o3⟩ := ordOk_of hso.1
  refine DT.sortedI (es := es) (ep := ep) (I.ok.hd hc) view ⟨od, ho, hx, hdat⟩ (by rw [sizeLine_eq]; omega) fun h' tk as hk hlt hl hG => ?_
  have I1 : Inv X pins σ H { s with heap := h', toks := tk } := I.kept (t' := tk) hk
  have ndA : as.Nodup := List.Pairwise.imp (fun {a b} (h : a < b) => Nat.ne_of_lt h) hG.rise
  have fresh : ∀ a ∈ as, H a = none := fun a ha => I.hok.fresh (Nat.le_of_lt (hG.above a ha))
  have pr : ∀ (j : Nat) (b : Addr), as[j]? = some b → ∃ (k : Key) (v : V) (u w' : Value), kvs[j]? = some (k, v) ∧ RelV (kV k) u ∧ RelV v w' ∧ h'.get? b = some { cls := .type "tuple", data := .seq #[u, w'] } := fun j b hj => by
    obtain ⟨e, he, hg⟩ := hG.pairs j b hj
    obtain ⟨qv, g1, g2, g3⟩ := ent_get hpairs (j := j) (e := e) (by rw [← he]; exact (Array.getElem?_toList).symm ▸ rfl)
    obtain ⟨v, y1, y2⟩ := kv_at kv g1
    exact ⟨qv.1, v, e.key, e.val, y1, relV_key g2, by rw [g3]; exact y2, hg⟩
  obtain ⟨H2, I2, gr2, hT⟩ := DX.takeT (P := fun a vs => ∃ (j : Nat) (k : Key) (v : V), as[j]? = some a ∧ kvs[j]? = some (k, v) ∧ vs = [kV k, v]) I as H I1 ndA fun a ha => by
    obtain ⟨j, hj⟩ := List.mem_iff_getElem?.mp ha
    obtain ⟨k, v, u, w', y1, y2, y3, y4⟩ := pr j a hj
    exact ⟨Nat.le_of_lt (hG.above a ha), fresh a ha, [kV k, v], ⟨j, k, v, hj, y1, rfl⟩, fun H3 => ⟨by show 2 ≤ sizeLine; decide, [u, w'], .cons y2 (.cons y3 .nil), ⟨_, y4, rfl, _, rfl⟩⟩⟩
  classical
  let Hf2 : Hp := fun b => if b ∈ as then H2 b else Hf b
  have f2 : L2.Same Hf Hf2 := fun b x e => by
    have : b ∉ as := fun z => by rw [Same.free sf (fresh b z)] at e; cases e
    simp only [Hf2, this, if_false]
    exact e
  have g2 : Grow Hf H Hf2 H2 := by
    refine ⟨f2, .of gr2, fun b x e => ?_, fun b x e m => ?_, fun b fs e => ?_, fun q hq => f2 _ _ (sf.tab q hq)⟩
    · by_cases z : b ∈ as
      · exact .inr (.inl (fresh b z))
      · simp only [Hf2, z, if_false] at e
        exact .inl e
    · by_cases z : b ∈ as
      · simp only [Hf2, z, if_true] at e
        exact e
      · simp only [Hf2, z, if_false] at e
        exact gr2 _ _ (sf.lk _ _ e m)
    · by_cases z : b ∈ as
      · simp only [Hf2, z, if_true] at e
        obtain ⟨ws, _, hH⟩ := hT b z
        rw [hH] at e
        cases e
      · simp only [Hf2, z, if_false] at e
        have q := sf.mks b fs e
        obtain ⟨u, hu⟩ := q.there
        exact q.mono f2 ((gr2 _ _ hu).trans hu.symm)
  have rp2 : ∀ (j : Nat) (b : Addr) (dd : D), as[j]? = some b → (itmD kds)[j]? = some dd → Rp C.K Hf2 (.ref b) dd := fun j b dd hj hdd => by
    have hb : b ∈ as := List.mem_of_getElem? hj
    obtain ⟨ws, ⟨j', k, v, hj', hkv, rfl⟩, hH⟩ := hT b hb
    have ej : j' = j := by
      exact nd_ix ndA hj' hj
    subst ej
    unfold itmD at hdd
    rw [List.getElem?_map] at hdd
    obtain ⟨kd, hkd, rfl⟩ := Option.map_eq_some_iff.mp hdd
    obtain ⟨k2, v2, z1, z2, z3⟩ := rk.get hkd
    rw [hkv] at z1
    cases z1
    refine .tup (a := b) (xs := [kV k, v]) (by simp only [Hf2, hb, if_true]; exact hH) (by show 2 ≤ sizeLine; decide) (.cons ?_ (.cons (z3.mono g2.f) .nil))
    rw [z2]
    cases k <;> constructor
  have lasd : as.length = (itmD kds).length := by unfold itmD; rw [List.length_map]; omega
  have hoL : (h'.push (seqObj "list" (as.map Value.ref).toArray 0)).get? h'.objs.size = some (seqObj "list" (as.map Value.ref).toArray 0) := Heap.get?_push_size _ rfl
  have keep : ∀ b u, h'.get? b = some u → (h'.push (seqObj "list" (as.map Value.ref).toArray 0)).get? b = some u := fun b u e => Heap.get?_push_of_some _ e
  have hrd : ∀ (j : Nat) (v : Value) (dd : D), (as.map Value.ref)[j]? = some v → (itmD kds)[j]? = some dd → ∃ (b : Addr) (rs : List Addr), v = .ref b ∧ Rp C.K Hf2 (.ref b) dd ∧ Reads h' v dd rs := fun j v dd hj hdd => by
    rw [List.getElem?_map] at hj
    obtain ⟨b, hb, rfl⟩ := Option.map_eq_some_iff.mp hj
    have rp := rp2 j b dd hb hdd
    have hcan : noDict dd = true := noDict_of (canAll_mem o2 (List.mem_of_getElem? hdd))
    obtain ⟨rs, rd⟩ := Dp.reads I2 dd (.ref b) (.ref b) (by rw [← hK]; exact rp.dp g2.sub.lk hcan) rfl
    exact ⟨b, rs, rfl, rp, rd⟩
  have hitm : ∀ dd ∈ itmD kds, ∃ a b, dd = .tuple [a, b] ∧ atomB a = true ∧ atomB b = true := fun dd hdd => by
    obtain ⟨kv, hkv, rfl⟩ := List.mem_map.mp hdd
    exact ⟨_, _, rfl, (hat kv hkv).1, (hat kv hkv).2⟩
  refine PySem.W.list_sort_data (s := { s with heap := h'.push (seqObj "list" (as.map Value.ref).toArray 0), toks := tk }) (bs := itmD kds) (enc := id) (R := fun v d => ∃ x, RelV x v ∧ Rp C.K Hf2 x d) hoL
    (each_ix (by rw [List.length_map]; exact lasd) fun j v dd hj hdd => by
      obtain ⟨b, rs, rfl, rp, rd⟩ := hrd j v dd hj hdd
      exact ⟨.ref b, rfl, rp⟩)
    (each_ix (by rw [List.length_map]; exact lasd) fun j v dd hj hdd => by
      obtain ⟨b, rs, rfl, rp, rd⟩ := hrd j v dd hj hdd
      obtain ⟨x, y, rfl, hx, hy⟩ := hitm dd (List.mem_of_getElem? hdd)
      have e0 := pair_noAddr hx hy rd
      subst e0
      exact ⟨[], PyProof.Rows.Reads.keeps keep rd, by simp⟩)
    (by rw [List.map_id]; exact fun d hd e he => o1.1 d hd e he)
    (by
      rw [List.map_id]
      refine .inl fun d hd => ?_
      obtain ⟨x, y, rfl, _, _⟩ := hitm d hd
      exact ⟨_, _, rfl⟩)
    (by unfold itmD; rw [List.length_map, sizeLine_eq]; omega)
    (fun b hb => by
      have := depth_mem hb
      simp only [id, Around.in1_units]
      omega) fun out l1 l2 => ?_
  obtain ⟨c, hcx⟩ := sortedHeap_at (vs := as.map Value.ref) (out := out.toArray) hoL
  obtain ⟨ys, rv2, ry⟩ := each_back l2
  have hyl : ys.length ≤ sizeLine := by
    rw [rv2.length, l1]
    unfold itmD
    rw [List.length_map, sizeLine_eq]
    omega
  have kp : ∀ b u, h'.get? b = some u → (sortedHeap (h'.push (seqObj "list" (as.map Value.ref).toArray 0)) h'.objs.size (as.map Value.ref) out.toArray).get? b = some u := fun b u e => by
    have lt := Heap.lt_size e
    rw [sortedHeap_old (Nat.ne_of_lt lt) (by rw [size_push']; exact Nat.lt_succ_of_lt lt)]
    exact Heap.get?_push_of_some _ e
  have np2 : H2 h'.objs.size = none := I2.hok.fresh (Nat.le_refl _)
  have np : H h'.objs.size = none := I.hok.fresh (Nat.le_of_lt hlt)
  have nf2 : Hf2 h'.objs.size = none := Same.free g2.sub np2
  refine ⟨.ref h'.objs.size, upd H2 h'.objs.size (.lst ys), I2.laid (t' := tk) kp (Nat.le_refl _) ⟨hyl, out, c, rv2, hcx⟩, rfl, q _ Hf2 _ ys ?_ np nf2 upd_same hyl (by rw [sortD_merge]; exact ry)⟩
  exact g2.trans (Grow.side g2.sub np2)
theorem f_sortitems (hK : C.K = X.K) (hc : X.calm = true) (hu : X.A.units + 65 < cLine) (g1 : Gl X "sorted") (m1 : X.mg "sorted" = none) (ho : PE X o (tE C fo)) (hb : attributeBase o "items" X.env (eval o X.env) = eval o X.env) (hl : (apos.endLine == cpos.line) = true) :
    PE X (.Call (.Name "sorted" p) [.Call (.Attribute o "items" apos) [] [] cpos] [] pos) (tF C fun ρ => fo ρ >>= dSortItems) := by
  have h2 := pe_callB (p := p) (pos := pos) (c_sortIK hK hc hu) g1 m1 sorted_bl (pa_cons (pe_itemsV ho hb hl) pa_nil (star_cons (by rfl))) (by decide) (by decide) (star_cons (by rfl)) rfl
  refine PE.imp h2 fun σ H Q ⟨Hf0, H0, Hf, ρ, env, h⟩ => ⟨Hf0, H0, Hf, ρ, env, OutG.bind (show OutG C (RelF C H) Hf H (fo ρ >>= dSortItems) Q from h) fun d v Hf1 H1 _ gr r h3 => ?_⟩
  cases d with
  | dict kds =>
    have h3 : OutG C (RelF C H) Hf1 H1 (if dkB kds && ((kds.all fun kv => atomB kv.2) && (sortOk (itmD kds) && decide (kds.length ≤ 100000))) then .ok (.list (sortD (itmD kds))) else .bad) Q := h3
    split at h3
    · rename_i hk
      simp only [Bool.and_eq_true, decide_eq_true_eq, List.all_eq_true] at hk
      generalize e : (PyData.dict kds : D) = z at r
      cases r with
      | scr q1 q2 =>
        cases e
        simp [dkB, keyOfD] at hk
      | dit _ _ _ =>
        cases e
        simp [dkB, keyOfD] at hk
      | kno _ _ _ _ _ =>
        cases e
        simp [dkB, keyOfD] at hk
      | @dic a ob kvs _ q1 q2 q3 =>
        cases e
        refine ⟨a, kvs, rfl, .inr ⟨ob, gr.sub.lk _ _ q1 rfl⟩, fun pv npv => ?_⟩
        have gs := Grow.side (o := DX.itemsO pv a) gr.sub npv
        refine ⟨Hf1, pv, a, ob, kvs, kds, gs.sub, rfl, upd_same, q1, q3, fun kv hkv => ⟨?_, hk.2.1 kv hkv⟩, hk.2.2.1, hk.2.2.2, fun H' Hf' l ys g' n1 n2 n3 n4 n5 => ?_⟩
        · have := List.all_eq_true.mp hk.1 kv hkv
          obtain ⟨k', ek⟩ := Option.isSome_iff_exists.mp this
          rw [keyOf_ok ek]
          cases k' <;> rfl
        · refine h3 _ Hf' H' (gs.trans g') ⟨l, rfl, ?_, ys, n2, n3, n4, n5⟩
          exact Same.free gr.h (Same.free gs.h n1)
      | _ => cases e
    · exact h3.elim
  | _ => exact h3.elim
end
end DL
namespace DL
open PySem PySem.Spec PyProof.Rows L2
variable [Lots]
def mergeP (kds es : List (D × D)) : List (D × D) := es.foldl (fun acc kv => putD acc kv.1 kv.2) kds
theorem RpK.mergeP {K : PySem.W.Frag} {H : Hp} : ∀ {more : List (Key × V)} {es : List (D × D)}, RpK K H more es → ∀ {kvs : List (Key × V)} {kds : List (D × D)}, RpK K H kvs kds → RpK K H (mergeK kvs more) (mergeP kds es)
  | _, _, .nil, _, _, h => h
  | _, _, @RpK.cons _ _ _ k v more d es hv t, kvs, kds, h => by
    show RpK K H (mergeK (putK kvs k v) more) (DL.mergeP (putD kds (keyD k) d) es)
    exact RpK.mergeP t (h.put hv)
section
variable {X : Cx} {C : Pm} {pos p1 apos cpos : Pos} {o e : Expr} {fo fe : Env → R D} {td te : TE} {i : Nat} {x : Str}
theorem pe_dupd (ho : PE X o td) (he : PE X e te) (m : M1 X o "update" apos e cpos) :
    PE X (.Call (.Attribute o "update" apos) [e] [] cpos) (fun σ H Q => td σ H fun x H1 => ∃ a, x = .ref a ∧ IsD H1 a ∧ te σ H1 fun y H2 => ∃ b kvs more, y = .ref b ∧ H2 a = some (.dK kvs) ∧ Rd H2 b (.dK more) ∧ a ≠ b ∧ kvs.length + more.length ≤ sizeLine ∧ Q .non (upd H2 a (.dK (mergeK kvs more)))) := by
  refine ⟨fun pins s σ H Q I h => ?_⟩
  refine wpAny_Call_method m.base m.few m.line PySem.F.plainAttrs_dict PySem.F.slot_dict_update PySem.F.type_dict_update (thn (ho.run pins s σ H _ I h) fun u s1 ⟨x, H1, I1, rx, a, ex, d, q1⟩ => ?_)
  subst ex
  obtain rfl : u = Value.ref a := rx
  obtain ⟨t1, t2, _⟩ := isD_at I1 d
  refine ⟨t1, t2, ?_⟩
  rw [m.trees]
  refine Calls.callWith_builtin rfl (Calls.evalArgs_plain (Calls.spliced_cons (thn (he.run pins s1 σ H1 _ I1 q1) fun iv s2 ⟨y, H2, I2, ry, b, kvs, more, ey, ea, rb, hne, hz, q2⟩ => Calls.spliced_nil ?_)))
  subst ey
  obtain rfl : iv = Value.ref b := ry
  obtain ⟨z, hd, vs, rel, dd⟩ := dk_of I2.hok ea
  obtain ⟨z2, hd2, vs2, rel2, dd2⟩ := dk_rd I2.hok rb
  refine call_meetsIn PySem.F.slot_dict_update dd.typeIs PySem.F.entry_dict_update (PySem.F.args_dict_update_2 _ _) (meets_dict_update (mixKind X.prog X.w) a b hne hd2)
    ⟨vs, vs2, dd, dd2, by rw [← rel.length, ← rel2.length]; exact hz, fun h' dd' _ hs => ⟨.non, _, ?_, rfl, q2⟩⟩
  have he' : ∃ q, h'.get? a = some q := let ⟨q, _, _, hq, _⟩ := dd'; ⟨q, hq⟩
  exact d_write I2 (by rw [ea]; exact True.intro) hs he' (dk_new (Nat.le_trans (length_mergeK more kvs) hz) hd (rel2.merge rel) dd')
def fUpd (i : Nat) (fe : Env → R D) : Env → R Out := fun ρ => match ρ[i]? with
  | some (.ow (.dict kds)) => if dkB kds then fe ρ >>= fun d => (match d with
    | .dict es => if dkB es && decide (kds.length + es.length < 1000000) then .ok (.nx (ρ.set i (.ow (.dict (mergeP kds es))))) else .bad
    | _ => .bad) else .bad
  | _ => .bad
theorem s_upd (hN : X.N[i]? = some x) (hv : Vis X.env.scope x) (hd : (x == ("__debug__" : Str)) = false) (hcd : (x == ("__classdict__" : Str)) = false) (he : PE X e (tE C fe)) (hs : isStar e = false) (hl : (apos.endLine == cpos.line) = true) :
    PS X (.Expr (.Call (.Attribute (.Name x p1) "update" apos) [e] [] cpos) pos) (tS C (fUpd i fe)) := by
  have m : M1 X (.Name x p1) "update" apos e cpos := ⟨rfl, by rw [star_cons hs]; rfl, hl, by rw [star_cons hs]; rfl⟩
  refine PS.imp (ps_expr (pe_dupd (pe_var hN hv hd hcd) he m) rfl) fun Dn σ H ⟨Hf0, H0, Hf, ρ, env, h⟩ => ?_
  unfold fUpd at h
  split at h
  · rename_i kds hi
    obtain ⟨v, hσ, a, h2, ow, n0⟩ := slot_there env hi
    subst h2
    split at h
    case isFalse => exact h.elim
    rename_i hkb
    obtain ⟨kvs, p1, p2, p3, p4⟩ : ∃ kvs, Hf a = none ∧ H a = some (.dK kvs) ∧ kvs.length ≤ sizeLine ∧ RpK C.K Hf kvs kds := by
      rcases ow with ow | ⟨nds, xs, q, _⟩
      · exact ow
      · subst q
        simp [dkB, keyOfD] at hkb
    refine ⟨.ref a, hσ, a, rfl, .inl ⟨kvs, .inl p2⟩, Hf0, H0, Hf, ρ, env, SOut.bind env h fun d y Hf1 H1 _ g r h1 => ?_⟩
    cases d with
    | dict es =>
      have h1 : SOut C Hf0 H0 Hf1 Dn (if dkB es && decide (kds.length + es.length < 1000000) then .ok (.nx (ρ.set i (.ow (.dict (mergeP kds es))))) else .bad) := h1
      split at h1
      · rename_i hc
        simp only [Bool.and_eq_true, decide_eq_true_eq] at hc
        generalize ed : (PyData.dict es : D) = zz at r
        cases r with
        | scr q1 q2 =>
          cases ed
          simp [dkB, keyOfD] at hc
        | dit _ _ _ =>
          cases ed
          simp [dkB, keyOfD] at hc
        | kno _ _ _ _ _ =>
          cases ed
          simp [dkB, keyOfD] at hc
        | @dic b ob more _ q1 q2 q3 =>
          cases ed
          have e1 := env.more g
          obtain ⟨v', hσ', a', h2', ow', _⟩ := slot_there e1 hi
          obtain ⟨kvs', y1, y2, y3, y4⟩ : ∃ kvs, Hf1 a' = none ∧ H1 a' = some (.dK kvs) ∧ kvs.length ≤ sizeLine ∧ RpK C.K Hf1 kvs kds := by
            rcases ow' with ow' | ⟨nds, xs, q, _⟩
            · exact ow'
            · subst q
              simp [dkB, keyOfD] at hkb
          rw [hσ] at hσ'
          cases hσ'
          cases h2'
          have hl1 := y4.length
          have hl2 := q3.length
          have hne : a ≠ b := fun z => by subst z; rw [y1] at q1; cases q1
          have hz : kvs'.length + more.length ≤ sizeLine := by rw [sizeLine_eq]; omega
          exact ⟨b, kvs', more, rfl, y2, .inr ⟨ob, (g.sub.lk _ _ q1 rfl)⟩, hne, hz, h1 Hf1 _ σ (Same.refl _) (e1.turn hi hσ n0 y1 (.inl ⟨_, y1, upd_same, Nat.le_trans (length_mergeK _ _) hz, q3.mergeP y4⟩))⟩
        | _ => cases ed
      · exact h1.elim
    | _ => exact h1.elim
  · exact h.elim
def fPop (i : Nat) (t : Tg) : Env → R Out := fun ρ => match ρ[i]? with
  | some (.ow (.list ds)) => (match ds[ds.length - 1]? with
    | some d => fTg t d (ρ.set i (.ow (.list ds.dropLast))) >>= fun ρ' => .ok (.nx ρ')
    | none => .bad)
  | _ => .bad
theorem RpL.dropLast {K : PySem.W.Frag} {H : Hp} : ∀ {vs : List V} {ds : List D}, RpL K H vs ds → RpL K H vs.dropLast ds.dropLast
  | _, _, .nil => .nil
  | _, _, .cons h .nil => .nil
  | _, _, .cons h (.cons h2 r) => .cons h (RpL.dropLast (.cons h2 r))
theorem s_pop {tg : Expr} {t : Tg} (hN : X.N[i]? = some x) (hv : Vis X.env.scope x) (hd : (x == ("__debug__" : Str)) = false) (hcd : (x == ("__classdict__" : Str)) = false) (hg : PG X tg (tGt C t)) (hl : (apos.endLine == cpos.line) = true) (hs : swapsWithSole [tg] (.Call (.Attribute (.Name x p1) "pop" apos) [] [] cpos) pos.line X.env = pure false) (hw : swappedStores [tg] (.Call (.Attribute (.Name x p1) "pop" apos) [] [] cpos) X.env = pure none)
    (h1 : (assignEach [tg] X.env).map (·.2) = [assign tg X.env]) : PS X (.Assign [tg] (.Call (.Attribute (.Name x p1) "pop" apos) [] [] cpos) pos) (tS C (fPop i t)) := by
  have hp : PE X (.Call (.Attribute (.Name x p1) "pop" apos) [] [] cpos) (tBM0 X.K "list" rPop (tVar i)) := pe_bm0 PySem.F.plainAttrs_list PySem.F.slot_list_pop PySem.F.type_list_pop mt_pop (pe_var hN hv hd hcd) rfl hl
  refine PS.imp (ps_asg hp hg hs hw h1) fun Dn σ H ⟨Hf0, H0, Hf, ρ, env, h⟩ => ?_
  unfold fPop at h
  split at h
  · rename_i ds hi
    obtain ⟨v, hσ, a, h2, ⟨xs, q1, q2, q3, q4⟩, n0⟩ := slot_there env hi
    subst h2
    split at h
    · rename_i d hd'
      have hlen := q4.length
      obtain ⟨y, hy, ry⟩ := q4.get hd'
      rw [← hlen] at hy
      refine ⟨.ref a, hσ, .inl ⟨rfl, xs, SqL.of q2⟩, a, xs, y, rfl, rfl, q2, hy, ?_⟩
      have e2 : EnvR C.K Hf0 H0 Hf (upd H a (.lst xs.dropLast)) σ (ρ.set i (.ow (.list ds.dropLast))) := env.turn hi hσ n0 q1 ⟨_, q1, upd_same, by rw [List.length_dropLast]; omega, q4.dropLast⟩
      cases e1 : fTg t d (ρ.set i (.ow (.list ds.dropLast))) with
      | bad => rw [e1] at h; exact h.elim
      | exc c =>
        exfalso
        unfold fTg at e1
        split at e1
        · cases e1
        · split at e1 <;> cases e1
        · split at e1 <;> cases e1
        · cases e1
      | ok ρ' =>
        rw [e1] at h
        exact ⟨Hf0, H0, Hf, _, d, e2, ry, ρ', e1, fun σ' e' _ => h Hf _ σ' (Same.refl _) e'⟩
    · exact h.elim
  · exact h.elim
end
def dcLoop (tg : Tg) (ft : Env → R Bool) (fk fv : Env → R D) (ρ : Env) (acc : List (D × D)) : List D → R (List (D × D))
  | [] => .ok acc
  | d :: ds => fTg tg d ρ >>= fun ρ1 => ft ρ1 >>= fun b => if b then fk ρ1 >>= fun k => fv ρ1 >>= fun v => if (keyOfD k).isSome then dcLoop tg ft fk fv ρ (putD acc k v) ds else .bad else dcLoop tg ft fk fv ρ acc ds
def fDc (fi : Env → R (List D)) (tg : Tg) (ft : Env → R Bool) (fk fv : Env → R D) (own : List Nat) : Env → R D := fun ρ => fi ρ >>= fun ds => (dcLoop tg ft fk fv (wipeR ρ own) [] ds).calm >>= fun kds => .ok (.dict kds)
section
variable {X : Cx} {C : Pm}
theorem wipe_wipe {σ σ2 : L2.St} {own : List Nat} (z : L2.wipe σ2 own = L2.wipe (L2.wipe σ own) own) : L2.wipe σ2 own = L2.wipe σ own := by
  rw [z]
  refine List.ext_getElem? fun j => ?_
  rw [wipe_get, wipe_get]
  split
  · cases σ[j]? <;> rfl
  · rfl
theorem dc_data {fi : Env → R (List D)} {tg : Tg} {ft : Env → R Bool} {fk fv : Env → R D} {own : List Nat} (hown : ∀ i ∈ tg.ixs, i ∈ own) {σ : L2.St} {H : Hp} {Q : VK} (h : tF C (fDc fi tg ft fk fv own) σ H Q) :
    tDc (tI C fi) (tGt C.calm tg) (tT C.calm ft) (tE C.calm fk) (tE C.calm fv) own σ H Q := by
  obtain ⟨Hf0, H0, Hf, ρ, env, h⟩ := h
  refine ⟨Hf0, H0, Hf, ρ, env, OutG.bind (show OutG C (RelF C H) Hf H (fDc fi tg ft fk fv own ρ) Q from h) fun ds J Hf1 H1 _ g1 w h1 => fun Da nD => ?_⟩
  cases e1 : dcLoop tg ft fk fv (wipeR ρ own) [] ds with
  | exc c => rw [e1] at h1; exact h1.elim
  | bad => rw [e1] at h1; exact h1.elim
  | ok tot =>
    rw [e1] at h1
    have h1 : OutG C (RelF C H) Hf1 H1 (.ok (.dict tot)) Q := h1
    have ew : EnvR C.K Hf0 H0 Hf1 H1 (L2.wipe σ own) (wipeR ρ own) := (env.more g1).wipe own
    have nD0 : H Da = none := Same.free g1.h nD
    have nDf : Hf1 Da = none := Same.free g1.sub nD
    refine ⟨fun i m H2 => m = ds.length - i ∧ i ≤ ds.length ∧ ∃ (Hf2 : Hp) (acc : List (Key × V)) (accD : List (D × D)), Grow Hf1 H1 Hf2 H2 ∧ Hf2 Da = none ∧ H2 Da = some (.dK acc) ∧ acc.length ≤ i ∧ RpK C.K Hf2 acc accD ∧ dcLoop tg ft fk fv (wipeR ρ own) accD (ds.drop i) = .ok tot,
      ⟨ds.length, by simp, Nat.zero_le _, Hf1, [], [], Grow.side g1.sub nD, nDf, upd_same, Nat.le_refl _, .nil, e1⟩, ?_⟩
    rintro i m H2 ⟨rfl, hi, Hf2, acc, accD, g2, n2, hD, hl, ra, el⟩
    have s12 : Lk Hf1 H2 := Lk.back g2.f g2.sub.lk
    by_cases hlt : i < ds.length
    · refine .inr ⟨w.goes i H2 hlt s12, fun H3 => (ds.length - (i + 1) = ds.length - (i + 1)) ∧ i + 1 ≤ ds.length ∧ ∃ (Hf3 : Hp) (acc : List (Key × V)) (accD : List (D × D)), Grow Hf1 H1 Hf3 H3 ∧ Hf3 Da = none ∧ H3 Da = some (.dK acc) ∧ acc.length ≤ i + 1 ∧ RpK C.K Hf3 acc accD ∧ dcLoop tg ft fk fv (wipeR ρ own) accD (ds.drop (i + 1)) = .ok tot,
        fun H3 p => ⟨ds.length - (i + 1), by omega, p⟩, fun x H3 y => ?_⟩
      have hd : ds[i]? = some ds[i] := List.getElem?_eq_getElem hlt
      obtain ⟨Hg, g3, rx⟩ := w.yields i Hf2 H2 H3 x ds[i] hd g2.f g2.sub y
      rw [List.drop_eq_getElem_cons hlt] at el
      unfold dcLoop at el
      obtain ⟨ρ1, b1, el⟩ := bind_ok el
      obtain ⟨b, b2, el⟩ := bind_ok el
      have e3 : EnvR C.K Hf0 H0 Hg H3 (L2.wipe σ own) (wipeR ρ own) := ew.more (g2.trans g3)
      refine ⟨Hf0, H0, Hg, wipeR ρ own, ds[i], e3, rx, ρ1, b1, fun σ2 e4 hw => ⟨wipe_wipe (hw own hown), Hf0, H0, Hg, ρ1, e4, ?_⟩⟩
      rw [b2]
      intro b' Hf4 H4 g4 eb
      subst eb
      cases b' with
      | true =>
        refine iteT ⟨Hf0, H0, Hf4, ρ1, e4.more g4, ?_⟩
        have el : (fk ρ1 >>= fun k => fv ρ1 >>= fun v => if (keyOfD k).isSome then dcLoop tg ft fk fv (wipeR ρ own) (putD accD k v) (ds.drop (i + 1)) else .bad) = .ok tot := el
        obtain ⟨kd, b3, el⟩ := bind_ok el
        obtain ⟨vd, b4, el⟩ := bind_ok el
        rw [b3]
        intro kv Hf5 H5 g5 rk
        refine ⟨Hf0, H0, Hf5, ρ1, (e4.more g4).more g5, ?_⟩
        rw [b4]
        intro yv Hf6 H6 g6 ry
        split at el
        · rename_i hk
          obtain ⟨k', ek⟩ := Option.isSome_iff_exists.mp hk
          have e5 := keyOf_ok ek
          subst e5
          have hx : kv = kV k' := Rp1.key_ (K := C.K) (Hf := Hf5) (H := H5) (.inl rk)
          have gg : Grow Hf2 H2 Hf6 H6 := ((g3.trans g4).trans g5).trans g6
          have n6 : Hf6 Da = none := gg.off n2 hD (fun _ z => by cases z)
          have hD6 : H6 Da = some (.dK acc) := gg.h.at hD n2
          refine ⟨acc, k', hx, hD6, by have := w.len; omega, rfl, hlt, Hf6, putK acc k' yv, putD accD (keyD k') vd, ?_, n6, upd_same, Nat.le_trans (putK_len acc k' yv) (by omega), (ra.mono gg.f).put ry, el⟩
          have gt := g2.trans gg
          exact gt.turn nD n6
        · cases el
      | false =>
        have gg : Grow Hf2 H2 Hf4 H4 := g3.trans g4
        have n4 : Hf4 Da = none := gg.off n2 hD (fun _ z => by cases z)
        exact iteF ⟨rfl, hlt, Hf4, acc, accD, g2.trans gg, n4, gg.h.at hD n2, by omega, ra.mono gg.f, el⟩
    · have ei : i = ds.length := by omega
      subst ei
      rw [List.drop_length] at el
      cases el
      exact .inl ⟨w.stops H2 s12, h1 _ Hf2 H2 g2 ⟨Da, rfl, nD0, .inl ⟨acc, n2, hD, Nat.le_trans hl w.len, ra⟩⟩⟩
end
def lc2Loop (tg : Tg) (ft : Env → R Bool) (fi1 : Env → R (List D)) (tg1 : Tg) (ft1 : Env → R Bool) (fe : Env → R D) (vs1 : List Nat) (ρ : Env) : List D → R (List D)
  | [] => .ok []
  | d :: ds => fTg tg d ρ >>= fun ρ1 => ft ρ1 >>= fun b => if b then fi1 ρ1 >>= fun es => lcLoop tg1 ft1 fe (wipeR ρ1 vs1) es >>= fun xs => lc2Loop tg ft fi1 tg1 ft1 fe vs1 ρ ds >>= fun ys => .ok (xs ++ ys) else lc2Loop tg ft fi1 tg1 ft1 fe vs1 ρ ds
def fLc2 (fi : Env → R (List D)) (tg : Tg) (ft : Env → R Bool) (fi1 : Env → R (List D)) (tg1 : Tg) (ft1 : Env → R Bool) (fe : Env → R D) (own vs1 : List Nat) : Env → R D :=
  fun ρ => fi ρ >>= fun ds => (lc2Loop tg ft fi1 tg1 ft1 fe vs1 (wipeR ρ own) ds).calm >>= fun ys => if ys.length ≤ 1000000 then .ok (.list ys) else .bad
def less (H : Hp) (p : Addr) : Hp := fun b => if b = p then none else H b
theorem less_ne {H : Hp} {p b : Addr} (h : b ≠ p) : less H p b = H b := by unfold less; rw [if_neg h]
theorem less_same {H : Hp} {p : Addr} : less H p p = none := by unfold less; rw [if_pos rfl]
theorem Grow.less {Hf H Hf' H' : Hp} {p : Addr} (g : Grow Hf H Hf' H') (h : H p = none) (h' : Hf' p = none) : Grow Hf H Hf' (less H' p) :=
  ⟨g.f, fun b o e => by rw [less_ne (ne_of_none e h)]; exact g.h _ _ e, g.new, fun b o e m => by rw [less_ne (ne_of_none e h')]; exact (g.sub.lk _ _ e m), fun b fs e => (g.sub.mks b fs e).mono (L2.Same.refl _) (less_ne (ne_of_none e h')), g.sub.tab⟩
theorem EnvR.less {K : PySem.W.Frag} {Hf0 H0 Hf H : Hp} {σ : L2.St} {ρ : Env} {p : Addr} (e : EnvR K Hf0 H0 Hf H σ ρ) (h0 : H0 p = none) (hf : Hf p = none) (no : ∀ (j : Nat) (d : D), ρ[j]? = some (.ow d) → σ[j]? ≠ some (some (.ref p))) : EnvR K Hf0 H0 Hf (less H p) σ ρ := by
  refine ⟨e.grow.less h0 hf, e.len, fun i s v h1 h2 => ?_, e.dis⟩
  have q := e.slot i s v h1 h2
  cases s with
  | un => trivial
  | va d => exact q
  | ow d =>
    obtain ⟨a, hx, r, z⟩ := q
    subst hx
    have hne : a ≠ p := fun w => by subst w; exact no i d h1 h2
    exact ⟨a, rfl, r.side (L2.Same.refl _) rfl (less_ne hne), z⟩
theorem setMany_ow : ∀ {is : List Nat} {ds : List D} {ρ : Env} {j : Nat} {d : D}, (setMany is ds ρ)[j]? = some (.ow d) → ρ[j]? = some (.ow d)
  | [], _, _, _, _, h => h
  | _ :: _, [], _, _, _, h => h
  | i :: is, d' :: ds, ρ, j, d, h => by
    have := setMany_ow (is := is) (ds := ds) (ρ := ρ.set i (.va d')) h
    by_cases q : i = j
    · subst q
      by_cases l : i < ρ.length
      · rw [List.getElem?_set_self l] at this; cases this
      · rw [List.getElem?_eq_none (by simpa using l)] at this; cases this
    · rw [List.getElem?_set_ne q] at this; exact this
theorem fTg_ow {t : Tg} {d' : D} {ρ ρ1 : Env} {j : Nat} {d : D} (h : fTg t d' ρ = .ok ρ1) (e : ρ1[j]? = some (.ow d)) : ρ[j]? = some (.ow d) := by
  unfold fTg at h
  split at h
  · cases h
    rename_i i
    by_cases q : i = j
    · subst q
      by_cases l : i < ρ.length
      · rw [List.getElem?_set_self l] at e; cases e
      · rw [List.getElem?_eq_none (by simpa using l)] at e; cases e
    · rw [List.getElem?_set_ne q] at e; exact e
  · split at h
    · cases h; exact setMany_ow e
    · cases h
  · split at h
    · cases h; exact setMany_ow e
    · cases h
  · cases h
theorem wipeR_ow {ρ : Env} {j : Nat} {d : D} : ∀ {vs : List Nat}, (wipeR ρ vs)[j]? = some (.ow d) → j ∉ vs ∧ ρ[j]? = some (.ow d)
  | [], h => ⟨by simp, h⟩
  | v :: vs, h => by
    unfold wipeR at h
    by_cases q : v = j
    · subst q
      by_cases l : v < (wipeR ρ vs).length
      · rw [List.getElem?_set_self l] at h; cases h
      · rw [List.getElem?_eq_none (by simpa using l)] at h; cases h
    · rw [List.getElem?_set_ne q] at h
      have := wipeR_ow (vs := vs) h
      exact ⟨by simp [this.1, show j ≠ v from fun e => q e.symm], this.2⟩
section
variable {X : Cx} {C : Pm}
theorem lc2_data {fi fi1 : Env → R (List D)} {tg tg1 : Tg} {ft ft1 : Env → R Bool} {fe : Env → R D} {own vs1 : List Nat} (hown : ∀ i ∈ tg.ixs, i ∈ own) (hv1 : ∀ i ∈ tg1.ixs, i ∈ vs1) {σ : L2.St} {H : Hp} {Q : VK} (h : tF C (fLc2 fi tg ft fi1 tg1 ft1 fe own vs1) σ H Q) :
    tLc2 (tI C fi) (tGt C.calm tg) (tT C.calm ft) (tI C.calm fi1) (tGt C.calm tg1) (tT C.calm ft1) (tE C.calm fe) own vs1 σ H Q := by
  obtain ⟨Hf0, H0, Hf, ρ, env, h⟩ := h
  refine ⟨Hf0, H0, Hf, ρ, env, OutG.bind (show OutG C (RelF C H) Hf H (fLc2 fi tg ft fi1 tg1 ft1 fe own vs1 ρ) Q from h) fun ds J Hf1 H1 _ g1 w h1 => fun Da nD => ?_⟩
  cases e1 : lc2Loop tg ft fi1 tg1 ft1 fe vs1 (wipeR ρ own) ds with
  | exc c => rw [e1] at h1; exact h1.elim
  | bad => rw [e1] at h1; exact h1.elim
  | ok tot =>
    rw [e1] at h1
    have h1 : OutG C (RelF C H) Hf1 H1 (if tot.length ≤ 1000000 then .ok (.list tot) else .bad) Q := h1
    split at h1
    · rename_i few
      have ew : EnvR C.K Hf0 H0 Hf1 H1 (L2.wipe σ own) (wipeR ρ own) := (env.more g1).wipe own
      have nD0 : H Da = none := Same.free g1.h nD
      have nDf : Hf1 Da = none := Same.free g1.sub nD
      have keep : ∀ {Hf2 H2 Hf4 H4 : Hp} {acc : List V}, Grow Hf2 H2 Hf4 H4 → Hf2 Da = none → H2 Da = some (.lst acc) → Hf4 Da = none := fun {Hf2 H2 Hf4 H4 acc} gg n2 hD => gg.off n2 hD (fun _ z => by cases z)
      have add : ∀ {Hf2 H2 : Hp} {acc : List V}, Grow Hf1 H1 Hf2 H2 → Hf2 Da = none → Grow Hf1 H1 Hf2 (upd H2 Da (.lst acc)) := fun {Hf2 H2 acc} gt n2 => gt.turn nD n2
      refine ⟨fun i m H2 => m = ds.length - i ∧ i ≤ ds.length ∧ ∃ (Hf2 : Hp) (acc : List V) (accD ys : List D), Grow Hf1 H1 Hf2 H2 ∧ Hf2 Da = none ∧ H2 Da = some (.lst acc) ∧ RpL C.K Hf2 acc accD ∧ lc2Loop tg ft fi1 tg1 ft1 fe vs1 (wipeR ρ own) (ds.drop i) = .ok ys ∧ accD ++ ys = tot,
        ⟨ds.length, by simp, Nat.zero_le _, Hf1, [], [], tot, Grow.side g1.sub nD, nDf, upd_same, .nil, e1, rfl⟩, ?_⟩
      rintro i m H2 ⟨rfl, hi, Hf2, acc, accD, ys, g2, n2, hD, ra, el, et⟩
      have s12 : Lk Hf1 H2 := Lk.back g2.f g2.sub.lk
      by_cases hlt : i < ds.length
      · refine .inr ⟨w.goes i H2 hlt s12, fun H3 => (ds.length - (i + 1) = ds.length - (i + 1)) ∧ i + 1 ≤ ds.length ∧ ∃ (Hf3 : Hp) (acc : List V) (accD ys : List D), Grow Hf1 H1 Hf3 H3 ∧ Hf3 Da = none ∧ H3 Da = some (.lst acc) ∧ RpL C.K Hf3 acc accD ∧ lc2Loop tg ft fi1 tg1 ft1 fe vs1 (wipeR ρ own) (ds.drop (i + 1)) = .ok ys ∧ accD ++ ys = tot,
          fun H3 p => ⟨ds.length - (i + 1), by omega, p⟩, fun x H3 y => ?_⟩
        have hd : ds[i]? = some ds[i] := List.getElem?_eq_getElem hlt
        obtain ⟨Hg, g3, rx⟩ := w.yields i Hf2 H2 H3 x ds[i] hd g2.f g2.sub y
        rw [List.drop_eq_getElem_cons hlt] at el
        unfold lc2Loop at el
        obtain ⟨ρ1, b1, el⟩ := bind_ok el
        obtain ⟨b, b2, el⟩ := bind_ok el
        have e3 : EnvR C.K Hf0 H0 Hg H3 (L2.wipe σ own) (wipeR ρ own) := ew.more (g2.trans g3)
        refine ⟨Hf0, H0, Hg, wipeR ρ own, ds[i], e3, rx, ρ1, b1, fun σ2 e4 hw => ⟨wipe_wipe (hw own hown), Hf0, H0, Hg, ρ1, e4, ?_⟩⟩
        rw [b2]
        intro b' Hf4 H4 g4 eb
        subst eb
        have gg4 : Grow Hf2 H2 Hf4 H4 := g3.trans g4
        have n4 := keep gg4 n2 hD
        cases b' with
        | true =>
          have el : (fi1 ρ1 >>= fun es => lcLoop tg1 ft1 fe (wipeR ρ1 vs1) es >>= fun xs => lc2Loop tg ft fi1 tg1 ft1 fe vs1 (wipeR ρ own) (ds.drop (i + 1)) >>= fun ys => .ok (xs ++ ys)) = .ok ys := el
          obtain ⟨es, b3, el⟩ := bind_ok el
          obtain ⟨xs, b4, el⟩ := bind_ok el
          obtain ⟨zs, b5, el⟩ := bind_ok el
          have el : xs ++ zs = ys := by cases el; rfl
          refine iteT ⟨Hf0, H0, Hf4, ρ1, e4.more g4, ?_⟩
          rw [b3]
          intro J1 Hf5 H5 g5 w1
          have gg5 : Grow Hf2 H2 Hf5 H5 := gg4.trans g5
          have e5 : EnvR C.K Hf0 H0 Hf5 H5 σ2 ρ1 := (e4.more g4).more g5
          have n5 := keep gg5 n2 hD
          have hD5 : H5 Da = some (.lst acc) := gg5.h.at hD n2
          have n0 : H0 Da = none := Same.free env.grow.h nD0
          have no : ∀ (j : Nat) (d : D), ρ1[j]? = some (.ow d) → σ2[j]? ≠ some (some (.ref Da)) := fun j d q1 q2 => by
            obtain ⟨m1, m2⟩ := wipeR_ow (fTg_ow b1 q1)
            have z := wipe_wipe (hw own hown)
            have zj : (L2.wipe σ2 own)[j]? = (L2.wipe σ own)[j]? := by rw [z]
            rw [wipe_get, wipe_get, if_neg m1, if_neg m1, q2] at zj
            exact env.notOwn nD0 j d m2 zj.symm
          have e5' : EnvR C.K Hf0 H0 Hf5 (less H5 Da) σ2 ρ1 := e5.less n0 n5 no
          have ew1 : EnvR C.K Hf0 H0 Hf5 (less H5 Da) (L2.wipe σ2 vs1) (wipeR ρ1 vs1) := e5'.wipe vs1
          have g15 : Grow Hf1 H1 Hf5 (less H5 Da) := (g2.trans gg5).less nD n5
          have tl : accD.length + xs.length + zs.length = tot.length := by rw [← et, ← el]; simp; omega
          refine ⟨fun j k H6 => k = es.length - j ∧ j ≤ es.length ∧ ∃ (Hf6 : Hp) (acc2 : List V) (accD2 us : List D), Grow Hf5 (less H5 Da) Hf6 H6 ∧ Hf6 Da = none ∧ H6 Da = some (.lst acc2) ∧ RpL C.K Hf6 acc2 accD2 ∧ lcLoop tg1 ft1 fe (wipeR ρ1 vs1) (es.drop j) = .ok us ∧ accD2 ++ us = accD ++ xs,
            ⟨es.length, by simp, Nat.zero_le _, Hf5, acc, accD, xs, ⟨Same.refl _, fun b o e => .inl (by
              by_cases q : b = Da
              · subst q; rw [less_same] at e; cases e
              · rw [less_ne q] at e; exact e), fun b o e => .inl e, g5.sub⟩, n5, hD5, ra.mono gg5.f, b4, rfl⟩, ?_⟩
          rintro j k H6 ⟨rfl, hj, Hf6, acc2, accD2, us, g6, n6, hD6, ra2, el2, et2⟩
          have s56 : Lk Hf5 H6 := Lk.back g6.f g6.sub.lk
          by_cases hjt : j < es.length
          · refine .inr ⟨w1.goes j H6 hjt s56, fun H7 => (es.length - (j + 1) = es.length - (j + 1)) ∧ j + 1 ≤ es.length ∧ ∃ (Hf6 : Hp) (acc2 : List V) (accD2 us : List D), Grow Hf5 (less H5 Da) Hf6 H7 ∧ Hf6 Da = none ∧ H7 Da = some (.lst acc2) ∧ RpL C.K Hf6 acc2 accD2 ∧ lcLoop tg1 ft1 fe (wipeR ρ1 vs1) (es.drop (j + 1)) = .ok us ∧ accD2 ++ us = accD ++ xs,
              fun H7 p => ⟨es.length - (j + 1), by omega, p⟩, fun x1 H7 y1 => ?_⟩
            have hd1 : es[j]? = some es[j] := List.getElem?_eq_getElem hjt
            obtain ⟨Hg7, g7, rx1⟩ := w1.yields j Hf6 H6 H7 x1 es[j] hd1 g6.f g6.sub y1
            rw [List.drop_eq_getElem_cons hjt] at el2
            unfold lcLoop at el2
            obtain ⟨ρ2, c1, el2⟩ := bind_ok el2
            obtain ⟨bb, c2, el2⟩ := bind_ok el2
            have e7 : EnvR C.K Hf0 H0 Hg7 H7 (L2.wipe σ2 vs1) (wipeR ρ1 vs1) := ew1.more (g6.trans g7)
            refine ⟨Hf0, H0, Hg7, wipeR ρ1 vs1, es[j], e7, rx1, ρ2, c1, fun σ3 e8 hw3 => ⟨wipe_wipe (hw3 vs1 hv1), Hf0, H0, Hg7, ρ2, e8, ?_⟩⟩
            rw [c2]
            intro b8 Hf8 H8 g8 eb8
            subst eb8
            have gg8 : Grow Hf6 H6 Hf8 H8 := g7.trans g8
            have n8 := keep gg8 n6 hD6
            cases b8 with
            | true =>
              refine iteT ⟨Hf0, H0, Hf8, ρ2, e8.more g8, ?_⟩
              have el2 : (fe ρ2 >>= fun y => lcLoop tg1 ft1 fe (wipeR ρ1 vs1) (es.drop (j + 1)) >>= fun ys => .ok (y :: ys)) = .ok us := el2
              obtain ⟨yd, c3, el2⟩ := bind_ok el2
              obtain ⟨ts, c4, el2⟩ := bind_ok el2
              have el2 : yd :: ts = us := by cases el2; rfl
              rw [c3]
              intro yv Hf9 H9 g9 ry
              have gg9 : Grow Hf6 H6 Hf9 H9 := gg8.trans g9
              have n9 := keep gg9 n6 hD6
              have hD9 : H9 Da = some (.lst acc2) := gg9.h.at hD6 n6
              have l2 : accD2.length + us.length = accD.length + xs.length := by have := congrArg List.length et2; simpa using this
              have la2 := ra2.length
              refine ⟨acc2, hD9, by rw [sizeLine_eq]; omega, rfl, hjt, Hf9, acc2 ++ [yv], accD2 ++ [yd], ts, ?_, n9, upd_same, (ra2.mono gg9.f).append (.cons ry .nil), c4, by rw [← et2, ← el2]; simp⟩
              have gt := g6.trans gg9
              exact gt.turn less_same n9
            | false =>
              exact iteF ⟨rfl, hjt, Hf8, acc2, accD2, us, g6.trans gg8, n8, gg8.h.at hD6 n6, ra2.mono gg8.f, el2, et2⟩
          · have ej : j = es.length := by omega
            subst ej
            rw [List.drop_length] at el2
            cases el2
            rw [List.append_nil] at et2
            subst et2
            exact .inl ⟨w1.stops H6 s56, rfl, hlt, Hf6, acc2, accD ++ xs, zs, g15.trans g6, n6, hD6, ra2, b5, by rw [← et, ← el]; simp⟩
        | false =>
          exact iteF ⟨rfl, hlt, Hf4, acc, accD, ys, g2.trans gg4, n4, gg4.h.at hD n2, ra.mono gg4.f, el, et⟩
      · have ei : i = ds.length := by omega
        subst ei
        rw [List.drop_length] at el
        cases el
        rw [List.append_nil] at et
        subst et
        have := ra.length
        exact .inl ⟨w.stops H2 s12, h1 _ Hf2 H2 g2 ⟨Da, rfl, nD0, acc, n2, hD, by rw [sizeLine_eq]; omega, ra⟩⟩
    · exact h1.elim
end
end DL
namespace DL
open PySem PySem.Spec PyProof.Rows L2
variable [Lots]
def isxOf (n : Str) : Expr → Option Str
  | .Call (.Name f _) [.Name m _, .Name c _] [] _ => if f == ("isinstance" : Str) && m == n then some c else none
  | _ => none
def isxs (n : Str) : List Expr → Option (List Str)
  | [] => some []
  | e :: es => (match isxOf n e, isxs n es with | some c, some cs => some (c :: cs) | _, _ => none)
def fTryIx (known : Str → Bool) (fb : Env → R Out) (cs : List Str) : Env → R Out := fun ρ => match fb ρ with
  | .exc c => if known c then (match cs.findIdx? fun k => k == c with | some j => .ok (.rt (.int j)) | none => .bad) else .bad
  | r => r
structure XcOk (X : Cx) (cl : Str → Addr) (known : Str → Bool) : Prop where
  glo : ∀ k, known k = true → X.mg k = some (.ref (cl k))
  exc : ∀ c, known c = true → ExcC X.K (cl c)
  exm : ∀ c, known c = true → PySem.W.exmOne X.K (.ref (cl c)) (.ref (cl "FleetError")) = some true
  kit : ∀ c k, known c = true → known k = true → k ≠ "FleetError" → PySem.W.kitOne X.K (.ref (cl c)) (.ref (cl k)) = some (decide (c = k))
section
variable {X : Cx} {cl : Str → Addr} {known : Str → Bool} {a : Addr} {oe : Obj} {pn : List (Addr × Obj)} {i : Nat} {n c : Str}
structure NmOk (X : Cx) (k : Str) : Prop where
  gl : Gl X k
  db : (k == ("__debug__" : Str)) = false
theorem pe_isx {k : Str} {p p1 p2 pos : Pos} (x : XcOk X cl known) (hz : Zc (.ref (cl c)) none oe) (hf : ∃ vs, oe.data = .fields vs) (hc : known c = true) (hk : known k = true) (hne : k ≠ "FleetError") (hN : X.N[i]? = some n) (hv : Vis X.env.scope n)
    (hd : (n == ("__debug__" : Str)) = false) (hcd : (n == ("__classdict__" : Str)) = false) (hg : Gl X "isinstance") (hm : X.mg "isinstance" = none) (nk : NmOk X k) :
    PE (X.suite a ((a, oe) :: pn)) (.Call (.Name "isinstance" p) [.Name n p1, .Name k p2] [] pos) (fun σ H Q => σ[i]? = some (some (.ref a)) ∧ Q (.bl (decide (c = k))) H) := by
  have h1 : PA (X.suite a ((a, oe) :: pn)) [.Name n p1, .Name k p2] (tCons (tVar i) (tCons (tC (.ref (cl k))) tNil)) :=
    pa_cons (pe_var hN hv hd hcd) (pa_cons (pe_glob nk.gl (x.glo k hk) rfl nk.db) pa_nil)
  refine PE.imp (pe_callB (call_isE (x.exc c hc) hz hf) hg hm (by decide +kernel) h1) fun σ H Q ⟨hs, q⟩ => ?_
  exact ⟨.ref a, hs, .ref (cl k), .ref (cl k), decide (c = k), rfl, fun u r => r, x.kit c k hc hk hne, q⟩
theorem pa_isxs (x : XcOk X cl known) (hz : Zc (.ref (cl c)) none oe) (hf : ∃ vs, oe.data = .fields vs) (hc : known c = true) (hN : X.N[i]? = some n) (hv : Vis X.env.scope n)
    (hd : (n == ("__debug__" : Str)) = false) (hcd : (n == ("__classdict__" : Str)) = false) (hg : Gl X "isinstance") (hm : X.mg "isinstance" = none) :
    ∀ {es : List Expr} {cs : List Str}, isxs n es = some cs → (∀ k ∈ cs, known k = true ∧ k ≠ "FleetError" ∧ NmOk X k) → PA (X.suite a ((a, oe) :: pn)) es (fun σ H Q => σ[i]? = some (some (.ref a)) ∧ Q (cs.map fun k => .bl (decide (c = k))) H)
  | [], cs, h, _ => by
    cases h
    exact PA.imp pa_nil fun σ H Q ⟨_, q⟩ => q
  | e :: es, cs, h, hk => by
    unfold isxs at h
    split at h
    · rename_i k cs' h1 h2
      cases h
      unfold isxOf at h1
      split at h1
      · split at h1
        · rename_i q
          cases h1
          simp only [Bool.and_eq_true] at q
          have e1 := eq_of_beq q.1
          have e2 := eq_of_beq q.2
          rw [e1, e2]
          obtain ⟨k1, k2, k3⟩ := hk k (by simp)
          exact PA.imp (pa_cons (pe_isx x hz hf hc k1 k2 hN hv hd hcd hg hm k3) (pa_isxs x hz hf hc hN hv hd hcd hg hm h2 fun y hy => hk y (by simp [hy]))) fun σ H Q ⟨hs, q⟩ => ⟨hs, hs, q⟩
        · cases h1
      · cases h1
    · cases h
theorem dp_bools {K : PySem.W.Frag} {H : Hp} : ∀ bs : List Bool, DpAll K H (bs.map V.bl) (bs.map PyData.bool)
  | [] => .nil
  | b :: bs => .cons (.bl b) (dp_bools bs)
theorem shaped_bools (bs : List Bool) : SeqAt.shaped (.list (bs.map PyData.bool)) = true := by
  have h1 : PyData.canLayAll0 (bs.map PyData.bool) = true := by induction bs <;> simp_all [PyData.canLayAll0, PyData.canLay0]
  have h2 : PyData.depthAll (bs.map PyData.bool) = 0 := by
    clear h1
    induction bs <;> simp_all [PyData.depthAll, PyData.depth]
  show (PyData.canLay0 (.list (bs.map PyData.bool)) && decide (PyData.depth (.list (bs.map PyData.bool)) ≤ 64)) = true
  rw [Bool.and_eq_true]
  refine ⟨by simp only [PyData.canLay0]; exact h1, decide_eq_true ?_⟩
  simp only [PyData.depth, h2]
  decide
theorem ret_isx {es : List Expr} {cs : List Str} {j : Nat} {lp ap cp rp bp : Pos} {ck : Nat} (x : XcOk X cl known) (hz : Zc (.ref (cl c)) none oe) (hf : ∃ vs, oe.data = .fields vs) (hc : known c = true) (hN : X.N[i]? = some n) (hv : Vis X.env.scope n)
    (hd : (n == ("__debug__" : Str)) = false) (hcd : (n == ("__classdict__" : Str)) = false) (hg : Gl X "isinstance") (hm : X.mg "isinstance" = none) (hu : X.A.units + 65 < cLine) (hl : (ap.endLine == cp.line) = true)
    (he : isxs n es = some cs) (hk : ∀ k ∈ cs, known k = true ∧ k ≠ "FleetError" ∧ NmOk X k) (hj : cs.findIdx? (fun k => k == c) = some j) :
    PSs (X.suite a ((a, oe) :: pn)) [.Return (some (.Call (.Attribute (.List es lp) "index" ap) [.Constant (.bool true) ck bp] [] cp)) rp] (fun D σ H => σ[i]? = some (some (.ref a)) ∧ cs.length ≤ sizeLine ∧ ∀ l, H l = none → D.rt (.int j) (upd H l (.lst (cs.map fun k => .bl (decide (c = k)))))) := by
  have hu' : (X.suite a ((a, oe) :: pn)).A.units + 65 < cLine := hu
  have hp : PE (X.suite a ((a, oe) :: pn)) (.Call (.Attribute (.List es lp) "index" ap) [.Constant (.bool true) ck bp] [] cp) (tBM X.K "list" (rIndexD X.K) (tLst fun σ H Q => σ[i]? = some (some (.ref a)) ∧ Q (cs.map fun k => .bl (decide (c = k))) H) (tCons (tC (.bl true)) tNil)) :=
    pe_bm PySem.F.plainAttrs_list PySem.F.slot_list_index PySem.F.type_list_index (mt_indexD hu') (pe_lst (pa_isxs x hz hf hc hN hv hd hcd hg hm he hk)) (pa_cons pe_bl pa_nil) rfl rfl hl rfl rfl
  refine ⟨fun pins s σ H D I h => (pss_one (ps_ret hp)).run pins s σ H D I ?_⟩
  obtain ⟨hs, hlen, q⟩ := h
  refine ⟨hs, by simpa using hlen, fun l hl => ⟨.inl ⟨rfl, _, SqL.of upd_same⟩, ?_⟩⟩
  obtain ⟨q1, q2, q3⟩ := List.findIdx?_eq_some_iff_getElem.mp hj
  have e1 : (cs.map fun k => V.bl (decide (c = k))) = (cs.map fun k => decide (c = k)).map V.bl := by rw [List.map_map]; rfl
  refine ⟨l, .bl true, .bool true, (cs.map fun k => decide (c = k)).map PyData.bool, j, .bool true, rfl, rfl, ?_, .bl true, ?_, rfl, ?_, rfl, fun m z' hm hz' => ?_, q l hl⟩
  · rw [e1]
    exact .lst (SqL.of upd_same) (dp_bools _)
  · exact shaped_bools _
  · have : cs[j] = c := eq_of_beq q2
    simp [q1, this]
  · have hm' : m < cs.length := by omega
    have := q3 m hm
    simp [hm'] at hz'
    subst hz'
    have hne : ¬ c = cs[m] := fun e => this (by rw [← e]; exact beq_self_eq_true c)
    simp [PyData.eqv, hne]
theorem s_try {C : Pm} (hCfr : C.fr = false) {es : List Expr} {cs : List Str} {body : List Stmt} {fb : Env → R Out} {np lp ap cp rp bp hp pos : Pos} {ck : Nat} (x : XcOk X C.cl known) (hkF : known "FleetError" = true) (hK : C.K = X.K)
    (hs : X.stack = X.env :: X.outer) (hfr : X.env.frame = some X.env.locals) (nd : X.N.Nodup) (hN : X.N[i]? = some n) (hln : X.env.kindOf n = some .local)
    (hd : (n == ("__debug__" : Str)) = false) (hcd : (n == ("__classdict__" : Str)) = false) (hg : Gl X "isinstance") (hm : X.mg "isinstance" = none) (hu : X.A.units + 65 < cLine) (hl : (ap.endLine == cp.line) = true)
    (hgF : Gl X "FleetError") (tk : Takes X fun cls d _ H => C.E cls d H)
    (he : isxs n es = some cs) (hk : ∀ k ∈ cs, known k = true ∧ k ≠ "FleetError" ∧ NmOk X k) (hlen : cs.length ≤ 1000)
    (hb : ∀ (pn : List (Addr × Obj)) (xe : Value → Shared → Prop) (E : XK), Takes (X.tr pn xe) (fun cls d _ H => E cls d H) → PassesOwn (model X.prog X.w) X.A X.env xe → PSs (X.tr pn xe) body (tS { C with E := E } fb)) :
    PS X (.Try body [.ExceptHandler (some (.Name "FleetError" np)) (some n) [.Return (some (.Call (.Attribute (.List es lp) "index" ap) [.Constant (.bool true) ck bp] [] cp)) rp] hp] [] [] pos) (tS C (fTryIx known fb cs)) := by
  let ts : Addr → Value → Option Addr → TS := fun a cls d D σ H => d = none ∧ ∃ c j, known c = true ∧ cls = .ref (C.cl c) ∧ cs.findIdx? (fun k => k == c) = some j ∧ σ[i]? = some (some (.ref a)) ∧ cs.length ≤ sizeLine ∧ ∀ l, H l = none → D.rt (.int j) (upd H l (.lst (cs.map fun k => .bl (decide (c = k)))))
  refine PS.imp (ps_try_as (tb := fun W => tS { C with E := fun cls d H => ∀ σ : L2.St, σ.length = X.N.length → W cls d σ H } fb) (ts := ts) hs hfr nd hN hln ⟨hgF, by decide, .inl (x.glo _ hkF)⟩ tk (fun W pn xe tkW own => hb pn xe _ ?_ own) ?_) ?_
  · rintro u s' ⟨a, B, sI, pins, σ, H, cls, d, e, I, nb, up, sky, na, os, ag, w⟩
    exact tkW u s' ⟨a, B, sI, pins, σ, H, cls, d, e, I, nb, up, sky, na, os, ag, w σ I.len⟩
  · intro a oe cls d pn hz hf
    refine ⟨fun pins s σ H D I h => ?_⟩
    obtain ⟨rfl, c, j, hc, rfl, hj, h1, h2, h3⟩ := h
    exact (ret_isx x hz hf hc hN (.inl hln) hd hcd hg hm hu hl he hk hj).run pins s σ H D I ⟨h1, h2, h3⟩
  · intro D σ H ⟨Hf0, H0, Hf, ρ, env, h⟩
    refine ⟨Hf0, H0, Hf, ρ, env, ?_⟩
    unfold fTryIx at h
    cases e : fb ρ with
    | bad => rw [e] at h; exact h
    | ok o =>
      rw [e] at h
      cases o <;> exact h
    | exc c =>
      rw [e] at h
      dsimp only at h
      split at h
      · rename_i hc
        split at h
        · rename_i j hj
          intro Hf' H' g σ' hlen'
          refine ⟨true, x.exm c hc, fun _ a ha => ⟨rfl, c, j, hc, rfl, hj, ?_, by rw [sizeLine_eq]; omega, fun l hl => ?_⟩, fun z => nomatch z⟩
          · have : i < σ'.length := by
              rw [hlen']
              exact (List.getElem?_eq_some_iff.mp hN).1
            simp [this]
          · exact h (.int j) Hf' _ (g.trans (Grow.side g.sub hl)) (.val hCfr (.int _))
        · exact h.elim
      · exact h.elim
end
end DL
namespace DL
open PySem PySem.Spec PyProof.Rows L2
variable [Lots]
section
variable {X : Cx} {cl : Str → Addr} {known : Str → Bool} {a : Addr} {oe : Obj} {pn : List (Addr × Obj)} {i : Nat} {n c : Str}
theorem ret_isx2 {es es2 : List Expr} {cs cs2 : List Str} {j jg : Nat} {g : Str} {gp g2p sp p3 lp lp2 ap cp rp bp : Pos} {ck : Nat} (x : XcOk X cl known) (hz : Zc (.ref (cl c)) none oe) (hf : ∃ vs, oe.data = .fields vs) (hc : known c = true) (nd : X.N.Nodup) (hN : X.N[i]? = some n) (hv : Vis X.env.scope n)
    (hd : (n == ("__debug__" : Str)) = false) (hcd : (n == ("__classdict__" : Str)) = false) (hg : Gl X "isinstance") (hm : X.mg "isinstance" = none) (hu : X.A.units + 65 < cLine) (hl : (ap.endLine == cp.line) = true)
    (hgN : X.N[jg]? = some g) (hgl : X.env.scope.names.lookup g = some .local) (gd : (g == ("__debug__" : Str)) = false) (gcd : (g == ("__classdict__" : Str)) = false)
    (he : isxs n es = some cs) (hk : ∀ k ∈ cs, known k = true ∧ k ≠ "FleetError" ∧ NmOk X k) (he2 : isxs n es2 = some cs2) (hk2 : ∀ k ∈ cs2, known k = true ∧ k ≠ "FleetError" ∧ NmOk X k) (hj : (cs ++ cs2).findIdx? (fun k => k == c) = some j) :
    PSs (X.suite a ((a, oe) :: pn)) [.Assign [.Name g gp] (.List es lp) sp, .Return (some (.Call (.Attribute (.BinOp (.Name g g2p) .Add (.List es2 lp2) p3) "index" ap) [.Constant (.bool true) ck bp] [] cp)) rp]
      (fun D σ H => σ.length = X.N.length ∧ σ[i]? = some (some (.ref a)) ∧ i ≠ jg ∧ (cs ++ cs2).length ≤ sizeLine ∧ ∀ l1 o1 l2 o2 l3 o3, H l1 = none → (upd H l1 o1) l2 = none → (upd (upd H l1 o1) l2 o2) l3 = none → D.rt (.int j) (upd (upd (upd H l1 o1) l2 o2) l3 o3)) := by
  have hu' : (X.suite a ((a, oe) :: pn)).A.units + 65 < cLine := hu
  have hp0 : PE (X.suite a ((a, oe) :: pn)) (.BinOp (.Name g g2p) .Add (.List es2 lp2) p3) _ := pe_op op_cat (pe_var hgN (.inl hgl) gd gcd) (pe_lst (pa_isxs x hz hf hc hN hv hd hcd hg hm he2 hk2))
  have hb : PE (X.suite a ((a, oe) :: pn)) (.Constant (.bool true) ck bp) (tC (.bl true)) := pe_bl
  have hp : PE (X.suite a ((a, oe) :: pn)) (.Call (.Attribute (.BinOp (.Name g g2p) .Add (.List es2 lp2) p3) "index" ap) [.Constant (.bool true) ck bp] [] cp) _ :=
    pe_bm PySem.F.plainAttrs_list PySem.F.slot_list_index PySem.F.type_list_index (mt_indexD hu') hp0 (pa_cons hb pa_nil) rfl rfl hl rfl rfl
  have hl0 : PE (X.suite a ((a, oe) :: pn)) (.List es lp) _ := pe_lst (pa_isxs x hz hf hc hN hv hd hcd hg hm he hk)
  have hs0 : PS (X.suite a ((a, oe) :: pn)) (.Assign [.Name g gp] (.List es lp) sp) _ := ps_set (X := X.suite a ((a, oe) :: pn)) (i := jg) nd hgN (.inl hgl) hl0 (by rfl) (.inr hgl)
  have hr0 : PS (X.suite a ((a, oe) :: pn)) (.Return (some (.Call (.Attribute (.BinOp (.Name g g2p) .Add (.List es2 lp2) p3) "index" ap) [.Constant (.bool true) ck bp] [] cp)) rp) _ := ps_ret hp
  refine ⟨fun pins s σ H D I h => (pss_cons hs0 (pss_one hr0)).run pins s σ H D I ?_⟩
  obtain ⟨hsl, hs, hij, hlen, q⟩ := h
  rw [List.length_append] at hlen
  have hjl : jg < σ.length := by
    rw [hsl]
    exact (List.getElem?_eq_some_iff.mp hgN).1
  refine ⟨hs, by simp only [List.length_map]; omega, fun l1 hl1 => ?_⟩
  refine ⟨_, by simp [hjl]; rfl, ?_⟩
  refine ⟨by rw [List.getElem?_set_ne (Ne.symm hij)]; exact hs, by simp only [List.length_map]; omega, fun l2 hl2 => ?_⟩
  have n12 : l1 ≠ l2 := fun e => by subst e; rw [upd_same] at hl2; cases hl2
  refine ⟨l1, l2, _, _, rfl, rfl, by rw [upd_ne n12]; exact upd_same, upd_same, by simp only [List.length_map]; omega, fun l3 hl3 => ?_⟩
  refine ⟨.inl ⟨rfl, _, SqL.of upd_same⟩, ?_⟩
  obtain ⟨q1, q2, q3⟩ := List.findIdx?_eq_some_iff_getElem.mp hj
  have e1 : (cs.map fun k => V.bl (decide (c = k))) ++ (cs2.map fun k => V.bl (decide (c = k))) = ((cs ++ cs2).map fun k => decide (c = k)).map V.bl := by rw [List.map_map, ← List.map_append]; rfl
  refine ⟨l3, .bl true, .bool true, ((cs ++ cs2).map fun k => decide (c = k)).map PyData.bool, j, .bool true, rfl, rfl, ?_, .bl true, ?_, rfl, ?_, rfl, fun m z' hm hz' => ?_, q l1 _ l2 _ l3 _ hl1 hl2 hl3⟩
  · rw [e1]
    exact .lst (SqL.of upd_same) (dp_bools _)
  · exact shaped_bools _
  · have : (cs ++ cs2)[j] = c := eq_of_beq q2
    rw [List.getElem?_map, List.getElem?_map, List.getElem?_eq_getElem q1, this]
    simp
  · have hm' : m < (cs ++ cs2).length := by omega
    have := q3 m hm
    rw [List.getElem?_map, List.getElem?_map, List.getElem?_eq_getElem hm'] at hz'
    simp only [Option.map_some, Option.some.injEq] at hz'
    subst hz'
    have hne : ¬ c = (cs ++ cs2)[m] := fun e => this (by rw [← e]; exact beq_self_eq_true c)
    simp only [PyData.eqv, hne, decide_false]
    rfl
theorem s_try2 {C : Pm} (hCfr : C.fr = false) {es es2 : List Expr} {cs cs2 : List Str} {body : List Stmt} {fb : Env → R Out} {jg : Nat} {g : Str} {gp g2p sp p3 lp2 np lp ap cp rp bp hp pos : Pos} {ck : Nat} (x : XcOk X C.cl known) (hkF : known "FleetError" = true) (hK : C.K = X.K)
    (hs : X.stack = X.env :: X.outer) (hfr : X.env.frame = some X.env.locals) (nd : X.N.Nodup) (hN : X.N[i]? = some n) (hln : X.env.kindOf n = some .local)
    (hd : (n == ("__debug__" : Str)) = false) (hcd : (n == ("__classdict__" : Str)) = false) (hg : Gl X "isinstance") (hm : X.mg "isinstance" = none) (hu : X.A.units + 65 < cLine) (hl : (ap.endLine == cp.line) = true)
    (hgF : Gl X "FleetError") (tk : Takes X fun cls d _ H => C.E cls d H)
    (hgN : X.N[jg]? = some g) (hgl : X.env.scope.names.lookup g = some .local) (gd : (g == ("__debug__" : Str)) = false) (gcd : (g == ("__classdict__" : Str)) = false) (hij : i ≠ jg)
    (he : isxs n es = some cs) (hk : ∀ k ∈ cs, known k = true ∧ k ≠ "FleetError" ∧ NmOk X k) (he2 : isxs n es2 = some cs2) (hk2 : ∀ k ∈ cs2, known k = true ∧ k ≠ "FleetError" ∧ NmOk X k) (hlen : (cs ++ cs2).length ≤ 1000)
    (hb : ∀ (pn : List (Addr × Obj)) (xe : Value → Shared → Prop) (E : XK), Takes (X.tr pn xe) (fun cls d _ H => E cls d H) → PassesOwn (model X.prog X.w) X.A X.env xe → PSs (X.tr pn xe) body (tS { C with E := E } fb)) :
    PS X (.Try body [.ExceptHandler (some (.Name "FleetError" np)) (some n) [.Assign [.Name g gp] (.List es lp) sp, .Return (some (.Call (.Attribute (.BinOp (.Name g g2p) .Add (.List es2 lp2) p3) "index" ap) [.Constant (.bool true) ck bp] [] cp)) rp] hp] [] [] pos) (tS C (fTryIx known fb (cs ++ cs2))) := by
  let ts : Addr → Value → Option Addr → TS := fun a cls d D σ H => d = none ∧ ∃ c j, known c = true ∧ cls = .ref (C.cl c) ∧ (cs ++ cs2).findIdx? (fun k => k == c) = some j ∧ σ.length = X.N.length ∧ σ[i]? = some (some (.ref a)) ∧ i ≠ jg ∧ (cs ++ cs2).length ≤ sizeLine ∧ ∀ l1 o1 l2 o2 l3 o3, H l1 = none → (upd H l1 o1) l2 = none → (upd (upd H l1 o1) l2 o2) l3 = none → D.rt (.int j) (upd (upd (upd H l1 o1) l2 o2) l3 o3)
  refine PS.imp (ps_try_as (tb := fun W => tS { C with E := fun cls d H => ∀ σ : L2.St, σ.length = X.N.length → W cls d σ H } fb) (ts := ts) hs hfr nd hN hln ⟨hgF, by decide, .inl (x.glo _ hkF)⟩ tk (fun W pn xe tkW own => hb pn xe _ ?_ own) ?_) ?_
  · rintro u s' ⟨a, B, sI, pins, σ, H, cls, d, e, I, nb, up, sky, na, os, ag, w⟩
    exact tkW u s' ⟨a, B, sI, pins, σ, H, cls, d, e, I, nb, up, sky, na, os, ag, w σ I.len⟩
  · intro a oe cls d pn hz hf
    refine ⟨fun pins s σ H D I h => ?_⟩
    obtain ⟨rfl, c, j, hc, rfl, hj, h1⟩ := h
    exact (ret_isx2 x hz hf hc nd hN (.inl hln) hd hcd hg hm hu hl hgN hgl gd gcd he hk he2 hk2 hj).run pins s σ H D I h1
  · intro D σ H ⟨Hf0, H0, Hf, ρ, env, h⟩
    refine ⟨Hf0, H0, Hf, ρ, env, ?_⟩
    unfold fTryIx at h
    cases e : fb ρ with
    | bad => rw [e] at h; exact h
    | ok o =>
      rw [e] at h
      cases o <;> exact h
    | exc c =>
      rw [e] at h
      dsimp only at h
      split at h
      · rename_i hc
        split at h
        · rename_i j hj
          intro Hf' H' g σ' hlen'
          refine ⟨true, x.exm c hc, fun _ a ha => ⟨rfl, c, j, hc, rfl, hj, by simpa using hlen', ?_, hij, by rw [sizeLine_eq]; omega, fun l1 o1 l2 o2 l3 o3 z1 z2 z3 => ?_⟩, fun z => nomatch z⟩
          · have : i < σ'.length := by
              rw [hlen']
              exact (List.getElem?_eq_some_iff.mp hN).1
            simp [this]
          · have g1 := g.trans (Grow.side (o := o1) g.sub z1)
            have g2 := g1.trans (Grow.side (o := o2) g1.sub z2)
            exact h (.int j) Hf' _ (g2.trans (Grow.side g2.sub z3)) (.val hCfr (.int _))
        · exact h.elim
      · exact h.elim
end
end DL
namespace DL
open PySem PySem.Spec PyProof.Rows L2
variable [Lots]
def dCat (x y : D) : R D := match x, y with
  | .list xs, .list ys => if xs.length + ys.length ≤ sizeLine then .ok (.list (xs ++ ys)) else .bad
  | _, _ => .bad
theorem f_cat {X : Cx} {C : Pm} {a b : Expr} {pos : Pos} {fa fb : Env → R D} (ha : PE X a (tP C fa)) (hb : PE X b (tP C fb)) :
    PE X (.BinOp a .Add b pos) (tF C fun ρ => fa ρ >>= fun x => fb ρ >>= fun y => dCat x y) :=
  PE.imp (pe_op op_cat ha hb) fun σ H Q ⟨Hf0, H0, Hf, ρ, env, h⟩ => ⟨Hf0, H0, Hf, ρ, env, OutG.bind (show OutG C (RelF C H) Hf H _ Q from h) fun dx vx Hf1 H1 _ g1 r1 h1 =>
    ⟨Hf0, H0, Hf1, ρ, env.more g1, h1.bind fun dy vy Hf2 H2 _ g2 r2 h2 => by
      unfold dCat at h2
      split at h2
      · rename_i xs ys
        split at h2
        · rename_i hl
          obtain ⟨l, vs, rfl, hv, zv, rv⟩ := Rp1.list_ g2.sub (r1.grow g2)
          obtain ⟨m, ws, rfl, hw, zw, rw'⟩ := Rp1.list_ g2.sub r2
          have hlen : vs.length + ws.length ≤ sizeLine := by rw [rv.length, rw'.length]; exact hl
          refine ⟨l, m, vs, ws, rfl, rfl, hv, hw, hlen, fun p np => ?_⟩
          refine h2 (.ref p) Hf2 _ (Grow.side g2.sub np) ⟨p, rfl, Same.free g1.h (Same.free g2.h np), vs ++ ws, Same.free g2.sub np, upd_same, by rw [List.length_append]; exact hlen, rv.append rw'⟩
        · exact h2.elim
      · exact h2.elim⟩⟩
end DL
namespace DL
open PySem PySem.Spec PyProof.Rows L2
variable [Lots]
section
variable {X : Cx} {pins : List (Addr × Obj)} {σ : L2.St} {H Hf : Hp} {s : Shared}
theorem grow_tab {P c : Addr} {q : Str} {ps : Array Value} {pos : Pos} (sf : Fit Hf H) (hm : Hf P = some (.xd [(q, .non)])) (hP : H P = some (.tbl ps)) (ht : TriplesOk ps.toList)
    (ha : ∀ (pos : Pos) (cv : Value), codeAmong pos ps.toList = some cv → ∃ c, cv = .ref c ∧ Hf c = some (LamX.CodeO c q)) (hc : H c = none) :
    Grow Hf H (upd Hf c (LamX.CodeO c q)) (upd (upd H P (.tbl (ps ++ #[rawInt pos.line, rawInt pos.col, .ref c]))) c (LamX.CodeO c q)) := by
  have hf : Hf c = none := Same.free sf hc
  have nPc : P ≠ c := ne_of_none hP hc
  have eL : (ps ++ #[rawInt pos.line, rawInt pos.col, .ref c]).toList = ps.toList ++ [rawInt pos.line, rawInt pos.col, .ref c] := by simp
  refine ⟨same_upd hf, fun b o e => ?_, fun b o e => ?_, fun b o e m => ?_, fun b fs e => ?_, fun p hp => same_upd hf _ _ (sf.tab p hp)⟩
  · have hb : b ≠ c := ne_of_none e hc
    by_cases hbP : b = P
    · subst hbP
      exact .inr ⟨⟨_, hm⟩, ⟨_, by rw [upd_ne hb, upd_same]⟩⟩
    · exact .inl (by rw [upd_ne hb, upd_ne hbP]; exact e)
  · by_cases hb : b = c
    · subst hb; exact .inr (.inl hc)
    · rw [upd_ne hb] at e; exact .inl e
  · by_cases hb : b = c
    · subst hb; rw [upd_same] at e ⊢; exact e
    · rw [upd_ne hb] at e
      have hbP : b ≠ P := fun z => by
        subst z
        rw [hm] at e
        cases e
        cases m
      rw [upd_ne hb, upd_ne hbP]
      exact sf.lk b o e m
  · by_cases hb : b = c
    · subst hb
      rw [upd_same] at e
      unfold LamX.CodeO at e
      cases e
    · rw [upd_ne hb] at e
      by_cases hbP : b = P
      · subst hbP
        rw [hm] at e
        cases e
        refine ⟨_, by rw [upd_ne hb, upd_same], by rw [eL]; exact PySem.TriplesOk_snoc _ _ _ _ ht, fun p' cv hcv => ?_⟩
        rw [eL] at hcv
        rcases LamX.among_app _ ht hcv with z | z
        · obtain ⟨c0, e1, e2⟩ := ha p' cv z
          exact ⟨c0, e1, same_upd hf _ _ e2⟩
        · exact ⟨c, z, upd_same⟩
      · exact (sf.mks b fs e).mono (same_upd hf) (by rw [upd_ne hb, upd_ne hbP])
theorem lam_new {c P : Addr} {params : Arguments} {body : Expr} {scope : Scope} {pos : Pos} {E : Value → Shared → Prop} {Q : Value → Shared → Prop} (I : Inv X pins σ H s) (sf : Fit Hf H) (TB : LamX.TabB X.base X.mg c P) (hcode : X.env.code = .ref c)
    (hm : (P, X.env.qual ++ "<lambda>") ∈ Lots.tabs) (hdef : defaultsOf params X.env = ([], [])) (hfree : ∀ y ∈ scope.names, y.2 = .free → ∃ c, X.env.cells.lookup y.1 = some c)
    (h : ∀ (f c' : Addr) (pm ctv : Value) (Hf1 H1 : Hp) (s' : Shared), Inv X pins σ H1 s' → Grow Hf H Hf1 H1 →
      s'.heap.get? f = some (PySem.W.kla_obj "<lambda>" (X.env.qual ++ "<lambda>") params body scope (cloFrom X.env.cells scope.names []) pm c' ctv) → H1 f = none → f ∉ L2.frs X.stack → H1 c' = some (LamX.CodeO c' (X.env.qual ++ "<lambda>")) → Q (.ref f) s') :
    wpAny (model X.prog X.w) X.A (eval (.Lambda params body scope pos) X.env) Q E s := by
  have hmk := sf.tab _ hm
  obtain ⟨ps, hP, ht, ha⟩ := sf.mks P _ hmk
  refine PySem.W.kla_eval hdef ?_
  have bP : s.heap.BuiltinsAt X.mg P := TB.bm.keeps I.bk
  have hP' : s.heap.get? P = some { cls := .none, data := .fields ps } := I.hok P _ hP
  have nofr : ∀ f, s.heap.objs.size ≤ f → f ∉ L2.frs X.stack := fun f hf z => by
    rcases List.mem_cons.mp (I.stkSub _ z) with e | e
    · have h1 := I.lt
      rw [← e] at h1
      exact Nat.lt_irrefl _ (Nat.lt_of_lt_of_le h1 hf)
    · exact I.nofs hf e
  cases hc : codeAmong pos ps.toList with
  | none =>
    refine PySem.W.kla_makeFunction (mg := X.mg) (c := c) (P := P) (ps := ps) (closure_ok hfree) I.ok.glob (I.mod.glob.keeps I.bk) hcode (TB.code.keeps I.bk) hP' ht hc TB.gP bP fun c' ctv h' tk hx hge hlt hrec htb => ?_
    obtain ⟨c2, oc, vs, t, e2, hoc, hd, hv⟩ := hrec
    cases e2
    have hsz : s.heap.objs.size ≤ h'.objs.size := Nat.le_trans hge (Nat.le_of_lt hlt)
    have nC : H c' = none := I.hok.fresh hge
    have I1 := LamX.inv_table (t' := tk) (more := #[rawInt pos.line, rawInt pos.col, .ref c']) (h' := h'.push (PySem.W.kla_obj "<lambda>" (X.env.qual ++ "<lambda>") params body scope (cloFrom X.env.cells scope.names []) ((X.mg "__name__").getD .none) c' ctv)) I hP
      (fun b o hb e => Heap.get?_push_of_some _ (hx b o hb e)) (Heap.get?_push_of_some _ htb) hge ⟨oc, vs, t, Heap.get?_push_of_some _ hoc, hd, hv⟩
    refine h h'.objs.size c' ((X.mg "__name__").getD .none) ctv _ _ _ I1 (grow_tab sf hmk hP ht ha nC) (Heap.get?_push_size _ rfl) ?_ (nofr _ hsz) upd_same
    have n1 : h'.objs.size ≠ c' := Nat.ne_of_gt hlt
    have n2 : h'.objs.size ≠ P := Nat.ne_of_gt (Nat.lt_of_lt_of_le (Heap.lt_size hP') hsz)
    rw [upd_ne n1, upd_ne n2]
    exact I.hok.fresh hsz
  | some cv =>
    obtain ⟨c', e, hco⟩ := ha pos cv hc
    subst e
    refine PySem.W.kla_makeFunctionHit (mg := X.mg) (c := c) (P := P) (ps := ps) (closure_ok hfree) I.ok.glob (I.mod.glob.keeps I.bk) hcode (TB.code.keeps I.bk) hP' ht hc bP fun ctv h' tk hx hsz => ?_
    have I1 : Inv X pins σ H { s with heap := h'.push (PySem.W.kla_obj "<lambda>" (X.env.qual ++ "<lambda>") params body scope (cloFrom X.env.cells scope.names []) ((X.mg "__name__").getD .none) c' ctv), toks := tk } := I.kept fun b o e => Heap.get?_push_of_some _ (hx b o e)
    refine h h'.objs.size c' ((X.mg "__name__").getD .none) ctv Hf H _ I1 (Grow.refl sf) (Heap.get?_push_size _ rfl) (I.hok.fresh hsz) (nofr _ hsz) (sf.lk _ _ hco ?_)
    unfold LamX.CodeO
    rfl
end
end DL
namespace DL
open PySem PySem.Spec PyProof.Rows L2
variable [Lots]
def isGl0 (sc : Scope) (x : Str) : Bool := match sc.names.lookup x with
  | some .globalImplicit => true
  | _ => false
def isLo0 (sc : Scope) (x : Str) : Bool := match sc.names.lookup x with
  | some .local => true
  | _ => false
theorem isGl0_ok {sc : Scope} {x : Str} (h : isGl0 sc x = true) : sc.names.lookup x = some .globalImplicit := by
  unfold isGl0 at h
  split at h
  · rename_i e; exact e
  · cases h
theorem isLo0_ok {sc : Scope} {x : Str} (h : isLo0 sc x = true) : sc.names.lookup x = some .local := by
  unfold isLo0 at h
  split at h
  · rename_i e; exact e
  · cases h
def dbgB (x : Str) : Bool := !(x == ("__debug__" : Str)) && !(x == ("__classdict__" : Str))
theorem dbgB_ok {x : Str} (h : dbgB x = true) : (x == ("__debug__" : Str)) = false ∧ (x == ("__classdict__" : Str)) = false := by
  simpa [dbgB] using h
def kOne (n k : Str) : Stmt → Option (List Str)
  | .Expr (.Call (.Attribute (.Name x _) m ap) [.List es _] [] cp) _ => if x == k && (m == ("extend" : Str) && (ap.endLine == cp.line)) then isxs n es else none
  | .Expr (.Call (.Attribute (.Name x _) m ap) [a] [] cp) _ => if x == k && (m == ("append" : Str) && (ap.endLine == cp.line)) then (isxOf n a).map fun c => [c] else none
  | _ => none
def kAll (n k : Str) : List Stmt → List Str × List Stmt
  | [] => ([], [])
  | st :: sts => match kOne n k st with
    | some cs => (cs ++ (kAll n k sts).1, (kAll n k sts).2)
    | none => ([], st :: sts)
def strs0 : List Expr → Option (List Str)
  | [] => some []
  | .Constant (.str z) _ _ :: es => (strs0 es).map fun zs => z :: zs
  | _ => none
def sOne0 (m : Str) : Stmt → Option (List Str)
  | .Expr (.Call (.Attribute (.Name x _) f ap) [.List es _] [] cp) _ => if x == m && (f == ("extend" : Str) && (ap.endLine == cp.line)) then strs0 es else none
  | _ => none
def sAll0 (m : Str) : List Stmt → List Str × List Stmt
  | [] => ([], [])
  | st :: sts => match sOne0 m st with
    | some cs => (cs ++ (sAll0 m sts).1, (sAll0 m sts).2)
    | none => ([], st :: sts)
def ifOne (n k : Str) : Stmt → Bool
  | .If (.BoolOp .Or [.Compare (.Call (.Attribute (.Name x _) f ap) [.Constant (.bool true) _ _] [] cp) [.NotEq] [.Constant (.int 1) _ _] _, .UnaryOp .Not (.Call (.Name g _) [.Name y _, .Name v _] [] _) _] _) [.Return (some (.Constant (.str _) _ _)) _] [] _ =>
    x == k && (f == ("count" : Str) && ((ap.endLine == cp.line) && (g == ("isinstance" : Str) && (y == n && v == ("ValueError" : Str)))))
  | _ => false
def retOne (k m : Str) : Stmt → Bool
  | .Return (some (.Subscript (.Name x _) (.Call (.Attribute (.Name y _) f ap) [.Constant (.bool true) _ _] [] cp) _)) _ => x == m && (y == k && (f == ("index" : Str) && (ap.endLine == cp.line)))
  | _ => false
def clsOf (n k m : Str) : List Stmt → Option (List Str × List Str)
  | .Assign [.Name x _] (.List es _) _ :: rest => if x == k then (match isxs n es with
    | some cs0 => (match kAll n k rest with
      | (cs1, t :: .Assign [.Name y _] (.List ss _) _ :: rest2) => if ifOne n k t && y == m then (match strs0 ss with
        | some t0 => (match sAll0 m rest2 with
          | (t1, [r]) => if retOne k m r then some (cs0 ++ cs1, t0 ++ t1) else none
          | _ => none)
        | none => none) else none
      | _ => none)
    | none => none) else none
  | _ => none
theorem call_isY {Y : Cx} {a D : Addr} {oe : Obj} (C : ExcC Y.K D) (hp : (a, oe) ∈ Y.pn) (hz : Zc (.ref D) none oe) (hf : ∃ vs, oe.data = .fields vs) : CallR Y (.builtin "isinstance") (rIsE Y.K D a) := by
  intro pins s σ H xs us Q I r h
  obtain ⟨c, cv, b, rfl, hcv, e, q⟩ := h
  cases r with
  | cons rx rr =>
    cases rr with
    | cons rt rr =>
      cases rr
      cases rx
      have ec := hcv _ rt
      subst ec
      obtain ⟨hget, _⟩ := I.pin (a, oe) (List.mem_append.mpr (.inl hp))
      obtain ⟨vs, hv⟩ := hf
      have J : PySem.W.InstAt s.heap a oe D none := by
        obtain ⟨oc, od, oda, osl⟩ := oe
        obtain ⟨h1, h2⟩ := hz
        dsimp only at h1 h2 hv
        subst h1 h2 hv
        exact ⟨hget, rfl, rfl, trivial⟩
      exact PySem.W.kia_one (PySem.W.handS_kitx_exc C.hg C.hk C.hs C.hd C.ha C.hn C.ht C.hm) I.kIn J e (fun z => nomatch z) fun tk => ⟨.bl b, H, I.kept (t' := tk) fun _ _ z => z, rfl, q⟩
structure ClY (Y : Cx) (C : Pm) (known : Str → Bool) (a : Addr) (oe : Obj) (c n k m : Str) : Prop where
  hw : Y.w = Lots.w
  pin : (a, oe) ∈ Y.pn
  zc : Zc (.ref (C.cl c)) none oe
  fl : ∃ vs, oe.data = .fields vs
  exc : ExcC Y.K (C.cl c)
  kit : ∀ x, known x = true → x ≠ "FleetError" → PySem.W.kitOne Y.K (.ref (C.cl c)) (.ref (C.cl x)) = some (decide (c = x))
  val : PySem.W.kitOne Y.K (.ref (C.cl c)) (.type "ValueError") = some true
  glo : ∀ x, known x = true → Y.mg x = some (.ref (C.cl x))
  isi : Y.mg "isinstance" = none
  ve : Y.mg "ValueError" = none
  gi : Gl Y "isinstance"
  gv : Gl Y "ValueError"
  units : Y.A.units + 65 < cLine
  nd : Y.N.Nodup
  eN : Y.N = [n, k, m]
  eK : C.K = Y.K
  ln : Y.env.scope.names.lookup n = some .local
  lk : Y.env.scope.names.lookup k = some .local
  lm : Y.env.scope.names.lookup m = some .local
  dn : dbgB n = true
  dk : dbgB k = true
  dm : dbgB m = true
section
variable {Y : Cx} {C : Pm} {known : Str → Bool} {a : Addr} {oe : Obj} {c n k m : Str} {Hf0 H0 : Hp}
def okx (Y : Cx) (known : Str → Bool) (x : Str) : Prop := known x = true ∧ x ≠ "FleetError" ∧ Gl Y x ∧ (x == ("__debug__" : Str)) = false
theorem pe_isY (h : ClY Y C known a oe c n k m) {x : Str} {p p1 p2 pos : Pos} (hx : okx Y known x) :
    PE Y (.Call (.Name "isinstance" p) [.Name n p1, .Name x p2] [] pos) (fun σ H Q => σ[0]? = some (some (.ref a)) ∧ Q (.bl (decide (c = x))) H) := by
  have h1 : PA Y [.Name n p1, .Name x p2] (tCons (tVar 0) (tCons (tC (.ref (C.cl x))) tNil)) :=
    pa_cons (pe_var (by rw [h.eN]; rfl) (.inl h.ln) (dbgB_ok h.dn).1 (dbgB_ok h.dn).2) (pa_cons (pe_glob hx.2.2.1 (h.glo x hx.1) rfl hx.2.2.2) pa_nil)
  refine PE.imp (pe_callB (call_isY h.exc h.pin h.zc h.fl) h.gi h.isi (by decide +kernel) h1) fun σ H Q ⟨hs, q⟩ => ?_
  exact ⟨.ref a, hs, .ref (C.cl x), .ref (C.cl x), decide (c = x), rfl, fun u r => r, h.kit x hx.1 hx.2.1, q⟩
theorem pa_isY (h : ClY Y C known a oe c n k m) : ∀ {es : List Expr} {cs : List Str}, isxs n es = some cs → (∀ x ∈ cs, okx Y known x) → PA Y es (fun σ H Q => σ[0]? = some (some (.ref a)) ∧ Q (cs.map fun x => .bl (decide (c = x))) H)
  | [], cs, e, _ => by
    cases e
    exact PA.imp pa_nil fun σ H Q ⟨_, q⟩ => q
  | e :: es, cs, he, hk => by
    unfold isxs at he
    split at he
    · rename_i x cs' h1 h2
      cases he
      unfold isxOf at h1
      split at h1
      · split at h1
        · rename_i q
          cases h1
          simp only [Bool.and_eq_true] at q
          have e1 := eq_of_beq q.1
          have e2 := eq_of_beq q.2
          rw [e1, e2]
          exact PA.imp (pa_cons (pe_isY h (hk x (by simp))) (pa_isY h h2 fun y hy => hk y (by simp [hy]))) fun σ H Q ⟨hs, q⟩ => ⟨hs, hs, q⟩
        · cases h1
      · cases h1
    · cases he
theorem pa_str0 : ∀ {es : List Expr} {zs : List Str}, strs0 es = some zs → PA Y es (fun σ H Q => Q (zs.map V.str) H)
  | [], _, h => by
    cases h
    exact PA.imp pa_nil fun σ H Q q => q
  | e :: es, zs, h => by
    unfold strs0 at h
    split at h
    · rename_i e1; cases e1
    · rename_i z _ _ es' e1
      cases e1
      cases q : strs0 es with
      | none => rw [q] at h; cases h
      | some ys =>
        rw [q] at h
        cases h
        exact PA.imp (pa_cons pe_str (pa_str0 q)) fun σ H Q q => q
    · cases h
theorem rp_bools {K : PySem.W.Frag} {H : Hp} : ∀ bs : List Bool, RpL K H (bs.map V.bl) (bs.map PyData.bool)
  | [] => .nil
  | b :: bs => .cons (.bl b) (rp_bools bs)
theorem rp_strs {K : PySem.W.Frag} {H : Hp} : ∀ zs : List Str, RpL K H (zs.map V.str) (zs.map PyData.str)
  | [] => .nil
  | z :: zs => .cons (.str z) (rp_strs zs)
def KJ (K : PySem.W.Frag) (Hf0 H0 : Hp) (a : Addr) (ρ : Env) (σ : L2.St) (H : Hp) : Prop := σ[0]? = some (some (.ref a)) ∧ ∃ Hf, EnvR K Hf0 H0 Hf H σ ρ
theorem ps_setY (h : ClY Y C known a oe c n k m) {es : List Expr} {vs : List V} {ds : List D} {i : Nat} {x : Str} {lp px pos : Pos} {ρ : Env} (hi : Y.N[i]? = some x) (h0 : i ≠ 0) (hl : Y.env.scope.names.lookup x = some .local)
    (he : PA Y es (fun σ H Q => σ[0]? = some (some (.ref a)) ∧ Q vs H)) (hr : ∀ Hf, RpL Y.K Hf vs ds) (hn : vs.length ≤ 1000) :
    PS Y (.Assign [.Name x px] (.List es lp) pos) (fun D σ H => KJ Y.K Hf0 H0 a ρ σ H ∧ ∀ σ' H', KJ Y.K Hf0 H0 a (ρ.set i (.ow (.list ds))) σ' H' → D.nx σ' H') := by
  refine PS.imp (ps_set (i := i) h.nd hi (.inl hl) (pe_lst he) (by rfl) (.inr hl)) fun D σ H ⟨⟨hs, Hf, env⟩, q⟩ => ?_
  refine ⟨hs, by rw [sizeLine_eq]; omega, fun l nl => ?_⟩
  have g : Grow Hf H Hf (upd H l (.lst vs)) := Grow.side env.grow.sub nl
  refine q _ _ ⟨by rw [List.getElem?_set_ne h0]; exact hs, Hf, ?_⟩
  exact (env.more g).putOwn ⟨vs, Same.free env.grow.sub nl, upd_same, by rw [sizeLine_eq]; omega, hr _⟩ (Same.free env.grow.h nl) (env.notOwn nl)
theorem ps_extY (h : ClY Y C known a oe c n k m) {es : List Expr} {vs : List V} {ds ds2 : List D} {i : Nat} {x : Str} {lp p1 ap cp pos : Pos} {ρ : Env} (hi : Y.N[i]? = some x) (hl : Y.env.scope.names.lookup x = some .local) (hx : dbgB x = true) (hw : (ap.endLine == cp.line) = true)
    (he : PA Y es (fun σ H Q => σ[0]? = some (some (.ref a)) ∧ Q vs H)) (hr : ∀ Hf, RpL Y.K Hf vs ds2) (hρ : ρ[i]? = some (.ow (.list ds))) (hn : ds.length + vs.length ≤ 1000) :
    PS Y (.Expr (.Call (.Attribute (.Name x p1) "extend" ap) [.List es lp] [] cp) pos) (fun D σ H => KJ Y.K Hf0 H0 a ρ σ H ∧ ∀ σ' H', KJ Y.K Hf0 H0 a (ρ.set i (.ow (.list (ds ++ ds2)))) σ' H' → D.nx σ' H') := by
  have hp : PE Y (.Call (.Attribute (.Name x p1) "extend" ap) [.List es lp] [] cp) (tBM Y.K "list" rExtend (tVar i) (tCons (tLst fun σ H Q => σ[0]? = some (some (.ref a)) ∧ Q vs H) tNil)) :=
    pe_bm PySem.F.plainAttrs_list PySem.F.slot_list_extend PySem.F.type_list_extend mt_extend (pe_var hi (.inl hl) (dbgB_ok hx).1 (dbgB_ok hx).2) (pa_cons (pe_lst he) pa_nil (star_cons rfl)) rfl (few_one rfl) hw (star_cons rfl) rfl
  refine PS.imp (ps_expr hp rfl) fun D σ H ⟨⟨hs, Hf, env⟩, q⟩ => ?_
  obtain ⟨v, hσ, b, h2, ⟨xs, p1, p2, p3, p4⟩, n0⟩ := slot_there env hρ
  subst h2
  have hl2 := p4.length
  refine ⟨.ref b, hσ, .inl ⟨rfl, xs, SqL.of p2⟩, hs, by rw [sizeLine_eq]; omega, fun l nl => ?_⟩
  have g : Grow Hf H Hf (upd H l (.lst vs)) := Grow.side env.grow.sub nl
  have nbl : b ≠ l := ne_of_none p2 nl
  refine ⟨b, l, xs, vs, rfl, rfl, by rw [upd_ne nbl]; exact p2, upd_same, by rw [sizeLine_eq]; omega, q σ _ ⟨hs, Hf, (env.more g).turn hρ hσ n0 p1 ⟨_, p1, upd_same, ?_, p4.append (hr _)⟩⟩⟩
  rw [List.length_append, sizeLine_eq]
  omega
theorem ps_appY (h : ClY Y C known a oe c n k m) {e : Expr} {v : V} {d : D} {ds : List D} {i : Nat} {x : Str} {p1 ap cp pos : Pos} {ρ : Env} (hi : Y.N[i]? = some x) (hl : Y.env.scope.names.lookup x = some .local) (hx : dbgB x = true) (hw : (ap.endLine == cp.line) = true) (hst : isStar e = false)
    (he : PE Y e (fun σ H Q => σ[0]? = some (some (.ref a)) ∧ Q v H)) (hr : ∀ Hf, Rp Y.K Hf v d) (hρ : ρ[i]? = some (.ow (.list ds))) (hn : ds.length < 1000) :
    PS Y (.Expr (.Call (.Attribute (.Name x p1) "append" ap) [e] [] cp) pos) (fun D σ H => KJ Y.K Hf0 H0 a ρ σ H ∧ ∀ σ' H', KJ Y.K Hf0 H0 a (ρ.set i (.ow (.list (ds ++ [d])))) σ' H' → D.nx σ' H') := by
  have hp : PE Y (.Call (.Attribute (.Name x p1) "append" ap) [e] [] cp) (tBM Y.K "list" rAppend (tVar i) (tCons (fun σ H Q => σ[0]? = some (some (.ref a)) ∧ Q v H) tNil)) :=
    pe_bm PySem.F.plainAttrs_list PySem.F.slot_list_append PySem.F.type_list_append mt_append (pe_var hi (.inl hl) (dbgB_ok hx).1 (dbgB_ok hx).2) (pa_cons he pa_nil (star_cons hst)) rfl (few_one hst) hw (star_cons hst) rfl
  refine PS.imp (ps_expr hp rfl) fun D σ H ⟨⟨hs, Hf, env⟩, q⟩ => ?_
  obtain ⟨v', hσ, b, h2, ⟨xs, p1, p2, p3, p4⟩, n0⟩ := slot_there env hρ
  subst h2
  have hl2 := p4.length
  refine ⟨.ref b, hσ, .inl ⟨rfl, xs, SqL.of p2⟩, hs, b, xs, v, rfl, rfl, p2, by rw [sizeLine_eq]; omega, q σ _ ⟨hs, Hf, env.turn hρ hσ n0 p1 ⟨_, p1, upd_same, ?_, p4.append (.cons (hr _) .nil)⟩⟩⟩
  rw [List.length_append, sizeLine_eq]
  simp
  omega
end
end DL
namespace DL
open PySem PySem.Spec PyProof.Rows L2
variable [Lots]
section
variable {Y : Cx} {C : Pm} {known : Str → Bool} {a : Addr} {oe : Obj} {c n k m : Str} {Hf0 H0 : Hp}
abbrev bsD (bs : List Bool) : D := .list (bs.map PyData.bool)
abbrev zsD (zs : List Str) : D := .list (zs.map PyData.str)
theorem isx_star {e : Expr} {x : Str} (h : isxOf n e = some x) : isStar e = false := by
  unfold isxOf at h
  split at h
  · rfl
  · cases h
theorem pe_isO (h : ClY Y C known a oe c n k m) {e : Expr} {x : Str} (he : isxOf n e = some x) (hx : okx Y known x) : PE Y e (fun σ H Q => σ[0]? = some (some (.ref a)) ∧ Q (.bl (decide (c = x))) H) := by
  unfold isxOf at he
  split at he
  · split at he
    · rename_i q
      cases he
      simp only [Bool.and_eq_true] at q
      have e1 := eq_of_beq q.1
      have e2 := eq_of_beq q.2
      rw [e1, e2]
      exact pe_isY h hx
    · cases he
  · cases he
theorem kone (h : ClY Y C known a oe c n k m) {st : Stmt} {cs : List Str} {bs : List Bool} {s2 : DL.Slot} (hk : kOne n k st = some cs) (hx : ∀ x ∈ cs, okx Y known x) (hl : bs.length + cs.length ≤ 900) :
    PS Y st (fun D σ H => KJ Y.K Hf0 H0 a [.un, .ow (bsD bs), s2] σ H ∧ ∀ σ' H', KJ Y.K Hf0 H0 a [.un, .ow (bsD (bs ++ cs.map fun x => decide (c = x))), s2] σ' H' → D.nx σ' H') := by
  have hi : Y.N[1]? = some k := by rw [h.eN]; rfl
  unfold kOne at hk
  split at hk
  · split at hk
    · rename_i q
      simp only [Bool.and_eq_true] at q
      obtain ⟨q1, q2, q3⟩ := q
      have e1 := eq_of_beq q1
      have e2 := eq_of_beq q2
      subst e1 e2
      refine PS.imp (ps_extY (Hf0 := Hf0) (H0 := H0) (ρ := [.un, .ow (bsD bs), s2]) (ds := bs.map PyData.bool) (ds2 := (cs.map fun x => decide (c = x)).map PyData.bool) (vs := cs.map fun x => .bl (decide (c = x))) h hi h.lk h.dk q3 (pa_isY h hk hx) (fun Hf => by
        have := rp_bools (K := Y.K) (H := Hf) (cs.map fun x => decide (c = x))
        rw [List.map_map] at this
        exact this) rfl (by simp; omega)) fun D σ H ⟨j, q⟩ => ⟨j, fun σ' H' j' => q σ' H' ?_⟩
      rw [bsD, List.map_append]
      exact j'
    · cases hk
  · split at hk
    · rename_i q
      simp only [Bool.and_eq_true] at q
      obtain ⟨q1, q2, q3⟩ := q
      have e1 := eq_of_beq q1
      have e2 := eq_of_beq q2
      subst e1 e2
      obtain ⟨x, hx1, rfl⟩ := Option.map_eq_some_iff.mp hk
      refine PS.imp (ps_appY (Hf0 := Hf0) (H0 := H0) (ρ := [.un, .ow (bsD bs), s2]) (ds := bs.map PyData.bool) (d := .bool (decide (c = x))) h hi h.lk h.dk q3 (isx_star hx1) (pe_isO h hx1 (hx x (by simp))) (fun Hf => .bl _) rfl (by simp at hl ⊢; omega)) fun D σ H ⟨j, q⟩ => ⟨j, fun σ' H' j' => q σ' H' ?_⟩
      rw [bsD, List.map_append]
      exact j'
    · cases hk
  · cases hk
theorem kloop (h : ClY Y C known a oe c n k m) {t : TS} {rest : List Stmt} (hr : PSs Y rest t) : ∀ {sts : List Stmt} {cs : List Str} {bs : List Bool}, kAll n k sts = (cs, rest) → (∀ x ∈ cs, okx Y known x) → bs.length + cs.length ≤ 900 →
    PSs Y sts (fun D σ H => KJ Y.K Hf0 H0 a [.un, .ow (bsD bs), .un] σ H ∧ ∀ σ' H', KJ Y.K Hf0 H0 a [.un, .ow (bsD (bs ++ cs.map fun x => decide (c = x))), .un] σ' H' → t D σ' H')
  | [], cs, bs, e, hx, hl => by
    unfold kAll at e
    cases e
    exact PSs.imp hr fun D σ H ⟨j, q⟩ => q σ H (by simpa using j)
  | st :: sts, cs, bs, e, hx, hl => by
    unfold kAll at e
    split at e
    · rename_i cs0 h0
      have e1 := (Prod.mk.inj e).1
      have e2 := (Prod.mk.inj e).2
      subst e1
      have ih := kloop h hr (bs := bs ++ cs0.map fun x => decide (c = x)) (sts := sts) (cs := (kAll n k sts).1) (by rw [← e2]) (fun x hx' => hx x (by simp [hx'])) (by simp at hl ⊢; omega)
      refine PSs.imp (pss_cons (kone (Hf0 := Hf0) (H0 := H0) (bs := bs) (s2 := .un) h h0 (fun x hx' => hx x (by simp [hx'])) (by simp at hl; omega)) ih) fun D σ H ⟨j, q⟩ => ⟨j, fun σ' H' j' => ⟨j', fun σ2 H2 j2 => q σ2 H2 ?_⟩⟩
      rw [List.map_append, ← List.append_assoc]
      exact j2
    · cases e
      exact PSs.imp hr fun D σ H ⟨j, q⟩ => q σ H (by simpa using j)
theorem sone (h : ClY Y C known a oe c n k m) {st : Stmt} {cs zs : List Str} {s1 : DL.Slot} (hk : sOne0 m st = some cs) (hl : zs.length + cs.length ≤ 900) :
    PS Y st (fun D σ H => KJ Y.K Hf0 H0 a [.un, s1, .ow (zsD zs)] σ H ∧ ∀ σ' H', KJ Y.K Hf0 H0 a [.un, s1, .ow (zsD (zs ++ cs))] σ' H' → D.nx σ' H') := by
  have hi : Y.N[2]? = some m := by rw [h.eN]; rfl
  unfold sOne0 at hk
  split at hk
  · split at hk
    · rename_i q
      simp only [Bool.and_eq_true] at q
      obtain ⟨q1, q2, q3⟩ := q
      have e1 := eq_of_beq q1
      have e2 := eq_of_beq q2
      subst e1 e2
      refine PS.imp (ps_extY (Hf0 := Hf0) (H0 := H0) (ρ := [.un, s1, .ow (zsD zs)]) (ds := zs.map PyData.str) (ds2 := cs.map PyData.str) (vs := cs.map V.str) h hi h.lm h.dm q3 (PA.imp (pa_str0 hk) fun σ H Q ⟨_, q⟩ => q) (fun Hf => rp_strs cs) rfl (by simp; omega)) fun D σ H ⟨j, q⟩ => ⟨j, fun σ' H' j' => q σ' H' ?_⟩
      rw [zsD, List.map_append]
      exact j'
    · cases hk
  · cases hk
theorem sloop (h : ClY Y C known a oe c n k m) {t : TS} {rest : List Stmt} {s1 : DL.Slot} (hr : PSs Y rest t) : ∀ {sts : List Stmt} {cs zs : List Str}, sAll0 m sts = (cs, rest) → zs.length + cs.length ≤ 900 →
    PSs Y sts (fun D σ H => KJ Y.K Hf0 H0 a [.un, s1, .ow (zsD zs)] σ H ∧ ∀ σ' H', KJ Y.K Hf0 H0 a [.un, s1, .ow (zsD (zs ++ cs))] σ' H' → t D σ' H')
  | [], cs, zs, e, hl => by
    unfold sAll0 at e
    cases e
    exact PSs.imp hr fun D σ H ⟨j, q⟩ => q σ H (by simpa using j)
  | st :: sts, cs, zs, e, hl => by
    unfold sAll0 at e
    split at e
    · rename_i cs0 h0
      have e1 := (Prod.mk.inj e).1
      have e2 := (Prod.mk.inj e).2
      subst e1
      have ih := sloop (s1 := s1) h hr (zs := zs ++ cs0) (sts := sts) (cs := (sAll0 m sts).1) (by rw [← e2]) (by simp at hl ⊢; omega)
      refine PSs.imp (pss_cons (sone (Hf0 := Hf0) (H0 := H0) (zs := zs) (s1 := s1) h h0 (by simp at hl; omega)) ih) fun D σ H ⟨j, q⟩ => ⟨j, fun σ' H' j' => ⟨j', fun σ2 H2 j2 => q σ2 H2 ?_⟩⟩
      rw [← List.append_assoc]
      exact j2
    · cases e
      exact PSs.imp hr fun D σ H ⟨j, q⟩ => q σ H (by simpa using j)
theorem ifY (h : ClY Y C known a oe c n k m) {st : Stmt} {bs : List Bool} (hi : ifOne n k st = true) (hb : bs.countP (fun b => b) = 1) :
    PS Y st (fun D σ H => KJ Y.K Hf0 H0 a [.un, .ow (bsD bs), .un] σ H ∧ ∀ σ' H', KJ Y.K Hf0 H0 a [.un, .ow (bsD bs), .un] σ' H' → D.nx σ' H') := by
  unfold ifOne at hi
  split at hi
  · simp only [Bool.and_eq_true] at hi
    obtain ⟨q1, q2, q3, q4, q5, q6⟩ := hi
    have e1 := eq_of_beq q1
    have e2 := eq_of_beq q2
    have e4 := eq_of_beq q4
    have e5 := eq_of_beq q5
    have e6 := eq_of_beq q6
    subst e1 e2 e4 e5 e6
    rename_i x p1 ap ck bp cp ck2 bp2 p3 p4 y p5 p6 p7 p8 p9 z ck3 bp3 p10 p11
    have hN1 : Y.N[1]? = some x := by rw [h.eN]; rfl
    have hN0 : Y.N[0]? = some y := by rw [h.eN]; rfl
    have t1 := t_cmp (C := C) (X := Y) (pos := p3) (op := .NotEq) (F := dCmp .NotEq) (op_cmp h.hw h.eK h.units _) (PE.peek (e_count (C := C) (apos := ap) (cpos := cp) (e := .Constant (.bool true) ck bp) h.units h.eK (e_varP (pos := p1) hN1 (.inl h.lk) (dbgB_ok h.dk).1 (dbgB_ok h.dk).2) (PE.peek (e_con rfl)) rfl rfl q3)) (PE.peek (e_con (c := .int 1) (k := ck2) (pos := bp2) rfl)) rfl
    have hv : PE Y (.Call (.Name "isinstance" p4) [.Name y p5, .Name "ValueError" p6] [] p7) (fun σ H Q => σ[0]? = some (some (.ref a)) ∧ Q (.bl true) H) := by
      have h1 : PA Y [.Name y p5, .Name "ValueError" p6] (tCons (tVar 0) (tCons (tC (.ty "ValueError")) tNil)) :=
        pa_cons (pe_var hN0 (.inl h.ln) (dbgB_ok h.dn).1 (dbgB_ok h.dn).2) (pa_cons (pe_bltn (v := .ty "ValueError") h.gv h.ve (by decide +kernel) rfl (by decide) (by decide)) pa_nil)
      refine PE.imp (pe_callB (call_isY h.exc h.pin h.zc h.fl) h.gi h.isi (by decide +kernel) h1) fun σ H Q ⟨hs, q⟩ => ?_
      exact ⟨.ref a, hs, .ty "ValueError", .type "ValueError", true, rfl, fun u r => r, h.val, q⟩
    have t2 : PT Y (.UnaryOp .Not (.Call (.Name "isinstance" p4) [.Name y p5, .Name "ValueError" p6] [] p7) p8) _ := pt_not (pt_val hv)
    refine PS.imp (ps_if ((pw_or t1 (pw_or1 t2)).pt) (pss_one (ps_ret pe_str)) pss_nil) fun D σ H ⟨⟨hs, Hf, env⟩, q⟩ => ?_
    refine ⟨Hf0, H0, Hf, _, (by rw [h.eK]; exact env), ?_⟩
    have hsh : (SeqAt.shaped (.bool true) && SeqAt.shaped (bsD bs)) = true := by
      rw [Bool.and_eq_true]
      exact ⟨rfl, shaped_bools bs⟩
    have hcnt : (bs.map PyData.bool).countP (fun z => PyData.eqv z (.bool true)) = 1 := by
      rw [List.countP_map, ← hb]
      congr 1
      funext b
      cases b <;> rfl
    have hev : (fMeth dCount (rdP 1) (fun _ => .ok (.bool true)) [.un, .ow (bsD bs), .un] >>= fun x => (R.ok (.int 1) : R PyData) >>= fun y => dCmp .NotEq x y) = .ok false := by
      have : fMeth dCount (rdP 1) (fun _ => .ok (.bool true)) [.un, .ow (bsD bs), .un] = .ok (.int 1) := by
        show dCount (bs.map PyData.bool) (.bool true) = _
        unfold dCount
        rw [if_pos hsh, hcnt]
        rfl
      rw [this]
      rfl
    show OutG C RelT Hf H (fMeth dCount (rdP 1) (fun _ => .ok (.bool true)) [.un, .ow (bsD bs), .un] >>= fun x => (R.ok (.int 1) : R PyData) >>= fun y => dCmp .NotEq x y) _
    rw [hev]
    intro b Hf1 H1 g1 r1
    subst r1
    refine iteF ⟨hs, true, rfl, ?_⟩
    exact iteF (q σ H1 ⟨hs, Hf1, env.more g1⟩)
  · cases hi
theorem retY (h : ClY Y C known a oe c n k m) {st : Stmt} {bs : List Bool} {zs : List Str} {j : Nat} {z : Str} (hi : retOne k m st = true) (hj : bs.findIdx? (fun b => b) = some j) (hz : zs[j]? = some z) :
    PS Y st (fun D σ H => KJ Y.K Hf0 H0 a [.un, .ow (bsD bs), .ow (zsD zs)] σ H ∧ ∀ Hf' H', Grow Hf0 H0 Hf' H' → D.rt (.str z) H') := by
  unfold retOne at hi
  split at hi
  · simp only [Bool.and_eq_true] at hi
    obtain ⟨q1, q2, q3, q4⟩ := hi
    have e1 := eq_of_beq q1
    have e2 := eq_of_beq q2
    have e3 := eq_of_beq q3
    subst e1 e2 e3
    rename_i x p1 y p2 ap ck bp cp p3 p4
    have hN1 : Y.N[1]? = some y := by rw [h.eN]; rfl
    have hN2 : Y.N[2]? = some x := by rw [h.eN]; rfl
    have hp := e_ix (C := C) (pos := p3) h.hw h.units h.eK (e_varP (pos := p1) hN2 (.inl h.lm) (dbgB_ok h.dm).1 (dbgB_ok h.dm).2)
      (PE.peek (e_index (C := C) (apos := ap) (cpos := cp) (e := .Constant (.bool true) ck bp) h.units h.eK (e_varP (pos := p2) hN1 (.inl h.lk) (dbgB_ok h.dk).1 (dbgB_ok h.dk).2) (PE.peek (e_con rfl)) rfl rfl q4)) (plainIx_of rfl)
    refine PS.imp (ps_ret hp) fun D σ H ⟨⟨hs, Hf, env⟩, q⟩ => ?_
    refine ⟨Hf0, H0, Hf, _, (by rw [h.eK]; exact env), ?_⟩
    have hsh : (SeqAt.shaped (.bool true) && SeqAt.shaped (bsD bs)) = true := by
      rw [Bool.and_eq_true]
      exact ⟨rfl, shaped_bools bs⟩
    have hix : (bs.map PyData.bool).findIdx? (fun z => PyData.eqv z (.bool true)) = some j := by
      rw [List.findIdx?_map, ← hj]
      congr 1
      funext b
      cases b <;> rfl
    have h1 : fMeth dIndex (rdP 1) (fun _ => .ok (.bool true)) [.un, .ow (bsD bs), .ow (zsD zs)] = .ok (.int j) := by
      show dIndex (bs.map PyData.bool) (.bool true) = _
      unfold dIndex
      rw [if_pos hsh, hix]
    have h2 : dIx (zsD zs) (.int j) = .ok (.str z) := by
      have : (zs.map PyData.str)[j]? = some (.str z) := by rw [List.getElem?_map, hz]; rfl
      show (match L2.atI (zs.map PyData.str) ((j : Nat) : Int) with | some d => R.ok d | none => .bad) = _
      rw [L2.atI_nat this]
    show OutG C (RelE C) Hf H ((R.ok (zsD zs) : R PyData) >>= fun x => fMeth dIndex (rdP 1) (fun _ => .ok (.bool true)) [.un, .ow (bsD bs), .ow (zsD zs)] >>= fun y => dIx x y) _
    rw [R.ok_bind, h1, R.ok_bind, h2]
    intro v Hf1 H1 g1 r1
    cases r1
    exact q Hf1 H1 (env.grow.trans g1)
  · cases hi
end
end DL
namespace DL
open PySem PySem.Spec PyProof.Rows L2
variable [Lots]
section
variable {Y : Cx} {C : Pm} {known : Str → Bool} {a : Addr} {oe : Obj} {c n k m : Str} {Hf0 H0 : Hp}
theorem clsY (h : ClY Y C known a oe c n k m) {body : List Stmt} {cs zs : List Str} {j : Nat} (hb : clsOf n k m body = some (cs, zs)) (hx : ∀ x ∈ cs, okx Y known x) (hl : cs.length ≤ 900) (hl2 : zs.length ≤ 900)
    (h1 : (cs.map fun x => decide (c = x)).countP (fun b => b) = 1) (h2 : (cs.map fun x => decide (c = x)).findIdx? (fun b => b) = some j) (h3 : zs[j]? = some c) :
    PSs Y body (fun D σ H => KJ Y.K Hf0 H0 a [.un, .un, .un] σ H ∧ ∀ Hf' H', Grow Hf0 H0 Hf' H' → D.rt (.str c) H') := by
  have hN1 : Y.N[1]? = some k := by rw [h.eN]; rfl
  have hN2 : Y.N[2]? = some m := by rw [h.eN]; rfl
  unfold clsOf at hb
  split at hb
  · rename_i x px es lp pos rest
    split at hb
    · rename_i e0
      have e0 := eq_of_beq e0
      subst e0
      split at hb
      · rename_i cs0 he0
        split at hb
        · rename_i cs1 t y py ss lp2 pos2 rest2 hk
          split at hb
          · rename_i q
            simp only [Bool.and_eq_true] at q
            have e1 := eq_of_beq q.2
            subst e1
            split at hb
            · rename_i t0 ht0
              split at hb
              · rename_i t1 r hs
                split at hb
                · rename_i hr
                  cases hb
                  have e1 : (cs0.map fun x => decide (c = x)) ++ (cs1.map fun x => decide (c = x)) = (cs0 ++ cs1).map fun x => decide (c = x) := by rw [List.map_append]
                  have s5 := pss_one (retY (Hf0 := Hf0) (H0 := H0) h hr h2 h3)
                  have s4 := sloop (Hf0 := Hf0) (H0 := H0) (zs := t0) (s1 := .ow (bsD ((cs0 ++ cs1).map fun x => decide (c = x)))) h s5 hs (by rw [List.length_append] at hl2; exact hl2)
                  have s3 := pss_cons (ps_setY (Hf0 := Hf0) (H0 := H0) (px := py) (lp := lp2) (pos := pos2) (ρ := [.un, .ow (bsD ((cs0 ++ cs1).map fun x => decide (c = x))), .un]) (ds := t0.map PyData.str) (vs := t0.map V.str) h hN2 (by decide) h.lm (PA.imp (pa_str0 ht0) fun σ H Q ⟨_, q⟩ => q) (fun Hf => rp_strs t0) (by rw [List.length_append] at hl2; simp; omega)) s4
                  have s2 := pss_cons (ifY (Hf0 := Hf0) (H0 := H0) h q.1 h1) s3
                  have s1 := kloop (Hf0 := Hf0) (H0 := H0) (bs := cs0.map fun x => decide (c = x)) h s2 hk (fun x hx' => hx x (by simp [hx'])) (by rw [List.length_append] at hl; simp; omega)
                  have s0 := pss_cons (ps_setY (Hf0 := Hf0) (H0 := H0) (px := px) (lp := lp) (pos := pos) (ρ := [.un, .un, .un]) (ds := (cs0.map fun x => decide (c = x)).map PyData.bool) (vs := cs0.map fun x => .bl (decide (c = x))) h hN1 (by decide) h.lk (pa_isY h he0 fun x hx' => hx x (by simp [hx'])) (fun Hf => by
                    have := rp_bools (K := Y.K) (H := Hf) (cs0.map fun x => decide (c = x))
                    rw [List.map_map] at this
                    exact this) (by rw [List.length_append] at hl; simp; omega)) s1
                  refine PSs.imp s0 fun D σ H ⟨j0, q0⟩ => ⟨j0, fun σ1 H1 j1 => ⟨j1, fun σ2 H2 j2 => ⟨?_, fun σ3 H3 j3 => ⟨j3, fun σ4 H4 j4 => ⟨j4, fun σ5 H5 j5 => ⟨j5, q0⟩⟩⟩⟩⟩⟩
                  rw [e1] at j2
                  exact j2
                · cases hb
              · cases hb
            · cases hb
          · cases hb
        · cases hb
      · cases hb
    · cases hb
  · cases hb
end
structure ClsDef (K : PySem.W.Frag) (mg : Str → Option Value) (known : Str → Bool) (x : Str) : Prop where
  ex : ∃ (params : Arguments) (body : List Stmt) (scope : Scope) (g : Addr) (fd : FuncData) (n k m : Str) (cs zs : List Str), FunD K x x params body scope [] [] g fd ∧ FnScope [n, k, m] [n] scope ∧ Binds K fd [n] [] ∧ mg x = some (.ref g) ∧ clsOf n k m body = some (cs, zs) ∧
    (isLo0 scope n && (isLo0 scope k && (isLo0 scope m && (dbgB n && (dbgB k && (dbgB m && (isGl0 scope "isinstance" && isGl0 scope "ValueError"))))))) = true ∧
    (∀ y ∈ cs, known y = true ∧ y ≠ "FleetError" ∧ isGl0 scope y = true ∧ dbgB y = true) ∧ cs.length ≤ 900 ∧ zs.length ≤ 900 ∧
    ∀ c, known c = true → c ≠ "FleetError" → (cs.map fun x => decide (c = x)).countP (fun b => b) = 1 ∧ ∃ j, (cs.map fun x => decide (c = x)).findIdx? (fun b => b) = some j ∧ zs[j]? = some c
  isi : mg "isinstance" = none
  ve : mg "ValueError" = none
section
variable {Z : Cx} {cl : Str → Addr} {known : Str → Bool} {a : Addr} {oe : Obj} {c e : Str} {i : Nat}
theorem pe_cls {x : Str} {p p2 pos : Pos} {kk : Nat} (hw : Z.w = Lots.w) (CD : ClsDef Z.K Z.mg known x) (xc : XcOk Z cl known) (val : PySem.W.kitOne Z.K (.ref (cl c)) (.type "ValueError") = some true) (hc : known c = true) (hne : c ≠ "FleetError") (hpin : (a, oe) ∈ Z.pn) (hz : Zc (.ref (cl c)) none oe) (hf : ∃ vs, oe.data = .fields vs)
    (hr : L2H.RoomH (kk + 1) Z.A) (hN : Z.N[i]? = some e) (hv : Vis Z.env.scope e) (hd : (e == ("__debug__" : Str)) = false) (hcd : (e == ("__classdict__" : Str)) = false) (hg : Gl Z x) (hdb : (x == ("__debug__" : Str)) = false) :
    PE Z (.Call (.Name x p) [.Name e p2] [] pos) (fun σ H Q => σ[i]? = some (some (.ref a)) ∧ ∃ Hf, Fit Hf H ∧ ∀ Hf' H', Grow Hf H Hf' H' → Q (.str c) H') := by
  obtain ⟨params, body, scope, g, fd, n, k, m, cs, zs, FD, S, hb, hmg, hcls, hsc, hcs, hl, hl2, hcnt⟩ := CD.ex
  obtain ⟨h1, j, h2, h3⟩ := hcnt c hc hne
  simp only [Bool.and_eq_true] at hsc
  obtain ⟨z1, z2, z3, z4, z5, z6, z7, z8⟩ := hsc
  obtain ⟨oc, od, dV, kV, doc, pm, an, cdv, ct, osl, rfl, lk, hcd', _, _⟩ := FD.ex
  refine ⟨fun pins s σ H Q I ⟨hσ, Hf, sf, hQ⟩ => ?_⟩
  refine wpAny_Call_Name_kw (ld_glob I hg hmg ?_ hdb)
  have ha : PA Z [.Name e p2] (tCons (tVar i) tNil) := pa_cons (pe_var hN hv hd hcd) pa_nil
  refine PySem.W.callWith_K (h₀ := Z.base) I.ok.mod.kin FD.kp (thn (ha.run pos pins s σ H (fun vs H1 => vs = [.ref a] ∧ H1 = H) I ⟨_, hσ, rfl, rfl⟩) fun us s1' ⟨vs, H1, I1, r, q1, q2⟩ => ⟨I1.kIn, ?_⟩) rfl rfl
  subst q1
  rw [q2] at I1
  clear q2
  have hlu : us.length = 1 := by rw [← r.length]; rfl
  have b := hb s1' us I1.kIn (by simpa using hlu)
  rw [List.append_nil] at b
  have P1 := I1.pin (a, oe) (List.mem_append_left _ hpin)
  have hp : L2H.PinOk Z.stack H s1' (a, oe) := ⟨P1.1, P1.2.1, fun hm => (List.mem_cons.mp (I1.stkSub a hm)).elim P1.2.2.1 P1.2.2.2.1, P1.2.2.2.2⟩
  have e0 := I1.env0
  have rc : codeAny (model Z.prog Z.w) Z.A (.call (.ref g) ⟨us, []⟩) (CR C8.CX0 Z.stack Z.prog Z.w H s1' Q C8.E0) s1' := by
    have KX : Z.K.In s1'.heap := e0.mod.kin.keeps fun b o e => (e0.bs b o e).1
    have lim : s1'.heap.NoLimit := e0.mod.nolimit.keeps fun b o e => (e0.bs b o e).1
    have hkind : ∀ y ∈ [n].zip us, scope.names.lookup y.1 = some .local ∨ (scope.names.lookup y.1 = some .cell ∧ ((cellsFrom (s1'.heap.objs.size + 1) scope.names []).lookup y.1).isSome = true) := fun ⟨n', v⟩ hy => by
      rcases S.par n' (List.of_mem_zip hy).1 with q | q
      · exact .inl q
      · exact .inr ⟨q, PySem.W.cellsFrom_some _ _ _ (.inl q)⟩
    refine codeAny_call_function hr.depth (KX _ _ lk) rfl S.co S.gen rfl (PySem.W.codeRec_of KX hcd') (b _ _ _ _ ?_)
    refine wpAny_newFunctionEnv_cells S.kind hkind fun env he s2 x2 => ?_
    subst he
    refine ⟨lim.keeps x2.toInCall.keep, codeAny_func ?_⟩
    have J : Inv (L2H.cxH C8.CX0 Z.prog Z.w Z.K Z.mg Z.base [n, k, m] x scope g cdv Z.A Z.stack s1' H C8.E0 (a, oe)) [] (L2.start [n, k, m] [.ref a]) H s2 := L2H.inv_startH S hp e0 rfl r x2
    have hY : ClY (L2H.cxH C8.CX0 Z.prog Z.w Z.K Z.mg Z.base [n, k, m] x scope g cdv Z.A Z.stack s1' H C8.E0 (a, oe)) ⟨Z.K, C8.E0, cl, false⟩ known a oe c n k m := {
      hw := hw
      pin := List.mem_singleton.mpr rfl
      zc := hz
      fl := hf
      exc := xc.exc c hc
      kit := fun y hy hn => xc.kit c y hc hy hn
      val := val
      glo := xc.glo
      isi := CD.isi
      ve := CD.ve
      gi := isGl0_ok z7
      gv := isGl0_ok z8
      units := by
        have := (hr.deeper (envOfC x scope s1'.heap.objs.size g cdv)).un
        show (Z.A.deeper (envOfC x scope s1'.heap.objs.size g cdv)).units + 65 < cLine
        omega
      nd := S.nd
      eN := rfl
      eK := rfl
      ln := isLo0_ok z1
      lk := isLo0_ok z2
      lm := isLo0_ok z3
      dn := z4
      dk := z5
      dm := z6 }
    have ht := clsY (Hf0 := Hf) (H0 := H) hY hcls (fun y hy => by
      obtain ⟨k1, k2, k3, k4⟩ := hcs y hy
      exact ⟨k1, k2, isGl0_ok k3, (dbgB_ok k4).1⟩) hl hl2 h1 h2 h3
    have hst : KJ Z.K Hf H a [.un, .un, .un] (L2.start [n, k, m] [.ref a]) H := ⟨rfl, Hf, Grow.refl sf, rfl, fun i s v h1 h2 => by
      rcases i with _ | _ | _ | i <;> simp at h1 <;> subst h1 <;> trivial, fun i j d e' b' h1 => by
      rcases i with _ | _ | _ | i <;> simp at h1⟩
    refine wpAny_mono (ht.run [] s2 _ H { nx := fun _ H' => Q .non H', rt := Q } J ⟨hst, fun Hf' H' gr => hQ Hf' H' gr⟩) (fun fl s' hs => ?_) fun e' s' hs => hs
    cases fl with
    | ret u =>
      obtain ⟨v, σ', H', J', rv, q⟩ := hs
      exact ⟨v, H', J'.os, J'.bare, J'.base, J'.hok, rv, q⟩
    | next =>
      obtain ⟨σ', H', J', q⟩ := hs
      exact ⟨.non, H', J'.os, J'.bare, J'.base, J'.hok, rfl, q⟩
    | brk =>
      obtain ⟨_, _, _, q⟩ := hs
      exact False.elim q
    | cont =>
      obtain ⟨_, _, _, q⟩ := hs
      exact False.elim q
  refine wpAny_call (codeAny_mono rc fun r' s' hq => ?_)
  cases r' with
  | error e' => exact (show False from hq).elim
  | ok fl =>
    cases fl with
    | ret u => exact I1.after hq
    | next => exact False.elim hq
    | brk => exact False.elim hq
    | cont => exact False.elim hq
end
end DL
namespace DL
open PySem PySem.Spec PyProof.Rows L2
variable [Lots]
def toldOf (d e x : Str) : List Stmt → Bool
  | [.Try [.Return (some (.Call (.Name y _) [] [] _)) _] [.ExceptHandler (some (.Name f _)) (some z) [.Return (some (.Tuple [.Constant (.str r) _ _, .Call (.Name g _) [.Name w _] [] _] _ _)) _] _] [] [] _] =>
    y == d && (f == ("FleetError" : Str) && (z == e && (r == ("refused" : Str) && (g == x && w == e))))
  | _ => false
structure ToldDef (K : PySem.W.Frag) (mg : Str → Option Value) (x y : Str) : Prop where
  ex : ∃ (params : Arguments) (body : List Stmt) (scope : Scope) (g : Addr) (fd : FuncData) (d e : Str), FunD K x x params body scope [] [] g fd ∧ FnScope [d, e] [d] scope ∧ Binds K fd [d] [] ∧ mg x = some (.ref g) ∧ toldOf d e y body = true ∧
    (isLo0 scope d && (isLo0 scope e && (dbgB d && (dbgB e && (isGl0 scope "FleetError" && isGl0 scope y))))) = true
def refusedD (c : Str) : D := .tuple [.str "refused", .str c]
def fTold (known : Str → Bool) (fb : Env → R D) : Env → R D := fun ρ => match fb ρ with
  | .ok d => .ok d
  | .exc c => if known c && !(c == ("FleetError" : Str)) then .ok (refusedD c) else .bad
  | .bad => .bad
section
variable {X : Cx} {C : Pm} {known : Str → Bool}
theorem e_told {x y : Str} {p lpos pos : Pos} {params : Arguments} {body : Expr} {scope : Scope} {fb : Env → R D} {c P : Addr} {kk : Nat} (hw : X.w = Lots.w) (hK : C.K = X.K) (TD : ToldDef X.K X.mg x y) (CD : ClsDef X.K X.mg known y) (xc : XcOk X C.cl known) (hkF : known "FleetError" = true)
    (val : ∀ c, known c = true → PySem.W.kitOne X.K (.ref (C.cl c)) (.type "ValueError") = some true)
    (hg : Gl X x) (hdb : (x == ("__debug__" : Str)) = false) (hyd : (y == ("__debug__" : Str)) = false)
    (TB : LamX.TabB X.base X.mg c P) (hcode : X.env.code = .ref c) (hm : (P, X.env.qual ++ "<lambda>") ∈ Lots.tabs) (hr : Room (kk + 2) X.A) (L : LamX.LamS X.env.scope scope) (hdef : defaultsOf params X.env = ([], []))
    (hbind : ∀ (q : Str) (cl : List (Str × Addr)) (pm cv ctv : Value), bindArgs (PySem.W.kla_fn "<lambda>" q params body scope cl pm cv ctv) ⟨[], []⟩ = pure [])
    (hbody : ∀ (A : Around) (outer : List PySem.Env) (s : Shared) (H : Hp) (E : XK) (f c' : Addr), Room kk (A.deeper (LamX.lamEnv X scope s.heap.objs.size f c')) → PE (LamX.lamCx X A outer s H E scope f c') body (tE ⟨C.K, E, C.cl, false⟩ fb)) :
    PE X (.Call (.Name x p) [.Lambda params body scope lpos] [] pos) (tE C (fTold known fb)) := by
  obtain ⟨pg, bg, sg, g, fd, d, e, FD, Sg, hb, hmg, htold, hsc⟩ := TD.ex
  obtain ⟨oc, od, dV, kV, doc, pm, an, cdv, ct, osl, rfl, lk, hcg, _, _⟩ := FD.ex
  simp only [Bool.and_eq_true] at hsc
  obtain ⟨z1, z2, z3, z4, z5, z6⟩ := hsc
  have hde : d ≠ e := by
    have := Sg.nd
    simp at this
    exact this
  unfold toldOf at htold
  split at htold
  · rename_i y' q1 q2 q3 f' q4 z' r' jj q5 g' q6 w' q7 q8 kq q9 q10 q11 q12
    simp only [Bool.and_eq_true] at htold
    obtain ⟨w1, w2, w3, w4, w5, w6⟩ := htold
    have e1 := eq_of_beq w1
    have e2 := eq_of_beq w2
    have e3 := eq_of_beq w3
    have e4 := eq_of_beq w4
    have e5 := eq_of_beq w5
    have e6 := eq_of_beq w6
    subst e1 e2 e3 e4 e5
    subst e6
    refine ⟨fun pins s σ H Q I ⟨Hf0, H0, Hf, ρ, env, h⟩ => ?_⟩
    refine wpAny_Call_Name_kw (ld_glob I hg hmg ?_ hdb)
    refine PySem.W.callWith_K (h₀ := X.base) I.ok.mod.kin FD.kp ?_ (by rfl) (by rfl)
    show wpAny _ _ (spliced ((false, eval (.Lambda params body scope lpos) X.env) :: backTo pos (starEach [] X.env))) _ _ s
    refine Calls.spliced_cons (lam_new I env.grow.sub TB hcode hm hdef (L.has I.ok) fun f c' pm' ctv Hf1 H1 s' I1 gr hf hfn hfr hco => ?_)
    refine Calls.spliced_nil ⟨I1.kIn, ?_⟩
    have rc : codeAny (model X.prog X.w) X.A (.call (.ref g) ⟨[.ref f], []⟩) (CR C8.CX0 X.stack X.prog X.w H1 s' Q C8.E0) s' := by
      refine LamX.run_ofS (N := [y', w']) (ps := [y']) (us := [.ref f]) (vs := [.ref f]) lk hcg Sg hr I1.env0 (hb s' [.ref f] I1.kIn rfl) (.cons rfl .nil) rfl fun hr' => ?_
      let Z : Cx := (cxOf C8.CX0 X.prog X.w X.K X.mg X.base [y', w'] x sg g cdv X.A X.stack s' H1 C8.E0).nox
      let tb : WX → TS := fun W D σZ HZ => σZ[0]? = some (some (.ref f)) ∧ HZ c' = some (LamX.CodeO c' (X.env.qual ++ "<lambda>")) ∧ tE ⟨C.K, fun cls dd H' => ∀ σ' : L2.St, σ'.length = 2 → W cls dd σ' H', C.cl, false⟩ fb σ HZ D.rt
      let ts : Addr → Value → Option Addr → TS := fun a cls dd D σ H => dd = none ∧ ∃ c, known c = true ∧ c ≠ "FleetError" ∧ cls = .ref (C.cl c) ∧ σ[1]? = some (some (.ref a)) ∧ ∃ Hf, Fit Hf H ∧ ∀ Hf' H' v, Grow Hf H Hf' H' → Rp X.K Hf' v (refusedD c) → D.rt v H'
      have htry : PS Z (.Try [.Return (some (.Call (.Name y' q1) [] [] q2)) q3] [.ExceptHandler (some (.Name "FleetError" q4)) (some w') [.Return (some (.Tuple [.Constant (.str "refused") jj q5, .Call (.Name g' q6) [.Name w' q7] [] q8] kq q9)) q10] q11] [] [] q12) (fun D σ H => tb (wAs Z.K (.ref (C.cl "FleetError")) 1 ts (fun _ _ _ _ => False) D) D σ H) := by
        refine ps_try_as (X := Z) (i := 1) (n := w') (tb := tb) (ts := ts) rfl rfl Sg.nd rfl (isLo0_ok z2) ⟨isGl0_ok z5, by decide, .inl (xc.glo _ hkF)⟩ LamX.takes0 (fun W pn xe tk own => ?_) (fun a oe cls dd pn hz hfl => ?_)
        · have tk' : Takes (Z.tr pn xe) (fun cls dd _ H' => ∀ σ' : L2.St, σ'.length = 2 → W cls dd σ' H') := by
            rintro u s2 ⟨a, B, sI, pins', σ2, H2, cls, dd, e', I2, nb, up, sky, na, os, ag, w⟩
            exact tk u s2 ⟨a, B, sI, pins', σ2, H2, cls, dd, e', I2, nb, up, sky, na, os, ag, w σ2 I2.len⟩
          have hact := LamX.pe_act (k := kk) (i := 0) (a := y') (p1 := q1) (p2 := q2) (Eg := C8.E0) (CXg := C8.CX0) (qg := x) (sg := sg) (g := g) (cdg := cdv) (Ng := [y', w']) (pn := pn) (xe := xe) (E := fun cls dd H' => ∀ σ' : L2.St, σ'.length = 2 → W cls dd σ' H')
            (tb := tE ⟨C.K, fun cls dd H' => ∀ σ' : L2.St, σ'.length = 2 → W cls dd σ' H', C.cl, false⟩ fb) I1 L hf hfn hfr (hbind _ _ _ _ _) tk' (fun _ _ _ _ h => h) hr' (fun A outer s H hr2 => hbody A outer s H _ f c' hr2) rfl (.inl (isLo0_ok z1)) (dbgB_ok z3).1 (dbgB_ok z3).2
          exact PSs.imp (pss_one (ps_ret hact)) fun D σZ HZ ⟨k1, k2, k3⟩ => ⟨k1, k2, k3⟩
        · refine ⟨fun pins2 s2 σ2 H2 D2 I2 hh => ?_⟩
          obtain ⟨rfl, c, hc, hne, rfl, k1, Hf2, sf2, k2⟩ := hh
          have hcls : PE (Z.suite a ((a, oe) :: pn)) (.Call (.Name g' q6) [.Name w' q7] [] q8) _ := pe_cls (Z := Z.suite a ((a, oe) :: pn)) (cl := C.cl) (known := known) (i := 1) (kk := kk) hw CD ⟨xc.glo, xc.exc, xc.exm, xc.kit⟩ (val c hc) hc hne List.mem_cons_self hz hfl ⟨hr'.dp, hr'.un⟩ rfl (.inl (isLo0_ok z2)) (dbgB_ok z4).1 (dbgB_ok z4).2 (isGl0_ok z6) hyd
          refine (pss_one (ps_ret (pe_tup (pa_cons pe_str (pa_cons hcls pa_nil))))).run pins2 s2 σ2 H2 D2 I2 ?_
          refine ⟨k1, Hf2, sf2, fun Hf3 H3 g3 => ⟨by rw [sizeLine_eq]; simp, fun q nq => ?_⟩⟩
          refine k2 _ _ _ (g3.trans (Grow.push (o := .tup [.str "refused", .str c]) g3.sub nq)) ?_
          exact .tup upd_same (by rw [sizeLine_eq]; simp) (.cons (.str _) (.cons (.str _) .nil))
      refine ⟨_, (pss_one htry).nox, rfl, hco, Hf0, H0, Hf1, ρ, env.more gr, ?_⟩
      have h := OutG.more h gr
      unfold fTold at h
      cases hfb : fb ρ with
      | ok dd => rw [hfb] at h; exact h
      | bad => rw [hfb] at h; exact h.elim
      | exc cc =>
        rw [hfb] at h
        dsimp only at h
        split at h
        · rename_i hcc
          simp only [Bool.and_eq_true, Bool.not_eq_true'] at hcc
          have hne : cc ≠ "FleetError" := fun z => by rw [z] at hcc; simp at hcc
          intro Hf2 H2 g2 σ2 hl2
          refine ⟨true, xc.exm cc hcc.1, fun _ a ha => ⟨rfl, cc, hcc.1, hne, rfl, ?_, Hf2, g2.sub, fun Hf3 H3 v g3 r => h v Hf3 H3 (g2.trans g3) ?_⟩, fun z => nomatch z⟩
          · have : 1 < σ2.length := by omega
            simp [this]
          · show Rp C.K Hf3 v (refusedD cc)
            rw [hK]
            exact r
        · exact h.elim
    refine wpAny_call (codeAny_mono rc fun r s2 hq => ?_)
    cases r with
    | error e => exact (show False from hq).elim
    | ok fl =>
      cases fl with
      | ret u => exact I1.after hq
      | next => exact False.elim hq
      | brk => exact False.elim hq
      | cont => exact False.elim hq
  · cases htold
end
end DL
namespace DL
open PySem PySem.Spec PyProof.Rows L2
variable [Lots]
structure KnOk (K : PySem.W.Frag) : Prop where
  cls : Cls K (He.ga K "Known")
  sea : NoAttr K (He.ga K "Known") "sea"
  worlds : NoAttr K (He.ga K "Known") "worlds"
  names : NoAttr K (He.ga K "Known") "names"
def dFld (f : Str) : D → R D
  | .dict [(.none, .tuple [F, W, N])] => if f = "sea" then .ok F else if f = "worlds" then .ok W else if f = "names" then .ok N else .bad
  | _ => .bad
theorem Rp.kn_ {K : PySem.W.Frag} {H : Hp} {v : V} {F W N : D} (h : Rp K H v (.dict [(.none, .tuple [F, W, N])])) : ∃ (x dx b : Addr) (vF vW vN : V), v = .ref x ∧ H x = some (.ins (He.ga K "Known") dx [("sea", vF), ("worlds", vW), ("names", vN), ("near", .ref b)]) ∧ H b = some (.xd [("sea", vF), ("worlds", vW), ("names", vN)]) ∧ Rp K H vF F ∧ Rp K H vW W ∧ Rp K H vN N := by
  generalize e : (PyData.dict [(.none, .tuple [F, W, N])] : D) = d at h
  cases h with
  | scr h1 h2 => unfold DL.scr at e; cases e
  | dic h1 h2 h3 =>
    injection e with e
    subst e
    exact h3.noScr.elim
  | dit h1 h2 h3 => unfold tdD at e; cases e
  | @kno x dx b vF vW vN F' W' N' h1 h2 h3 h4 h5 =>
    unfold knD at e
    cases e
    exact ⟨x, dx, b, vF, vW, vN, rfl, h1, h2, h3, h4, h5⟩
  | _ => cases e
section
variable {X : Cx} {C : Pm} {e : Expr} {fe : Env → R D} {pos : Pos}
theorem e_fld {f : Str} (hK : C.K = X.K) (kn : KnOk X.K) (he : PE X e (tE C fe)) (hb : attributeBase e f X.env (eval e X.env) = eval e X.env) : PE X (.Attribute e f pos) (tE C fun ρ => fe ρ >>= dFld f) :=
  PE.imp (pe_fld he hb) fun σ H Q ⟨Hf0, H0, Hf, ρ, env, h⟩ => ⟨Hf0, H0, Hf, ρ, env, OutG.bind (show OutG C (RelE C) Hf H (fe ρ >>= dFld f) Q from h) fun d v Hf1 H1 _ g r h1 => by
    unfold dFld at h1
    split at h1
    · rename_i F W N
      obtain ⟨x, dx, b, vF, vW, vN, rfl, hx, hb', r1, r2, r3⟩ := Rp.kn_ r
      have hx := g.sub.lk _ _ hx rfl
      rw [hK] at hx
      refine ⟨x, He.ga X.K "Known", dx, [("sea", vF), ("worlds", vW), ("names", vN), ("near", .ref b)], ?_⟩
      split at h1
      · rename_i q
        subst q
        exact ⟨vF, rfl, hx, kn.cls, kn.sea, rfl, h1.val g.sub r1⟩
      · split at h1
        · rename_i q
          subst q
          exact ⟨vW, rfl, hx, kn.cls, kn.worlds, rfl, h1.val g.sub r2⟩
        · split at h1
          · rename_i q
            subst q
            exact ⟨vN, rfl, hx, kn.cls, kn.names, rfl, h1.val g.sub r3⟩
          · exact h1.elim
    · exact h1.elim⟩
def knB : D → R Unit
  | .dict [(.none, .tuple [_, _, _])] => .ok ()
  | _ => .bad
theorem e_knm {k n : Nat} {f : Addr} {fd : FuncData} {ps : List Str} {m : Str} {F : List D → R D} {o : Expr} {es : List Expr} {fo : Env → R D} {fr : Env → R (List D)} {apos : Pos} {pl : Sem Bool} (hK : C.K = X.K) (kn : KnOk X.K) (hmt : Meth X.K (He.ga X.K "Known") m f)
    (hno : m ≠ "sea" ∧ m ≠ "worlds" ∧ m ≠ "names" ∧ m ≠ "near") (FO : FnOk X.prog X.w X.K X.mg X.base (L2.CX X.prog X.w) k f fd ps (spD X.K C.cl n F)) (hr : Room k X.A) (hb : Binds X.K fd ps [])
    (tk : Takes X fun cls d _ H => C.E cls d H) (ho : PE X o (tE C fo)) (ha : PA X (e :: es) (tA C fr)) (hs : (e :: es).all (fun e => !isStar e) = true)
    (hev : eval ((o.Attribute m apos).Call (e :: es) [] pos) X.env = do
      let ov ← eval o X.env
      standAt apos.atName
      let __x ← holding [ov] (getMethod ov m pl)
      match __x with
        | (f, first) => callWith pos f first (backTo pos (starEach (e :: es) X.env)) (backToKw pos (keywordEach [] X.env))) :
    PE X (.Call (.Attribute o m apos) (e :: es) [] pos) (tE C fun ρ => fo ρ >>= fun d => knB d >>= fun _ => fr ρ >>= fun ds => ari n F (d :: ds)) := by
  have hs' := hs
  simp only [List.all_cons, Bool.and_eq_true, Bool.not_eq_true'] at hs'
  refine PE.imp (pe_meth ho kn.cls hmt FO hr hb .nil (passes_call tk fun _ _ _ _ h => h) ha (star_cons hs'.1) (noStar_any (by simpa using hs'.2)) hev) fun σ H Q ⟨Hf0, H0, Hf, ρ, env, h⟩ => ⟨Hf0, H0, Hf, ρ, env, OutG.bind (show OutG C (RelE C) Hf H (fo ρ >>= fun d => knB d >>= fun _ => fr ρ >>= fun ds => ari n F (d :: ds)) Q from h) fun d v Hf1 H1 _ g1 r1 h1 => ?_⟩
  unfold knB at h1
  split at h1
  · rename_i F' W' N'
    obtain ⟨x, dx, b, vF, vW, vN, rfl, hx, hb', _⟩ := Rp.kn_ r1
    have hx := g1.sub.lk _ _ hx rfl
    rw [hK] at hx
    refine ⟨x, dx, [("sea", vF), ("worlds", vW), ("names", vN), ("near", .ref b)], rfl, hx, ?_, Hf0, H0, Hf1, ρ, env.more g1, OutG.bind (show OutG C (RelE C) Hf1 H1 (fr ρ >>= fun ds => ari n F (_ :: ds)) Q from h1) fun ds vs Hf2 H2 _ g2 r2 h2 => ?_⟩
    · obtain ⟨n1, n2, n3, n4⟩ := hno
      have b1 : (m == ("sea" : Str)) = false := by simpa using n1
      have b2 : (m == ("worlds" : Str)) = false := by simpa using n2
      have b3 : (m == ("names" : Str)) = false := by simpa using n3
      have b4 : (m == ("near" : Str)) = false := by simpa using n4
      simp [List.lookup, b1, b2, b3, b4]
    · unfold ari at h2
      split at h2
      · rename_i hl
        obtain ⟨CK, CE, Ccl, Cfr⟩ := C
        cases hK
        rw [List.append_nil]
        exact ⟨Hf2, _, g2.sub, .cons (r1.mono g2.f) r2, hl, h2⟩
      · exact h2.elim
  · exact h1.elim
end
end DL
namespace DL
open PySem PySem.Spec PyProof.Rows L2
variable [Lots]
section
variable {K : PySem.W.Frag} {H : Hp}
mutual
theorem Rp.anyK (K' : PySem.W.Frag) : ∀ {v : V} {d : D}, Rp K H v d → noDict d = true → Rp K' H v d
  | _, _, .non, _ => .non
  | _, _, .bl b, _ => .bl b
  | _, _, .int i, _ => .int i
  | _, _, .str x, _ => .str x
  | _, _, .lst h l r, e => .lst h l (RpL.anyK K' r e)
  | _, _, .tup h l r, e => .tup h l (RpL.anyK K' r e)
  | _, _, .scr _ _, e => by simp [DL.scr, noDict] at e
  | _, _, .dic _ _ _, e => by simp [noDict] at e
  | _, _, .dit _ _ _, e => by simp [tdD, noDict] at e
  | _, _, .kno _ _ _ _ _, e => by simp [knD, noDict] at e
theorem RpL.anyK (K' : PySem.W.Frag) : ∀ {vs : List V} {ds : List D}, RpL K H vs ds → noDictL ds = true → RpL K' H vs ds
  | _, _, .nil, _ => .nil
  | _, _, .cons h r, e => by
    have e' := Bool.and_eq_true_iff.mp (show (noDict _ && noDictL _) = true from e)
    exact .cons (Rp.anyK K' h e'.1) (RpL.anyK K' r e'.2)
end
end
theorem grow_kn {K : PySem.W.Frag} {Hf H1 Hf2 H2 : Hp} {x dx b : Addr} {vF vW vN : V} {F W N : D} (sf : Fit Hf H1) (nx : H1 x = none) (ndx : H1 dx = none) (hne : dx ≠ x) (fs : List (Str × V))
    (g : Grow Hf (upd (upd H1 dx (.own x)) x (.ins (He.ga K "Known") dx fs)) Hf2 H2) (nb : H2 b = none) (h1 : Rp K Hf2 vF F) (h2 : Rp K Hf2 vW W) (h3 : Rp K Hf2 vN N) (n1 : noDict F = true) (n2 : noDict W = true) (n3 : noDict N = true) :
    ∃ Hf', Grow Hf H1 Hf' (upd (upd H2 b (.dT [])) x (.ins (He.ga K "Known") dx [("sea", vF), ("worlds", vW), ("names", vN), ("near", .ref b)])) ∧ Rp K Hf' (.ref x) (knD F W N) := by
  have fx : Hf x = none := Same.free sf nx
  have hx2 : H2 x = some (.ins (He.ga K "Known") dx fs) := g.h.at upd_same fx
  have hbx : b ≠ x := fun e => by rw [e, hx2] at nb; cases nb
  have fx2 : Hf2 x = none := g.off fx upd_same (fun _ z => by cases z)
  have fb2 : Hf2 b = none := Same.free g.sub nb
  have nbH : (upd (upd H1 dx (.own x)) x (.ins (He.ga K "Known") dx fs)) b = none := Same.free g.h nb
  have nb1 : H1 b = none := by
    rw [upd_ne hbx] at nbH
    by_cases q : b = dx
    · subst q; exact ndx
    · rw [upd_ne q] at nbH; exact nbH
  have s1 : L2.Same Hf2 (upd (upd Hf2 x (.ins (He.ga K "Known") dx [("sea", vF), ("worlds", vW), ("names", vN), ("near", .ref b)])) b (.xd [("sea", vF), ("worlds", vW), ("names", vN)])) := fun c o e => by
    have c1 : c ≠ b := fun z => by rw [z, fb2] at e; cases e
    have c2 : c ≠ x := fun z => by rw [z, fx2] at e; cases e
    rw [upd_ne c1, upd_ne c2]
    exact e
  refine ⟨upd (upd Hf2 x (.ins (He.ga K "Known") dx [("sea", vF), ("worlds", vW), ("names", vN), ("near", .ref b)])) b (.xd [("sea", vF), ("worlds", vW), ("names", vN)]), ⟨g.f.trans s1, fun c o e => ?_, fun c o e => ?_, fun c o e m => ?_, fun c fs' e => ?_, fun q hq => (g.f.trans s1) _ _ (sf.tab q hq)⟩, .kno (by rw [upd_ne hbx.symm]; exact upd_same) upd_same (h1.mono s1) (h2.mono s1) (h3.mono s1)⟩
  · have c2 : c ≠ x := fun z => by rw [z, nx] at e; cases e
    have c3 : c ≠ dx := fun z => by rw [z, ndx] at e; cases e
    have c1 : c ≠ b := fun z => by rw [z, nb1] at e; cases e
    have e' : (upd (upd H1 dx (.own x)) x (.ins (He.ga K "Known") dx fs)) c = some o := by rw [upd_ne c2, upd_ne c3]; exact e
    rw [upd_ne c2, upd_ne c1]
    exact g.h c o e'
  · by_cases q : c = b
    · subst q; exact .inr (.inl nb1)
    · rw [upd_ne q] at e
      by_cases q2 : c = x
      · subst q2; exact .inr (.inl nx)
      · rw [upd_ne q2] at e
        rcases g.new c o e with z | z | z
        · exact .inl z
        · refine .inr (.inl ?_)
          rw [upd_ne q2] at z
          by_cases q3 : c = dx
          · subst q3; exact ndx
          · rw [upd_ne q3] at z; exact z
        · exact .inr (.inr z)
  · by_cases q : c = b
    · subst q
      rw [upd_same] at e
      cases e
      cases m
    · rw [upd_ne q] at e
      by_cases q2 : c = x
      · subst q2
        rw [upd_same] at e ⊢
        exact e
      · rw [upd_ne q2] at e
        rw [upd_ne q2, upd_ne q]
        exact g.sub.lk c o e m
  · by_cases q : c = b
    · subst q
      rw [upd_same] at e
      cases e
      refine ⟨F, W, N, ⟨n1, n2, n3⟩, fun K' => ((h1.mono s1).anyK K' n1), fun K' => ((h2.mono s1).anyK K' n2), fun K' => ((h3.mono s1).anyK K' n3), [], ?_, List.nodup_nil, fun kv hk => nomatch hk⟩
      rw [upd_ne hbx]
      exact upd_same
    · rw [upd_ne q] at e
      by_cases q2 : c = x
      · subst q2
        rw [upd_same] at e
        cases e
      · rw [upd_ne q2] at e
        refine (g.sub.mks c fs' e).mono s1 ?_
        rw [upd_ne q2, upd_ne q]
end DL
namespace DL
open PySem PySem.Spec PyProof.Rows L2
variable [Lots]
def spI (K : PySem.W.Frag) (cl : Str → Addr) (PN : List D → R D) : Sp := fun vs H Q E => ∃ (Hf H1 : Hp) (x dx : Addr) (vF vW : V) (F W N : D), vs = [.ref x, vF, vW] ∧ Fit Hf H1 ∧ H1 x = none ∧ H1 dx = none ∧ dx ≠ x ∧ H = upd (upd H1 dx (.own x)) x (.ins (He.ga K "Known") dx []) ∧
  Rp K Hf vF F ∧ Rp K Hf vW W ∧ PN [F] = .ok N ∧ noDict F = true ∧ noDict W = true ∧ noDict N = true ∧ ∀ Hf' H', Grow Hf H1 Hf' H' → Rp K Hf' (.ref x) (knD F W N) → Q .non H'
def dKn (PN : List D → R D) : List D → R D
  | [F, W] => if noDict F && noDict W then (match PN [F] with
    | .ok N => if noDict N then .ok (knD F W N) else .bad
    | _ => .bad) else .bad
  | _ => .bad
theorem e_kmake {X : Cx} {C : Pm} {e : Expr} {es : List Expr} {fr : Env → R (List D)} {p pos : Pos} {k : Nat} {f : Addr} {fd : FuncData} {ps : List Str} {PN : List D → R D} (hK : C.K = X.K) (mk : Mk X.K (He.ga X.K "Known") f)
    (FO : FnOk X.prog X.w X.K X.mg X.base (L2.CX X.prog X.w) k f fd ps (spI X.K C.cl PN)) (hr : Room (k + 1) X.A) (hg : Gl X "Known") (hm : X.mg "Known" = some (.ref (He.ga X.K "Known"))) (hb : Binds X.K fd ps [])
    (tk : Takes X fun cls d _ H => C.E cls d H) (ha : PA X (e :: es) (tA C fr)) (hs : (e :: es).all (fun e => !isStar e) = true) :
    PE X (.Call (.Name "Known" p) (e :: es) [] pos) (tE C fun ρ => fr ρ >>= dKn PN) := by
  have hs' := hs
  simp only [List.all_cons, Bool.and_eq_true, Bool.not_eq_true'] at hs'
  refine PE.imp (pe_make mk FO hr hg hm hb .nil (passes_call tk fun _ _ _ _ h => h) ha (by decide) (star_cons hs'.1) (noStar_any (by simpa using hs'.2))) fun σ H Q ⟨Hf0, H0, Hf, ρ, env, h⟩ => ⟨Hf0, H0, Hf, ρ, env, OutG.bind (show OutG C (RelE C) Hf H (fr ρ >>= dKn PN) Q from h) fun ds vs Hf1 H1 _ g1 r1 h1 => fun x dx nx ndx hne => ?_⟩
  unfold dKn at h1
  split at h1
  · rename_i F W _
    split at h1
    · rename_i hc
      simp only [Bool.and_eq_true] at hc
      split at h1
      · rename_i N eN
        split at h1
        · rename_i hn
          obtain ⟨v, w, rfl, rv, rw'⟩ := r1.two
          obtain ⟨CK, CE, Ccl, Cfr⟩ := C
          cases hK
          exact ⟨Hf1, H1, x, dx, v, w, F, W, N, rfl, g1.sub, nx, ndx, hne, rfl, rv, rw', eN, hc.1, hc.2, hn, fun Hf' H' g' r' => ⟨rfl, h1 _ Hf' H' g' r'⟩⟩
        · exact h1.elim
      · exact h1.elim
    · exact h1.elim
  · exact h1.elim
end DL
namespace DL
open PySem PySem.Spec PyProof.Rows L2
variable [Lots]
theorem hev_ok {o e : Expr} {es : List Expr} {m : Str} {apos pos : Pos} {env : PySem.Env} (h : baseOk o = true) (hl : (apos.endLine == pos.line) = true) (hs : (e :: es).all (fun e => !isStar e) = true) (hn : es.length < 20) : eval (.Call (.Attribute o m apos) (e :: es) [] pos) env = (do
      let ov ← eval o env
      standAt apos.atName
      let (f, first) ← holding [ov] (getMethod ov m (do return (← importBound o env).getD true))
      callWith pos f first (backTo pos (starEach (e :: es) env)) (backToKw pos (keywordEach [] env))) := by
  have hform : methodCallForm ((e :: es).length + ([] : List Keyword).length) (backTo pos (starEach (e :: es) env)) (backToKw pos (keywordEach [] env)) = true := by
    have h1 := noStar_any (pos := pos) (env := env) (es := e :: es) hs
    have h2 : (backTo pos (starEach (e :: es) env)).all (fun x => !x.1) = true := by
      rw [List.all_eq_true]
      intro x hx
      rw [List.any_eq_false] at h1
      simpa using h1 x hx
    unfold methodCallForm
    simp only [h2, Bool.true_and, Bool.and_eq_true, decide_eq_true_eq]
    refine ⟨rfl, ?_⟩
    show (e :: es).length + 0 + 0 < 30
    simp
    omega
  have hpos : methodCallPos true o env apos pos = pure pos := by unfold methodCallPos; simp [hl]
  rw [arm_eval_Call, base_of h]
  unfold methodCall
  rw [hform, hpos]
  rfl
end DL
namespace DL
open PySem PySem.Spec PyProof.Rows L2
abbrev SD := Addr → V → V → Hp → (Hp → Prop) → Prop
structure SetOk (X : Cx) (rs : SD) : Prop where
  go : ∀ {pins : List (Addr × Obj)} {σ : L2.St} {H : Hp} {s : Shared} {d : Addr} {y z : V} {u t : Value} {Q : Unit → Shared → Prop} {E : Value → Shared → Prop} {N : Hp → Prop}, Inv X pins σ H s → RelV y u → RelV z t → rs d y z H N →
    (∀ H' s', Inv X pins σ H' s' → N H' → Q () s') → wpAny (model X.prog X.w) X.A (dictSet d u t) Q E s
def tDcG (wi : TI) (g : TG) (tt : TT) (tk tv : TE) (rs : SD) (vs : List Nat) : TE := fun σ H Q => wi σ H fun J H1 => ∀ p, H1 p = none → ∃ W : Nat → Nat → Hp → Prop, (∃ m, W 0 m (upd H1 p (.dK []))) ∧ ∀ i m H, W i m H →
  (J.stop i H ∧ Q (.ref p) H) ∨ (J.go i H ∧ ∃ Nx : Hp → Prop, (∀ H', Nx H' → ∃ m', m' < m ∧ W (i + 1) m' H') ∧ ∀ x H', J.yld i H x H' → g x (wipe σ vs) H' fun σ2 H2 => wipe σ2 vs = wipe σ vs ∧ tt σ2 H2 fun b H3 =>
    if b = true then tk σ2 H3 fun y H4 => tv σ2 H4 fun z H5 => rs p y z H5 Nx else Nx H3)
def tDc2 (wi : TI) (g : TG) (tt : TT) (wi1 : TI) (g1 : TG) (tt1 : TT) (tk tv : TE) (rs : SD) (vs vs1 : List Nat) : TE := fun σ H Q => wi σ H fun J H1 => ∀ p, H1 p = none → ∃ W : Nat → Nat → Hp → Prop, (∃ m, W 0 m (upd H1 p (.dK []))) ∧ ∀ i m H, W i m H →
  (J.stop i H ∧ Q (.ref p) H) ∨ (J.go i H ∧ ∃ Nx : Hp → Prop, (∀ H', Nx H' → ∃ m', m' < m ∧ W (i + 1) m' H') ∧ ∀ x H', J.yld i H x H' → g x (wipe σ vs) H' fun σ2 H2 => wipe σ2 vs = wipe σ vs ∧ tt σ2 H2 fun b H3 =>
    if b = true then wi1 σ2 H3 fun Jb H4 => ∃ Wb : Nat → Nat → Hp → Prop, (∃ m, Wb 0 m H4) ∧ ∀ j k H, Wb j k H →
      (Jb.stop j H ∧ Nx H) ∨ (Jb.go j H ∧ ∃ Nx1 : Hp → Prop, (∀ H', Nx1 H' → ∃ k', k' < k ∧ Wb (j + 1) k' H') ∧ ∀ x H', Jb.yld j H x H' → g1 x (wipe σ2 vs1) H' fun σ3 H5 => wipe σ3 vs1 = wipe σ2 vs1 ∧ tt1 σ3 H5 fun b H6 =>
        if b = true then tk σ3 H6 fun y H7 => tv σ3 H7 fun z H8 => rs p y z H8 Nx1 else Nx1 H6)
    else Nx H3)
theorem dTurn2_out (kx vx t0 i0 t1 i1 : Expr) (ifz0 ifz1 : List Expr) (scope : Scope) (pos : Pos) (itr acc : Value) (env : PySem.Env) :
    compTurn (.DictComp kx vx [⟨t0, i0, ifz0, 0⟩, ⟨t1, i1, ifz1, 0⟩] scope pos) 0 itr acc env = (do
      standAt i0.pos
      match ← pyNext itr with
      | none => pure (.done .next)
      | some v =>
        letOwnedTupleGo t0 itr v
        assign t0 env v
        let mut okb := true
        for c in ifz0 do
          if okb then okb ← isTrue c env (eval c env)
        if okb then
          let xi ← eval i1 env
          standAt i1.pos
          let xj ← foldedSetIterable i1 env xi
          let _ ← runOwn (.compStart (.DictComp kx vx [⟨t0, i0, ifz0, 0⟩, ⟨t1, i1, ifz1, 0⟩] scope pos) 1 (← holding [xj] (pyIter xj)) acc env) env
        again (.compLoop (.DictComp kx vx [⟨t0, i0, ifz0, 0⟩, ⟨t1, i1, ifz1, 0⟩] scope pos) 0 itr acc env)) := by rfl
theorem dTurn2_in (kx vx t0 i0 t1 i1 : Expr) (ifz0 ifz1 : List Expr) (scope : Scope) (pos : Pos) (itr : Value) (Dd : Addr) (env : PySem.Env) :
    compTurn (.DictComp kx vx [⟨t0, i0, ifz0, 0⟩, ⟨t1, i1, ifz1, 0⟩] scope pos) 1 itr (.ref Dd) env = (do
      standAt i1.pos
      match ← pyNext itr with
      | none => pure (.done .next)
      | some v =>
        letOwnedTupleGo t1 itr v
        assign t1 env v
        let mut okb := true
        for c in ifz1 do
          if okb then okb ← isTrue c env (eval c env)
        if okb then
          (do
            let ky ← eval kx env
            let vy ← holding [ky] (eval vx env)
            (do standAt { kx.pos with endLine := vx.pos.endLine, endCol := vx.pos.endCol }; holding [ky, vy] (dictSet Dd ky vy)))
        again (.compLoop (.DictComp kx vx [⟨t0, i0, ifz0, 0⟩, ⟨t1, i1, ifz1, 0⟩] scope pos) 1 itr (.ref Dd) env)) := by rfl
section
variable {prog : Program} {w : World} {A : Around} {R : Result → Shared → Prop} {s : Shared} {kx vx t0 i0 t1 i1 : Expr} {ifz0 ifz1 : List Expr} {scope : Scope} {pos : Pos} {itr acc : Value} {Dd : Addr} {env : PySem.Env}
theorem dLoop2_out (hs : ∀ x, foldedSetIterable i1 env x = pure x) (I : Nat → Shared → Prop)
    (lap : ∀ n s, I n s → wpAny (model prog w) A (pyNext itr) (fun r z1 => match r with
      | none => R (.ok .next) z1
      | some v => wpAny (model prog w) A (letOwnedTupleGo t0 itr v) (fun _ z1p => wpAny (model prog w) A (assign t0 env v) (fun _ z2 =>
          wpAny (model prog w) A (forIn ifz0 true fun c r => if r = true then do let ok ← isTrue c env (eval c env); pure (ForInStep.yield ok) else pure (ForInStep.yield r)) (fun ok z3 =>
            if ok = true then wpAny (model prog w) A (eval i1 env) (fun x z4 => wpAny (model prog w) A (pyIter x) (fun it1 z5 =>
              codeAny (model prog w) A (.compStart (.DictComp kx vx [⟨t0, i0, ifz0, 0⟩, ⟨t1, i1, ifz1, 0⟩] scope pos) 1 it1 acc env) (fun r ss => match r with
                | .ok _ => ∃ m, m < n ∧ I m ss
                | .error _ => False) z5) (notedBy (model prog w) A env fun e ss => R (.error e) ss) z4) (notedBy (model prog w) A env fun e ss => R (.error e) ss) z3
            else ∃ m, m < n ∧ I m z3) (notedBy (model prog w) A env fun e ss => R (.error e) ss) z2) (notedBy (model prog w) A env fun e ss => R (.error e) ss) z1p) (notedBy (model prog w) A env fun e ss => R (.error e) ss) z1) (notedBy (model prog w) A env fun e ss => R (.error e) ss) s)
    (n : Nat) (h : I n s) :
    codeAny (model prog w) A (.compLoop (.DictComp kx vx [⟨t0, i0, ifz0, 0⟩, ⟨t1, i1, ifz1, 0⟩] scope pos) 0 itr acc env) R s := by
  refine codeAny_loop rfl I (fun n s hJ => ?_) n h
  show wpAny _ A ((compTurn (.DictComp kx vx [⟨t0, i0, ifz0, 0⟩, ⟨t1, i1, ifz1, 0⟩] scope pos) 0 itr acc env).onRaise (fun x => do noteFrame x env; theTreesLotGoes x)) _ _ s
  refine wpAny_noted ?_
  rw [dTurn2_out]
  refine wpAny_bind (wpAny_standAt (wpAny_bind (wpAny_mono (lap n s hJ) (fun r z1 q1 => ?_) fun _ _ hh => hh)))
  cases r with
  | none => exact wpAny_pure q1
  | some v =>
    refine wpAny_bind (wpAny_mono q1 (fun _ z1p q1p => ?_) fun _ _ hh => hh)
    refine wpAny_bind (wpAny_mono q1p (fun _ z2 q2 => wpAny_bind (wpAny_mono q2 (fun ok z3 q3 => ?_) fun _ _ hh => hh)) fun _ _ hh => hh)
    cases ok with
    | false => exact wpAny_pure ⟨rfl, q3⟩
    | true =>
      refine wpAny_bind (wpAny_mono q3 (fun x z4 q4 => ?_) fun _ _ hh => hh)
      refine wpAny_bind (wpAny_standAt (wpAny_bind (wpAny_of_eq (hs x) (wpAny_bind (wpAny_holding (wpAny_mono q4 (fun it1 z5 q5 => ?_) fun _ _ hh => hh))))))
      refine wpAny_bind (wpAny_runOwn ?_); rw [Around.mark_none]
      refine codeAny_mono q5 fun r ss hr => ?_
      cases r with
      | ok f =>
        first
          | exact wpAny_pure ⟨rfl, hr⟩
          | exact (wpAny_bind (wpAny_pure (wpAny_pure ⟨rfl, hr⟩)))
      | error e => exact hr.elim
theorem dLoop2_in (I : Nat → Shared → Prop)
    (lap : ∀ n s, I n s → wpAny (model prog w) A (pyNext itr) (fun r z1 => match r with
      | none => R (.ok .next) z1
      | some v => wpAny (model prog w) A (letOwnedTupleGo t1 itr v) (fun _ z1p => wpAny (model prog w) A (assign t1 env v) (fun _ z2 =>
          wpAny (model prog w) A (forIn ifz1 true fun c r => if r = true then do let ok ← isTrue c env (eval c env); pure (ForInStep.yield ok) else pure (ForInStep.yield r)) (fun ok z3 =>
            if ok = true then wpAny (model prog w) A (eval kx env) (fun kv z4 => wpAny (model prog w) A (eval vx env) (fun vv z5 =>
              wpAny (model prog w) A (dictSet Dd kv vv) (fun _ z6 => ∃ m, m < n ∧ I m z6) (notedBy (model prog w) A env fun e ss => R (.error e) ss) z5) (notedBy (model prog w) A env fun e ss => R (.error e) ss) z4) (notedBy (model prog w) A env fun e ss => R (.error e) ss) z3
            else ∃ m, m < n ∧ I m z3) (notedBy (model prog w) A env fun e ss => R (.error e) ss) z2) (notedBy (model prog w) A env fun e ss => R (.error e) ss) z1p) (notedBy (model prog w) A env fun e ss => R (.error e) ss) z1) (notedBy (model prog w) A env fun e ss => R (.error e) ss) s)
    (n : Nat) (h : I n s) :
    codeAny (model prog w) A (.compLoop (.DictComp kx vx [⟨t0, i0, ifz0, 0⟩, ⟨t1, i1, ifz1, 0⟩] scope pos) 1 itr (.ref Dd) env) R s := by
  refine codeAny_loop rfl I (fun n s hJ => ?_) n h
  show wpAny _ A ((compTurn (.DictComp kx vx [⟨t0, i0, ifz0, 0⟩, ⟨t1, i1, ifz1, 0⟩] scope pos) 1 itr (.ref Dd) env).onRaise (fun x => do noteFrame x env; theTreesLotGoes x)) _ _ s
  refine wpAny_noted ?_
  rw [dTurn2_in]
  refine wpAny_bind (wpAny_standAt (wpAny_bind (wpAny_mono (lap n s hJ) (fun r z1 q1 => ?_) fun _ _ hh => hh)))
  cases r with
  | none => exact wpAny_pure q1
  | some v =>
    refine wpAny_bind (wpAny_mono q1 (fun _ z1p q1p => ?_) fun _ _ hh => hh)
    refine wpAny_bind (wpAny_mono q1p (fun _ z2 q2 => wpAny_bind (wpAny_mono q2 (fun ok z3 q3 => ?_) fun _ _ hh => hh)) fun _ _ hh => hh)
    cases ok with
    | false => exact wpAny_pure ⟨rfl, q3⟩
    | true =>
      exact wpAny_bind (wpAny_bind (wpAny_mono q3 (fun kv z4 q4 => wpAny_bind (wpAny_holding (wpAny_mono q4 (fun vv z5 q5 => wpAny_bind (wpAny_standAt (wpAny_holding (wpAny_mono q5 (fun _ z6 q6 => wpAny_pure ⟨rfl, q6⟩) fun _ _ hh => hh)))) fun _ _ hh => hh))) fun _ _ hh => hh))
theorem dStart1_ok (q0 : codeAny (model prog w) A (.compLoop (.DictComp kx vx [⟨t0, i0, ifz0, 0⟩, ⟨t1, i1, ifz1, 0⟩] scope pos) 1 itr acc env) R s)
    (h : wpAny (model prog w) A (pyIter itr) (fun it' ss => codeAny (model prog w) A (.compLoop (.DictComp kx vx [⟨t0, i0, ifz0, 0⟩, ⟨t1, i1, ifz1, 0⟩] scope pos) 1 it' acc env) R ss)
      (notedBy (model prog w) A env fun x ss => R (.error x) ss) s) :
    codeAny (model prog w) A (.compStart (.DictComp kx vx [⟨t0, i0, ifz0, 0⟩, ⟨t1, i1, ifz1, 0⟩] scope pos) 1 itr acc env) R s := by
  refine codeAny_of_tree ?_
  show wpAny _ _ ((compStart (.DictComp kx vx [⟨t0, i0, ifz0, 0⟩, ⟨t1, i1, ifz1, 0⟩] scope pos) 1 itr acc env).onRaise (fun x => do noteFrame x env; standAt theWindowsPlace)) _ _ s
  refine wpAny_notedAt ?_
  unfold compStart
  show wpAny _ _ (ask >>= _) _ _ s; refine wpAny_bind (wpAny_askSetting (wpAny_ite ?_))
  split
  · first
      | exact wpAny_bind (wpAny_pure (wpAny_pure (And.intro rfl q0)))
      | exact wpAny_pure (And.intro rfl q0)
  · first
      | exact wpAny_bind (wpAny_rule (wpAny_bind (wpAny_standAt (wpAny_bind (wpAny_mono h (fun it' ss hh => wpAny_pure (And.intro rfl hh)) fun _ _ x => x)))))
      | (refine wpAny_bind (wpAny_rule ?_); show wpAny _ _ (standAt i1.pos >>= _) _ _ s; exact wpAny_bind (wpAny_standAt (wpAny_bind (wpAny_mono h (fun it' ss hh => wpAny_pure (And.intro rfl hh)) fun _ _ x => x))))
end
section
variable {X : Cx}
theorem dc2_core {pins : List (Addr × Obj)} {s : Shared} {σ : L2.St} {H : Hp} {Q : VK} {kx vx tg iter tg1 iter1 : Expr} {ifz ifz1 : List Expr} {scope : Scope} {owns : List (Str × Nat)} {vs1 : List Nat} {pos pos' : Pos} {wi wi1 : TI} {g g1 : TG} {tt tt1 : TT} {tk tv : TE} {rs : SD} {use : Option (Value → Sem Unit)} {Qff : Value → Shared → Prop}
    (hc : X.calm = true) (hN : X.N.Nodup) (I : Inv X pins σ H s) (hi : PI X tg iter wi) (ok : BlkOk X.N X.env.scope scope owns) (hv : ∀ i ∈ vs1, i ∈ owns.map (·.2))
    (hg : ∀ (s : Shared) (H : Hp) (Cb : Addr) (cl : List (Str × Addr)) (fp : List Addr), PG (X.blk s H scope (compEnvC scope cl Cb X.env) fp) tg g) (ht : ∀ (s : Shared) (H : Hp) (Cb : Addr) (cl : List (Str × Addr)) (fp : List Addr), PTs (X.blk s H scope (compEnvC scope cl Cb X.env) fp) ifz tt)
    (hk : ∀ (s : Shared) (H : Hp) (Cb : Addr) (cl : List (Str × Addr)) (fp : List Addr), PE (X.blk s H scope (compEnvC scope cl Cb X.env) fp) kx tk) (he : ∀ (s : Shared) (H : Hp) (Cb : Addr) (cl : List (Str × Addr)) (fp : List Addr), PE (X.blk s H scope (compEnvC scope cl Cb X.env) fp) vx tv)
    (hst : ∀ (s : Shared) (H : Hp) (Cb : Addr) (cl : List (Str × Addr)) (fp : List Addr), SetOk (X.blk s H scope (compEnvC scope cl Cb X.env) fp) rs) (hs : ∀ x, foldedSetIterable iter X.env x = pure x)
    (hi1 : ∀ (s : Shared) (H : Hp) (Cb : Addr) (cl : List (Str × Addr)) (fp : List Addr), PI (X.blk s H scope (compEnvC scope cl Cb X.env) fp) tg1 iter1 wi1)
    (hg1 : ∀ (s : Shared) (H : Hp) (Cb : Addr) (cl : List (Str × Addr)) (fp : List Addr), PG (X.blk s H scope (compEnvC scope cl Cb X.env) fp) tg1 g1)
    (ht1 : ∀ (s : Shared) (H : Hp) (Cb : Addr) (cl : List (Str × Addr)) (fp : List Addr), PTs (X.blk s H scope (compEnvC scope cl Cb X.env) fp) ifz1 tt1)
    (hs1 : ∀ ev x, foldedSetIterable iter1 ev x = pure x)
    (h : tDc2 wi g tt wi1 g1 tt1 tk tv rs (owns.map (·.2)) vs1 σ H Q)
    (hend : ∀ Dd C ss m HH, Inv X pins σ HH ss → Q (.ref Dd) HH → ss.heap.Ns C m → FpOk X pins HH C → compPost (model X.prog X.w) X.A X.xe use Qff (.ref Dd) C (.ok .next) ss) :
    wpAny (model X.prog X.w) X.A (comprehension (.DictComp kx vx [⟨tg, iter, ifz, 0⟩, ⟨tg1, iter1, ifz1, 0⟩] scope pos) scope X.env pos' newDict false (eval iter X.env) use) Qff X.xe s := by
  have hfrr : ∀ y ∈ scope.names, y.2 = .free → ∃ c, X.env.cells.lookup y.1 = some c := fun y hy e => by
    rcases ok.free y hy e with kk | kk
    · exact I.ok.has _ (.inl kk)
    · exact I.ok.has _ (.inr kk)
  refine wpAny_comprehension_free (use := use) rfl hs (closure_ok hfrr) ok.kind (fun y hy e => by rw [ok.uniq y hy, e])
    (thn (hi.run pins s σ H _ I h) fun xv z1 hxx => thn hxx fun itv z2 q2 => ?_)
  obtain ⟨itr, fp, tn, J, Hp2, e, J2, Tt, ts2, ff2, q⟩ := q2
  subst e
  refine wpAny_newObj_type (newEnv_comp ?_); generalize hDd : z2.heap.objs.size = Dd
  have hfree0 : Hp2 Dd = none := J2.hok.fresh (Nat.le_of_eq hDd)
  obtain ⟨W, ⟨m0, ww0⟩, lap⟩ := q Dd hfree0
  generalize hs3 : ({ z2 with heap := z2.heap.push { cls := .type "dict", data := .dict #[] } } : Shared) = z3
  have J3 : Inv X pins σ (upd Hp2 Dd (.dK [])) z3 := by
    rw [← hs3]
    refine J2.laid (t' := z2.toks) (fun b o e => Heap.get?_push_of_some _ e) (Nat.le_of_eq hDd) ?_
    rw [← hDd]
    exact dk_empty z2.heap J2.big
  have q3 : z3.heap = z2.heap.push { cls := .type "dict", data := .dict #[] } := by rw [← hs3]
  have szz : ∀ b ∈ fp, b < z2.heap.objs.size := fun b hb => by
    obtain ⟨o, e, _⟩ := Tt.obj _ _ ts2 b hb
    exact Heap.lt_size e
  have ff3 : ∀ b ∈ fp, FpOk X pins (upd Hp2 Dd (.dK [])) b ∧ b < z3.heap.objs.size := fun b hb => by
    have hltt := szz b hb
    refine ⟨⟨?_, (ff2 b hb).2⟩, by rw [q3, Heap.size_push]; exact Nat.lt_succ_of_lt hltt⟩
    rw [upd_ne (by rw [← hDd]; exact Nat.ne_of_lt hltt)]
    exact (ff2 b hb).1
  have ts3 : tn 0 z3.heap := Tt.keep _ _ _ ts2 fun b _ o e => by rw [q3]; exact Heap.get?_push_of_some _ e
  have J4 := block_start J3 ok hN ff3
  have pgo := hg z3 (upd Hp2 Dd (.dK [])) z3.heap.objs.size (cellsFrom (z3.heap.objs.size + 1) scope.names (cloFrom X.env.cells scope.names [])) fp
  have pto := ht z3 (upd Hp2 Dd (.dK [])) z3.heap.objs.size (cellsFrom (z3.heap.objs.size + 1) scope.names (cloFrom X.env.cells scope.names [])) fp
  have peo := he z3 (upd Hp2 Dd (.dK [])) z3.heap.objs.size (cellsFrom (z3.heap.objs.size + 1) scope.names (cloFrom X.env.cells scope.names [])) fp
  have pko := hk z3 (upd Hp2 Dd (.dK [])) z3.heap.objs.size (cellsFrom (z3.heap.objs.size + 1) scope.names (cloFrom X.env.cells scope.names [])) fp
  have pset := hst z3 (upd Hp2 Dd (.dK [])) z3.heap.objs.size (cellsFrom (z3.heap.objs.size + 1) scope.names (cloFrom X.env.cells scope.names [])) fp
  have pio1 := hi1 z3 (upd Hp2 Dd (.dK [])) z3.heap.objs.size (cellsFrom (z3.heap.objs.size + 1) scope.names (cloFrom X.env.cells scope.names [])) fp
  have pgo1 := hg1 z3 (upd Hp2 Dd (.dK [])) z3.heap.objs.size (cellsFrom (z3.heap.objs.size + 1) scope.names (cloFrom X.env.cells scope.names [])) fp
  have pto1 := ht1 z3 (upd Hp2 Dd (.dK [])) z3.heap.objs.size (cellsFrom (z3.heap.objs.size + 1) scope.names (cloFrom X.env.cells scope.names [])) fp
  show codeAny _ _ (.compStart (.DictComp kx vx [⟨tg, iter, ifz, 0⟩, ⟨tg1, iter1, ifz1, 0⟩] scope pos) 0 (.ref itr) (.ref Dd) (compEnvC scope (cellsFrom (z3.heap.objs.size + 1) scope.names (cloFrom X.env.cells scope.names [])) z3.heap.objs.size X.env)) (compPost (model X.prog X.w) X.A X.xe use Qff (.ref Dd) z3.heap.objs.size) { z3 with heap := pushCells (z3.heap.push { cls := .type "dict", data := .dict #[] }) scope.names }
  have nofp : ∀ b ∈ fp, (upd Hp2 Dd (.dK [])) b = none := fun b hb => (ff3 b hb).1.1
  generalize hcE : compEnvC scope (cellsFrom (z3.heap.objs.size + 1) scope.names (cloFrom X.env.cells scope.names [])) z3.heap.objs.size X.env = ce at J4 pgo pto peo pko pset pio1 pgo1 pto1 ⊢
  have cLoc : ce.locals = z3.heap.objs.size := by subst hcE; rfl
  generalize hH3 : upd Hp2 Dd (.dK []) = Hp3 at J3 J4 pgo pto peo pko pset pio1 pgo1 pto1 ww0 nofp ff3
  generalize hs4 : ({ z3 with heap := pushCells (z3.heap.push { cls := .type "dict", data := .dict #[] }) scope.names } : Shared) = z4 at J4 ⊢
  have ts4 : tn 0 z4.heap := Tt.keep _ _ _ ts3 fun b _ o e => by rw [← hs4]; exact pushCells_keeps _ _ _ _ (Heap.get?_push_of_some _ e)
  have still : ∀ {σ' : L2.St} {HH : Hp} {ss : Shared}, Inv (X.blk z3 Hp3 scope ce fp) [] σ' HH ss → (∀ b ∈ fp, HH b = none) → ∀ b ∈ fp, FpOk (X.blk z3 Hp3 scope ce fp) [] HH b := fun {σ' HH ss} II hnn b hb =>
    ⟨hnn b hb, (II.ok.exf b hb).1, II.ok.exfs b hb, .inl hb, fun x c e => (II.ok.exf b hb).2 x c e, fun p hp => absurd (show p ∈ ([] : List (Addr × Obj)) ++ [] from hp) (by simp)⟩
  have ring : codeAny (model X.prog X.w) X.A (.compLoop (.DictComp kx vx [⟨tg, iter, ifz, 0⟩, ⟨tg1, iter1, ifz1, 0⟩] scope pos) 0 (.ref itr) (.ref Dd) ce) (compPost (model X.prog X.w) X.A X.xe use Qff (.ref Dd) z3.heap.objs.size) z4 := by
    refine dLoop2_out (hs1 ce) (fun n ss => ∃ i HH, Inv (X.blk z3 Hp3 scope ce fp) [] (wipe σ (owns.map (·.2))) HH ss ∧ tn i ss.heap ∧ (∀ b ∈ fp, HH b = none) ∧ W i n HH) ?_ m0 ⟨0, Hp3, J4, ts4, nofp, ww0⟩
    rintro n z5 ⟨i, Hp5, J5, ts5, nn5, ww5⟩
    rcases lap i n Hp5 ww5 with ⟨stopp, qend⟩ | ⟨goo, Nz, hnx, stp⟩
    · have tdone := Tt.done (X.blk z3 Hp3 scope ce fp) rfl rfl rfl hc i [] z5 _ Hp5 (fun _ _ => False) J5 (still J5 nn5) ts5 stopp
      refine thnF tdone fun r z6 ⟨hr, J6⟩ => ?_
      subst hr
      have J7 : Inv X pins σ Hp5 z6 := J3.call' (ch := fp) J6.os J6.base J6.hok J6.bare fun b hb => ⟨(ff3 b hb).1.2.2.2.1, (ff3 b hb).1.2.1, (ff3 b hb).1.2.2.2.2.1, (ff3 b hb).1.2.2.2.2.2⟩
      have nC : Hp5 z3.heap.objs.size = none := by
        have z : Hp5 ce.locals = none := J6.free
        rw [cLoc] at z
        exact z
      obtain ⟨m, hnn, _⟩ := J6.loc
      have hnn : z6.heap.Ns ce.locals m := hnn
      rw [cLoc] at hnn
      exact hend Dd z3.heap.objs.size z6 m Hp5 J7 qend hnn (J3.fpOk (Nat.le_refl _) nC)
    · have titem := Tt.item (X.blk z3 Hp3 scope ce fp) rfl rfl rfl hc i [] z5 _ Hp5 (fun _ _ => False) J5 (still J5 nn5) ts5 goo
      refine thnF titem fun r z6 ⟨u, hr, q6⟩ => ?_
      subst hr
      refine thnF q6 fun _ z7 ⟨x, Hp7, J7, rr7, yy7, ts7, nn7⟩ => ?_
      have J7p := J7.pinned (still J7 nn7) (Tt.obj _ _ ts7)
      refine thnF (pgo.run _ z7 _ Hp7 x u _ J7p rr7 (stp x Hp7 yy7)) fun _ z8 ⟨σσ8, Hp8, J8, hw8, qq8⟩ => ?_
      refine thnF (pto.run _ z8 σσ8 Hp8 _ J8 qq8) fun b z9 ⟨Hp9, J9, qq9⟩ => ?_
      have ends : ∀ {σσ9 : L2.St} {ss : Shared} {HH : Hp}, Inv (X.blk z3 Hp3 scope ce fp) ([] ++ pinsAt fp z7.heap) σσ9 HH ss → (wipe σ (owns.map (·.2))).length = σσ9.length → (∀ (j : Nat) v, (wipe σ (owns.map (·.2)))[j]? = some (some v) → σσ9[j]? = some (some v)) → Nz HH →
          ∃ m, m < n ∧ ∃ i HH, Inv (X.blk z3 Hp3 scope ce fp) [] (wipe σ (owns.map (·.2))) HH ss ∧ tn i ss.heap ∧ (∀ b ∈ fp, HH b = none) ∧ W i m HH := fun {σσ9 ss HH} II hlen0 hk nx => by
        obtain ⟨mm, hmm, wv⟩ := hnx HH nx
        have pinn : ∀ b ∈ fp, ∀ o, z7.heap.get? b = some o → ss.heap.get? b = some o ∧ HH b = none := fun b hb o e =>
          let z := II.pin (b, o) (List.mem_append_right _ (List.mem_append_right _ (mem_pinsAt hb e)))
          ⟨z.1, z.2.1⟩
        refine ⟨mm, hmm, i + 1, HH, (II.unpinned (pins := [])).weak hlen0 hk, Tt.keep _ _ _ ts7 fun b hb o e => (pinn b hb o e).1, fun b hb => ?_, wv⟩
        obtain ⟨o, e, _⟩ := Tt.obj _ _ ts7 b hb
        exact (pinn b hb o e).2
      have hll8 : (wipe σ (owns.map (·.2))).length = σσ8.length := by rw [← hw8, wipe_length]
      have hkk8 : ∀ (j : Nat) v, (wipe σ (owns.map (·.2)))[j]? = some (some v) → σσ8[j]? = some (some v) := fun j v e => by
        rw [← hw8] at e
        exact (wipe_some e).1
      have hkk9 : ∀ (j : Nat) v, (wipe σ (owns.map (·.2)))[j]? = some (some v) → (wipe σσ8 vs1)[j]? = some (some v) := fun j v e => by
        rw [← hw8] at e
        obtain ⟨eA, eB⟩ := wipe_some e; rw [wipe_out fun z => eB (hv j z)]
        exact eA
      cases b with
      | false =>
        simp only [Bool.false_eq_true, if_false] at qq9 ⊢
        exact ends J9 hll8 hkk8 qq9
      | true =>
        simp only [if_true] at qq9 ⊢
        refine thnF (pio1.run _ z9 σσ8 Hp9 _ J9 qq9) fun xv z10 hxx => thnF hxx fun itv z11 q11 => ?_
        obtain ⟨it1, fpp1, tnn1, J1, Hp11, e1, J11, Tt1, ts11, ff11, W1, ⟨m1, ww1⟩, lap1⟩ := q11
        subst e1
        have still1 : ∀ {HH : Hp}, (∀ b ∈ fpp1, HH b = none) → ∀ b ∈ fpp1, FpOk (X.blk z3 Hp3 scope ce fp) ([] ++ pinsAt fp z7.heap) HH b := fun hnn b hb => ⟨hnn b hb, (ff11 b hb).2⟩
        have ring1 : codeAny (model X.prog X.w) X.A (.compLoop (.DictComp kx vx [⟨tg, iter, ifz, 0⟩, ⟨tg1, iter1, ifz1, 0⟩] scope pos) 1 (.ref it1) (.ref Dd) ce)
            (fun r ss => match r with
              | .ok _ => ∃ m, m < n ∧ ∃ i HH, Inv (X.blk z3 Hp3 scope ce fp) [] (wipe σ (owns.map (·.2))) HH ss ∧ tn i ss.heap ∧ (∀ b ∈ fp, HH b = none) ∧ W i m HH
              | .error _ => False) z11 := by
          refine dLoop2_in (fun k ss => ∃ j HH, Inv (X.blk z3 Hp3 scope ce fp) ([] ++ pinsAt fp z7.heap) (wipe σσ8 vs1) HH ss ∧ tnn1 j ss.heap ∧ (∀ b ∈ fpp1, HH b = none) ∧ W1 j k HH) ?_ m1 ⟨0, Hp11, J11.weak (wipe_length _ _) (fun j v e => (wipe_some e).1), ts11, fun b hb => (ff11 b hb).1, ww1⟩
          rintro k z12 ⟨j, Hp12, J12, ts12, nn12, ww12⟩
          rcases lap1 j k Hp12 ww12 with ⟨stopp1, nx1⟩ | ⟨goo1, Nz1, hnx1, stp1⟩
          · refine thnF (Tt1.done (X.blk z3 Hp3 scope ce fp) rfl rfl rfl hc j _ z12 (wipe σσ8 vs1) Hp12 (fun _ _ => False) J12 (still1 nn12) ts12 stopp1) fun r z13 ⟨hr, J13⟩ => ?_
            subst hr
            exact ends J13 (hll8.trans (wipe_length σσ8 vs1).symm) hkk9 nx1
          · refine thnF (Tt1.item (X.blk z3 Hp3 scope ce fp) rfl rfl rfl hc j _ z12 (wipe σσ8 vs1) Hp12 (fun _ _ => False) J12 (still1 nn12) ts12 goo1) fun r z13 ⟨u1, hr, q13⟩ => ?_
            subst hr
            refine thnF q13 fun _ z14 ⟨xx1, Hp14, J14, rr14, yy14, ts14, nn14⟩ => ?_
            have J14p := J14.pinned (still1 nn14) (Tt1.obj _ _ ts14)
            refine thnF (pgo1.run _ z14 (wipe σσ8 vs1) Hp14 xx1 u1 _ J14p rr14 (stp1 xx1 Hp14 yy14)) fun _ z15 ⟨σσ15, Hp15, J15, hw15, qq15⟩ => ?_
            refine thnF (pto1.run _ z15 σσ15 Hp15 _ J15 qq15) fun b1 z16 ⟨Hp16, J16, qq16⟩ => ?_
            have ends1 : ∀ {ss : Shared} {HH : Hp}, Inv (X.blk z3 Hp3 scope ce fp) (([] ++ pinsAt fp z7.heap) ++ pinsAt fpp1 z14.heap) σσ15 HH ss → Nz1 HH → ∃ m, m < k ∧ ∃ j HH, Inv (X.blk z3 Hp3 scope ce fp) ([] ++ pinsAt fp z7.heap) (wipe σσ8 vs1) HH ss ∧ tnn1 j ss.heap ∧ (∀ b ∈ fpp1, HH b = none) ∧ W1 j m HH := fun {ss HH} II nx => by
              obtain ⟨mm, hmm, wv⟩ := hnx1 HH nx
              have pinn : ∀ b ∈ fpp1, ∀ o, z14.heap.get? b = some o → ss.heap.get? b = some o ∧ HH b = none := fun b hb o e =>
                let z := II.pin (b, o) (List.mem_append_right _ (List.mem_append_right _ (mem_pinsAt hb e)))
                ⟨z.1, z.2.1⟩
              refine ⟨mm, hmm, j + 1, HH, II.unpinned.weak (by rw [← hw15, wipe_length]) (fun j v e => by rw [← hw15] at e; exact (wipe_some e).1), Tt1.keep _ _ _ ts14 fun b hb o e => (pinn b hb o e).1, fun b hb => ?_, wv⟩
              obtain ⟨o, e, _⟩ := Tt1.obj _ _ ts14 b hb
              exact (pinn b hb o e).2
            cases b1 with
            | false =>
              simp only [Bool.false_eq_true, if_false] at qq16 ⊢
              exact ends1 J16 qq16
            | true =>
              simp only [if_true] at qq16 ⊢
              refine thnF (pko.run _ z16 σσ15 Hp16 _ J16 qq16) fun z z17 ⟨yk, Hp17, J17, rr17, qq17⟩ => ?_
              refine thnF (peo.run _ z17 σσ15 Hp17 _ J17 qq17) fun z2 z18 ⟨yv, Hp18, J18, rr18, nx⟩ => ?_
              exact pset.go J18 rr17 rr18 nx fun Hp19 z19 J19 nx19 => ends1 J19 nx19
        exact dStart1_ok ring1 (Tt1.self X.A 0 _ _ _ ts11 ring1)
  exact codeAny_compStart_dict ring (Tt.self X.A 0 _ _ _ ts4 ring)
theorem dcG_core {pins : List (Addr × Obj)} {s : Shared} {σ : L2.St} {H : Hp} {Q : VK} {kx vx tg iter : Expr} {ifz : List Expr} {scope : Scope} {owns : List (Str × Nat)} {pos pos' : Pos} {wi : TI} {g : TG} {tt : TT} {tk tv : TE} {rs : SD} {use : Option (Value → Sem Unit)} {Qff : Value → Shared → Prop}
    (hc : X.calm = true) (hN : X.N.Nodup) (I : Inv X pins σ H s) (hi : PI X tg iter wi) (ok : BlkOk X.N X.env.scope scope owns)
    (hg : ∀ (s : Shared) (H : Hp) (Cb : Addr) (cl : List (Str × Addr)) (fp : List Addr), PG (X.blk s H scope (compEnvC scope cl Cb X.env) fp) tg g) (ht : ∀ (s : Shared) (H : Hp) (Cb : Addr) (cl : List (Str × Addr)) (fp : List Addr), PTs (X.blk s H scope (compEnvC scope cl Cb X.env) fp) ifz tt)
    (hk : ∀ (s : Shared) (H : Hp) (Cb : Addr) (cl : List (Str × Addr)) (fp : List Addr), PE (X.blk s H scope (compEnvC scope cl Cb X.env) fp) kx tk)
    (he : ∀ (s : Shared) (H : Hp) (Cb : Addr) (cl : List (Str × Addr)) (fp : List Addr), PE (X.blk s H scope (compEnvC scope cl Cb X.env) fp) vx tv) (hst : ∀ (s : Shared) (H : Hp) (Cb : Addr) (cl : List (Str × Addr)) (fp : List Addr), SetOk (X.blk s H scope (compEnvC scope cl Cb X.env) fp) rs) (hs : ∀ x, foldedSetIterable iter X.env x = pure x)
    (h : tDcG wi g tt tk tv rs (owns.map (·.2)) σ H Q)
    (hend : ∀ Dd C ss m HH, Inv X pins σ HH ss → Q (.ref Dd) HH → ss.heap.Ns C m → FpOk X pins HH C → compPost (model X.prog X.w) X.A X.xe use Qff (.ref Dd) C (.ok .next) ss) :
    wpAny (model X.prog X.w) X.A (comprehension (.DictComp kx vx [⟨tg, iter, ifz, 0⟩] scope pos) scope X.env pos' newDict false (eval iter X.env) use) Qff X.xe s := by
  have hfrr : ∀ y ∈ scope.names, y.2 = .free → ∃ c, X.env.cells.lookup y.1 = some c := fun y hy e => by
    rcases ok.free y hy e with kk | kk
    · exact I.ok.has _ (.inl kk)
    · exact I.ok.has _ (.inr kk)
  refine wpAny_comprehension_free (use := use) rfl hs (closure_ok hfrr) ok.kind (fun y hy e => by rw [ok.uniq y hy, e])
    (thn (hi.run pins s σ H _ I h) fun xv z1 hxx => thn hxx fun itv z2 q2 => ?_)
  obtain ⟨itr, fp, tn, J, Hp2, e, J2, Tt, ts2, ff2, q⟩ := q2
  subst e
  refine wpAny_newObj_type (newEnv_comp ?_); generalize hDd : z2.heap.objs.size = Dd
  have hfree0 : Hp2 Dd = none := J2.hok.fresh (Nat.le_of_eq hDd)
  obtain ⟨W, ⟨m0, ww0⟩, lap⟩ := q Dd hfree0
  generalize hs3 : ({ z2 with heap := z2.heap.push { cls := .type "dict", data := .dict #[] } } : Shared) = z3
  have J3 : Inv X pins σ (upd Hp2 Dd (.dK [])) z3 := by
    rw [← hs3]
    refine J2.laid (t' := z2.toks) (fun b o e => Heap.get?_push_of_some _ e) (Nat.le_of_eq hDd) ?_
    rw [← hDd]
    exact dk_empty z2.heap J2.big
  have q3 : z3.heap = z2.heap.push { cls := .type "dict", data := .dict #[] } := by rw [← hs3]
  have szz : ∀ b ∈ fp, b < z2.heap.objs.size := fun b hb => by
    obtain ⟨o, e, _⟩ := Tt.obj _ _ ts2 b hb
    exact Heap.lt_size e
  have ff3 : ∀ b ∈ fp, FpOk X pins (upd Hp2 Dd (.dK [])) b ∧ b < z3.heap.objs.size := fun b hb => by
    have hltt := szz b hb
    refine ⟨⟨?_, (ff2 b hb).2⟩, by rw [q3, Heap.size_push]; exact Nat.lt_succ_of_lt hltt⟩
    rw [upd_ne (by rw [← hDd]; exact Nat.ne_of_lt hltt)]
    exact (ff2 b hb).1
  have ts3 : tn 0 z3.heap := Tt.keep _ _ _ ts2 fun b _ o e => by rw [q3]; exact Heap.get?_push_of_some _ e
  have J4 := block_start J3 ok hN ff3
  have pgo := hg z3 (upd Hp2 Dd (.dK [])) z3.heap.objs.size (cellsFrom (z3.heap.objs.size + 1) scope.names (cloFrom X.env.cells scope.names [])) fp
  have pto := ht z3 (upd Hp2 Dd (.dK [])) z3.heap.objs.size (cellsFrom (z3.heap.objs.size + 1) scope.names (cloFrom X.env.cells scope.names [])) fp
  have pko := hk z3 (upd Hp2 Dd (.dK [])) z3.heap.objs.size (cellsFrom (z3.heap.objs.size + 1) scope.names (cloFrom X.env.cells scope.names [])) fp
  have peo := he z3 (upd Hp2 Dd (.dK [])) z3.heap.objs.size (cellsFrom (z3.heap.objs.size + 1) scope.names (cloFrom X.env.cells scope.names [])) fp
  have pset := hst z3 (upd Hp2 Dd (.dK [])) z3.heap.objs.size (cellsFrom (z3.heap.objs.size + 1) scope.names (cloFrom X.env.cells scope.names [])) fp
  show codeAny _ _ (.compStart (.DictComp kx vx [⟨tg, iter, ifz, 0⟩] scope pos) 0 (.ref itr) (.ref Dd) (compEnvC scope (cellsFrom (z3.heap.objs.size + 1) scope.names (cloFrom X.env.cells scope.names [])) z3.heap.objs.size X.env)) (compPost (model X.prog X.w) X.A X.xe use Qff (.ref Dd) z3.heap.objs.size) { z3 with heap := pushCells (z3.heap.push { cls := .type "dict", data := .dict #[] }) scope.names }
  have nofp : ∀ b ∈ fp, (upd Hp2 Dd (.dK [])) b = none := fun b hb => (ff3 b hb).1.1
  generalize hcE : compEnvC scope (cellsFrom (z3.heap.objs.size + 1) scope.names (cloFrom X.env.cells scope.names [])) z3.heap.objs.size X.env = ce at J4 pgo pto pko peo pset ⊢
  have cLoc : ce.locals = z3.heap.objs.size := by subst hcE; rfl
  generalize hH3 : upd Hp2 Dd (.dK []) = Hp3 at J3 J4 pgo pto pko peo pset ww0 nofp ff3
  generalize hs4 : ({ z3 with heap := pushCells (z3.heap.push { cls := .type "dict", data := .dict #[] }) scope.names } : Shared) = z4 at J4 ⊢
  have ts4 : tn 0 z4.heap := Tt.keep _ _ _ ts3 fun b _ o e => by rw [← hs4]; exact pushCells_keeps _ _ _ _ (Heap.get?_push_of_some _ e)
  have still : ∀ {σ' : L2.St} {HH : Hp} {ss : Shared}, Inv (X.blk z3 Hp3 scope ce fp) [] σ' HH ss → (∀ b ∈ fp, HH b = none) → ∀ b ∈ fp, FpOk (X.blk z3 Hp3 scope ce fp) [] HH b := fun {σ' HH ss} II hnn b hb =>
    ⟨hnn b hb, (II.ok.exf b hb).1, II.ok.exfs b hb, .inl hb, fun x c e => (II.ok.exf b hb).2 x c e, fun p hp => absurd (show p ∈ ([] : List (Addr × Obj)) ++ [] from hp) (by simp)⟩
  have ring : codeAny (model X.prog X.w) X.A (.compLoop (.DictComp kx vx [⟨tg, iter, ifz, 0⟩] scope pos) 0 (.ref itr) (.ref Dd) ce) (compPost (model X.prog X.w) X.A X.xe use Qff (.ref Dd) z3.heap.objs.size) z4 := by
    refine compLoop_anyD (fun n ss => ∃ i HH, Inv (X.blk z3 Hp3 scope ce fp) [] (wipe σ (owns.map (·.2))) HH ss ∧ tn i ss.heap ∧ (∀ b ∈ fp, HH b = none) ∧ W i n HH) ?_ m0 ⟨0, Hp3, J4, ts4, nofp, ww0⟩
    rintro n z5 ⟨i, Hp5, J5, ts5, nn5, ww5⟩
    rcases lap i n Hp5 ww5 with ⟨stopp, qend⟩ | ⟨goo, Nz, hnx, stp⟩
    · have tdone := Tt.done (X.blk z3 Hp3 scope ce fp) rfl rfl rfl hc i [] z5 _ Hp5 (fun _ _ => False) J5 (still J5 nn5) ts5 stopp
      refine thnF tdone fun r z6 ⟨hr, J6⟩ => ?_
      subst hr
      have J7 : Inv X pins σ Hp5 z6 := J3.call' (ch := fp) J6.os J6.base J6.hok J6.bare fun b hb => ⟨(ff3 b hb).1.2.2.2.1, (ff3 b hb).1.2.1, (ff3 b hb).1.2.2.2.2.1, (ff3 b hb).1.2.2.2.2.2⟩
      have nC : Hp5 z3.heap.objs.size = none := by
        have z : Hp5 ce.locals = none := J6.free
        rw [cLoc] at z
        exact z
      obtain ⟨m, hnn, _⟩ := J6.loc
      have hnn : z6.heap.Ns ce.locals m := hnn
      rw [cLoc] at hnn
      exact hend Dd z3.heap.objs.size z6 m Hp5 J7 qend hnn (J3.fpOk (Nat.le_refl _) nC)
    · have titem := Tt.item (X.blk z3 Hp3 scope ce fp) rfl rfl rfl hc i [] z5 _ Hp5 (fun _ _ => False) J5 (still J5 nn5) ts5 goo
      refine thnF titem fun r z6 ⟨u, hr, q6⟩ => ?_
      subst hr
      refine thnF q6 fun _ z7 ⟨x, Hp7, J7, rr7, yy7, ts7, nn7⟩ => ?_
      have J7p := J7.pinned (still J7 nn7) (Tt.obj _ _ ts7)
      refine thnF (pgo.run _ z7 _ Hp7 x u _ J7p rr7 (stp x Hp7 yy7)) fun _ z8 ⟨σσ8, Hp8, J8, hw8, qq8⟩ => ?_
      refine thnF (pto.run _ z8 σσ8 Hp8 _ J8 qq8) fun b z9 ⟨Hp9, J9, qq9⟩ => ?_
      have ends : ∀ {ss : Shared} {HH : Hp}, Inv (X.blk z3 Hp3 scope ce fp) ([] ++ pinsAt fp z7.heap) σσ8 HH ss → Nz HH → ∃ m, m < n ∧ ∃ i HH, Inv (X.blk z3 Hp3 scope ce fp) [] (wipe σ (owns.map (·.2))) HH ss ∧ tn i ss.heap ∧ (∀ b ∈ fp, HH b = none) ∧ W i m HH := fun {ss HH} II nx => by
        obtain ⟨mm, hmm, wv⟩ := hnx HH nx
        have pinn : ∀ b ∈ fp, ∀ o, z7.heap.get? b = some o → ss.heap.get? b = some o ∧ HH b = none := fun b hb o e =>
          let z := II.pin (b, o) (List.mem_append_right _ (List.mem_append_right _ (mem_pinsAt hb e)))
          ⟨z.1, z.2.1⟩
        have hlen0 : (wipe σ (owns.map (·.2))).length = σσ8.length := by rw [← hw8, wipe_length]
        refine ⟨mm, hmm, i + 1, HH, (II.unpinned (pins := [])).weak hlen0 (fun j v e => ?_), Tt.keep _ _ _ ts7 fun b hb o e => (pinn b hb o e).1, fun b hb => ?_, wv⟩
        · rw [← hw8] at e
          exact (wipe_some e).1
        · obtain ⟨o, e, _⟩ := Tt.obj _ _ ts7 b hb
          exact (pinn b hb o e).2
      cases b with
      | false =>
        simp only [Bool.false_eq_true, if_false] at qq9 ⊢
        exact ends J9 qq9
      | true =>
        simp only [if_true] at qq9 ⊢
        refine thnF (pko.run _ z9 σσ8 Hp9 _ J9 qq9) fun z z10 ⟨yk, Hp10, J10, rr10, qq10⟩ => ?_
        refine thnF (peo.run _ z10 σσ8 Hp10 _ J10 qq10) fun z2 z11 ⟨yv, Hp11, J11, rr11, nx⟩ => ?_
        exact pset.go J11 rr10 rr11 nx fun Hp12 z12 J12 nx12 => ends J12 nx12
  exact codeAny_compStart_dict ring (Tt.self X.A 0 _ _ _ ts4 ring)
end
end DL
namespace DL
open PySem PySem.Spec PyProof.Rows L2
variable [Lots]
def AtN (H : Hp) (a : Addr) (xs : List NE) (nds : List (D × D)) : Prop := (nds = [] ∧ xs = [] ∧ H a = some (.dK [])) ∨ (nds ≠ [] ∧ H a = some (NDO Lots.w a xs))
def mkN : List (D × D) → D
  | [] => .dict []
  | nds => tdD nds
def rsN (K : PySem.W.Frag) : SD := fun d y z H N => ∃ (Hf : Hp) (b : Addr) (kd : D) (xs : List NE) (nds : List (D × D)), y = .ref b ∧ AtN H d xs nds ∧ Fit Hf H ∧ RpN K Hf xs nds ∧ Rp K Hf (.ref b) kd ∧ keyT kd = true ∧ xs.length < sizeLine ∧
  ∀ u, RelV z u → N (upd H d (NDO Lots.w d (storedH xs (keyOf kd) b u)))
theorem set_rsN {X : Cx} (hw : X.w = Lots.w) (hu : X.A.units + 65 < cLine) : SetOk X (rsN X.K) where
  go := by
    intro pins σ H s d y z u t Q E N I ry rz h hq
    obtain ⟨Hf, b, kd, xs, nds, rfl, at_, sf, rn, rb, kt, hl, hn⟩ := h
    cases ry
    have hu2 : (nestedKind X.prog X.w).room X.A := by
      show X.A.units + 8 < cLine
      omega
    have key : ∀ (dd : s.heap.DictOfH (nestedKind X.prog X.w) d xs) (hd : (d == sysModules) = false) (mu : Mut (H d)), wpAny (model X.prog X.w) X.A (dictSet d (.ref b) t) Q E s := fun dd hd mu => by
      refine wpAny_dictSet_heap (hsz := Nat.le_of_lt hl) hu2 (key_is I sf rb kt) dd fun h' dd' hs => hq _ _ ?_ (hn t rz)
      have x := ND0.of hd dd'
      obtain ⟨o, ho⟩ : ∃ o, h'.get? d = some o := let ⟨o, _, _, ho, _⟩ := x.ex; ⟨o, ho⟩
      refine d_write I mu hs ⟨o, ho⟩ (ndo_ok ?_)
      rw [← hw]
      exact x
    rcases at_ with ⟨rfl, rfl, hd⟩ | ⟨_, hd⟩
    · have x := nd_empty hw I hd
      exact key (ND0.to (P := X.prog) (w := X.w) ⟨x.ex, x.nd, x.sm⟩ fun y hy => nomatch hy) x.sm (by rw [hd]; exact True.intro)
    · obtain ⟨dd, hs⟩ := nd_of hw I sf (.inl hd) rn
      exact key dd hs (by rw [hd]; exact True.intro)
theorem putN_ne (nds : List (D × D)) (k d : D) : putN nds k d ≠ [] := by
  unfold putN
  split
  · rename_i h
    cases nds with
    | nil => simp at h
    | cons x nds => simp
  · simp
theorem putN_ge (nds : List (D × D)) (k d : D) : nds.length ≤ (putN nds k d).length := by
  unfold putN
  split <;> simp
def dcnLoop (tg : Tg) (ft : Env → R Bool) (fk fv : Env → R D) (ρ : Env) (acc : List (D × D)) : List D → R (List (D × D))
  | [] => .ok acc
  | d :: ds => fTg tg d ρ >>= fun ρ1 => ft ρ1 >>= fun b => if b then fk ρ1 >>= fun k => fv ρ1 >>= fun v => if keyT k then dcnLoop tg ft fk fv ρ (putN acc k v) ds else .bad else dcnLoop tg ft fk fv ρ acc ds
def dc2Loop (tg : Tg) (ft : Env → R Bool) (fi1 : Env → R (List D)) (tg1 : Tg) (ft1 : Env → R Bool) (fk fv : Env → R D) (vs1 : List Nat) (ρ : Env) (acc : List (D × D)) : List D → R (List (D × D))
  | [] => .ok acc
  | d :: ds => fTg tg d ρ >>= fun ρ1 => ft ρ1 >>= fun b => if b then fi1 ρ1 >>= fun es => dcnLoop tg1 ft1 fk fv (wipeR ρ1 vs1) acc es >>= fun acc' => dc2Loop tg ft fi1 tg1 ft1 fk fv vs1 ρ acc' ds else dc2Loop tg ft fi1 tg1 ft1 fk fv vs1 ρ acc ds
def fewN (nds : List (D × D)) : R D := if nds.length ≤ 1000000 then .ok (mkN nds) else .bad
def fDcN (fi : Env → R (List D)) (tg : Tg) (ft : Env → R Bool) (fk fv : Env → R D) (own : List Nat) : Env → R D := fun ρ => fi ρ >>= fun ds => (dcnLoop tg ft fk fv (wipeR ρ own) [] ds).calm >>= fewN
def fDc2 (fi : Env → R (List D)) (tg : Tg) (ft : Env → R Bool) (fi1 : Env → R (List D)) (tg1 : Tg) (ft1 : Env → R Bool) (fk fv : Env → R D) (own vs1 : List Nat) : Env → R D :=
  fun ρ => fi ρ >>= fun ds => (dc2Loop tg ft fi1 tg1 ft1 fk fv vs1 (wipeR ρ own) [] ds).calm >>= fewN
theorem dcn_ge {tg : Tg} {ft : Env → R Bool} {fk fv : Env → R D} {ρ : Env} : ∀ {ds : List D} {acc tot : List (D × D)}, dcnLoop tg ft fk fv ρ acc ds = .ok tot → acc.length ≤ tot.length
  | [], acc, tot, h => by cases h; exact Nat.le_refl _
  | d :: ds, acc, tot, h => by
    unfold dcnLoop at h
    obtain ⟨ρ1, _, h⟩ := bind_ok h
    obtain ⟨b, _, h⟩ := bind_ok h
    cases b with
    | false => exact dcn_ge (ds := ds) h
    | true =>
      have h : (fk ρ1 >>= fun k => fv ρ1 >>= fun v => if keyT k then dcnLoop tg ft fk fv ρ (putN acc k v) ds else .bad) = .ok tot := h
      obtain ⟨k, _, h⟩ := bind_ok h
      obtain ⟨v, _, h⟩ := bind_ok h
      split at h
      · exact Nat.le_trans (putN_ge acc k v) (dcn_ge (ds := ds) h)
      · cases h
theorem dc2_ge {tg : Tg} {ft : Env → R Bool} {fi1 : Env → R (List D)} {tg1 : Tg} {ft1 : Env → R Bool} {fk fv : Env → R D} {vs1 : List Nat} {ρ : Env} : ∀ {ds : List D} {acc tot : List (D × D)}, dc2Loop tg ft fi1 tg1 ft1 fk fv vs1 ρ acc ds = .ok tot → acc.length ≤ tot.length
  | [], acc, tot, h => by cases h; exact Nat.le_refl _
  | d :: ds, acc, tot, h => by
    unfold dc2Loop at h
    obtain ⟨ρ1, _, h⟩ := bind_ok h
    obtain ⟨b, _, h⟩ := bind_ok h
    cases b with
    | false => exact dc2_ge (ds := ds) h
    | true =>
      have h : (fi1 ρ1 >>= fun es => dcnLoop tg1 ft1 fk fv (wipeR ρ1 vs1) acc es >>= fun acc' => dc2Loop tg ft fi1 tg1 ft1 fk fv vs1 ρ acc' ds) = .ok tot := h
      obtain ⟨es, _, h⟩ := bind_ok h
      obtain ⟨acc', h1, h⟩ := bind_ok h
      exact Nat.le_trans (dcn_ge h1) (dc2_ge (ds := ds) h)
theorem AtN.own {K : PySem.W.Frag} {Hf H : Hp} {a : Addr} {xs : List NE} {nds : List (D × D)} (h : AtN H a xs nds) (nf : Hf a = none) (hl : xs.length ≤ sizeLine) (r : RpN K Hf xs nds) : OwnAt K Hf H a (mkN nds) := by
  rcases h with ⟨rfl, rfl, h⟩ | ⟨hn, h⟩
  · exact .inl ⟨[], nf, h, Nat.zero_le _, .nil⟩
  · cases nds with
    | nil => exact absurd rfl hn
    | cons x nds => exact .inr ⟨_, xs, rfl, nf, h, hl, r⟩
theorem AtN.some_ {H : Hp} {a : Addr} {xs : List NE} {nds : List (D × D)} (h : AtN H a xs nds) : ∃ u, H a = some u ∧ ∀ ys, u ≠ .tup ys := by
  rcases h with ⟨rfl, rfl, h⟩ | ⟨hn, h⟩
  · exact ⟨_, h, fun _ z => by cases z⟩
  · exact ⟨_, h, fun _ z => by cases z⟩
theorem AtN.to {H H' : Hp} {a : Addr} {xs : List NE} {nds : List (D × D)} (h : AtN H a xs nds) (k : ∀ u, H a = some u → H' a = some u) : AtN H' a xs nds := by
  rcases h with ⟨e1, e2, h⟩ | ⟨hn, h⟩
  · exact .inl ⟨e1, e2, k _ h⟩
  · exact .inr ⟨hn, k _ h⟩
section
variable {X : Cx} {C : Pm}
theorem dcn_data {fi : Env → R (List D)} {tg : Tg} {ft : Env → R Bool} {fk fv : Env → R D} {own : List Nat} (hown : ∀ i ∈ tg.ixs, i ∈ own) {σ : L2.St} {H : Hp} {Q : VK} (h : tF C (fDcN fi tg ft fk fv own) σ H Q) :
    tDcG (tI C fi) (tGt C.calm tg) (tT C.calm ft) (tE C.calm fk) (tE C.calm fv) (rsN C.K) own σ H Q := by
  obtain ⟨Hf0, H0, Hf, ρ, env, h⟩ := h
  refine ⟨Hf0, H0, Hf, ρ, env, OutG.bind (show OutG C (RelF C H) Hf H (fDcN fi tg ft fk fv own ρ) Q from h) fun ds J Hf1 H1 _ g1 w h1 => fun Da nD => ?_⟩
  cases e1 : dcnLoop tg ft fk fv (wipeR ρ own) [] ds with
  | exc c => rw [e1] at h1; exact h1.elim
  | bad => rw [e1] at h1; exact h1.elim
  | ok tot =>
    rw [e1] at h1
    have h1 : OutG C (RelF C H) Hf1 H1 (fewN tot) Q := h1
    unfold fewN at h1
    split at h1
    · rename_i few
      have ew : EnvR C.K Hf0 H0 Hf1 H1 (L2.wipe σ own) (wipeR ρ own) := (env.more g1).wipe own
      have nD0 : H Da = none := Same.free g1.h nD
      have nDf : Hf1 Da = none := Same.free g1.sub nD
      refine ⟨fun i m H2 => m = ds.length - i ∧ i ≤ ds.length ∧ ∃ (Hf2 : Hp) (xs : List NE) (accD : List (D × D)), Grow Hf1 H1 Hf2 H2 ∧ Hf2 Da = none ∧ AtN H2 Da xs accD ∧ RpN C.K Hf2 xs accD ∧ dcnLoop tg ft fk fv (wipeR ρ own) accD (ds.drop i) = .ok tot,
        ⟨ds.length, by simp, Nat.zero_le _, Hf1, [], [], Grow.side g1.sub nD, nDf, .inl ⟨rfl, rfl, upd_same⟩, .nil, e1⟩, ?_⟩
      rintro i m H2 ⟨rfl, hi, Hf2, xs, accD, g2, n2, hD, ra, el⟩
      have s12 : Lk Hf1 H2 := Lk.back g2.f g2.sub.lk
      obtain ⟨u2, hu2, nt2⟩ := hD.some_
      by_cases hlt : i < ds.length
      · refine .inr ⟨w.goes i H2 hlt s12, fun H3 => (ds.length - (i + 1) = ds.length - (i + 1)) ∧ i + 1 ≤ ds.length ∧ ∃ (Hf3 : Hp) (xs : List NE) (accD : List (D × D)), Grow Hf1 H1 Hf3 H3 ∧ Hf3 Da = none ∧ AtN H3 Da xs accD ∧ RpN C.K Hf3 xs accD ∧ dcnLoop tg ft fk fv (wipeR ρ own) accD (ds.drop (i + 1)) = .ok tot,
          fun H3 p => ⟨ds.length - (i + 1), by omega, p⟩, fun x H3 y => ?_⟩
        have hd : ds[i]? = some ds[i] := List.getElem?_eq_getElem hlt
        obtain ⟨Hg, g3, rx⟩ := w.yields i Hf2 H2 H3 x ds[i] hd g2.f g2.sub y
        rw [List.drop_eq_getElem_cons hlt] at el
        unfold dcnLoop at el
        obtain ⟨ρ1, b1, el⟩ := bind_ok el
        obtain ⟨b, b2, el⟩ := bind_ok el
        have e3 : EnvR C.K Hf0 H0 Hg H3 (L2.wipe σ own) (wipeR ρ own) := ew.more (g2.trans g3)
        refine ⟨Hf0, H0, Hg, wipeR ρ own, ds[i], e3, rx, ρ1, b1, fun σ2 e4 hw => ⟨wipe_wipe (hw own hown), Hf0, H0, Hg, ρ1, e4, ?_⟩⟩
        rw [b2]
        intro b' Hf4 H4 g4 eb
        subst eb
        cases b' with
        | true =>
          refine iteT ⟨Hf0, H0, Hf4, ρ1, e4.more g4, ?_⟩
          have el : (fk ρ1 >>= fun k => fv ρ1 >>= fun v => if keyT k then dcnLoop tg ft fk fv (wipeR ρ own) (putN accD k v) (ds.drop (i + 1)) else .bad) = .ok tot := el
          obtain ⟨kd, b3, el⟩ := bind_ok el
          obtain ⟨vd, b4, el⟩ := bind_ok el
          rw [b3]
          intro kv Hf5 H5 g5 rk
          refine ⟨Hf0, H0, Hf5, ρ1, (e4.more g4).more g5, ?_⟩
          rw [b4]
          intro yv Hf6 H6 g6 ry
          split at el
          · rename_i hk
            obtain ⟨_, _, ks, ek⟩ := keyT_n hk
            obtain ⟨kb, rfl, rkb⟩ : ∃ b, kv = .ref b ∧ Rp C.K Hf5 (.ref b) kd := by
              subst ek
              exact Rp1.tupRp (H := H5) (.inl rk)
            have gg : Grow Hf2 H2 Hf6 H6 := ((g3.trans g4).trans g5).trans g6
            have n6 : Hf6 Da = none := gg.off n2 hu2 nt2
            have hD6 : AtN H6 Da xs accD := hD.to fun u hu => gg.h.at hu n2
            have hle := dcn_ge el
            have := putN_ge accD kd vd
            have hxl := ra.length
            refine ⟨Hf6, kb, kd, xs, accD, rfl, hD6, gg.sub, ra.mono gg.f, rkb.mono g6.f, hk, by rw [sizeLine_eq]; omega, fun u ru => ⟨rfl, hlt, Hf6, storedH xs (keyOf kd) kb u, putN accD kd vd, ?_, n6, .inr ⟨putN_ne _ _ _, upd_same⟩, (ra.mono gg.f).put (rkb.mono g6.f) hk ru ry, el⟩⟩
            exact (g2.trans gg).turn nD n6
          · cases el
        | false =>
          have gg : Grow Hf2 H2 Hf4 H4 := g3.trans g4
          have n4 : Hf4 Da = none := gg.off n2 hu2 nt2
          exact iteF ⟨rfl, hlt, Hf4, xs, accD, g2.trans gg, n4, hD.to fun u hu => gg.h.at hu n2, ra.mono gg.f, el⟩
      · have ei : i = ds.length := by omega
        subst ei
        rw [List.drop_length] at el
        cases el
        have hxl := ra.length
        exact .inl ⟨w.stops H2 s12, h1 _ Hf2 H2 g2 ⟨Da, rfl, nD0, hD.own n2 (by rw [sizeLine_eq]; omega) ra⟩⟩
    · exact h1.elim
theorem dc2_data {fi fi1 : Env → R (List D)} {tg tg1 : Tg} {ft ft1 : Env → R Bool} {fk fv : Env → R D} {own vs1 : List Nat} (hown : ∀ i ∈ tg.ixs, i ∈ own) (hv1 : ∀ i ∈ tg1.ixs, i ∈ vs1) {σ : L2.St} {H : Hp} {Q : VK} (h : tF C (fDc2 fi tg ft fi1 tg1 ft1 fk fv own vs1) σ H Q) :
    tDc2 (tI C fi) (tGt C.calm tg) (tT C.calm ft) (tI C.calm fi1) (tGt C.calm tg1) (tT C.calm ft1) (tE C.calm fk) (tE C.calm fv) (rsN C.K) own vs1 σ H Q := by
  obtain ⟨Hf0, H0, Hf, ρ, env, h⟩ := h
  refine ⟨Hf0, H0, Hf, ρ, env, OutG.bind (show OutG C (RelF C H) Hf H (fDc2 fi tg ft fi1 tg1 ft1 fk fv own vs1 ρ) Q from h) fun ds J Hf1 H1 _ g1 w h1 => fun Da nD => ?_⟩
  cases e1 : dc2Loop tg ft fi1 tg1 ft1 fk fv vs1 (wipeR ρ own) [] ds with
  | exc c => rw [e1] at h1; exact h1.elim
  | bad => rw [e1] at h1; exact h1.elim
  | ok tot =>
    rw [e1] at h1
    have h1 : OutG C (RelF C H) Hf1 H1 (fewN tot) Q := h1
    unfold fewN at h1
    split at h1
    · rename_i few
      have ew : EnvR C.K Hf0 H0 Hf1 H1 (L2.wipe σ own) (wipeR ρ own) := (env.more g1).wipe own
      have nD0 : H Da = none := Same.free g1.h nD
      have nDf : Hf1 Da = none := Same.free g1.sub nD
      have keep : ∀ {Hf2 H2 Hf4 H4 : Hp} {xs : List NE} {nds : List (D × D)}, Grow Hf2 H2 Hf4 H4 → Hf2 Da = none → AtN H2 Da xs nds → Hf4 Da = none := fun {Hf2 H2 Hf4 H4 xs nds} gg n2 hD => by
        obtain ⟨u, hu, nt⟩ := hD.some_
        exact gg.off n2 hu nt
      refine ⟨fun i m H2 => m = ds.length - i ∧ i ≤ ds.length ∧ ∃ (Hf2 : Hp) (xs : List NE) (accD : List (D × D)), Grow Hf1 H1 Hf2 H2 ∧ Hf2 Da = none ∧ AtN H2 Da xs accD ∧ RpN C.K Hf2 xs accD ∧ dc2Loop tg ft fi1 tg1 ft1 fk fv vs1 (wipeR ρ own) accD (ds.drop i) = .ok tot,
        ⟨ds.length, by simp, Nat.zero_le _, Hf1, [], [], Grow.side g1.sub nD, nDf, .inl ⟨rfl, rfl, upd_same⟩, .nil, e1⟩, ?_⟩
      rintro i m H2 ⟨rfl, hi, Hf2, acc, accD, g2, n2, hD, ra, el⟩
      have s12 : Lk Hf1 H2 := Lk.back g2.f g2.sub.lk
      by_cases hlt : i < ds.length
      · refine .inr ⟨w.goes i H2 hlt s12, fun H3 => (ds.length - (i + 1) = ds.length - (i + 1)) ∧ i + 1 ≤ ds.length ∧ ∃ (Hf3 : Hp) (xs : List NE) (accD : List (D × D)), Grow Hf1 H1 Hf3 H3 ∧ Hf3 Da = none ∧ AtN H3 Da xs accD ∧ RpN C.K Hf3 xs accD ∧ dc2Loop tg ft fi1 tg1 ft1 fk fv vs1 (wipeR ρ own) accD (ds.drop (i + 1)) = .ok tot,
          fun H3 p => ⟨ds.length - (i + 1), by omega, p⟩, fun x H3 y => ?_⟩
        have hd : ds[i]? = some ds[i] := List.getElem?_eq_getElem hlt
        obtain ⟨Hg, g3, rx⟩ := w.yields i Hf2 H2 H3 x ds[i] hd g2.f g2.sub y
        rw [List.drop_eq_getElem_cons hlt] at el
        unfold dc2Loop at el
        obtain ⟨ρ1, b1, el⟩ := bind_ok el
        obtain ⟨b, b2, el⟩ := bind_ok el
        have e3 : EnvR C.K Hf0 H0 Hg H3 (L2.wipe σ own) (wipeR ρ own) := ew.more (g2.trans g3)
        refine ⟨Hf0, H0, Hg, wipeR ρ own, ds[i], e3, rx, ρ1, b1, fun σ2 e4 hw => ⟨wipe_wipe (hw own hown), Hf0, H0, Hg, ρ1, e4, ?_⟩⟩
        rw [b2]
        intro b' Hf4 H4 g4 eb
        subst eb
        have gg4 : Grow Hf2 H2 Hf4 H4 := g3.trans g4
        have n4 := keep gg4 n2 hD
        cases b' with
        | true =>
          have el : (fi1 ρ1 >>= fun es => dcnLoop tg1 ft1 fk fv (wipeR ρ1 vs1) accD es >>= fun acc' => dc2Loop tg ft fi1 tg1 ft1 fk fv vs1 (wipeR ρ own) acc' (ds.drop (i + 1))) = .ok tot := el
          obtain ⟨es, b3, el⟩ := bind_ok el
          obtain ⟨zs, b4, el⟩ := bind_ok el
          have hzl := dc2_ge el
          refine iteT ⟨Hf0, H0, Hf4, ρ1, e4.more g4, ?_⟩
          rw [b3]
          intro J1 Hf5 H5 g5 w1
          have gg5 : Grow Hf2 H2 Hf5 H5 := gg4.trans g5
          have e5 : EnvR C.K Hf0 H0 Hf5 H5 σ2 ρ1 := (e4.more g4).more g5
          have n5 := keep gg5 n2 hD
          have hD5 : AtN H5 Da acc accD := hD.to fun u hu => gg5.h.at hu n2
          have n0 : H0 Da = none := Same.free env.grow.h nD0
          have no : ∀ (j : Nat) (d : D), ρ1[j]? = some (.ow d) → σ2[j]? ≠ some (some (.ref Da)) := fun j d q1 q2 => by
            obtain ⟨m1, m2⟩ := wipeR_ow (fTg_ow b1 q1)
            have z := wipe_wipe (hw own hown)
            have zj : (L2.wipe σ2 own)[j]? = (L2.wipe σ own)[j]? := by rw [z]
            rw [wipe_get, wipe_get, if_neg m1, if_neg m1, q2] at zj
            exact env.notOwn nD0 j d m2 zj.symm
          have e5' : EnvR C.K Hf0 H0 Hf5 (less H5 Da) σ2 ρ1 := e5.less n0 n5 no
          have ew1 : EnvR C.K Hf0 H0 Hf5 (less H5 Da) (L2.wipe σ2 vs1) (wipeR ρ1 vs1) := e5'.wipe vs1
          have g15 : Grow Hf1 H1 Hf5 (less H5 Da) := (g2.trans gg5).less nD n5
          refine ⟨fun j k H6 => k = es.length - j ∧ j ≤ es.length ∧ ∃ (Hf6 : Hp) (acc2 : List NE) (accD2 : List (D × D)), Grow Hf5 (less H5 Da) Hf6 H6 ∧ Hf6 Da = none ∧ AtN H6 Da acc2 accD2 ∧ RpN C.K Hf6 acc2 accD2 ∧ dcnLoop tg1 ft1 fk fv (wipeR ρ1 vs1) accD2 (es.drop j) = .ok zs,
            ⟨es.length, by simp, Nat.zero_le _, Hf5, acc, accD, ⟨Same.refl _, fun b o e => .inl (by
              by_cases q : b = Da
              · subst q; rw [less_same] at e; cases e
              · rw [less_ne q] at e; exact e), fun b o e => .inl e, g5.sub⟩, n5, hD5, ra.mono gg5.f, b4⟩, ?_⟩
          rintro j k H6 ⟨rfl, hj, Hf6, acc2, accD2, g6, n6, hD6, ra2, el2⟩
          have s56 : Lk Hf5 H6 := Lk.back g6.f g6.sub.lk
          by_cases hjt : j < es.length
          · refine .inr ⟨w1.goes j H6 hjt s56, fun H7 => (es.length - (j + 1) = es.length - (j + 1)) ∧ j + 1 ≤ es.length ∧ ∃ (Hf6 : Hp) (acc2 : List NE) (accD2 : List (D × D)), Grow Hf5 (less H5 Da) Hf6 H7 ∧ Hf6 Da = none ∧ AtN H7 Da acc2 accD2 ∧ RpN C.K Hf6 acc2 accD2 ∧ dcnLoop tg1 ft1 fk fv (wipeR ρ1 vs1) accD2 (es.drop (j + 1)) = .ok zs,
              fun H7 p => ⟨es.length - (j + 1), by omega, p⟩, fun x1 H7 y1 => ?_⟩
            have hd1 : es[j]? = some es[j] := List.getElem?_eq_getElem hjt
            obtain ⟨Hg7, g7, rx1⟩ := w1.yields j Hf6 H6 H7 x1 es[j] hd1 g6.f g6.sub y1
            rw [List.drop_eq_getElem_cons hjt] at el2
            unfold dcnLoop at el2
            obtain ⟨ρ2, c1, el2⟩ := bind_ok el2
            obtain ⟨bb, c2, el2⟩ := bind_ok el2
            have e7 : EnvR C.K Hf0 H0 Hg7 H7 (L2.wipe σ2 vs1) (wipeR ρ1 vs1) := ew1.more (g6.trans g7)
            refine ⟨Hf0, H0, Hg7, wipeR ρ1 vs1, es[j], e7, rx1, ρ2, c1, fun σ3 e8 hw3 => ⟨wipe_wipe (hw3 vs1 hv1), Hf0, H0, Hg7, ρ2, e8, ?_⟩⟩
            rw [c2]
            intro b8 Hf8 H8 g8 eb8
            subst eb8
            have gg8 : Grow Hf6 H6 Hf8 H8 := g7.trans g8
            have n8 := keep gg8 n6 hD6
            cases b8 with
            | true =>
              refine iteT ⟨Hf0, H0, Hf8, ρ2, e8.more g8, ?_⟩
              have el2 : (fk ρ2 >>= fun k => fv ρ2 >>= fun v => if keyT k then dcnLoop tg1 ft1 fk fv (wipeR ρ1 vs1) (putN accD2 k v) (es.drop (j + 1)) else .bad) = .ok zs := el2
              obtain ⟨kd, c3, el2⟩ := bind_ok el2
              obtain ⟨vd, c4, el2⟩ := bind_ok el2
              rw [c3]
              intro kv Hf9 H9 g9 rk
              refine ⟨Hf0, H0, Hf9, ρ2, (e8.more g8).more g9, ?_⟩
              rw [c4]
              intro yv Hfa Ha ga ry
              split at el2
              · rename_i hk
                obtain ⟨_, _, ks, ek⟩ := keyT_n hk
                obtain ⟨kb, rfl, rkb⟩ : ∃ b, kv = .ref b ∧ Rp C.K Hf9 (.ref b) kd := by
                  subst ek
                  exact Rp1.tupRp (H := H9) (.inl rk)
                have gga : Grow Hf6 H6 Hfa Ha := (gg8.trans g9).trans ga
                have na := keep gga n6 hD6
                have hDa : AtN Ha Da acc2 accD2 := hD6.to fun u hu => gga.h.at hu n6
                have hle := dcn_ge el2
                have := putN_ge accD2 kd vd
                have hxl := ra2.length
                refine ⟨Hfa, kb, kd, acc2, accD2, rfl, hDa, gga.sub, ra2.mono gga.f, rkb.mono ga.f, hk, by rw [sizeLine_eq]; omega, fun u ru => ⟨rfl, hjt, Hfa, storedH acc2 (keyOf kd) kb u, putN accD2 kd vd, ?_, na, .inr ⟨putN_ne _ _ _, upd_same⟩, (ra2.mono gga.f).put (rkb.mono ga.f) hk ru ry, el2⟩⟩
                exact (g6.trans gga).turn less_same na
              · cases el2
            | false =>
              exact iteF ⟨rfl, hjt, Hf8, acc2, accD2, g6.trans gg8, n8, hD6.to fun u hu => gg8.h.at hu n6, ra2.mono gg8.f, el2⟩
          · have ej : j = es.length := by omega
            subst ej
            rw [List.drop_length] at el2
            cases el2
            exact .inl ⟨w1.stops H6 s56, rfl, hlt, Hf6, acc2, zs, g15.trans g6, n6, hD6, ra2, el⟩
        | false =>
          exact iteF ⟨rfl, hlt, Hf4, acc, accD, g2.trans gg4, n4, hD.to fun u hu => gg4.h.at hu n2, ra.mono gg4.f, el⟩
      · have ei : i = ds.length := by omega
        subst ei
        rw [List.drop_length] at el
        cases el
        have hxl := ra.length
        exact .inl ⟨w.stops H2 s12, h1 _ Hf2 H2 g2 ⟨Da, rfl, nD0, hD.own n2 (by rw [sizeLine_eq]; omega) ra⟩⟩
    · exact h1.elim
end
end DL
namespace DL
open PySem PySem.Spec PyProof.Rows L2
section
variable {X : Cx} {kx vx tg iter tg1 iter1 : Expr} {ifs ifs1 : List Expr} {scope : Scope} {own : List (Str × Nat)} {vs1 : List Nat} {pos : Pos} {wi wi1 : TI} {g g1 : TG} {tt tt1 : TT} {tk tv : TE} {rs : SD}
theorem pe_dcG (hc : X.calm = true) (hN : X.N.Nodup) (hi : PI X tg iter wi) (ok : BlkOk X.N X.env.scope scope own)
    (hg : ∀ (s : Shared) (H : Hp) (cb : Addr) (cl : List (Str × Addr)) (fp : List Addr), PG (X.blk s H scope (compEnvC scope cl cb X.env) fp) tg g)
    (ht : ∀ (s : Shared) (H : Hp) (cb : Addr) (cl : List (Str × Addr)) (fp : List Addr), PTs (X.blk s H scope (compEnvC scope cl cb X.env) fp) ifs tt)
    (hk : ∀ (s : Shared) (H : Hp) (cb : Addr) (cl : List (Str × Addr)) (fp : List Addr), PE (X.blk s H scope (compEnvC scope cl cb X.env) fp) kx tk)
    (he : ∀ (s : Shared) (H : Hp) (cb : Addr) (cl : List (Str × Addr)) (fp : List Addr), PE (X.blk s H scope (compEnvC scope cl cb X.env) fp) vx tv)
    (hst : ∀ (s : Shared) (H : Hp) (cb : Addr) (cl : List (Str × Addr)) (fp : List Addr), SetOk (X.blk s H scope (compEnvC scope cl cb X.env) fp) rs)
    (hs : ∀ x, foldedSetIterable iter X.env x = pure x) : PE X (.DictComp kx vx [⟨tg, iter, ifs, 0⟩] scope pos) (tDcG wi g tt tk tv rs (own.map (·.2))) := by
  refine ⟨fun pins s σ H Q I h => ?_⟩
  rw [arm_eval_DictComp]
  refine dcG_core hc hN I hi ok hg ht hk he hst hs h fun d c s' m H' I' q hn f => ⟨m, hn, fun h2 sb => ?_⟩
  obtain ⟨f0, f1, _, f3, f4, f5⟩ := f
  exact ⟨.ref d, H', I'.turned (t' := s'.toks) (fun b o hb e => (sb.2 b hb).trans e) f0 f1 f3 f4 f5, rfl, q⟩
theorem pe_dc2 (hc : X.calm = true) (hN : X.N.Nodup) (hi : PI X tg iter wi) (ok : BlkOk X.N X.env.scope scope own) (hv : ∀ i ∈ vs1, i ∈ own.map (·.2))
    (hg : ∀ (s : Shared) (H : Hp) (cb : Addr) (cl : List (Str × Addr)) (fp : List Addr), PG (X.blk s H scope (compEnvC scope cl cb X.env) fp) tg g)
    (ht : ∀ (s : Shared) (H : Hp) (cb : Addr) (cl : List (Str × Addr)) (fp : List Addr), PTs (X.blk s H scope (compEnvC scope cl cb X.env) fp) ifs tt)
    (hi1 : ∀ (s : Shared) (H : Hp) (cb : Addr) (cl : List (Str × Addr)) (fp : List Addr), PI (X.blk s H scope (compEnvC scope cl cb X.env) fp) tg1 iter1 wi1)
    (hg1 : ∀ (s : Shared) (H : Hp) (cb : Addr) (cl : List (Str × Addr)) (fp : List Addr), PG (X.blk s H scope (compEnvC scope cl cb X.env) fp) tg1 g1)
    (ht1 : ∀ (s : Shared) (H : Hp) (cb : Addr) (cl : List (Str × Addr)) (fp : List Addr), PTs (X.blk s H scope (compEnvC scope cl cb X.env) fp) ifs1 tt1)
    (hk : ∀ (s : Shared) (H : Hp) (cb : Addr) (cl : List (Str × Addr)) (fp : List Addr), PE (X.blk s H scope (compEnvC scope cl cb X.env) fp) kx tk)
    (he : ∀ (s : Shared) (H : Hp) (cb : Addr) (cl : List (Str × Addr)) (fp : List Addr), PE (X.blk s H scope (compEnvC scope cl cb X.env) fp) vx tv)
    (hst : ∀ (s : Shared) (H : Hp) (cb : Addr) (cl : List (Str × Addr)) (fp : List Addr), SetOk (X.blk s H scope (compEnvC scope cl cb X.env) fp) rs)
    (hs : ∀ x, foldedSetIterable iter X.env x = pure x) (hs1 : ∀ ev x, foldedSetIterable iter1 ev x = pure x) :
    PE X (.DictComp kx vx [⟨tg, iter, ifs, 0⟩, ⟨tg1, iter1, ifs1, 0⟩] scope pos) (tDc2 wi g tt wi1 g1 tt1 tk tv rs (own.map (·.2)) vs1) := by
  refine ⟨fun pins s σ H Q I h => ?_⟩
  rw [arm_eval_DictComp]
  refine dc2_core hc hN I hi ok hv hg ht hk he hst hs hi1 hg1 ht1 hs1 h fun d c s' m H' I' q hn f => ⟨m, hn, fun h2 sb => ?_⟩
  obtain ⟨f0, f1, _, f3, f4, f5⟩ := f
  exact ⟨.ref d, H', I'.turned (t' := s'.toks) (fun b o hb e => (sb.2 b hb).trans e) f0 f1 f3 f4 f5, rfl, q⟩
end
end DL
namespace DL
open PySem PySem.Spec PyProof.Rows L2
variable [Lots]
def KeysAt (K : PySem.W.Frag) (Hf : Hp) (xs : List NE) : Prop := ∀ y ∈ xs, ∃ kd, y.1 = keyOf kd ∧ keyT kd = true ∧ Rp K Hf (.ref y.2.1) kd
section
variable {X : Cx} {pins : List (Addr × Obj)} {σ : L2.St} {H Hf : Hp} {s : Shared} {a b : Addr} {xs : List NE} {A : Around} {E : Value → Shared → Prop}
theorem nd_of2 (hw : X.w = Lots.w) (I : Inv X pins σ H s) (sf : Fit Hf H) (ha : Rd H a (NDO Lots.w a xs)) (r : KeysAt X.K Hf xs) : s.heap.DictOfH (nestedKind X.prog X.w) a xs ∧ (a == sysModules) = false := by
  have x := ndo_back (rd_of I.hok ha)
  refine ⟨?_, x.sm⟩
  rw [← hw] at x
  refine x.to fun y hy => ?_
  obtain ⟨kd, e, kt, rk⟩ := r y hy
  rw [e]
  exact key_is I sf rk kt
theorem isN_at (I : Inv X pins σ H s) (ha : Rd H a (NDO Lots.w a xs)) : s.TypeIs (.ref a) "dict" ∧ (∀ b, Value.ref a = .ref b → ∃ ob, s.heap.get? b = some ob ∧ ob.dict = none) := by
  have x := ndo_back (rd_of I.hok ha)
  obtain ⟨o, es, ep, h1, h2, h3, h4⟩ := x.ex
  exact ⟨⟨o, h1, h2.1⟩, fun c q => by cases q; exact ⟨o, h1, h2.2.1⟩⟩
theorem n_setd {k : D} {zv : Value} {Q : Value → Shared → Prop} (hw : X.w = Lots.w) (hu : A.units + 65 < cLine) (I : Inv X pins σ H s) (sf : Fit Hf H) (ha : H a = some (NDO Lots.w a xs)) (hl : xs.length ≤ sizeLine) (r : KeysAt X.K Hf xs) (hb : Rp X.K Hf (.ref b) k) (kt : keyT k = true)
    (h1 : ∀ c u, atKey xs (keyOf k) = some (c, u) → ∀ s', Inv X pins σ H s' → Q u s') (h2 : atKey xs (keyOf k) = none → ∀ s', Inv X pins σ (upd H a (NDO Lots.w a (storedH xs (keyOf k) b zv))) s' → Q zv s') :
    wpAny (model X.prog X.w) A (call (.builtin "dict.setdefault") [.ref a, .ref b, zv]) Q E s := by
  obtain ⟨dd, hd⟩ := nd_of2 hw I sf (.inl ha) r
  refine call_setdefault_heap (hsz := hl) (room_n hu) (key_is I sf hb kt) hd dd (fun p hp => h1 p.1 p.2 hp _ (I.tok _)) fun hn h' dd' hs => ?_
  have x := ND0.of hd dd'
  obtain ⟨o, ho⟩ : ∃ o, h'.get? a = some o := let ⟨o, _, _, ho, _⟩ := x.ex; ⟨o, ho⟩
  refine h2 hn _ (d_write I (by rw [ha]; exact True.intro) hs ⟨o, ho⟩ (ndo_ok ?_))
  rw [← hw]
  exact x
end
def tNSetd (K : PySem.W.Frag) (td ty tx : TE) : TE := fun σ H Q => td σ H fun x H1 => ∃ a xs, x = .ref a ∧ H1 a = some (NDO Lots.w a xs) ∧ ty σ H1 fun y H2 => tx σ H2 fun z H3 => ∃ (b : Addr) (Hf : Hp) (ys : List NE) (k : D), y = .ref b ∧ H3 a = some (NDO Lots.w a ys) ∧ Fit Hf H3 ∧ ys.length ≤ sizeLine ∧
  KeysAt K Hf ys ∧ Rp K Hf (.ref b) k ∧ keyT k = true ∧ (∀ c u, atKey ys (keyOf k) = some (c, u) → ∃ v, RelV v u ∧ Q v H3) ∧ (atKey ys (keyOf k) = none → ∀ u, RelV z u → Q z (upd H3 a (NDO Lots.w a (storedH ys (keyOf k) b u))))
theorem pe_nsetd {X : Cx} {o e f : Expr} {td ty tx : TE} {apos cpos : Pos} (hw : X.w = Lots.w) (hu : X.A.units + 65 < cLine) (ho : PE X o td) (he : PE X e ty) (hf : PE X f tx) (m : M2 X o "setdefault" apos e f cpos) : PE X (.Call (.Attribute o "setdefault" apos) [e, f] [] cpos) (tNSetd X.K td ty tx) := by
  refine ⟨fun pins s σ H Q I h => ?_⟩
  refine wpAny_Call_method m.base m.few m.line PySem.F.plainAttrs_dict PySem.F.slot_dict_setdefault PySem.F.type_dict_setdefault (thn (ho.run pins s σ H _ I h) fun u s1 ⟨x, H1, I1, rx, a, xs, ex, d, q1⟩ => ?_)
  subst ex
  obtain rfl : u = Value.ref a := rx
  obtain ⟨t1, t2⟩ := isN_at I1 (.inl d)
  refine ⟨t1, t2, ?_⟩
  rw [m.trees]
  refine Calls.callWith_builtin rfl (Calls.evalArgs_plain (Calls.spliced_cons (thn (he.run pins s1 σ H1 _ I1 q1) fun iv s2 ⟨y, H2, I2, ry, q2⟩ =>
    Calls.spliced_cons (thn (hf.run pins s2 σ H2 _ I2 q2) fun fv s3 ⟨z, H3, I3, rz, b, Hf, ys, k, ey, ea, sf, hl, ka, rb, kt, q3, q4⟩ => Calls.spliced_nil ?_))))
  subst ey
  obtain rfl : iv = Value.ref b := ry
  exact n_setd hw (by show X.A.units + 65 < cLine; exact hu) I3 sf ea hl ka rb kt (fun c u hc s4 I4 => let ⟨v, rv, q⟩ := q3 c u hc; ⟨v, _, I4, rv, q⟩) fun hn s4 I4 => ⟨z, _, I4, rz, q4 hn fv rz⟩
def lessL (H : Hp) (S : List Addr) : Hp := fun b => if b ∈ S then none else H b
theorem lessL_in {H : Hp} {S : List Addr} {b : Addr} (h : b ∈ S) : lessL H S b = none := by unfold lessL; rw [if_pos h]
theorem lessL_out {H : Hp} {S : List Addr} {b : Addr} (h : b ∉ S) : lessL H S b = H b := by unfold lessL; rw [if_neg h]
theorem lessL_some {H : Hp} {S : List Addr} {b : Addr} {o : HO} (h : lessL H S b = some o) : b ∉ S ∧ H b = some o := by
  unfold lessL at h
  split at h
  · cases h
  · rename_i q; exact ⟨q, h⟩
theorem lessL_upd {H : Hp} {S : List Addr} {a : Addr} {o : HO} (h : a ∈ S) : lessL (upd H a o) S = lessL H S := by
  funext b
  unfold lessL
  split
  · rfl
  · rename_i q
    exact upd_ne fun e => q (by rw [e]; exact h)
section
variable {K : PySem.W.Frag} {Hf0 H0 Hf H Hf' H' : Hp} {σ : L2.St} {ρ : Env} {S : List Addr}
theorem same_lessL : L2.Same (lessL H S) H := fun b o e => (lessL_some e).2
theorem EnvR.noOwS (e : EnvR K Hf0 H0 Hf (lessL H S) σ ρ) {b : Addr} (hb : b ∈ S) (j : Nat) (d : D) (h : ρ[j]? = some (.ow d)) : σ[j]? ≠ some (some (.ref b)) := e.notOwn (lessL_in hb) j d h
theorem Fit.lessL (s : Fit Hf H) (h : ∀ b ∈ S, Hf b = none) : Fit Hf (DL.lessL H S) :=
  ⟨fun b x e m => by rw [lessL_out fun q => by rw [h b q] at e; cases e]; exact s.lk b x e m, fun b fs e => (s.mks b fs e).mono (L2.Same.refl _) (lessL_out fun q => by rw [h b q] at e; cases e), s.tab⟩
theorem EnvR.lessL (e : EnvR K Hf0 H0 Hf H σ ρ) (h0 : ∀ b ∈ S, H0 b = none) (hf : ∀ b ∈ S, Hf b = none) (no : ∀ b ∈ S, ∀ (j : Nat) (d : D), ρ[j]? = some (.ow d) → σ[j]? ≠ some (some (.ref b))) : EnvR K Hf0 H0 Hf (DL.lessL H S) σ ρ := by
  refine ⟨⟨e.grow.f, fun b o q => ?_, e.grow.new, e.grow.sub.lessL hf⟩, e.len, fun i s v h1 h2 => ?_, e.dis⟩
  · rcases e.grow.h b o q with z | ⟨m, u, z⟩
    · exact .inl (by rw [lessL_out fun w => by rw [h0 b w] at q; cases q]; exact z)
    · exact .inr ⟨m, u, by rw [lessL_out fun w => by rw [h0 b w] at q; cases q]; exact z⟩
  · have q := e.slot i s v h1 h2
    cases s with
    | un => trivial
    | va d => exact q
    | ow d =>
      obtain ⟨a, hx, r, z⟩ := q
      subst hx
      have hne : a ∉ S := fun w => no a w i d h1 h2
      exact ⟨a, rfl, r.side (L2.Same.refl _) rfl (lessL_out hne), z⟩
theorem grow_full (s : Fit Hf (DL.lessL H S)) : Grow Hf (DL.lessL H S) Hf H := ⟨L2.Same.refl _, .of same_lessL, fun _ _ e => .inl e, s.up same_lessL⟩
theorem EnvR.full (e : EnvR K Hf0 H0 Hf (DL.lessL H S) σ ρ) : EnvR K Hf0 H0 Hf H σ ρ := e.more (grow_full e.grow.sub)
theorem EnvR.forget {i : Nat} (e : EnvR K Hf0 H0 Hf H σ ρ) : EnvR K Hf0 H0 Hf H σ (ρ.set i .un) := by
  cases q : σ[i]? with
  | some v =>
    have := e.un (i := i) (v := v)
    rwa [show σ.set i v = σ from by
      obtain ⟨h1, h2⟩ := List.getElem?_eq_some_iff.mp q
      rw [← h2]
      exact List.set_getElem_self h1] at this
  | none =>
    have h1 : σ.length ≤ i := List.getElem?_eq_none_iff.mp q
    rw [List.set_eq_of_length_le (by rw [← e.len]; exact h1)]
    exact e
theorem EnvR.setOwn {i : Nat} {a : Addr} {d : D} (e : EnvR K Hf0 H0 Hf H σ ρ) (hi : σ[i]? = some (some (.ref a))) (o : OwnAt K Hf H a d) (n0 : H0 a = none)
    (nw : ∀ (j : Nat) (e : D), ρ[j]? = some (.ow e) → σ[j]? ≠ some (some (.ref a))) : EnvR K Hf0 H0 Hf H σ (ρ.set i (.ow d)) := by
  have := e.putOwn (i := i) o n0 nw
  rwa [show σ.set i (some (.ref a)) = σ from by
    obtain ⟨h1, h2⟩ := List.getElem?_eq_some_iff.mp hi
    rw [← h2]
    exact List.set_getElem_self h1] at this
end
def addG : List (D × List D) → D → D → List (D × List D)
  | [], k, d => [(k, [d])]
  | kv :: gs, k, d => if keyQ kv.1 k = true then (kv.1, kv.2 ++ [d]) :: gs else kv :: addG gs k d
inductive Gr (K : PySem.W.Frag) (Hf H : Hp) (S : List Addr) (a : Addr) : List NE → List (D × List D) → Prop
  | nil : Gr K Hf H S a [] []
  | cons {b l : Addr} {vs : List V} {ds : List D} {kd : D} {xs : List NE} {gs : List (D × List D)} : Rp K Hf (.ref b) kd → keyT kd = true → H l = some (.lst vs) → vs.length ≤ 1000000 → RpL K Hf vs ds → l ∈ S → l ≠ a → (∀ y ∈ xs, y.2.2 ≠ .ref l) → Gr K Hf H S a xs gs →
      Gr K Hf H S a ((keyOf kd, b, .ref l) :: xs) ((kd, ds) :: gs)
section
variable {K : PySem.W.Frag} {Hf H Hf' H' : Hp} {S S' : List Addr} {a : Addr}
theorem Gr.mono (sf : L2.Same Hf Hf') (sh : ∀ l ∈ S, l ≠ a → ∀ o, H l = some o → H' l = some o) (ss : ∀ l ∈ S, l ∈ S') : ∀ {xs : List NE} {gs : List (D × List D)}, Gr K Hf H S a xs gs → Gr K Hf' H' S' a xs gs
  | _, _, .nil => .nil
  | _, _, .cons h1 h2 h3 h4 h5 h6 h7 h8 r => .cons (h1.mono sf) h2 (sh _ h6 h7 _ h3) h4 (h5.mono sf) (ss _ h6) h7 h8 (Gr.mono sf sh ss r)
theorem Gr.keys : ∀ {xs : List NE} {gs : List (D × List D)}, Gr K Hf H S a xs gs → KeysAt K Hf xs
  | _, _, .nil => fun _ h => nomatch h
  | _, _, .cons h1 h2 h3 h4 h5 h6 h7 h8 r => fun y hy => by
    rcases List.mem_cons.mp hy with rfl | hy
    · exact ⟨_, rfl, h2, h1⟩
    · exact r.keys y hy
theorem Gr.length : ∀ {xs : List NE} {gs : List (D × List D)}, Gr K Hf H S a xs gs → xs.length = gs.length
  | _, _, .nil => rfl
  | _, _, .cons _ _ _ _ _ _ _ _ r => by simp [r.length]
theorem Gr.refs : ∀ {xs : List NE} {gs : List (D × List D)}, Gr K Hf H S a xs gs → ∀ y ∈ xs, ∃ l, y.2.2 = .ref l ∧ l ∈ S
  | _, _, .nil => fun _ h => nomatch h
  | _, _, .cons h1 h2 h3 h4 h5 h6 h7 h8 r => fun y hy => by
    rcases List.mem_cons.mp hy with rfl | hy
    · exact ⟨_, rfl, h6⟩
    · exact r.refs y hy
theorem Gr.look {k : D} (hk : keyN k = true) : ∀ {xs : List NE} {gs : List (D × List D)}, Gr K Hf H S a xs gs →
    (atKey xs (keyOf k) = none ∧ ∀ d, addG gs k d = gs ++ [(k, [d])]) ∨
    (∃ c l vs, atKey xs (keyOf k) = some (c, .ref l) ∧ H l = some (.lst vs) ∧ l ∈ S ∧ l ≠ a ∧ (∃ g ∈ gs, vs.length = g.2.length) ∧
      ∀ {Hf' H' : Hp} {v : V} {d : D}, L2.Same Hf Hf' → (∀ l' ∈ S, l' ≠ a → l' ≠ l → ∀ o, H l' = some o → H' l' = some o) → H' l = some (.lst (vs ++ [v])) → vs.length < 1000000 → Rp K Hf' v d → Gr K Hf' H' S a xs (addG gs k d))
  | _, _, .nil => .inl ⟨rfl, fun _ => rfl⟩
  | _, _, .cons (b := b) (l := l) (vs := vs) (ds := ds) (kd := kd) (xs := xs) (gs := gs) h1 h2 h3 h4 h5 h6 h7 h8 r => by
    have hkd : keyN kd = true := (keyT_n h2).1
    by_cases q : keyOf kd = keyOf k
    · have e1 : keyQ kd k = true := by rw [keyQ_dec hkd hk]; exact decide_eq_true q
      right
      refine ⟨b, l, vs, by simp [atKey, q], h3, h6, h7, ⟨_, .head _, h5.length⟩, fun {Hf' H' v d} sf sh hl hv rv => ?_⟩
      simp only [addG, e1, if_true]
      refine .cons (h1.mono sf) h2 hl (by simp; omega) ((h5.mono sf).append (.cons rv .nil)) h6 h7 h8 ?_
      have : ∀ {xs : List NE} {gs : List (D × List D)}, (∀ y ∈ xs, y.2.2 ≠ .ref l) → Gr K Hf H S a xs gs → Gr K Hf' H' S a xs gs := by
        intro xs gs hx g
        induction g with
        | nil => exact .nil
        | cons g1 g2 g3 g4 g5 g6 g7 g8 r ih =>
          have ne := hx _ (.head _)
          exact .cons (g1.mono sf) g2 (sh _ g6 g7 (fun e => ne (by rw [e])) _ g3) g4 (g5.mono sf) g6 g7 g8 (ih fun y hy => hx y (.tail _ hy))
      exact this h8 r
    · have e1 : keyQ kd k = false := by rw [keyQ_dec hkd hk]; exact decide_eq_false q
      have e2 : atKey ((keyOf kd, b, Value.ref l) :: xs) (keyOf k) = atKey xs (keyOf k) := by simp [atKey, List.find?_cons, q]
      rw [e2]
      rcases Gr.look hk r with ⟨n1, n2⟩ | ⟨c, l2, vs2, y1, y2, y3, y4, y5, y6⟩
      · exact .inl ⟨n1, fun d => by simp only [addG, e1, Bool.false_eq_true, if_false, n2 d, List.cons_append]⟩
      · refine .inr ⟨c, l2, vs2, y1, y2, y3, y4, let ⟨g, h1, h2⟩ := y5; ⟨g, .tail _ h1, h2⟩, fun {Hf' H' v d} sf sh hl hv rv => ?_⟩
        simp only [addG, e1, Bool.false_eq_true, if_false]
        have hne : l ≠ l2 := by
          obtain ⟨x, hx, ex⟩ : ∃ x ∈ xs, x.2 = (c, .ref l2) := by
            unfold atKey at y1
            cases z : xs.find? fun x => decide (x.1 = keyOf k) with
            | none => rw [z] at y1; cases y1
            | some x =>
              rw [z] at y1
              exact ⟨x, List.mem_of_find?_eq_some z, by simpa using y1⟩
          intro e
          refine h8 x hx ?_
          rw [ex, e]
        exact .cons (h1.mono sf) h2 (sh _ h6 h7 hne _ h3) h4 (h5.mono sf) h6 h7 h8 (y6 sf sh hl hv rv)
theorem Gr.snoc {b l : Addr} {k d : D} {v : V} (hb : Rp K Hf (.ref b) k) (kt : keyT k = true) (hl : H l = some (.lst [v])) (rv : Rp K Hf v d) (hS : l ∈ S) (ha : l ≠ a) : ∀ {xs : List NE} {gs : List (D × List D)}, Gr K Hf H S a xs gs → (∀ y ∈ xs, y.2.2 ≠ .ref l) → Gr K Hf H S a (xs ++ [(keyOf k, b, .ref l)]) (gs ++ [(k, [d])])
  | _, _, .nil, _ => .cons hb kt hl (by simp) (.cons rv .nil) hS ha (fun _ h => nomatch h) .nil
  | _, _, .cons h1 h2 h3 h4 h5 h6 h7 h8 r, hx => .cons h1 h2 h3 h4 h5 h6 h7 (fun y hy => by
      rcases List.mem_append.mp hy with z | z
      · exact h8 y z
      · rw [List.mem_singleton.mp z]
        intro e
        exact hx _ (.head _) e.symm) (Gr.snoc hb kt hl rv hS ha r fun y hy => hx y (.tail _ hy))
theorem Gr.give {Hf0 H0 : Hp} (h0 : ∀ b ∈ S, H0 b = none) : ∀ {xs : List NE} {gs : List (D × List D)} {Hf : Hp}, Gr K Hf H S a xs gs → Grow Hf0 H0 Hf H → (∀ y ∈ xs, ∀ l, y.2.2 = .ref l → Hf l = none) → Hf a = none →
    ∃ Hf', Grow Hf0 H0 Hf' H ∧ L2.Same Hf Hf' ∧ Hf' a = none ∧ RpN K Hf' xs (gs.map fun g => (g.1, .list g.2))
  | _, _, Hf, .nil, g, _, na => ⟨Hf, g, L2.Same.refl _, na, .nil⟩
  | _, _, Hf, .cons (b := b) (l := l) (vs := vs) h1 h2 h3 h4 h5 h6 h7 h8 r, g, nf, na => by
    have nl := nf _ (.head _) l rfl
    have g1 : Grow Hf0 H0 (upd Hf l (.lst vs)) H := g.give (h0 _ h6) nl h3
    have sm : L2.Same Hf (upd Hf l (.lst vs)) := same_upd nl
    obtain ⟨Hf', g2, s2, na2, rn⟩ := Gr.give h0 (r.mono sm (fun _ _ _ _ e => e) (fun _ h => h)) g1 (fun y hy l' e => by
      have : l' ≠ l := fun q => h8 y hy (by rw [e, q])
      rw [upd_ne this]
      exact nf y (.tail _ hy) l' e) (by rw [upd_ne (Ne.symm h7)]; exact na)
    refine ⟨Hf', g2, sm.trans s2, na2, ?_⟩
    exact .cons (v := .ref l) (h1.mono (sm.trans s2)) h2 rfl (.lst (s2 _ _ upd_same) (Nat.le_trans h4 (by rw [sizeLine_eq]; omega)) (h5.mono (sm.trans s2))) rn
end
end DL
namespace DL
open PySem PySem.Spec PyProof.Rows L2
variable [Lots]
def grpLoop (tg : Tg) (fk fv : Env → R D) : List (D × List D) → List D → Env → R (List (D × List D) × Env)
  | acc, [], ρ => .ok (acc, ρ)
  | acc, d :: ds, ρ => fTg tg d ρ >>= fun ρ1 => fk ρ1 >>= fun k => fv ρ1 >>= fun v => if keyT k && (decide (acc.length < 100000) && acc.all fun g => decide (g.2.length < 100000)) then grpLoop tg fk fv (addG acc k v) ds ρ1 else .bad
def fGrp (i : Nat) (fi : Env → R (List D)) (tg : Tg) (fk fv : Env → R D) : Env → R Out := fun ρ => match ρ[i]? with
  | some (.ow (.dict [])) => if tg.ixs.contains i then .bad else fi (ρ.set i .un) >>= fun ds => (grpLoop tg fk fv [] ds (ρ.set i .un)).calm >>= fun p => .ok (.nx (p.2.set i (.ow (tdD (p.1.map fun g => (g.1, .list g.2))))))
  | _ => .bad
theorem setMany_va : ∀ {is : List Nat} {ds : List D} {ρ : Env} {j : Nat} {d : D}, ds.length = is.length → j ∈ is → (setMany is ds ρ)[j]? ≠ some (.ow d)
  | i :: is, [], _, _, _, h, _ => by simp at h
  | i :: is, d' :: ds, ρ, j, d, h, hj => by
    intro e
    by_cases q : j ∈ is
    · exact setMany_va (ρ := ρ.set i (.va d')) (by simpa using h) q e
    · have : j = i := by
        rcases List.mem_cons.mp hj with z | z
        · exact z
        · exact absurd z q
      subst this
      have e2 := setMany_ow (is := is) (ds := ds) (ρ := ρ.set j (.va d')) e
      rw [List.getElem?_set] at e2
      simp at e2
theorem fTg_va {t : Tg} {d' : D} {ρ ρ1 : Env} {j : Nat} {d : D} (h : fTg t d' ρ = .ok ρ1) (hj : j ∈ t.ixs) : ρ1[j]? ≠ some (.ow d) := by
  unfold fTg at h
  split at h
  · cases h
    intro e
    have : j = _ := List.mem_singleton.mp hj
    subst this
    rw [List.getElem?_set] at e
    simp at e
  · split at h
    · cases h
      exact setMany_va ‹_› hj
    · cases h
  · split at h
    · cases h
      exact setMany_va ‹_› hj
    · cases h
  · cases h
section
variable {X : Cx} {C : Pm} {i : Nat} {x : Str} {tgE iter e1 e2 : Expr} {t : Tg} {fi : Env → R (List D)} {fk fv : Env → R D} {p1 a1 p3 c1 a2 c2 p4 pos : Pos}
theorem s_grp (hw : X.w = Lots.w) (hK : C.K = X.K) (hu : X.A.units + 65 < cLine) (hN : X.N[i]? = some x) (hv : Vis X.env.scope x) (hd : (x == ("__debug__" : Str)) = false) (hcd : (x == ("__classdict__" : Str)) = false)
    (hp : PassesOwn (model X.prog X.w) X.A X.env X.xe) (hc : X.calm = true) (hi : PI X tgE iter (tI C fi)) (hg : PG X tgE (tGt C t)) (hk : PE X e1 (tE C fk)) (hval : PE X e2 (tE C fv)) (hs : ∀ x, foldedSetIterable iter X.env x = pure x)
    (hs1 : isStar e1 = false) (hs2 : isStar e2 = false) (hl1 : (a1.endLine == c1.line) = true) (hl2 : (a2.endLine == c2.line) = true) :
    PS X (.For tgE iter [.Expr (.Call (.Attribute (.Call (.Attribute (.Name x p1) "setdefault" a1) [e1, .List [] p3] [] c1) "append" a2) [e2] [] c2) p4] [] pos) (tS C (fGrp i fi t fk fv)) := by
  have m : M2 X (.Name x p1) "setdefault" a1 e1 (.List [] p3) c1 := ⟨rfl, by rw [star_cons hs1]; rfl, hl1, by rw [star_cons hs1]; rfl⟩
  have hsd := pe_nsetd hw hu (pe_var hN hv hd hcd) hk (pe_lst (pos := p3) (pa_nil (X := X))) m
  have happ : PE X (.Call (.Attribute (.Call (.Attribute (.Name x p1) "setdefault" a1) [e1, .List [] p3] [] c1) "append" a2) [e2] [] c2) (tBM X.K "list" rAppend (tNSetd X.K (tVar i) (tE C fk) (tLst tNil)) (tCons (tE C fv) tNil)) :=
    pe_bm PySem.F.plainAttrs_list PySem.F.slot_list_append PySem.F.type_list_append mt_append hsd (pa_cons hval pa_nil (star_cons hs2)) rfl (few_one hs2) hl2 (star_cons hs2) rfl
  have hfor := ps_for (pos := pos) hp hc hi hg (pss_one (ps_expr (pos := p4) happ rfl)) hs
  refine ⟨fun pins s σ H Dn I hq => ?_⟩
  obtain ⟨Hf0, H0, Hf, ρ, env, h⟩ := hq
  unfold fGrp at h
  split at h
  · rename_i hρ
    split at h
    · exact h.elim
    · rename_i hti
      have hti : i ∉ t.ixs := by simpa using hti
      obtain ⟨v0, hσ, a, e0, ow, n0⟩ := slot_there env hρ
      subst e0
      obtain ⟨nf, ha⟩ : Hf a = none ∧ H a = some (.dK []) := by
        rcases ow with ⟨kvs, q1, q2, q3, q4⟩ | ⟨nds, xs, q, _⟩
        · cases q4; exact ⟨q1, q2⟩
        · cases q
      have I' := inv_nd I ha
      have no0 : ∀ (j : Nat) (d : D), (ρ.set i .un)[j]? = some (.ow d) → σ[j]? ≠ some (some (.ref a)) := fun j d q1 q2 => by
        by_cases z : i = j
        · subst z
          have l1 : i < ρ.length := (List.getElem?_eq_some_iff.mp hρ).1
          rw [List.getElem?_set_self l1] at q1
          cases q1
        · rw [List.getElem?_set_ne z] at q1
          exact z (env.dis i j _ d a hρ q1 hσ q2)
      have envL : EnvR C.K Hf0 H0 Hf (lessL (upd H a (NDO Lots.w a [])) [a]) σ (ρ.set i .un) := by
        rw [lessL_upd (by simp)]
        exact env.forget.lessL (fun b hb => by rw [List.mem_singleton.mp hb]; exact n0) (fun b hb => by rw [List.mem_singleton.mp hb]; exact nf) fun b hb j d q1 => by
          rw [List.mem_singleton.mp hb]; exact no0 j d q1
      refine hfor.run pins s σ _ Dn I' ⟨Hf0, H0, Hf, ρ.set i .un, envL.full, ?_⟩
      have nf' : Hf a = none := nf
      refine SOut.bind envL.full h fun ds J Hf1 H1 _ g1 w h1 => ?_
      cases eg : grpLoop t fk fv [] ds (ρ.set i .un) with
      | exc c => rw [eg] at h1; exact h1.elim
      | bad => rw [eg] at h1; exact h1.elim
      | ok pT =>
        obtain ⟨tot, ρT⟩ := pT
        rw [eg] at h1
        have h1 : SOut C Hf0 H0 Hf1 Dn (.ok (.nx (ρT.set i (.ow (tdD (tot.map fun g => (g.1, .list g.2))))))) := h1
        have ha1 : H1 a = some (NDO Lots.w a []) := g1.h.at upd_same nf
        have nf1 : Hf1 a = none := g1.off nf upd_same (fun ys => by unfold NDO; simp)
        have env1 : EnvR C.K Hf0 H0 Hf1 (lessL H1 [a]) σ (ρ.set i .un) := (envL.full.more g1).lessL (fun b hb => by rw [List.mem_singleton.mp hb]; exact n0) (fun b hb => by rw [List.mem_singleton.mp hb]; exact nf1) fun b hb j d q1 => by
          rw [List.mem_singleton.mp hb]; exact no0 j d q1
        refine ⟨fun k m σ2 H2 => m = ds.length - k ∧ k ≤ ds.length ∧ ∃ (Hf2 : Hp) (ρ2 : Env) (S : List Addr) (xs : List NE) (acc : List (D × List D)), Same Hf1 Hf2 ∧ EnvR C.K Hf0 H0 Hf2 (lessL H2 S) σ2 ρ2 ∧ σ2[i]? = some (some (.ref a)) ∧ a ∈ S ∧ (∀ b ∈ S, H0 b = none ∧ Hf2 b = none ∧ ∃ u, (∀ ys, u ≠ .tup ys) ∧ H2 b = some u) ∧
          H2 a = some (NDO Lots.w a xs) ∧ xs.length ≤ 900000 ∧ Gr C.K Hf2 H2 S a xs acc ∧ grpLoop t fk fv acc (ds.drop k) ρ2 = .ok (tot, ρT),
          ⟨ds.length, by simp, Nat.zero_le _, Hf1, ρ.set i .un, [a], [], [], Same.refl _, env1, hσ, by simp, fun b hb => by rw [List.mem_singleton.mp hb]; exact ⟨n0, nf1, _, fun ys => by unfold NDO; simp, ha1⟩, ha1, Nat.zero_le _, .nil, eg⟩, ?_⟩
        rintro k m σ2 H2 ⟨rfl, hkl, Hf2, ρ2, S, xs, acc, s2, e2', hσ2, aS, hS, hA, hxl, gr, el⟩
        have f2 : EnvR C.K Hf0 H0 Hf2 H2 σ2 ρ2 := e2'.full
        by_cases hlt : k < ds.length
        · refine .inr ⟨w.goes k H2 hlt (Lk.back s2 f2.grow.sub.lk), fun σ3 H3 => k + 1 ≤ ds.length ∧ ∃ (Hf2 : Hp) (ρ2 : Env) (S : List Addr) (xs : List NE) (acc : List (D × List D)), Same Hf1 Hf2 ∧ EnvR C.K Hf0 H0 Hf2 (lessL H3 S) σ3 ρ2 ∧ σ3[i]? = some (some (.ref a)) ∧ a ∈ S ∧ (∀ b ∈ S, H0 b = none ∧ Hf2 b = none ∧ ∃ u, (∀ ys, u ≠ .tup ys) ∧ H3 b = some u) ∧
            H3 a = some (NDO Lots.w a xs) ∧ xs.length ≤ 900000 ∧ Gr C.K Hf2 H3 S a xs acc ∧ grpLoop t fk fv acc (ds.drop (k + 1)) ρ2 = .ok (tot, ρT), fun σ3 H3 p => ⟨ds.length - (k + 1), by omega, rfl, p⟩, fun y H3 hy => ?_⟩
          obtain ⟨Hg, g3, rx⟩ := w.yields k Hf2 H2 H3 y ds[k] (List.getElem?_eq_getElem hlt) s2 f2.grow.sub hy
          rw [List.drop_eq_getElem_cons hlt] at el
          unfold grpLoop at el
          obtain ⟨ρ1, b1, el⟩ := bind_ok el
          obtain ⟨kd, b2, el⟩ := bind_ok el
          obtain ⟨vd, b3, el⟩ := bind_ok el
          split at el
          · rename_i hc'
            simp only [Bool.and_eq_true, decide_eq_true_eq, List.all_eq_true] at hc'
            obtain ⟨kt, hal, hgl⟩ := hc'
            refine ⟨Hf0, H0, Hg, ρ2, ds[k], f2.more g3, rx, ρ1, b1, fun σ3 e3 wp => ?_⟩
            have hσ3 : σ3[i]? = some (some (.ref a)) := by
              have z := wp t.ixs fun j hj => hj
              have zi : (L2.wipe σ3 t.ixs)[i]? = (L2.wipe σ2 t.ixs)[i]? := by rw [z]
              rw [wipe_get, wipe_get, if_neg hti, if_neg hti] at zi
              rw [zi]; exact hσ2
            have noS : ∀ b ∈ S, ∀ (j : Nat) (d : D), ρ1[j]? = some (.ow d) → σ3[j]? ≠ some (some (.ref b)) := fun b hb j d q1 q2 => by
              have q3 := fTg_ow b1 q1
              have hj : j ∉ t.ixs := fun hj => fTg_va b1 hj q1
              have z := wp t.ixs fun j hj => hj
              have zi : (L2.wipe σ3 t.ixs)[j]? = (L2.wipe σ2 t.ixs)[j]? := by rw [z]
              rw [wipe_get, wipe_get, if_neg hj, if_neg hj, q2] at zi
              exact e2'.noOwS hb j d q3 zi.symm
            have gSt : ∀ {Hfx Hx : Hp}, Grow Hf2 H2 Hfx Hx → ∀ b ∈ S, H0 b = none ∧ Hfx b = none ∧ ∃ u, (∀ ys, u ≠ .tup ys) ∧ Hx b = some u := fun g b hb => by
              obtain ⟨q1, q2, u, q3, q4⟩ := hS b hb
              exact ⟨q1, g.off q2 q4 q3, u, q3, g.h.at q4 q2⟩
            have hA3 : H3 a = some (NDO Lots.w a xs) := g3.h.at hA (hS a aS).2.1
            refine ⟨.ref a, hσ3, a, xs, rfl, hA3, Hf0, H0, Hg, ρ1, e3, ?_⟩
            rw [b2]
            intro kv Hf4 H4 g4 rk
            refine ⟨Nat.zero_le _, fun p np => ?_⟩
            have g34 : Grow Hf2 H2 Hf4 H4 := g3.trans g4
            have st4 := gSt g34
            have hpS : p ∉ S := fun z => by obtain ⟨_, _, u, _, q⟩ := st4 p z; rw [np] at q; cases q
            have hpa : p ≠ a := fun z => hpS (by rw [z]; exact aS)
            have hA4 : H4 a = some (NDO Lots.w a xs) := g34.h.at hA (hS a aS).2.1
            have hA5 : upd H4 p (.lst []) a = some (NDO Lots.w a xs) := by rw [upd_ne (Ne.symm hpa)]; exact hA4
            have e4 : EnvR C.K Hf0 H0 Hf4 H4 σ3 ρ1 := e3.more g4
            have nfp : Hf4 p = none := Same.free g4.sub np
            have n0p : H0 p = none := Same.free e4.grow.h np
            have gsd : Grow Hf4 H4 Hf4 (upd H4 p (.lst [])) := Grow.side g4.sub np
            obtain ⟨_, _, ks, ek⟩ := keyT_n kt
            obtain ⟨b, rfl, rkb⟩ : ∃ b, kv = .ref b ∧ Rp C.K Hf4 (.ref b) kd := by
              rw [ek] at rk ⊢
              exact Rp1.tupRp (H := H4) (.inl rk)
            have gr4 : Gr C.K Hf4 H4 S a xs acc := gr.mono g34.f (fun l hl _ o ho => g34.h.at ho (hS l hl).2.1) (fun _ h => h)
            have gr5 : Gr C.K Hf4 (upd H4 p (.lst [])) S a xs acc := gr4.mono (L2.Same.refl _) (fun l hl _ o ho => by rw [upd_ne fun z => hpS (by rw [← z]; exact hl)]; exact ho) (fun _ h => h)
            have hlen : xs.length = acc.length := gr.length
            refine ⟨b, Hf4, xs, kd, rfl, hA5, gsd.sub, by rw [sizeLine_eq]; omega, by rw [← hK]; exact gr4.keys, by rw [← hK]; exact rkb, kt, fun c u hcu => ?_, fun hno u ru => ?_⟩
            · rcases gr5.look (keyT_n kt).1 with ⟨n1, _⟩ | ⟨c2, l, vs, y1, y2, y3, y4, ⟨g0, hg0, y5⟩, y6⟩
              · rw [n1] at hcu; cases hcu
              · rw [y1] at hcu
                cases hcu
                have hvl : vs.length < 100000 := by rw [y5]; exact hgl g0 hg0
                have env5 : EnvR C.K Hf0 H0 Hf4 (upd H4 p (.lst [])) σ3 ρ1 := e4.more gsd
                refine ⟨.ref l, rfl, .inl ⟨rfl, vs, SqL.of y2⟩, Hf0, H0, Hf4, ρ1, env5, ?_⟩
                rw [b3]
                intro y Hf6 H6 g6 ry
                have gT : Grow Hf2 H2 Hf6 H6 := (g34.trans gsd).trans g6
                have st6 := gSt gT
                have hl6 : H6 l = some (.lst vs) := g6.h.at y2 (st4 l y3).2.1
                refine ⟨l, vs, y, rfl, rfl, hl6, by rw [sizeLine_eq]; omega, hlt, Hf6, ρ1, S, xs, addG acc kd vd, s2.trans gT.f, ?_, hσ3, aS, fun b hb => ?_, ?_, hxl, ?_, el⟩
                · rw [lessL_upd y3]
                  exact (env5.more g6).lessL (fun b hb => (st6 b hb).1) (fun b hb => (st6 b hb).2.1) noS
                · obtain ⟨q1, q2, u, q3, q4⟩ := st6 b hb
                  by_cases z : b = l
                  · subst z; exact ⟨q1, q2, _, fun ys => by simp, upd_same⟩
                  · exact ⟨q1, q2, u, q3, by rw [upd_ne z]; exact q4⟩
                · rw [upd_ne (Ne.symm y4)]
                  exact gT.h.at hA (hS a aS).2.1
                · exact y6 g6.f (fun l' hl' _ hne o ho => by rw [upd_ne hne]; exact g6.h.at ho (st4 l' hl').2.1) upd_same (by omega) ry
            · obtain rfl : u = Value.ref p := ru
              rcases gr4.look (keyT_n kt).1 with ⟨_, n2⟩ | ⟨c2, l, vs, y1, _⟩
              · have noS' : ∀ b ∈ p :: S, ∀ (j : Nat) (d : D), ρ1[j]? = some (.ow d) → σ3[j]? ≠ some (some (.ref b)) := fun b hb => by
                  rcases List.mem_cons.mp hb with rfl | hb
                  · exact e4.notOwn np
                  · exact noS b hb
                let H5 : Hp := upd (upd H4 p (.lst [])) a (NDO Lots.w a (storedH xs (keyOf kd) b (.ref p)))
                have env5L : EnvR C.K Hf0 H0 Hf4 (lessL H5 (p :: S)) σ3 ρ1 := by
                  show EnvR C.K Hf0 H0 Hf4 (lessL (upd (upd H4 p (.lst [])) a (NDO Lots.w a (storedH xs (keyOf kd) b (.ref p)))) (p :: S)) σ3 ρ1
                  rw [lessL_upd (.tail _ aS), lessL_upd (.head _)]
                  refine e4.lessL (fun b hb => ?_) (fun b hb => ?_) noS'
                  · rcases List.mem_cons.mp hb with rfl | hb
                    · exact n0p
                    · exact (st4 b hb).1
                  · rcases List.mem_cons.mp hb with rfl | hb
                    · exact nfp
                    · exact (st4 b hb).2.1
                have env5 : EnvR C.K Hf0 H0 Hf4 H5 σ3 ρ1 := env5L.full
                have hp5 : H5 p = some (.lst []) := by
                  show upd (upd H4 p (.lst [])) a _ p = _
                  rw [upd_ne hpa]; exact upd_same
                refine ⟨.inl ⟨rfl, [], SqL.of hp5⟩, Hf0, H0, Hf4, ρ1, env5, ?_⟩
                rw [b3]
                intro y Hf6 H6 g6 ry
                have hp6 : H6 p = some (.lst []) := g6.h.at hp5 nfp
                have at5 : ∀ b ∈ S, b ≠ a → ∀ o, H4 b = some o → H5 b = some o := fun b hb hba o ho => by
                  show upd (upd H4 p (.lst [])) a _ b = _
                  rw [upd_ne hba, upd_ne fun z => hpS (by rw [← z]; exact hb)]; exact ho
                have hA6 : H6 a = some (NDO Lots.w a (storedH xs (keyOf kd) b (.ref p))) := g6.h.at upd_same (st4 a aS).2.1
                have off6 : ∀ c ∈ S, Hf6 c = none ∧ ∃ u, (∀ ys, u ≠ .tup ys) ∧ H6 c = some u := fun c hb => by
                  obtain ⟨_, q2, u, q3, q4⟩ := st4 c hb
                  by_cases z : c = a
                  · subst z
                    have nt : ∀ ys, NDO Lots.w c (storedH xs (keyOf kd) b (.ref p)) ≠ HO.tup ys := fun ys => by unfold NDO; simp
                    exact ⟨g6.off q2 upd_same nt, _, nt, hA6⟩
                  · exact ⟨g6.off q2 (at5 c hb z u q4) q3, u, q3, g6.h.at (at5 c hb z u q4) q2⟩
                have offp : Hf6 p = none := g6.off nfp hp5 (fun ys => by simp)
                have sf26 : L2.Same Hf1 Hf6 := (s2.trans g34.f).trans g6.f
                refine ⟨p, [], y, rfl, rfl, hp6, by rw [sizeLine_eq]; simp, hlt, Hf6, ρ1, p :: S, storedH xs (keyOf kd) b (.ref p), addG acc kd vd, sf26, ?_, hσ3, .tail _ aS, fun b hb => ?_, ?_, ?_, ?_, el⟩
                · rw [lessL_upd (.head _)]
                  refine (env5.more g6).lessL (fun b hb => ?_) (fun b hb => ?_) noS'
                  · rcases List.mem_cons.mp hb with rfl | hb
                    · exact n0p
                    · exact (st4 b hb).1
                  · rcases List.mem_cons.mp hb with rfl | hb
                    · exact offp
                    · exact (off6 b hb).1
                · rcases List.mem_cons.mp hb with rfl | hb
                  · exact ⟨n0p, offp, _, fun ys => by simp, upd_same⟩
                  · obtain ⟨q1, u, q2, q3⟩ := off6 b hb
                    exact ⟨(st4 b hb).1, q1, u, q2, by rw [upd_ne fun z => hpS (by rw [← z]; exact hb)]; exact q3⟩
                · rw [upd_ne (Ne.symm hpa)]; exact hA6
                · rw [storedH_new hno, List.length_append]
                  simp
                  omega
                · rw [storedH_new hno, n2 vd]
                  have gr6 : Gr C.K Hf6 (upd H6 p (.lst ([] ++ [y]))) (p :: S) a xs acc := gr4.mono g6.f (fun l hl hla o ho => by
                    rw [upd_ne fun z => hpS (by rw [← z]; exact hl)]
                    exact g6.h.at (at5 l hl hla o ho) (st4 l hl).2.1) (fun _ h => .tail _ h)
                  exact gr6.snoc (rkb.mono g6.f) kt upd_same ry (.head _) hpa fun z hz e => by
                    obtain ⟨l, q1, q2⟩ := gr4.refs z hz
                    rw [q1] at e
                    cases e
                    exact hpS q2
              · rw [y1] at hno; cases hno
          · cases el
        · have ek : k = ds.length := by omega
          subst ek
          rw [List.drop_length] at el
          unfold grpLoop at el
          cases el
          obtain ⟨HfT, gT, sT, naT, rn⟩ := gr.give (Hf0 := Hf2) (H0 := lessL H2 S) (fun b hb => lessL_in hb) (grow_full e2'.grow.sub) (fun y hy l e => by
            obtain ⟨l', q1, q2⟩ := gr.refs y hy
            rw [q1] at e
            cases e
            exact (hS _ q2).2.1) (hS a aS).2.1
          exact .inl ⟨w.stops H2 (Lk.back s2 f2.grow.sub.lk), h1 HfT H2 σ2 (s2.trans sT) ((e2'.more gT).setOwn hσ2 (.inr ⟨_, xs, rfl, naT, hA, by rw [sizeLine_eq]; omega, rn⟩) n0 fun j d q1 => e2'.noOwS aS j d q1)⟩
  · exact h.elim
end
end DL
namespace DL
open PySem PySem.Spec PyProof.Rows L2
variable [Lots]
structure Tbl where
  fn : Str → Option (Nat × (List D → R D))
  con : Str → Option D
  exc : Str → Bool
  fo : Str → Option (Nat × (List D → R D))
  mt : Str → Option (Nat × (List D → R D))
  knM : Option (List D → R D)
structure Sc where
  sc : Scope
  wr : List Str
  fr : Bool
  lam : Bool
def nIx (N : List Str) (x : Str) : Option Nat := N.findIdx? (· == x)
def okN (x : Str) : Bool := !(x == ("__debug__" : Str)) && !(x == ("__classdict__" : Str)) && !(x == ("__name__" : Str))
def isVis (sc : Scope) (x : Str) : Bool := match sc.names.lookup x with
  | some .local => true
  | some .cell => true
  | some .free => true
  | _ => false
def isLoc (sc : Scope) (x : Str) : Bool := match sc.names.lookup x with
  | some .local => true
  | some .cell => true
  | _ => false
def isGl (sc : Scope) (x : Str) : Bool := match sc.names.lookup x with
  | some .globalImplicit => true
  | _ => false
def relab (sc scope : Scope) : Scope := { scope with names := scope.names.map fun (n, k) => if (k == .free && sc.kind == .function && sc.names.lookup n == some .cell) then (n, .cell) else (n, k) }
def ownOf (N : List Str) (scope : Scope) : List (Str × Nat) := scope.names.filterMap fun y => match y.2 with
  | .local => (nIx N y.1).map fun i => (y.1, i)
  | .cell => (nIx N y.1).map fun i => (y.1, i)
  | _ => none
structure Ev where
  E : Sc → Expr → Env → R D
  P : Sc → Expr → Env → R D
  F : Sc → Expr → Option (Env → R D)
  B : Sc → Expr → Env → R Bool
  I : Sc → Expr → Expr → Env → R (List D)
def Ev.none : Ev := ⟨fun _ _ _ => .bad, fun _ _ _ => .bad, fun _ _ => Option.none, fun _ _ _ => .bad, fun _ _ _ _ => .bad⟩
def bad1 {α : Type} : Env → R α := fun _ => .bad
def argsE (v : Ev) (s : Sc) : List Expr → Env → R (List D)
  | [] => fun _ => .ok []
  | e :: es => if isStar e then bad1 else fCons (v.E s e) (argsE v s es)
def argsP (v : Ev) (s : Sc) : List Expr → Env → R (List D)
  | [] => fun _ => .ok []
  | e :: es => if isStar e then bad1 else fCons (v.P s e) (argsP v s es)
def andL (v : Ev) (s : Sc) : List Expr → Env → R D
  | [] => bad1
  | [a] => v.E s a
  | a :: b :: r => fAnd (v.P s a) (andL v s (b :: r))
def orL (v : Ev) (s : Sc) : List Expr → Env → R D
  | [] => bad1
  | [a] => v.E s a
  | a :: b :: r => fOr (v.P s a) (orL v s (b :: r))
def andT (v : Ev) (s : Sc) : List Expr → Env → R Bool
  | [] => bad1
  | [a] => v.B s a
  | a :: b :: r => tstAnd (v.B s a) (andT v s (b :: r))
def orT (v : Ev) (s : Sc) : List Expr → Env → R Bool
  | [] => bad1
  | [a] => v.B s a
  | a :: b :: r => tstOr (v.B s a) (orT v s (b :: r))
def partE (v : Ev) (s : Sc) : Option Expr → Env → R (Option Int)
  | none => fun _ => .ok none
  | some e => fun ρ => v.P s e ρ >>= dPart
section
variable (T : Tbl) (N : List Str)
def stIx (s : Sc) (x : Str) : Option Nat := if isLoc s.sc x && s.wr.contains x then nIx N x else none
def nmsIx (s : Sc) : List Expr → Option (List Nat)
  | [] => some []
  | .Name x _ :: es => (stIx N s x).bind fun i => (nmsIx s es).map (i :: ·)
  | _ :: _ => none
def tgOf (s : Sc) : Expr → Option Tg
  | .Name x _ => (stIx N s x).map .one
  | .Tuple es _ _ => (nmsIx N s es).map .many
  | _ => none
def ifsT (v : Ev) (s : Sc) : List Expr → Option (Env → R Bool)
  | [] => some fun _ => .ok true
  | [c] => some (v.B s c)
  | _ => none
def isTupE : Expr → Bool
  | .Tuple .. => true
  | _ => false
def isSetE : Expr → Bool
  | .Set .. => true
  | _ => false
def glF (s : Sc) (f : Str) : Bool := isGl s.sc f && okN f && (T.fn f).isNone
def setArg (s : Sc) : Expr → Option Expr
  | .Call (.Name g _) [b] [] _ => if glF T s g && g == ("set" : Str) && !isStar b then some b else none
  | _ => none
def rngArg (s : Sc) : Expr → Option Expr
  | .Call (.Name g _) [b] [] _ => if glF T s g && g == ("range" : Str) && !isStar b then some b else none
  | _ => none
def itmArg : Expr → Option Expr
  | .Call (.Attribute o m ap) [] [] cp => if m == ("items" : Str) && baseOk o && (ap.endLine == cp.line) then some o else none
  | _ => none
def stepF (v : Ev) (s : Sc) : Expr → Option (Env → R D)
  | .Dict [] [] _ => some fun _ => .ok (.dict [])
  | .Dict [some k] [x] _ => some fun ρ => v.E s k ρ >>= fun dk => v.E s x ρ >>= fun dv => dDict1 dk dv
  | .List es _ => some fun ρ => argsE v s es ρ >>= fun ds => okLen ds .list
  | .ListComp elt [⟨tg, iter, ifs, asy⟩] scope _ =>
    if decide (asy = 0) && blkC N s.sc scope (ownOf N scope) && !isSetE iter then
      (tgOf N ⟨relab s.sc scope, (ownOf N scope).map (·.1), false, false⟩ tg).bind fun t => (ifsT v ⟨relab s.sc scope, (ownOf N scope).map (·.1), false, false⟩ ifs).bind fun ft =>
        if t.ixs.all (fun i => ((ownOf N scope).map (·.2)).contains i) then
          some (fLc (v.I s tg iter) t ft (v.E ⟨relab s.sc scope, (ownOf N scope).map (·.1), false, false⟩ elt) ((ownOf N scope).map (·.2)))
        else none
    else none
  | .ListComp elt [⟨tg, iter, ifs, asy⟩, ⟨tg1, iter1, ifs1, asy1⟩] scope _ =>
    if decide (asy = 0) && decide (asy1 = 0) && blkC N s.sc scope (ownOf N scope) && !isSetE iter && !isSetE iter1 then
      (tgOf N ⟨relab s.sc scope, (ownOf N scope).map (·.1), false, false⟩ tg).bind fun t => (tgOf N ⟨relab s.sc scope, (ownOf N scope).map (·.1), false, false⟩ tg1).bind fun t1 =>
        (ifsT v ⟨relab s.sc scope, (ownOf N scope).map (·.1), false, false⟩ ifs).bind fun ft => (ifsT v ⟨relab s.sc scope, (ownOf N scope).map (·.1), false, false⟩ ifs1).bind fun ft1 =>
        if t.ixs.all (fun i => ((ownOf N scope).map (·.2)).contains i) && t1.ixs.all (fun i => ((ownOf N scope).map (·.2)).contains i) then
          some (fLc2 (v.I s tg iter) t ft (v.I ⟨relab s.sc scope, (ownOf N scope).map (·.1), false, false⟩ tg1 iter1) t1 ft1 (v.E ⟨relab s.sc scope, (ownOf N scope).map (·.1), false, false⟩ elt) ((ownOf N scope).map (·.2)) t1.ixs)
        else none
    else none
  | .DictComp kx vx [⟨tg, iter, ifs, asy⟩] scope _ =>
    if decide (asy = 0) && blkC N s.sc scope (ownOf N scope) && !isSetE iter then
      (tgOf N ⟨relab s.sc scope, (ownOf N scope).map (·.1), false, false⟩ tg).bind fun t => (ifsT v ⟨relab s.sc scope, (ownOf N scope).map (·.1), false, false⟩ ifs).bind fun ft =>
        if t.ixs.all (fun i => ((ownOf N scope).map (·.2)).contains i) then
          some (if isTupE kx then fDcN (v.I s tg iter) t ft (v.E ⟨relab s.sc scope, (ownOf N scope).map (·.1), false, false⟩ kx) (v.E ⟨relab s.sc scope, (ownOf N scope).map (·.1), false, false⟩ vx) ((ownOf N scope).map (·.2))
            else fDc (v.I s tg iter) t ft (v.E ⟨relab s.sc scope, (ownOf N scope).map (·.1), false, false⟩ kx) (v.E ⟨relab s.sc scope, (ownOf N scope).map (·.1), false, false⟩ vx) ((ownOf N scope).map (·.2)))
        else none
    else none
  | .DictComp kx vx [⟨tg, iter, ifs, asy⟩, ⟨tg1, iter1, ifs1, asy1⟩] scope _ =>
    if decide (asy = 0) && decide (asy1 = 0) && blkC N s.sc scope (ownOf N scope) && !isSetE iter && !isSetE iter1 then
      (tgOf N ⟨relab s.sc scope, (ownOf N scope).map (·.1), false, false⟩ tg).bind fun t => (tgOf N ⟨relab s.sc scope, (ownOf N scope).map (·.1), false, false⟩ tg1).bind fun t1 =>
        (ifsT v ⟨relab s.sc scope, (ownOf N scope).map (·.1), false, false⟩ ifs).bind fun ft => (ifsT v ⟨relab s.sc scope, (ownOf N scope).map (·.1), false, false⟩ ifs1).bind fun ft1 =>
        if t.ixs.all (fun i => ((ownOf N scope).map (·.2)).contains i) && t1.ixs.all (fun i => ((ownOf N scope).map (·.2)).contains i) then
          some (fDc2 (v.I s tg iter) t ft (v.I ⟨relab s.sc scope, (ownOf N scope).map (·.1), false, false⟩ tg1 iter1) t1 ft1 (v.E ⟨relab s.sc scope, (ownOf N scope).map (·.1), false, false⟩ kx) (v.E ⟨relab s.sc scope, (ownOf N scope).map (·.1), false, false⟩ vx) ((ownOf N scope).map (·.2)) t1.ixs)
        else none
    else none
  | .Call (.Name f _) [a] [] _ =>
    if glF T s f && f == ("list" : Str) && !isStar a then (match rngArg T s a with
      | some b => some fun ρ => (v.P s b ρ >>= fun d => dRng1 [d]) >>= fun xs => .ok (.list xs)
      | none => some fun ρ => argsP v s [a] ρ >>= dList)
    else if glF T s f && f == ("dict" : Str) && !isStar a then some fun ρ => argsP v s [a] ρ >>= dDict
    else if glF T s f && f == ("sorted" : Str) && !isStar a then (match setArg T s a with
      | some b => some fun ρ => argsP v s [b] ρ >>= dSortSet
      | none => (match itmArg a with
        | some o => some fun ρ => v.E s o ρ >>= dSortItems
        | none => some fun ρ => argsP v s [a] ρ >>= dSorted))
    else none
  | .Call (.Name f _) (e :: es) [] _ =>
    if isGl s.sc f && okN f then
      match T.fo f with
      | some (n, F) => if (e :: es).all (fun e => !isStar e) then some fun ρ => argsE v s (e :: es) ρ >>= ari n F else none
      | none => none
    else none
  | _ => none
def blt (f : Str) : Option (List D → R D) :=
  if f == ("len" : Str) then some dLen else if f == ("all" : Str) then some dAll else if f == ("any" : Str) then some dAny else if f == ("abs" : Str) then some dAbs
  else if f == ("max" : Str) then some dMax else if f == ("min" : Str) then some dMin else if f == ("tuple" : Str) then some dTuple else if f == ("sum" : Str) then some dSum else none
def isiOf (t : Str) : Option String := isiTys.find? fun n => t == Str.ofString n
def stepE0 (v : Ev) (s : Sc) : Expr → Env → R D
  | .Name x _ => if isVis s.sc x && okN x then (match nIx N x with | some i => rdE i | none => bad1) else if isGl s.sc x && okN x then (match T.con x with | some d => fun _ => .ok d | none => bad1) else bad1
  | .Constant c _ _ => (match conD c with | some d => fun _ => .ok d | none => bad1)
  | .BinOp a op b _ => fun ρ => v.P s a ρ >>= fun x => v.P s b ρ >>= fun y => dBin op x y
  | .UnaryOp .Not a _ => fun ρ => v.P s a ρ >>= dNot
  | .UnaryOp .USub a _ => fun ρ => v.P s a ρ >>= dNeg
  | .BoolOp .And es _ => andL v s es
  | .BoolOp .Or es _ => orL v s es
  | .Compare a [op] [b] _ => if behindInMarks op b then bad1 else fun ρ => v.P s a ρ >>= fun x => v.P s b ρ >>= fun y => asBool (dCmp op x y)
  | .Compare a [op, op'] [b, c] _ => if lastMarks [op, op'] [b, c] then bad1 else fun ρ => asBool (fChain (dCmp op) (dCmp op') (v.P s a) (v.P s b) (v.P s c) ρ)
  | .Compare a [op, op', op2] [b, c, d] _ => if lastMarks [op, op', op2] [b, c, d] then bad1 else fun ρ => asBool (fChain3 (dCmp op) (dCmp op') (dCmp op2) (v.P s a) (v.P s b) (v.P s c) (v.P s d) ρ)
  | .IfExp c a b _ => fIf (v.B s c) (v.E s a) (v.E s b)
  | .Tuple es _ _ => fun ρ => argsE v s es ρ >>= fun ds => okLen ds .tuple
  | .Subscript a (.Slice lo hi none _) _ => fun ρ => v.P s a ρ >>= fun x => partE v s lo ρ >>= fun l => partE v s hi ρ >>= fun u => dSl x l u
  | .Subscript a (.Slice none none (some (.UnaryOp .USub (.Constant (.int 1) _ _) _)) _) _ => fun ρ => v.P s a ρ >>= fun x => (R.ok none : R (Option Int)) >>= fun l => dRev x l
  | .Subscript a (.Slice (some lo) none (some (.UnaryOp .USub (.Constant (.int 1) _ _) _)) _) _ => fun ρ => v.P s a ρ >>= fun x => match x with | .tuple _ => partE v s (some lo) ρ >>= fun l => dRev x l | _ => .bad
  | .Subscript _ (.Slice ..) _ => bad1
  | .Subscript a b _ => fun ρ => v.P s a ρ >>= fun x => v.P s b ρ >>= fun y => dIx x y
  | .Call (.Name f _) (e :: es) [] _ =>
    if isGl s.sc f && okN f then
      match T.fn f with
      | some (n, F) => if (e :: es).all (fun e => !isStar e) then fun ρ => argsE v s (e :: es) ρ >>= ari n F else bad1
      | none =>
        if f == ("isinstance" : Str) then
          match es with
          | [.Name t _] => (match isiOf t with
            | some tn => if isGl s.sc t && (T.fn t).isNone && !isStar e then fun ρ => v.P s e ρ >>= dIsi tn else bad1
            | none => bad1)
          | _ => bad1
        else match blt f with
          | some F => if (e :: es).all (fun e => !isStar e) then fun ρ => argsP v s (e :: es) ρ >>= F else bad1
          | none => bad1
    else bad1
  | .Call (.Attribute o m ap) [e] [] cp =>
    if !isStar e && baseOk o && (ap.endLine == cp.line) then
      if m == ("index" : Str) then fMeth dIndex (v.P s o) (v.P s e) else if m == ("count" : Str) then fMeth dCount (v.P s o) (v.P s e) else bad1
    else bad1
  | .Call (.Attribute o m ap) [e, g] [] cp => if m == ("get" : Str) && !isStar e && !isStar g && baseOk o && (ap.endLine == cp.line) then fGet (v.P s o) (v.P s e) (v.E s g) else bad1
  | _ => bad1
def toldE (s : Sc) : Expr → Option (Scope × Expr)
  | .Call (.Name f _) [.Lambda ⟨[], [], none, [], [], none, []⟩ body scope _] [] _ => if s.lam && (f == ("_law_told" : Str) && (isGl s.sc f && LamX.lamSB s.sc scope)) then some (scope, body) else none
  | _ => none
def knFlds : List Str := ["sea", "worlds", "names", "near"]
def knX (v : Ev) (s : Sc) : Expr → Option (Env → R D)
  | .Attribute o f _ => if T.knM.isSome && (baseOk o && (f == ("sea" : Str) || (f == ("worlds" : Str) || f == ("names" : Str)))) then some fun ρ => v.E s o ρ >>= dFld f else none
  | .Call (.Attribute o m ap) (e :: es) [] cp => match T.mt m with
    | some (n, F) => if (baseOk o && (ap.endLine == cp.line)) && (((e :: es).all (fun e => !isStar e) && decide (es.length < 20)) && !knFlds.contains m) then some fun ρ => v.E s o ρ >>= fun d => knB d >>= fun _ => argsE v s (e :: es) ρ >>= fun ds => ari n F (d :: ds) else none
    | none => none
  | .Call (.Name f _) (e :: es) [] _ => if (f == ("Known" : Str)) && (isGl s.sc f && ((T.fn f).isNone && (e :: es).all (fun e => !isStar e))) then T.knM.map fun PN ρ => argsE v s (e :: es) ρ >>= dKn PN else none
  | _ => none
def stepE (v : Ev) (s : Sc) (e : Expr) : Env → R D := match toldE s e with
  | some p => fTold T.exc (v.E ⟨p.1, [], false, false⟩ p.2)
  | none => match stepF T N v s e with
    | some f => f
    | none => match knX T v s e with
      | some g => g
      | none => stepE0 T N v s e
def stepP (v : Ev) (s : Sc) (e : Expr) : Env → R D := match e with
  | .Name x _ => if isVis s.sc x && okN x then (match nIx N x with | some i => rdP i | none => bad1) else stepE T N v s e
  | e => stepE T N v s e
def stepB (v : Ev) (s : Sc) : Expr → Env → R Bool
  | .UnaryOp .Not a _ => tstNot (v.B s a)
  | .BoolOp .And es _ => andT v s es
  | .BoolOp .Or es _ => orT v s es
  | .Compare a [op] [b] _ => if behindInMarks op b then bad1 else fun ρ => v.P s a ρ >>= fun x => v.P s b ρ >>= fun y => dCmp op x y
  | .Compare a [op, op'] [b, c] _ => if lastMarks [op, op'] [b, c] then bad1 else fChain (dCmp op) (dCmp op') (v.P s a) (v.P s b) (v.P s c)
  | .Name x p => fun ρ => v.P s (.Name x p) ρ >>= dTru
  | .Call f es ks p => fun ρ => v.P s (.Call f es ks p) ρ >>= dTru
  | .Constant c k p => fun ρ => v.P s (.Constant c k p) ρ >>= dTru
  | .Subscript a b p => fun ρ => v.P s (.Subscript a b p) ρ >>= dTru
  | _ => bad1
def stepI (v : Ev) (s : Sc) (tg : Expr) : Expr → Env → R (List D)
  | .Call (.Name f p) [a] [] q =>
    if glF T s f && f == ("range" : Str) && !isStar a then fun ρ => argsP v s [a] ρ >>= dRng1
    else if glF T s f && f == ("enumerate" : Str) && !isStar a then (match tg with
      | .Tuple .. => fun ρ => argsE v s [a] ρ >>= dEnum
      | _ => bad1)
    else fun ρ => v.E s (.Call (.Name f p) [a] [] q) ρ >>= dItems
  | .Call (.Name f p) [a, b] [] q =>
    if glF T s f && f == ("range" : Str) && !isStar a && !isStar b then fun ρ => argsP v s [a, b] ρ >>= dRng2
    else if glF T s f && f == ("zip" : Str) && !isStar a && !isStar b then (match tg with
      | .Tuple .. => fun ρ => argsE v s [a, b] ρ >>= dZip
      | _ => bad1)
    else fun ρ => v.E s (.Call (.Name f p) [a, b] [] q) ρ >>= dItems
  | .Call (.Name f p) [a, b, c] [] q =>
    if glF T s f && f == ("range" : Str) && !isStar a && !isStar b && !isStar c then fun ρ => argsP v s [a, b, c] ρ >>= dRng3
    else fun ρ => v.E s (.Call (.Name f p) [a, b, c] [] q) ρ >>= dItems
  | .Call (.Attribute o m ap) [] [] cp => if m == ("items" : Str) && baseOk o && (ap.endLine == cp.line) then (match tg with
      | .Tuple .. => fun ρ => v.E s o ρ >>= dPairs
      | _ => bad1) else bad1
  | e => fun ρ => v.E s e ρ >>= dItems
def step (v : Ev) : Ev := ⟨stepE T N v, stepP T N v, stepF T N v, stepB v, stepI T v⟩
def ev : Nat → Ev
  | 0 => Ev.none
  | n + 1 => step T N (ev n)
end
def blts : List Str := ["ValueError", "isinstance", "int", "bool", "str", "tuple", "list", "dict", "len", "all", "any", "abs", "max", "min", "sorted", "range", "zip", "enumerate", "set", "sum"]
structure LamOk (X : Cx) (cl : Str → Addr) (T : Tbl) : Prop where
  tab : ∃ c P, LamX.TabB X.base X.mg c P ∧ X.env.code = .ref c ∧ (P, X.env.qual ++ "<lambda>") ∈ Lots.tabs
  told : ToldDef X.K X.mg "_law_told" "_law_class"
  cls : ClsDef X.K X.mg T.exc "_law_class"
  xF : T.exc "FleetError" = true
  val : ∀ c, T.exc c = true → PySem.W.kitOne X.K (.ref (cl c)) (.type "ValueError") = some true
  room : ∃ kk, Room (kk + 2) X.A ∧
    (∀ (x : Str) (n : Nat) (F : List D → R D), T.fn x = some (n, F) → ∃ (f : Addr) (fd : FuncData) (ps : List Str), FnOk X.prog X.w X.K X.mg X.base (L2.CX X.prog X.w) kk f fd ps (spD X.K cl n F) ∧ X.mg x = some (.ref f) ∧ PySem.W.keepIn X.K (.ref f) = true ∧ Binds X.K fd ps []) ∧
    (∀ (x : Str) (n : Nat) (F : List D → R D), T.fo x = some (n, F) → ∃ (f : Addr) (fd : FuncData) (ps : List Str), FnOk X.prog X.w X.K X.mg X.base (L2.CX X.prog X.w) kk f fd ps (spF X.K cl n F) ∧ X.mg x = some (.ref f) ∧ PySem.W.keepIn X.K (.ref f) = true ∧ Binds X.K fd ps []) ∧
    (∀ (x : Str) (n : Nat) (F : List D → R D), T.mt x = some (n, F) → ∃ (f : Addr) (fd : FuncData) (ps : List Str), FnOk X.prog X.w X.K X.mg X.base (L2.CX X.prog X.w) kk f fd ps (spD X.K cl n F) ∧ Meth X.K (He.ga X.K "Known") x f ∧ Binds X.K fd ps [] ∧ KnOk X.K) ∧
    (∀ PN : List D → R D, T.knM = some PN → ∃ (kl : Nat) (f : Addr) (fd : FuncData) (ps : List Str), kl + 1 ≤ kk ∧ FnOk X.prog X.w X.K X.mg X.base (L2.CX X.prog X.w) kl f fd ps (spI X.K cl PN) ∧ Mk X.K (He.ga X.K "Known") f ∧ X.mg "Known" = some (.ref (He.ga X.K "Known")) ∧ Binds X.K fd ps [] ∧ KnOk X.K)
structure CxOk (T : Tbl) (N : List Str) (X : Cx) (C : Pm) (s : Sc) : Prop where
  eK : C.K = X.K
  hw : X.w = Lots.w
  calm : X.calm = true
  eN : X.N = N
  nd : N.Nodup
  sc : X.env.scope = s.sc
  kind : s.sc.kind = .function
  wr : ∀ x ∈ s.wr, X.fn x = true ∨ s.sc.names.lookup x = some .local
  units : X.A.units + 65 < cLine
  tk : Takes X fun cls d _ H => C.E cls d H
  fn : ∀ (x : Str) (n : Nat) (F : List D → R D), T.fn x = some (n, F) → ∃ (k : Nat) (f : Addr) (fd : FuncData) (ps : List Str), FnOk X.prog X.w X.K X.mg X.base (L2.CX X.prog X.w) k f fd ps (spD X.K C.cl n F) ∧ Room k X.A ∧ X.mg x = some (.ref f) ∧ PySem.W.keepIn X.K (.ref f) = true ∧ Binds X.K fd ps []
  fo : ∀ (x : Str) (n : Nat) (F : List D → R D), T.fo x = some (n, F) → ∃ (k : Nat) (f : Addr) (fd : FuncData) (ps : List Str), FnOk X.prog X.w X.K X.mg X.base (L2.CX X.prog X.w) k f fd ps (spF X.K C.cl n F) ∧ Room k X.A ∧ X.mg x = some (.ref f) ∧ PySem.W.keepIn X.K (.ref f) = true ∧ Binds X.K fd ps []
  fr : s.fr = C.fr
  con : ∀ (x : Str) (d : D), T.con x = some d → ∃ (v : V) (u : Value), X.mg x = some u ∧ RelV v u ∧ FlatV v d
  free : ∀ x ∈ blts, T.fn x = none → X.mg x = none
  exc : ∀ x, T.exc x = true → ExcOk X C.cl x
  xc : T.exc "FleetError" = true → XcOk X C.cl T.exc
  lam : s.lam = true → LamOk X C.cl T
  mt : ∀ (x : Str) (n : Nat) (F : List D → R D), T.mt x = some (n, F) → ∃ (k : Nat) (f : Addr) (fd : FuncData) (ps : List Str), FnOk X.prog X.w X.K X.mg X.base (L2.CX X.prog X.w) k f fd ps (spD X.K C.cl n F) ∧ Room k X.A ∧ Meth X.K (He.ga X.K "Known") x f ∧ Binds X.K fd ps [] ∧ KnOk X.K
  knM : ∀ PN : List D → R D, T.knM = some PN → ∃ (k : Nat) (f : Addr) (fd : FuncData) (ps : List Str), FnOk X.prog X.w X.K X.mg X.base (L2.CX X.prog X.w) k f fd ps (spI X.K C.cl PN) ∧ Room (k + 1) X.A ∧ Mk X.K (He.ga X.K "Known") f ∧ X.mg "Known" = some (.ref (He.ga X.K "Known")) ∧ Binds X.K fd ps [] ∧ KnOk X.K
section
variable {T : Tbl} {N : List Str} {X : Cx} {C : Pm} {s : Sc}
theorem nIx_ok {x : Str} {i : Nat} (h : nIx N x = some i) : N[i]? = some x := by
  unfold nIx at h
  rw [List.findIdx?_eq_some_iff_getElem] at h
  obtain ⟨h1, h2, _⟩ := h
  rw [List.getElem?_eq_getElem h1]
  exact congrArg some (by simpa using h2)
theorem okN_of {x : Str} (h : okN x = true) : (x == ("__debug__" : Str)) = false ∧ (x == ("__classdict__" : Str)) = false ∧ x ≠ "__name__" := by
  simp only [okN, Bool.and_eq_true, Bool.not_eq_true'] at h
  exact ⟨h.1.1, h.1.2, fun e => by rw [e] at h; simp at h⟩
theorem CxOk.vis (o : CxOk T N X C s) {x : Str} (h : isVis s.sc x = true) : Vis X.env.scope x := by
  rw [o.sc]
  unfold isVis at h
  unfold Vis
  split at h
  · rename_i e; exact .inl e
  · rename_i e; exact .inr (.inl e)
  · rename_i e; exact .inr (.inr e)
  · cases h
theorem CxOk.gl (o : CxOk T N X C s) {x : Str} (h : isGl s.sc x = true) : Gl X x := by
  show X.env.scope.names.lookup x = _
  rw [o.sc]
  unfold isGl at h
  split at h
  · rename_i e; exact e
  · cases h
theorem CxOk.st (o : CxOk T N X C s) {x : Str} {i : Nat} (h : stIx N s x = some i) : StoreOk X i x := by
  unfold stIx at h
  split at h
  · rename_i c
    simp only [Bool.and_eq_true] at c
    refine ⟨by rw [o.eN]; exact nIx_ok h, ?_, ?_⟩
    · have c1 := c.1
      rw [o.sc]
      unfold isLoc at c1
      split at c1
      · rename_i e; exact .inl e
      · rename_i e; exact .inr e
      · cases c1
    · rw [o.sc]
      exact o.wr x (by simpa using c.2)
  · cases h
theorem CxOk.nms (o : CxOk T N X C s) : ∀ {es : List Expr} {is : List Nat}, nmsIx N s es = some is → Nms X es is
  | [], is, h => by
    unfold nmsIx at h
    cases h
    exact .nil
  | e :: es, is, h => by
    unfold nmsIx at h
    split at h
    · rename_i e1; cases e1
    · rename_i x p es' e1
      cases e1
      cases q : stIx N s x with
      | none => rw [q] at h; cases h
      | some i =>
        rw [q] at h
        cases q2 : nmsIx N s es with
        | none => rw [q2] at h; cases h
        | some js =>
          rw [q2] at h
          cases h
          exact .cons (o.st q) (CxOk.nms o q2)
    · cases h
theorem CxOk.ndX (o : CxOk T N X C s) : X.N.Nodup := by rw [o.eN]; exact o.nd
theorem CxOk.tg (o : CxOk T N X C s) {e : Expr} {t : Tg} (h : tgOf N s e = some t) : PG X e (tGt C t) := by
  unfold tgOf at h
  split at h
  · rename_i x p
    cases q : stIx N s x with
    | none => rw [q] at h; cases h
    | some i =>
      rw [q] at h
      cases h
      exact g_one o.ndX (o.st q)
  · rename_i es k p
    cases q : nmsIx N s es with
    | none => rw [q] at h; cases h
    | some is =>
      rw [q] at h
      cases h
      exact g_many o.eK o.calm o.ndX (o.nms q)
  · cases h
theorem relab_eq {scope : Scope} {env : PySem.Env} : relabel scope env = relab env.scope scope := rfl
theorem CxOk.blk (o : CxOk T N X C s) {scope : Scope} {h0 : Shared} {H : Hp} {Ca : Addr} {cl : List (Str × Addr)} {fp : List Addr} (ok : BlkOk N s.sc scope (ownOf N scope)) :
    CxOk T N (X.blk h0 H scope (compEnvC scope cl Ca X.env) fp) C.calm ⟨relab s.sc scope, (ownOf N scope).map (·.1), false, false⟩ where
  eK := o.eK
  hw := o.hw
  calm := o.calm
  eN := o.eN
  nd := o.nd
  sc := by show relabel scope X.env = _; rw [relab_eq, o.sc]
  kind := ok.kind
  wr := fun x hx => by
    obtain ⟨⟨y, i⟩, hy, rfl⟩ := List.mem_map.mp hx
    unfold ownOf at hy
    obtain ⟨⟨z, k⟩, hz, e⟩ := List.mem_filterMap.mp hy
    have lk := ok.uniq (z, k) hz
    cases k with
    | «local» =>
      cases q : nIx N z with
      | none => simp [q] at e
      | some j =>
        simp [q] at e
        obtain ⟨rfl, rfl⟩ := e
        right
        show (relab s.sc scope).names.lookup z = _
        exact lookup_relabel_local (env := { X.env with scope := s.sc }) lk
    | cell =>
      cases q : nIx N z with
      | none => simp [q] at e
      | some j =>
        simp [q] at e
        obtain ⟨rfl, rfl⟩ := e
        left
        show (scope.names.lookup z == some .cell) = true
        rw [lk]
        rfl
    | _ => simp at e
  units := o.units
  tk := takes0
  fn := o.fn
  fo := o.fo
  fr := rfl
  con := o.con
  free := o.free
  exc := fun x hx => ⟨(o.exc x hx).q, (o.exc x hx).g, (o.exc x hx).k, (o.exc x hx).r⟩
  xc := fun hF => let e := o.xc hF; ⟨e.glo, e.exc, e.exm, e.kit⟩
  lam := fun z => nomatch z
  mt := o.mt
  knM := o.knM
theorem CxOk.lamC (o : CxOk T N X C s) (l : LamOk X C.cl T) {scope : Scope} (hs : LamX.lamSB s.sc scope = true) {A : Around} {outer : List PySem.Env} {h0 : Shared} {H : Hp} {E : XK} {f c' : Addr} {kk : Nat} (hr : Room kk (A.deeper (LamX.lamEnv X scope h0.heap.objs.size f c')))
    (fn : ∀ (x : Str) (n : Nat) (F : List D → R D), T.fn x = some (n, F) → ∃ (f : Addr) (fd : FuncData) (ps : List Str), FnOk X.prog X.w X.K X.mg X.base (L2.CX X.prog X.w) kk f fd ps (spD X.K C.cl n F) ∧ X.mg x = some (.ref f) ∧ PySem.W.keepIn X.K (.ref f) = true ∧ Binds X.K fd ps [])
    (fo : ∀ (x : Str) (n : Nat) (F : List D → R D), T.fo x = some (n, F) → ∃ (f : Addr) (fd : FuncData) (ps : List Str), FnOk X.prog X.w X.K X.mg X.base (L2.CX X.prog X.w) kk f fd ps (spF X.K C.cl n F) ∧ X.mg x = some (.ref f) ∧ PySem.W.keepIn X.K (.ref f) = true ∧ Binds X.K fd ps [])
    (mt : ∀ (x : Str) (n : Nat) (F : List D → R D), T.mt x = some (n, F) → ∃ (f : Addr) (fd : FuncData) (ps : List Str), FnOk X.prog X.w X.K X.mg X.base (L2.CX X.prog X.w) kk f fd ps (spD X.K C.cl n F) ∧ Meth X.K (He.ga X.K "Known") x f ∧ Binds X.K fd ps [] ∧ KnOk X.K)
    (knM : ∀ PN : List D → R D, T.knM = some PN → ∃ (kl : Nat) (f : Addr) (fd : FuncData) (ps : List Str), kl + 1 ≤ kk ∧ FnOk X.prog X.w X.K X.mg X.base (L2.CX X.prog X.w) kl f fd ps (spI X.K C.cl PN) ∧ Mk X.K (He.ga X.K "Known") f ∧ X.mg "Known" = some (.ref (He.ga X.K "Known")) ∧ Binds X.K fd ps [] ∧ KnOk X.K) :
    CxOk T N (LamX.lamCx X A outer h0 H E scope f c') ⟨C.K, E, C.cl, false⟩ ⟨scope, [], false, false⟩ where
  eK := o.eK
  hw := o.hw
  calm := rfl
  eN := o.eN
  nd := o.nd
  sc := rfl
  kind := (LamX.lamS_by hs).kind
  wr := fun x hx => nomatch hx
  units := by have := hr.un; show (A.deeper (LamX.lamEnv X scope h0.heap.objs.size f c')).units + 65 < cLine; omega
  tk := takes_of rfl rfl rfl rfl
  fn := fun x n F hF => by
    obtain ⟨f', fd', ps', h1, h2, h3, h4⟩ := fn x n F hF
    exact ⟨kk, f', fd', ps', h1, hr, h2, h3, h4⟩
  fo := fun x n F hF => by
    obtain ⟨f', fd', ps', h1, h2, h3, h4⟩ := fo x n F hF
    exact ⟨kk, f', fd', ps', h1, hr, h2, h3, h4⟩
  fr := rfl
  con := o.con
  free := o.free
  exc := fun x hx => ⟨(o.exc x hx).q, (o.exc x hx).g, (o.exc x hx).k, (o.exc x hx).r⟩
  xc := fun hF => let e := o.xc hF; ⟨e.glo, e.exc, e.exm, e.kit⟩
  lam := fun z => nomatch z
  mt := fun x n F hF => by
    obtain ⟨f', fd', ps', h1, h2, h3, h4⟩ := mt x n F hF
    exact ⟨kk, f', fd', ps', h1, hr, h2, h3, h4⟩
  knM := fun PN hF => by
    obtain ⟨kl, f', fd', ps', hl, h1, h2, h3, h4⟩ := knM PN hF
    exact ⟨kl, f', fd', ps', h1, hr.mono hl, h2, h3, h4⟩
structure Snd (T : Tbl) (N : List Str) (v : Ev) : Prop where
  E : ∀ {X : Cx} {C : Pm} {s : Sc}, CxOk T N X C s → ∀ e, PE X e (tE C (v.E s e))
  P : ∀ {X : Cx} {C : Pm} {s : Sc}, CxOk T N X C s → ∀ e, PE X e (tP C (v.P s e))
  F : ∀ {X : Cx} {C : Pm} {s : Sc}, CxOk T N X C s → ∀ e f, isComp e = false → v.F s e = some f → PE X e (tF C f)
  B : ∀ {X : Cx} {C : Pm} {s : Sc}, CxOk T N X C s → ∀ e, PT X e (tT C (v.B s e))
  I : ∀ {X : Cx} {C : Pm} {s : Sc}, CxOk T N X C s → ∀ tg e, PI X tg e (tI C (v.I s tg e))
end
end DL
namespace DL
open PySem PySem.Spec PyProof.Rows L2
variable [Lots]
section
variable {T : Tbl} {N : List Str} {X : Cx} {C : Pm} {s : Sc} {v : Ev}
theorem snd_argsE (h : Snd T N v) (o : CxOk T N X C s) : ∀ es, PA X es (tA C (argsE v s es))
  | [] => a_nil
  | e :: es => by
    unfold argsE
    split
    · exact pa_bad
    · rename_i c
      exact a_cons (by simpa using c) (h.E o e) (snd_argsE h o es)
theorem snd_argsP (h : Snd T N v) (o : CxOk T N X C s) : ∀ es, PA X es (tPA C (argsP v s es))
  | [] => a_nilP
  | e :: es => by
    unfold argsP
    split
    · exact pa_bad
    · rename_i c
      exact a_consP (by simpa using c) (h.P o e) (snd_argsP h o es)
theorem snd_andL (h : Snd T N v) (o : CxOk T N X C s) {pos : Pos} : ∀ es, PE X (.BoolOp .And es pos) (tE C (andL v s es))
  | [] => pe_bad
  | [a] => pe_one (h.E o a)
  | a :: b :: r => e_and (h.P o a) (snd_andL h o (b :: r))
theorem snd_orL (h : Snd T N v) (o : CxOk T N X C s) {pos : Pos} : ∀ es, PE X (.BoolOp .Or es pos) (tE C (orL v s es))
  | [] => pe_bad
  | [a] => pe_one (h.E o a)
  | a :: b :: r => e_or (h.P o a) (snd_orL h o (b :: r))
theorem snd_andT (h : Snd T N v) (o : CxOk T N X C s) {pos : Pos} : ∀ es, PW X (.BoolOp .And es pos) (tT C (andT v s es))
  | [] => pw_bad
  | [a] => w_and1 (h.B o a)
  | a :: b :: r => w_and (h.B o a) (snd_andT h o (b :: r))
theorem snd_orT (h : Snd T N v) (o : CxOk T N X C s) {pos : Pos} : ∀ es, PW X (.BoolOp .Or es pos) (tT C (orT v s es))
  | [] => pw_bad
  | [a] => w_or1 (h.B o a)
  | a :: b :: r => w_or (h.B o a) (snd_orT h o (b :: r))
theorem snd_part (h : Snd T N v) (o : CxOk T N X C s) : ∀ e, PO X e (tO C (partE v s e))
  | none => o_none
  | some e => o_some (h.P o e)
theorem snd_ifs (h : Snd T N v) (o : CxOk T N X C s) {es : List Expr} {f : Env → R Bool} (hf : ifsT v s es = some f) : PTs X es (tT C f) := by
  unfold ifsT at hf
  split at hf
  · cases hf
    exact ⟨fun pins s σ H Q I ⟨Hf0, H0, Hf, ρ, env, q⟩ => pts_nil.run pins s σ H Q I (q true Hf H (Grow.refl env.grow.sub) rfl)⟩
  · cases hf
    exact pts_one (h.B o _)
  · cases hf
theorem glF_of (o : CxOk T N X C s) {f : Str} (h : glF T s f = true) (hb : f ∈ blts) : Gl X f ∧ X.mg f = none ∧ f ≠ "__name__" ∧ (f == ("__debug__" : Str)) = false := by
  simp only [glF, Bool.and_eq_true] at h
  obtain ⟨h1, h2, h3⟩ := okN_of h.1.2
  refine ⟨o.gl h.1.1, o.free f hb (by simpa using h.2), h3, h1⟩
theorem list_ok : bootBuiltins "list" = some (.type "list") := by decide +kernel
theorem dict_ok : bootBuiltins "dict" = some (.type "dict") := by decide +kernel
theorem sorted_ok : bootBuiltins "sorted" = some (.builtin "sorted") := by decide +kernel
theorem fold_set {e : Expr} {env : PySem.Env} (h : isSetE e = false) (x : Value) : foldedSetIterable e env x = pure x := by
  cases e <;> first | rfl | simp [isSetE] at h
theorem snd_lc (h : Snd T N v) (o : CxOk T N X C s) {elt tg iter : Expr} {ifs : List Expr} {asy : Int} {scope : Scope} {pos : Pos} {f : Env → R D} (hf : stepF T N v s (.ListComp elt [⟨tg, iter, ifs, asy⟩] scope pos) = some f) :
    asy = 0 ∧ isSetE iter = false ∧ BlkOk N s.sc scope (ownOf N scope) ∧ ∃ (t : Tg) (ft : Env → R Bool), tgOf N ⟨relab s.sc scope, (ownOf N scope).map (·.1), false, false⟩ tg = some t ∧ ifsT v ⟨relab s.sc scope, (ownOf N scope).map (·.1), false, false⟩ ifs = some ft ∧ (∀ i ∈ t.ixs, i ∈ (ownOf N scope).map (·.2)) ∧
      f = fLc (v.I s tg iter) t ft (v.E ⟨relab s.sc scope, (ownOf N scope).map (·.1), false, false⟩ elt) ((ownOf N scope).map (·.2)) := by
  unfold stepF at hf
  simp only at hf
  split at hf
  · rename_i c
    simp only [Bool.and_eq_true, decide_eq_true_eq, Bool.not_eq_true'] at c
    obtain ⟨⟨c1, c2⟩, c3⟩ := c
    cases q : tgOf N ⟨relab s.sc scope, (ownOf N scope).map (·.1), false, false⟩ tg with
    | none => rw [q] at hf; cases hf
    | some t =>
      rw [q] at hf
      cases q2 : ifsT v ⟨relab s.sc scope, (ownOf N scope).map (·.1), false, false⟩ ifs with
      | none => rw [q2] at hf; cases hf
      | some ft =>
        rw [q2] at hf
        simp only [Option.bind_some] at hf
        split at hf
        · rename_i c4
          cases hf
          refine ⟨c1, c3, blkOk_by c2, t, ft, rfl, rfl, fun i hi => ?_, rfl⟩
          have := List.all_eq_true.mp c4 i hi
          simpa using this
        · cases hf
  · cases hf
theorem snd_F (h : Snd T N v) (o : CxOk T N X C s) (e : Expr) (f : Env → R D) (hf : stepF T N v s e = some f) : PE X e (tF C f) := by
  unfold stepF at hf
  split at hf
  · cases hf
    exact f_dict0
  · cases hf
    exact f_dict1 o.hw o.eK o.units (h.E o _) (h.E o _)
  · cases hf
    exact f_lst (snd_argsE h o _)
  · rename_i elt tg iter ifs asy scope pos
    obtain ⟨rfl, hset, ok, t, ft, h1, h2, h3, rfl⟩ := snd_lc (pos := pos) h o (by unfold stepF; exact hf)
    have ok' : BlkOk X.N X.env.scope scope (ownOf N scope) := by rw [o.eN, o.sc]; exact ok
    refine PE.imp (pe_lc (own := ownOf N scope) (g := tGt C.calm t) (tt := tT C.calm ft) (te := tE C.calm (v.E ⟨relab s.sc scope, (ownOf N scope).map (·.1), false, false⟩ elt)) o.calm o.ndX (h.I o tg iter) ok' (fun _ _ _ _ _ => (o.blk ok).tg h1) (fun _ _ _ _ _ => snd_ifs h (o.blk ok) h2) (fun _ _ _ _ _ => h.E (o.blk ok) elt) (fold_set hset)) fun σ H Q q => lc_data h3 q
  · rename_i elt tg iter ifs asy tg1 iter1 ifs1 asy1 scope pos
    split at hf
    · rename_i c
      simp only [Bool.and_eq_true, decide_eq_true_eq, Bool.not_eq_true'] at c
      obtain ⟨⟨⟨⟨rfl, rfl⟩, c2⟩, c3⟩, c4⟩ := c
      obtain ⟨t, q1, hf⟩ := Option.bind_eq_some_iff.mp hf
      obtain ⟨t1, q2, hf⟩ := Option.bind_eq_some_iff.mp hf
      obtain ⟨ft, q3, hf⟩ := Option.bind_eq_some_iff.mp hf
      obtain ⟨ft1, q4, hf⟩ := Option.bind_eq_some_iff.mp hf
      split at hf
      · rename_i c5
        simp only [Bool.and_eq_true, List.all_eq_true] at c5
        cases hf
        have ok := blkOk_by c2
        have ok' : BlkOk X.N X.env.scope scope (ownOf N scope) := by rw [o.eN, o.sc]; exact ok
        refine PE.imp (pe_lc2 (own := ownOf N scope) (vs1 := t1.ixs) (g := tGt C.calm t) (tt := tT C.calm ft) (g1 := tGt C.calm t1) (tt1 := tT C.calm ft1) (wi1 := tI C.calm (v.I ⟨relab s.sc scope, (ownOf N scope).map (·.1), false, false⟩ tg1 iter1)) (te := tE C.calm (v.E ⟨relab s.sc scope, (ownOf N scope).map (·.1), false, false⟩ elt)) o.calm o.ndX (h.I o tg iter) ok' (fun i hi => by have := c5.2 i hi; simpa using this)
          (fun _ _ _ _ _ => (o.blk ok).tg q1) (fun _ _ _ _ _ => snd_ifs h (o.blk ok) q3) (fun _ _ _ _ _ => h.I (o.blk ok) tg1 iter1) (fun _ _ _ _ _ => (o.blk ok).tg q2) (fun _ _ _ _ _ => snd_ifs h (o.blk ok) q4) (fun _ _ _ _ _ => h.E (o.blk ok) elt) (fold_set c3) (fun _ => fold_set c4)) fun σ H Q q => lc2_data (fun i hi => by have := c5.1 i hi; simpa using this) (fun i hi => hi) q
      · cases hf
    · cases hf
  · rename_i kx vx tg iter ifs asy scope pos
    split at hf
    · rename_i c
      simp only [Bool.and_eq_true, decide_eq_true_eq, Bool.not_eq_true'] at c
      obtain ⟨⟨rfl, c2⟩, c3⟩ := c
      obtain ⟨t, q1, hf⟩ := Option.bind_eq_some_iff.mp hf
      obtain ⟨ft, q3, hf⟩ := Option.bind_eq_some_iff.mp hf
      split at hf
      · rename_i c5
        simp only [List.all_eq_true] at c5
        cases hf
        have ok := blkOk_by c2
        have ok' : BlkOk X.N X.env.scope scope (ownOf N scope) := by rw [o.eN, o.sc]; exact ok
        split
        · refine PE.imp (pe_dcG (own := ownOf N scope) (g := tGt C.calm t) (tt := tT C.calm ft) (tk := tE C.calm (v.E ⟨relab s.sc scope, (ownOf N scope).map (·.1), false, false⟩ kx)) (tv := tE C.calm (v.E ⟨relab s.sc scope, (ownOf N scope).map (·.1), false, false⟩ vx)) (rs := rsN C.K) o.calm o.ndX (h.I o tg iter) ok'
            (fun _ _ _ _ _ => (o.blk ok).tg q1) (fun _ _ _ _ _ => snd_ifs h (o.blk ok) q3) (fun _ _ _ _ _ => h.E (o.blk ok) kx) (fun _ _ _ _ _ => h.E (o.blk ok) vx) (fun _ _ _ _ _ => by rw [o.eK]; exact set_rsN o.hw o.units) (fold_set c3)) fun σ H Q q => dcn_data (fun i hi => by have := c5 i hi; simpa using this) q
        · refine PE.imp (pe_dc (own := ownOf N scope) (g := tGt C.calm t) (tt := tT C.calm ft) (tk := tE C.calm (v.E ⟨relab s.sc scope, (ownOf N scope).map (·.1), false, false⟩ kx)) (tv := tE C.calm (v.E ⟨relab s.sc scope, (ownOf N scope).map (·.1), false, false⟩ vx)) o.calm o.ndX (h.I o tg iter) ok'
          (fun _ _ _ _ _ => (o.blk ok).tg q1) (fun _ _ _ _ _ => snd_ifs h (o.blk ok) q3) (fun _ _ _ _ _ => h.E (o.blk ok) kx) (fun _ _ _ _ _ => h.E (o.blk ok) vx) (fold_set c3)) fun σ H Q q => dc_data (fun i hi => by have := c5 i hi; simpa using this) q
      · cases hf
    · cases hf
  · rename_i kx vx tg iter ifs asy tg1 iter1 ifs1 asy1 scope pos
    split at hf
    · rename_i c
      simp only [Bool.and_eq_true, decide_eq_true_eq, Bool.not_eq_true'] at c
      obtain ⟨⟨⟨⟨rfl, rfl⟩, c2⟩, c3⟩, c4⟩ := c
      obtain ⟨t, q1, hf⟩ := Option.bind_eq_some_iff.mp hf
      obtain ⟨t1, q2, hf⟩ := Option.bind_eq_some_iff.mp hf
      obtain ⟨ft, q3, hf⟩ := Option.bind_eq_some_iff.mp hf
      obtain ⟨ft1, q4, hf⟩ := Option.bind_eq_some_iff.mp hf
      split at hf
      · rename_i c5
        simp only [Bool.and_eq_true, List.all_eq_true] at c5
        cases hf
        have ok := blkOk_by c2
        have ok' : BlkOk X.N X.env.scope scope (ownOf N scope) := by rw [o.eN, o.sc]; exact ok
        refine PE.imp (pe_dc2 (own := ownOf N scope) (vs1 := t1.ixs) (g := tGt C.calm t) (tt := tT C.calm ft) (g1 := tGt C.calm t1) (tt1 := tT C.calm ft1) (wi1 := tI C.calm (v.I ⟨relab s.sc scope, (ownOf N scope).map (·.1), false, false⟩ tg1 iter1)) (tk := tE C.calm (v.E ⟨relab s.sc scope, (ownOf N scope).map (·.1), false, false⟩ kx)) (tv := tE C.calm (v.E ⟨relab s.sc scope, (ownOf N scope).map (·.1), false, false⟩ vx)) (rs := rsN C.K) o.calm o.ndX (h.I o tg iter) ok' (fun i hi => by have := c5.2 i hi; simpa using this)
          (fun _ _ _ _ _ => (o.blk ok).tg q1) (fun _ _ _ _ _ => snd_ifs h (o.blk ok) q3) (fun _ _ _ _ _ => h.I (o.blk ok) tg1 iter1) (fun _ _ _ _ _ => (o.blk ok).tg q2) (fun _ _ _ _ _ => snd_ifs h (o.blk ok) q4) (fun _ _ _ _ _ => h.E (o.blk ok) kx) (fun _ _ _ _ _ => h.E (o.blk ok) vx) (fun _ _ _ _ _ => by rw [o.eK]; exact set_rsN o.hw o.units) (fold_set c3) (fun _ => fold_set c4)) fun σ H Q q => dc2_data (fun i hi => by have := c5.1 i hi; simpa using this) (fun i hi => hi) q
      · cases hf
    · cases hf
  · split at hf
    · rename_i c
      simp only [Bool.and_eq_true, Bool.not_eq_true'] at c
      obtain ⟨⟨c1, c2⟩, c3⟩ := c
      have e1 := eq_of_beq c2
      subst e1
      obtain ⟨g1, g2, g3, g4⟩ := glF_of o c1 (by decide)
      split at hf
      · rename_i b hb
        cases hf
        unfold rngArg at hb
        split at hb
        · split at hb
          · rename_i k
            cases hb
            simp only [Bool.and_eq_true, Bool.not_eq_true'] at k
            obtain ⟨⟨k1, k2⟩, k3⟩ := k
            have e2 := eq_of_beq k2
            subst e2
            obtain ⟨y1, y2, y3, y4⟩ := glF_of o k1 (by decide)
            exact f_lrng o.calm g1 g2 y1 y2 (h.P o _) k3
          · cases hb
        · cases hb
      · cases hf
        exact f_callTy (c_list o.eK o.calm) g1 g2 list_ok (snd_argsP h o _) (by simp [c3]) g3 g4
    · split at hf
      · rename_i c
        simp only [Bool.and_eq_true, Bool.not_eq_true'] at c
        obtain ⟨⟨c1, c2⟩, c3⟩ := c
        cases hf
        have e1 := eq_of_beq c2
        subst e1
        obtain ⟨g1, g2, g3, g4⟩ := glF_of o c1 (by decide)
        exact f_callTy (c_dict o.eK o.calm) g1 g2 dict_ok (snd_argsP h o _) (by simp [c3]) g3 g4
      · split at hf
        · rename_i c
          simp only [Bool.and_eq_true, Bool.not_eq_true'] at c
          obtain ⟨⟨c1, c2⟩, c3⟩ := c
          have e1 := eq_of_beq c2
          subst e1
          obtain ⟨g1, g2, g3, g4⟩ := glF_of o c1 (by decide)
          split at hf
          · rename_i b hb
            cases hf
            unfold setArg at hb
            split at hb
            · split at hb
              · rename_i k
                cases hb
                simp only [Bool.and_eq_true, Bool.not_eq_true'] at k
                obtain ⟨⟨k1, k2⟩, k3⟩ := k
                have e2 := eq_of_beq k2
                subst e2
                obtain ⟨y1, y2, y3, y4⟩ := glF_of o k1 (by decide)
                exact f_sortset o.eK o.calm o.units g1 g2 y1 y2 (snd_argsP h o _) k3
              · cases hb
            · cases hb
          · split at hf
            · rename_i ob hob
              cases hf
              unfold itmArg at hob
              split at hob
              · split at hob
                · rename_i k
                  cases hob
                  simp only [Bool.and_eq_true] at k
                  obtain ⟨⟨k1, k2⟩, k3⟩ := k
                  have e2 := eq_of_beq k1
                  subst e2
                  exact f_sortitems o.eK o.calm o.units g1 g2 (h.E o _) (base_of k2) k3
                · cases hob
              · cases hob
            · cases hf
              exact f_callB (c_sorted o.eK o.calm o.units) g1 g2 sorted_ok (snd_argsP h o _) (by simp [c3]) g3 g4
        · cases hf
  · split at hf
    · rename_i c
      simp only [Bool.and_eq_true] at c
      obtain ⟨k1, k2, k3⟩ := okN_of c.2
      split at hf
      · rename_i n F hF
        split at hf
        · rename_i c2
          cases hf
          obtain ⟨k, fa, fd, ps, q1, q2, q3, q4, q5⟩ := o.fo _ n F hF
          exact f_call o.eK q1 q2 (o.gl c.1) q3 q4 q5 o.tk (snd_argsE h o _) c2 k1
        · cases hf
      · cases hf
    · cases hf
  · cases hf
theorem blt_cases {f : Str} {F : List D → R D} (h : blt f = some F) : (f = "len" ∧ F = dLen) ∨ (f = "all" ∧ F = dAll) ∨ (f = "any" ∧ F = dAny) ∨ (f = "abs" ∧ F = dAbs) ∨ (f = "max" ∧ F = dMax) ∨ (f = "min" ∧ F = dMin) ∨ (f = "tuple" ∧ F = dTuple) ∨ (f = "sum" ∧ F = dSum) := by
  unfold blt at h
  repeat (split at h; · rename_i c; cases h; have e := eq_of_beq c; simp [e])
  cases h
theorem isiOf_ok {t : Str} {n : String} (h : isiOf t = some n) : n ∈ isiTys ∧ t = Str.ofString n := by
  unfold isiOf at h
  exact ⟨List.mem_of_find?_eq_some h, by simpa using List.find?_some h⟩
theorem isi_boot : ∀ n ∈ isiTys, bootBuiltins (Str.ofString n) = some (.type n) ∧ Str.ofString n ∈ blts ∧ (Str.ofString n == ("__debug__" : Str)) = false ∧ Str.ofString n ≠ "__name__" := by decide +kernel
theorem snd_E0 (h : Snd T N v) (o : CxOk T N X C s) (e : Expr) : PE X e (tE C (stepE0 T N v s e)) := by
  unfold stepE0
  split
  · rename_i x pos
    split
    · rename_i c
      simp only [Bool.and_eq_true] at c
      split
      · rename_i i hi
        obtain ⟨h1, h2, _⟩ := okN_of c.2
        exact e_varE (by rw [o.eN]; exact nIx_ok hi) (o.vis c.1) h1 h2
      · exact pe_bad
    · split
      · rename_i c
        simp only [Bool.and_eq_true] at c
        split
        · rename_i d hd
          obtain ⟨w, u, h1, h2, h3⟩ := o.con x d hd
          exact e_glob (o.gl c.1) h1 h2 h3 (okN_of c.2).1
        · exact pe_bad
      · exact pe_bad
  · split
    · rename_i d hd
      exact e_con hd
    · exact pe_bad
  · exact e_bin (op_bin o.eK _) (h.P o _) (h.P o _)
  · exact e_not (h.P o _)
  · exact e_neg (h.P o _)
  · exact snd_andL h o _
  · exact snd_orL h o _
  · split
    · exact pe_bad
    · rename_i c
      exact e_cmp (F := fun x y => asBool (dCmp _ x y)) (op_cmp o.hw o.eK o.units _) (h.P o _) (h.P o _) (by simpa using c)
  · split
    · exact pe_bad
    · rename_i c
      exact e_chain (op_cmp o.hw o.eK o.units _) (op_cmp o.hw o.eK o.units _) (h.P o _) (h.P o _) (h.P o _) (by simpa using c)
  · split
    · exact pe_bad
    · rename_i c
      exact e_chain3 (op_cmp o.hw o.eK o.units _) (op_cmp o.hw o.eK o.units _) (op_cmp o.hw o.eK o.units _) (h.P o _) (h.P o _) (h.P o _) (h.P o _) (by simpa using c)
  · exact e_if (h.B o _) (h.E o _) (h.E o _)
  · exact e_tup (snd_argsE h o _)
  · exact e_sl o.eK (h.P o _) (snd_part h o _) (snd_part h o _)
  · exact e_rev0 o.eK (h.P o _)
  · exact e_rev1 o.eK (h.P o _) (snd_part h o _)
  · exact pe_bad
  · rename_i a b pos n1 n2 n3 n4
    refine e_ix o.hw o.units o.eK (h.P o _) (h.P o _) (plainIx_of ?_)
    cases b <;> first | rfl | exact (n4 _ _ _ _ rfl).elim
  · rename_i f p e es pos
    split
    · rename_i c
      simp only [Bool.and_eq_true] at c
      obtain ⟨k1, k2, k3⟩ := okN_of c.2
      split
      · rename_i n F hF
        split
        · rename_i c2
          obtain ⟨k, fa, fd, ps, q1, q2, q3, q4, q5⟩ := o.fn f n F hF
          exact e_call o.eK q1 q2 (o.gl c.1) q3 q4 q5 o.tk (snd_argsE h o _) c2 k1
        · exact pe_bad
      · rename_i hF
        split
        · rename_i c2
          have e1 := eq_of_beq c2
          subst e1
          split
          · rename_i t p2
            split
            · rename_i tn ht
              split
              · rename_i c3
                simp only [Bool.and_eq_true, Bool.not_eq_true'] at c3
                obtain ⟨⟨c4, c5⟩, c6⟩ := c3
                obtain ⟨m1, rfl⟩ := isiOf_ok ht
                obtain ⟨b1, b2, b3, b4⟩ := isi_boot tn m1
                exact e_isi o.eK m1 (o.gl c.1) (o.free _ (by decide) hF) (o.gl c4) (o.free _ b2 (by simpa using c5)) b1 b4 b3 (h.P o _) c6
              · exact pe_bad
            · exact pe_bad
          · exact pe_bad
        · split
          · rename_i F hb
            split
            · rename_i c2
              rcases blt_cases hb with ⟨rfl, rfl⟩ | ⟨rfl, rfl⟩ | ⟨rfl, rfl⟩ | ⟨rfl, rfl⟩ | ⟨rfl, rfl⟩ | ⟨rfl, rfl⟩ | ⟨rfl, rfl⟩ | ⟨rfl, rfl⟩
              · exact e_callB (c_len o.eK) (o.gl c.1) (o.free _ (by decide) hF) (by decide +kernel) (snd_argsP h o _) c2 k3 k1
              · exact e_callB (c_all o.calm) (o.gl c.1) (o.free _ (by decide) hF) (by decide +kernel) (snd_argsP h o _) c2 k3 k1
              · exact e_callB (c_any o.calm) (o.gl c.1) (o.free _ (by decide) hF) (by decide +kernel) (snd_argsP h o _) c2 k3 k1
              · exact e_callB c_abs (o.gl c.1) (o.free _ (by decide) hF) (by decide +kernel) (snd_argsP h o _) c2 k3 k1
              · exact e_callB (c_max o.eK o.calm o.units) (o.gl c.1) (o.free _ (by decide) hF) (by decide +kernel) (snd_argsP h o _) c2 k3 k1
              · exact e_callB (c_min o.eK o.calm o.units) (o.gl c.1) (o.free _ (by decide) hF) (by decide +kernel) (snd_argsP h o _) c2 k3 k1
              · exact e_callTy (c_tuple o.eK) (o.gl c.1) (o.free _ (by decide) hF) (by decide +kernel) (snd_argsP h o _) c2 k3 k1
              · exact e_callB (c_sum o.eK o.calm) (o.gl c.1) (o.free _ (by decide) hF) (by decide +kernel) (snd_argsP h o _) c2 k3 k1
            · exact pe_bad
          · exact pe_bad
    · exact pe_bad
  · split
    · rename_i c
      simp only [Bool.and_eq_true, Bool.not_eq_true'] at c
      obtain ⟨⟨c1, c2⟩, c3⟩ := c
      split
      · rename_i k
        have e1 := eq_of_beq k
        subst e1
        exact e_index o.units o.eK (h.P o _) (h.P o _) c1 c2 c3
      · split
        · rename_i k
          have e1 := eq_of_beq k
          subst e1
          exact e_count o.units o.eK (h.P o _) (h.P o _) c1 c2 c3
        · exact pe_bad
    · exact pe_bad
  · split
    · rename_i c
      simp only [Bool.and_eq_true, Bool.not_eq_true'] at c
      obtain ⟨⟨⟨⟨c1, c2⟩, c3⟩, c4⟩, c5⟩ := c
      have e1 := eq_of_beq c1
      subst e1
      exact e_get o.units (h.P o _) (h.P o _) (h.E o _) c2 c3 (base_of c4) c5
    · exact pe_bad
  · exact pe_bad
theorem snd_told (h : Snd T N v) (o : CxOk T N X C s) (e : Expr) {p : Scope × Expr} (hp : toldE s e = some p) : PE X e (tE C (fTold T.exc (v.E ⟨p.1, [], false, false⟩ p.2))) := by
  unfold toldE at hp
  split at hp
  · split at hp
    · rename_i q
      cases hp
      simp only [Bool.and_eq_true] at q
      obtain ⟨q1, q2, q3, q4⟩ := q
      have e1 := eq_of_beq q2
      subst e1
      have l := o.lam q1
      obtain ⟨c, P, t1, t2, t3⟩ := l.tab
      obtain ⟨kk, r1, r2, r3, r4, r5⟩ := l.room
      exact e_told o.hw o.eK l.told l.cls (o.xc l.xF) l.xF l.val (o.gl q3) (by decide) (by decide) t1 t2 t3 r1 (by rw [o.sc]; exact LamX.lamS_by q4) rfl (fun _ _ _ _ _ => rfl) (fun A outer h0 H E f c' hr => h.E (o.lamC l q4 hr r2 r3 r4 r5) _)
    · cases hp
  · cases hp
theorem snd_kn (h : Snd T N v) (o : CxOk T N X C s) (e : Expr) (g : Env → R D) (hg : knX T v s e = some g) : PE X e (tE C g) := by
  unfold knX at hg
  split at hg
  · split at hg
    · rename_i c
      simp only [Bool.and_eq_true] at c
      cases hg
      obtain ⟨PN, hPN⟩ := Option.isSome_iff_exists.mp c.1
      obtain ⟨_, _, _, _, _, _, _, _, _, kn⟩ := o.knM PN hPN
      exact e_fld o.eK kn (h.E o _) (base_of c.2.1)
    · cases hg
  · rename_i ob m ap e es cp
    split at hg
    · rename_i n F hF
      split at hg
      · rename_i c
        simp only [Bool.and_eq_true, decide_eq_true_eq, Bool.not_eq_true'] at c
        obtain ⟨⟨c1, c2⟩, ⟨c3, c4⟩, c5⟩ := c
        cases hg
        obtain ⟨k, f, fd, ps, FO, hr, hm, hb, kn⟩ := o.mt m n F hF
        have hno : m ≠ "sea" ∧ m ≠ "worlds" ∧ m ≠ "names" ∧ m ≠ "near" := by
          have key : ∀ x ∈ knFlds, m ≠ x := fun x hx e => by
            rw [e] at c5
            have : knFlds.contains x = true := List.contains_iff_mem.mpr hx
            rw [this] at c5
            cases c5
          exact ⟨key _ (by decide), key _ (by decide), key _ (by decide), key _ (by decide)⟩
        exact e_knm o.eK kn hm hno FO hr hb o.tk (h.E o _) (snd_argsE h o _) c3 (hev_ok c1 c2 c3 c4)
      · cases hg
    · cases hg
  · rename_i f p e es pos
    split at hg
    · rename_i c
      simp only [Bool.and_eq_true] at c
      obtain ⟨c1, c2, c3, c4⟩ := c
      have e1 := eq_of_beq c1
      subst e1
      obtain ⟨PN, hPN, rfl⟩ := Option.map_eq_some_iff.mp hg
      obtain ⟨k, f, fd, ps, FO, hr, hmk, hmg, hb, kn⟩ := o.knM PN hPN
      exact e_kmake o.eK hmk FO hr (o.gl c2) hmg hb o.tk (snd_argsE h o _) c4
    · cases hg
  · cases hg
theorem snd_E (h : Snd T N v) (o : CxOk T N X C s) (e : Expr) : PE X e (tE C (stepE T N v s e)) := by
  unfold stepE
  split
  · rename_i p hp
    exact snd_told h o e hp
  split
  · rename_i f hf
    exact e_fresh (snd_F h o e f hf)
  split
  · rename_i g hg
    exact snd_kn h o e g hg
  · exact snd_E0 h o e
theorem snd_P (h : Snd T N v) (o : CxOk T N X C s) (e : Expr) : PE X e (tP C (stepP T N v s e)) := by
  unfold stepP
  split
  · split
    · rename_i c
      simp only [Bool.and_eq_true] at c
      split
      · rename_i i hi
        obtain ⟨h1, h2, _⟩ := okN_of c.2
        exact e_varP (by rw [o.eN]; exact nIx_ok hi) (o.vis c.1) h1 h2
      · exact pe_bad
    · exact PE.peek (snd_E h o _)
  · exact PE.peek (snd_E h o _)
theorem snd_B (h : Snd T N v) (o : CxOk T N X C s) (e : Expr) : PT X e (tT C (stepB v s e)) := by
  unfold stepB
  split
  · exact t_not (h.B o _)
  · exact (snd_andT h o _).pt
  · exact (snd_orT h o _).pt
  · split
    · exact pt_bad
    · rename_i c
      exact t_cmp (op_cmp o.hw o.eK o.units _) (h.P o _) (h.P o _) (by simpa using c)
  · split
    · exact pt_bad
    · rename_i c
      exact t_chain (op_cmp o.hw o.eK o.units _) (op_cmp o.hw o.eK o.units _) (h.P o _) (h.P o _) (h.P o _) (by simpa using c)
  · exact t_val (h.P o _) fun _ => rfl
  · exact t_val (h.P o _) fun _ => rfl
  · exact t_val (h.P o _) fun _ => rfl
  · exact t_val (h.P o _) fun _ => rfl
  · exact pt_bad
theorem pi_bad {tg e : Expr} : PI X tg e (tI C bad1) := ⟨fun _ _ _ _ _ _ ⟨_, _, _, _, _, h⟩ => h.elim⟩
theorem snd_I (h : Snd T N v) (o : CxOk T N X C s) (tg e : Expr) : PI X tg e (tI C (stepI T v s tg e)) := by
  unfold stepI
  split
  · split
    · rename_i c
      simp only [Bool.and_eq_true, Bool.not_eq_true'] at c
      obtain ⟨⟨c1, c2⟩, c3⟩ := c
      have e1 := eq_of_beq c2
      subst e1
      obtain ⟨g1, g2, g3, g4⟩ := glF_of o c1 (by decide)
      exact i_rng1 g1 g2 (snd_argsP h o _) c3
    · split
      · rename_i c
        simp only [Bool.and_eq_true, Bool.not_eq_true'] at c
        obtain ⟨⟨c1, c2⟩, c3⟩ := c
        have e1 := eq_of_beq c2
        subst e1
        obtain ⟨g1, g2, g3, g4⟩ := glF_of o c1 (by decide)
        split
        · exact i_enum o.eK g1 g2 (snd_argsE h o _) c3
        · exact pi_bad
      · exact i_any o.eK (h.E o _)
  · split
    · rename_i c
      simp only [Bool.and_eq_true, Bool.not_eq_true'] at c
      obtain ⟨⟨⟨c1, c2⟩, c3⟩, c4⟩ := c
      have e1 := eq_of_beq c2
      subst e1
      obtain ⟨g1, g2, g3, g4⟩ := glF_of o c1 (by decide)
      exact i_rng2 g1 g2 (snd_argsP h o _) c3 c4
    · split
      · rename_i c
        simp only [Bool.and_eq_true, Bool.not_eq_true'] at c
        obtain ⟨⟨⟨c1, c2⟩, c3⟩, c4⟩ := c
        have e1 := eq_of_beq c2
        subst e1
        obtain ⟨g1, g2, g3, g4⟩ := glF_of o c1 (by decide)
        split
        · exact i_zip o.eK g1 g2 (snd_argsE h o _) c3 c4
        · exact pi_bad
      · exact i_any o.eK (h.E o _)
  · split
    · rename_i c
      simp only [Bool.and_eq_true, Bool.not_eq_true'] at c
      obtain ⟨⟨⟨⟨c1, c2⟩, c3⟩, c4⟩, c5⟩ := c
      have e1 := eq_of_beq c2
      subst e1
      obtain ⟨g1, g2, g3, g4⟩ := glF_of o c1 (by decide)
      exact i_rng3 g1 g2 (snd_argsP h o _) c3 c4 c5
    · exact i_any o.eK (h.E o _)
  · split
    · rename_i c
      simp only [Bool.and_eq_true] at c
      obtain ⟨⟨c1, c2⟩, c3⟩ := c
      have e1 := eq_of_beq c1
      subst e1
      split
      · exact i_items (h.E o _) (base_of c2) c3
      · exact pi_bad
    · exact pi_bad
  · exact i_any o.eK (h.E o _)
end
theorem snd_step {T : Tbl} {N : List Str} {v : Ev} (h : Snd T N v) : Snd T N (step T N v) where
  E := fun o e => snd_E h o e
  P := fun o e => snd_P h o e
  F := fun o e f _ hf => snd_F h o e f hf
  B := fun o e => snd_B h o e
  I := fun o tg e => snd_I h o tg e
theorem snd_ev (T : Tbl) (N : List Str) : ∀ n, Snd T N (ev T N n)
  | 0 => ⟨fun _ _ => pe_bad, fun _ _ => pe_bad, fun _ _ _ _ h => (nomatch h), fun _ _ => pt_bad, fun _ _ _ => pi_bad⟩
  | n + 1 => snd_step (snd_ev T N n)
end DL
namespace DL
open PySem PySem.Spec PyProof.Rows L2
variable [Lots]
def peekF : List Str := ["isinstance", "len", "all", "any", "abs", "max", "min", "tuple", "list", "sorted", "range", "set", "dict", "sum"]
structure Kn where
  E : Expr → List Str
  P : Expr → List Str
def knP (k : Kn) : Expr → List Str
  | .BinOp a _ b _ => k.P a ++ k.P b
  | .UnaryOp _ a _ => k.P a
  | .BoolOp _ es _ => es.flatMap k.E
  | .Compare a _ bs _ => k.P a ++ bs.flatMap k.P
  | .IfExp c a b _ => k.P c ++ (k.E a ++ k.E b)
  | .Tuple es _ _ => es.flatMap k.E
  | .List es _ => es.flatMap k.E
  | .Subscript a b _ => k.P a ++ k.P b
  | .Slice a b c _ => (a.elim [] k.P) ++ ((b.elim [] k.P) ++ (c.elim [] k.P))
  | .Call (.Name f _) es _ _ => if peekF.contains f then es.flatMap k.P else es.flatMap k.E
  | .Call (.Attribute o m _) es _ _ => (if m == ("items" : Str) then k.E o else k.P o) ++ es.flatMap k.E
  | .Dict ks vs _ => (ks.flatMap fun x => x.elim [] k.E) ++ vs.flatMap k.E
  | .ListComp elt gs _ _ => k.E elt ++ gs.flatMap fun g => k.E g.iter ++ g.ifs.flatMap k.P
  | .DictComp kx vx gs _ _ => k.E kx ++ (k.E vx ++ gs.flatMap fun g => k.E g.iter ++ g.ifs.flatMap k.P)
  | _ => []
def kn : Nat → Kn
  | 0 => ⟨fun _ => [], fun _ => []⟩
  | n + 1 => ⟨fun e => match e with | .Name x _ => [x] | e => knP (kn n) e, fun e => match e with | .Name _ _ => [] | e => knP (kn n) e⟩
section
variable (T : Tbl) (N : List Str) (wh : Nat)
def rsOf (xs : List Str) : List Nat := xs.filterMap (nIx N)
def blkS (f : Stmt → Env → R Out) : List Stmt → Env → R Out
  | [] => fun ρ => .ok (.nx ρ)
  | st :: sts => fSeq (f st) (blkS f sts)
def swB (sc : Scope) (y : Str) (py pos : Pos) (scope : Scope) : Bool := sc.names.lookup y == some .local && py.line == pos.line && !(scope.names.any fun (n, k) => n == y && (k == .local || k == .cell))
def relS (is : List Nat) (F : Env → R Out) : Env → R Out := fun ρ => F (relR is ρ)
def flsOf (v : Ev) (s : Sc) (es : List Expr) : List Bool := es.map fun e => (v.F s e).isSome
def argsM (v : Ev) (s : Sc) : List Expr → Env → R (List D)
  | [] => fun _ => .ok []
  | e :: es => if isStar e then bad1 else (match v.F s e with
    | some f => fCons f (argsM v s es)
    | none => fCons (v.E s e) (argsM v s es))
def ownAdd (x : Str) : Expr → Option (Expr × Expr)
  | .BinOp (.Name y p) .Add b _ => if y == x && x == ("told" : Str) then some (.Name y p, b) else none
  | .BinOp (.Call f as ks p) .Add b _ => if x == ("bad" : Str) then some (.Call f as ks p, b) else none
  | _ => none
theorem ownAdd_ok {x : Str} {e a b : Expr} (h : ownAdd x e = some (a, b)) : ∃ pos, e = .BinOp a .Add b pos := by
  unfold ownAdd at h
  split at h
  · split at h
    · cases h
      exact ⟨_, rfl⟩
    · cases h
  · split at h
    · cases h
      exact ⟨_, rfl⟩
    · cases h
  · cases h
def grpOf : List Stmt → Option (Str × Expr × Expr)
  | [.Expr (.Call (.Attribute (.Call (.Attribute (.Name x _) m1 a1) [e1, .List [] _] [] c1) m2 a2) [e2] [] c2) _] =>
    if ((m1 == ("setdefault" : Str)) && (m2 == ("append" : Str))) && ((!isStar e1 && !isStar e2) && ((a1.endLine == c1.line) && (a2.endLine == c2.line))) then some (x, e1, e2) else none
  | _ => none
theorem grpOf_ok {b : List Stmt} {x : Str} {e1 e2 : Expr} (h : grpOf b = some (x, e1, e2)) : ∃ p1 a1 p3 c1 a2 c2 p4, b = [.Expr (.Call (.Attribute (.Call (.Attribute (.Name x p1) "setdefault" a1) [e1, .List [] p3] [] c1) "append" a2) [e2] [] c2) p4] ∧ isStar e1 = false ∧ isStar e2 = false ∧ (a1.endLine == c1.line) = true ∧ (a2.endLine == c2.line) = true := by
  unfold grpOf at h
  split at h
  · split at h
    · rename_i c
      simp only [Bool.and_eq_true, Bool.not_eq_true'] at c
      obtain ⟨⟨c1, c2⟩, ⟨c3, c4⟩, c5, c6⟩ := c
      cases h
      have z1 := eq_of_beq c1
      have z2 := eq_of_beq c2
      subst z1 z2
      exact ⟨_, _, _, _, _, _, _, rfl, c3, c4, c5, c6⟩
    · cases h
  · cases h
def stepS (v : Ev) (s : Sc) (f : Stmt → Env → R Out) : Stmt → Env → R Out
  | .Pass _ => fun ρ => .ok (.nx ρ)
  | .Break _ => fun ρ => .ok (.bk ρ)
  | .Continue _ => fun ρ => .ok (.ct ρ)
  | .Return none _ => if s.fr then bad1 else fun _ => .ok (.rt .none)
  | .Return (some e) _ => if s.fr then (match e with
      | .Name x _ => if isVis s.sc x && okN x then (match nIx N x with | some i => fRetO i | none => bad1) else bad1
      | e => (match v.F s e with | some g => relS (rsOf N ((kn 40).P e)) fun ρ => g ρ >>= fun d => .ok (.rt d) | none => bad1))
    else relS (rsOf N ((kn 40).E e)) fun ρ => v.E s e ρ >>= fun d => .ok (.rt d)
  | .If c a b _ => relS (rsOf N ((kn 40).P c)) (fIfS (v.B s c) (blkS f a) (blkS f b))
  | .Expr (.Call (.Attribute (.Name x _) m ap) [e] [] cp) _ =>
    if isVis s.sc x && okN x && (ap.endLine == cp.line) && !isStar e then
      match nIx N x with
      | some i => if m == ("append" : Str) then relS (rsOf N ((kn 40).E e)) (fApp i (v.E s e)) else if m == ("extend" : Str) then relS (rsOf N ((kn 40).E e)) (fExt i (v.E s e)) else if m == ("update" : Str) then relS (rsOf N ((kn 40).E e)) (fUpd i (v.E s e)) else bad1
      | none => bad1
    else bad1
  | .Expr e _ => if isComp e then bad1 else relS (rsOf N ((kn 40).E e)) fun ρ => v.E s e ρ >>= fun _ => .ok (.nx ρ)
  | .Assign [.Name z pz] (.Call (.Attribute (.Name x _) m ap) [] [] cp) _ =>
    if m == ("pop" : Str) && isVis s.sc x && okN x && (ap.endLine == cp.line) then
      match nIx N x, tgOf N s (.Name z pz) with
      | some i, some t => fPop i t
      | _, _ => bad1
    else bad1
  | .Assign [.Name x py] e _ => (match stIx N s x with
    | some i => (match v.F s e with
      | some g => (match e with
        | .ListComp _ [⟨_, _, _, _⟩] _ _ => relS (rsOf N ((kn 40).P e)) fun ρ => g ρ >>= fun d => .ok (.nx (ρ.set i (.ow d)))
        | .ListComp _ [⟨_, _, _, _⟩, ⟨_, _, _, _⟩] _ _ => relS (rsOf N ((kn 40).P e)) fun ρ => g ρ >>= fun d => .ok (.nx (ρ.set i (.ow d)))
        | e => if isComp e then bad1 else relS (rsOf N ((kn 40).P e)) fun ρ => g ρ >>= fun d => .ok (.nx (ρ.set i (.ow d))))
      | none => (match ownAdd x e with
        | some (a, b) => relS (rsOf N ((kn 40).P e)) fun ρ => (v.P s a ρ >>= fun p => v.P s b ρ >>= fun q => dCat p q) >>= fun d => .ok (.nx (ρ.set i (.ow d)))
        | none => if isComp e then bad1 else relS (rsOf N ((kn 40).E e)) fun ρ => v.E s e ρ >>= fun d => .ok (.nx (ρ.set i (.va d)))))
    | none => bad1)
  | .Assign [.Subscript (.Name x _) k _] e _ => if isVis s.sc x && okN x && !isComp e then
      (match nIx N x with
      | some i => relS (rsOf N ((kn 40).E e ++ (kn 40).P k)) (fPut i (v.P s k) (v.E s e))
      | none => bad1)
    else bad1
  | .Assign [.Tuple ts k pt] (.Tuple es k2 pt2) _ => (match nmsIx N s ts with
    | some is => if decide (is.length = es.length) && decide (is.length ≤ 1000) then (match swap? s.sc ts es with
      | some none => relS (rsOf N ((kn 40).P (.Tuple es k2 pt2))) (fPar (flsOf v s es) is (argsM v s es))
      | some (some _) => (match ts, es, is with
        | [.Name x _, .Name y _], [a, b], [i, j] => if decide (i ≠ j) && (swNames s.sc ts == [x, y]) && (s.sc.names.lookup x == some .local) && (s.sc.names.lookup y == some .local) then
            relS (rsOf N ((kn 40).P (.Tuple es k2 pt2))) (fPar (flsOf v s [a, b]) [i, j] (argsM v s [a, b])) else bad1
        | [.Name x _, .Name y _, .Name z _], [a, b, c], [i, j, l] => if decide (i ≠ j) && decide (i ≠ l) && decide (j ≠ l) && (swNames s.sc ts == [x, y, z]) && (s.sc.names.lookup x == some .local) && (s.sc.names.lookup y == some .local) && (s.sc.names.lookup z == some .local) then
            relS (rsOf N ((kn 40).P (.Tuple es k2 pt2))) (fPar (flsOf v s [a, b, c]) [i, j, l] (argsM v s [a, b, c])) else bad1
        | _, _, _ => bad1)
      | none => bad1) else bad1
    | none => bad1)
  | .Assign [.Tuple ts k pt] (.Call (.Attribute (.Name x _) m ap) [] [] cp) _ =>
    if m == ("pop" : Str) && isVis s.sc x && okN x && (ap.endLine == cp.line) then
      match nIx N x, tgOf N s (.Tuple ts k pt) with
      | some i, some t => fPop i t
      | _, _ => bad1
    else bad1
  | .Assign [.Tuple ts k pt] e _ => if isTupE e then bad1 else (match nmsIx N s ts with
    | some is => relS (rsOf N ((kn 40).E e)) (fSetT (.many is) (v.E s e))
    | none => bad1)
  | .For tg iter body [] _ => (match tgOf N s tg with
    | some t => if isSetE iter then bad1 else (match grpOf body with
      | some (x, e1, e2) => if isVis s.sc x && okN x then (match nIx N x with
        | some i => relS (rsOf N ((kn 40).E iter ++ ((kn 40).E e1 ++ (kn 40).E e2))) (fGrp i (v.I s tg iter) t (v.E s e1) (v.E s e2))
        | none => bad1) else bad1
      | none => relS (rsOf N ((kn 40).E iter)) (fFor (v.I s tg iter) t (blkS f body)))
    | none => bad1)
  | .While c body [] _ => relS (rsOf N ((kn 40).P c)) (whLoop (v.B s c) (blkS f body) wh)
  | .Raise (some (.Call (.Name x _) [.Constant (.str _) _ _] [] _)) none _ => if isGl s.sc x && okN x && T.exc x then fun _ => .exc x else bad1
  | .Try body [.ExceptHandler (some (.Name x _)) (some n) [.Return (some (.Call (.Attribute (.List es _) m ap) [.Constant (.bool true) _ _] [] cp)) _] _] [] [] _ =>
    if x == ("FleetError" : Str) && !s.fr && m == ("index" : Str) && isGl s.sc x && (s.sc.names.lookup n == some .local) && okN n && glF T s "isinstance" && (ap.endLine == cp.line) && T.exc "FleetError" then
      match nIx N n, isxs n es with
      | some _, some cs => if (cs.all fun k => T.exc k && !(k == ("FleetError" : Str)) && isGl s.sc k && okN k) && decide (cs.length ≤ 1000) then fTryIx T.exc (blkS f body) cs else bad1
      | _, _ => bad1
    else bad1
  | .Try body [.ExceptHandler (some (.Name x _)) (some n) [.Assign [.Name g _] (.List es _) _, .Return (some (.Call (.Attribute (.BinOp (.Name g2 _) .Add (.List es2 _) _) m ap) [.Constant (.bool true) _ _] [] cp)) _] _] [] [] _ =>
    if x == ("FleetError" : Str) && !s.fr && m == ("index" : Str) && isGl s.sc x && (s.sc.names.lookup n == some .local) && okN n && glF T s "isinstance" && (ap.endLine == cp.line) && T.exc "FleetError" && g2 == g && (s.sc.names.lookup g == some .local) && okN g then
      match nIx N n, nIx N g, isxs n es, isxs n es2 with
      | some i, some j, some cs, some cs2 => if decide (i ≠ j) && ((cs.all fun k => T.exc k && !(k == ("FleetError" : Str)) && isGl s.sc k && okN k) && (cs2.all fun k => T.exc k && !(k == ("FleetError" : Str)) && isGl s.sc k && okN k) && decide ((cs ++ cs2).length ≤ 1000)) then fTryIx T.exc (blkS f body) (cs ++ cs2) else bad1
      | _, _, _, _ => bad1
    else bad1
  | _ => bad1
def evS (v : Ev) (s : Sc) : Nat → Stmt → Env → R Out
  | 0 => fun _ => bad1
  | n + 1 => stepS T N wh v s (evS v s n)
def runD (n : Nat) (sc : Scope) (body : List Stmt) (ds : List D) : R D :=
  blkS (evS T N wh (ev T N n) ⟨sc, N, false, false⟩ n) body (ds.map Slot.va ++ List.replicate (N.length - ds.length) .un) >>= fun o => match o with
    | .rt d => .ok d
    | .nx _ => .ok .none
    | _ => .bad
def runF (n : Nat) (sc : Scope) (body : List Stmt) (ds : List D) : R D :=
  blkS (evS T N wh (ev T N n) ⟨sc, N, true, false⟩ n) body (ds.map Slot.va ++ List.replicate (N.length - ds.length) .un) >>= fun o => match o with
    | .rt d => .ok d
    | _ => .bad
end
section
variable {T : Tbl} {N : List Str} {wh : Nat} {X : Cx} {C : Pm} {s : Sc} {v : Ev} {f : Stmt → Env → R Out}
theorem snd_blk (hf : ∀ st, PS X st (tS C (f st))) : ∀ sts, PSs X sts (tS C (blkS f sts))
  | [] => s_nil
  | st :: sts => s_cons (hf st) (snd_blk hf sts)
theorem sw_eq {elt : Expr} {gs : List Comprehension} {scope : Scope} {pos py : Pos} {y : Str} {l : Nat} {env : PySem.Env} (hk : env.scope.kind = .function) : swapsWith (.ListComp elt gs scope pos) (some (.Name y py)) l env = pure (swB env.scope y py pos scope) := by
  have hb : env.blockKind = .function := by unfold PySem.Env.blockKind; rw [hk]; rfl
  unfold swapsWith swB
  simp only [hb, Expr.pos]
  rfl
theorem snd_argsM (h : Snd T N v) (hF : ∀ e f, v.F s e = some f → PE X e (tF C f)) (o : CxOk T N X C s) : ∀ es, PA X es (tM C (flsOf v s es) (argsM v s es))
  | [] => m_nil
  | e :: es => by
    unfold argsM
    split
    · exact ⟨fun _ _ _ _ _ _ _ ⟨_, _, _, _, _, h⟩ => h.elim⟩
    · rename_i c
      have ih := snd_argsM h hF o es
      split
      · rename_i g hg
        have e1 : flsOf v s (e :: es) = true :: flsOf v s es := by simp [flsOf, hg]
        rw [e1]
        exact m_ow (by simpa using c) (hF e g hg) ih
      · rename_i hg
        have e1 : flsOf v s (e :: es) = false :: flsOf v s es := by simp [flsOf, hg]
        rw [e1]
        exact m_va (by simpa using c) (h.E o e) ih
theorem swS_none {ts : List Expr} {k : Nat} {pt : Pos} {e : Expr} {env : PySem.Env} (h : isTupE e = false) : swappedStores [.Tuple ts k pt] e env = pure none := by
  cases e <;> first | rfl | simp [isTupE] at h
theorem swN_false {x : Str} {p : Pos} {e : Expr} {l : Nat} {env : PySem.Env} (h : isComp e = false) : swapsWithSole [.Name x p] e l env = pure false := by
  unfold swapsWithSole
  exact sw_false h
theorem swT_false {ts : List Expr} {k l : Nat} {pt : Pos} {e : Expr} {env : PySem.Env} : swapsWithSole [.Tuple ts k pt] e l env = pure false := by
  cases e <;> rfl
theorem ps_bad1 {st : Stmt} : PS X st (tS C bad1) := ps_bad
def FrOk (X : Cx) : Prop := X.stack = X.env :: X.outer ∧ X.env.frame = some X.env.locals
theorem CxOk.tr (o : CxOk T N X C s) {pn : List (Addr × Obj)} {xe : Value → Shared → Prop} {E : XK} (tk : Takes (X.tr pn xe) fun cls d _ H => E cls d H) : CxOk T N (X.tr pn xe) { C with E := E } s where
  eK := o.eK
  hw := o.hw
  calm := o.calm
  eN := o.eN
  nd := o.nd
  sc := o.sc
  kind := o.kind
  wr := o.wr
  units := o.units
  tk := tk
  fn := o.fn
  fo := o.fo
  fr := o.fr
  con := o.con
  free := o.free
  exc := fun x hx => let e := o.exc x hx; ⟨e.q, e.g, e.k, e.r⟩
  xc := fun hF => let e := o.xc hF; ⟨e.glo, e.exc, e.exm, e.kit⟩
  lam := fun hl => let e := o.lam hl; ⟨e.tab, e.told, e.cls, e.xF, e.val, e.room⟩
  mt := o.mt
  knM := o.knM
theorem snd_stepS {n : Nat} (hv : v = step T N (ev T N n)) (o : CxOk T N X C s) (own : PassesOwn (model X.prog X.w) X.A X.env X.xe) (fr : FrOk X) (hfG : ∀ {X : Cx} {C : Pm}, CxOk T N X C s → PassesOwn (model X.prog X.w) X.A X.env X.xe → FrOk X → ∀ st, PS X st (tS C (f st))) (st : Stmt) : PS X st (tS C (stepS T N wh v s f st)) := by
  have hf : ∀ st, PS X st (tS C (f st)) := hfG o own fr
  have h0 : Snd T N (ev T N n) := snd_ev T N n
  have h : Snd T N v := by rw [hv]; exact snd_step h0
  have hF : ∀ e g, v.F s e = some g → PE X e (tF C g) := fun e g hg => by rw [hv] at hg; exact snd_F h0 o e g hg
  unfold stepS
  split
  · exact s_pass
  · exact s_break
  · exact s_continue
  · split
    · exact ps_bad1
    · rename_i c
      exact s_retN (by rw [← o.fr]; simpa using c)
  · split
    · rename_i c
      split
      · split
        · rename_i c2
          simp only [Bool.and_eq_true] at c2
          obtain ⟨k1, k2, k3⟩ := okN_of c2.2
          split
          · rename_i i hi
            exact s_retO (by rw [← o.fr]; exact c) (by rw [o.eN]; exact nIx_ok hi) (o.vis c2.1) k1 k2
          · exact ps_bad1
        · exact ps_bad1
      · split
        · rename_i g hg
          exact s_rel _ (s_retF (by rw [← o.fr]; exact c) (hF _ g hg))
        · exact ps_bad1
    · rename_i c
      exact s_rel _ (s_ret (by rw [← o.fr]; simpa using c) (h.E o _))
  · exact s_rel _ (s_if (h.B o _) (snd_blk hf _) (snd_blk hf _))
  · split
    · rename_i c
      simp only [Bool.and_eq_true, Bool.not_eq_true'] at c
      obtain ⟨⟨⟨c1, c2⟩, c3⟩, c4⟩ := c
      obtain ⟨k1, k2, k3⟩ := okN_of c2
      split
      · rename_i i hi
        split
        · rename_i c5
          have e1 := eq_of_beq c5
          subst e1
          exact s_rel _ (s_app (by rw [o.eN]; exact nIx_ok hi) (o.vis c1) k1 k2 (h.E o _) c4 c3)
        · split
          · rename_i c5
            have e1 := eq_of_beq c5
            subst e1
            exact s_rel _ (s_ext (by rw [o.eN]; exact nIx_ok hi) (o.vis c1) k1 k2 (h.E o _) c4 c3)
          · split
            · rename_i c5
              have e1 := eq_of_beq c5
              subst e1
              exact s_rel _ (s_upd (by rw [o.eN]; exact nIx_ok hi) (o.vis c1) k1 k2 (h.E o _) c4 c3)
            · exact ps_bad1
      · exact ps_bad1
    · exact ps_bad1
  · split
    · exact ps_bad1
    · rename_i c
      exact s_rel _ (s_expr (h.E o _) (by simpa using c))
  · split
    · rename_i c
      simp only [Bool.and_eq_true] at c
      obtain ⟨⟨⟨c1, c2⟩, c3⟩, c4⟩ := c
      have e1 := eq_of_beq c1
      subst e1
      obtain ⟨k1, k2, k3⟩ := okN_of c3
      split
      · rename_i i t hi ht
        exact s_pop (by rw [o.eN]; exact nIx_ok hi) (o.vis c2) k1 k2 (o.tg ht) c4 (swN_false rfl) rfl rfl
      · exact ps_bad1
    · exact ps_bad1
  · rename_i x py e0 spos _
    split
    · rename_i i hi
      split
      · rename_i g hg
        split
        · rename_i elt tg iter ifs asy scope pos _
          have hg' := hg
          rw [hv] at hg'
          obtain ⟨rfl, hset, ok, t, ft, h1, h2, h3, rfl⟩ := snd_lc (pos := pos) h0 o hg'
          have ok' : BlkOk X.N X.env.scope scope (ownOf N scope) := by rw [o.eN, o.sc]; exact ok
          have hk : X.env.scope.kind = .function := by rw [o.sc]; exact o.kind
          have so := o.st hi
          refine s_rel (F := fun ρ => fLc ((ev T N n).I s tg iter) t ft ((ev T N n).E ⟨relab s.sc scope, (ownOf N scope).map (·.1), false, false⟩ elt) ((ownOf N scope).map (·.2)) ρ >>= fun d => .ok (.nx (ρ.set i (.ow d)))) _ ?_
          cases hw : swB X.env.scope x py pos scope with
          | true =>
            have hw' := hw
            simp only [swB, Bool.and_eq_true] at hw'
            exact PS.imp (ps_setLc (own := ownOf N scope) (g := tGt C.calm t) (tt := tT C.calm ft) (te := tE C.calm ((ev T N n).E ⟨relab s.sc scope, (ownOf N scope).map (·.1), false, false⟩ elt)) o.calm o.ndX so.1 (eq_of_beq hw'.1.1) (by rw [sw_eq hk, hw]) (h0.I o tg iter) ok'
              (fun _ _ _ _ _ => (o.blk ok).tg h1) (fun _ _ _ _ _ => snd_ifs h0 (o.blk ok) h2) (fun _ _ _ _ _ => h0.E (o.blk ok) elt) (fold_set hset)) fun Dn σ H q => setF_in (fun Q q => lc_data h3 q) q
          | false =>
            exact PS.imp (ps_set o.ndX so.1 so.2.1 (hF _ _ hg) (by rw [sw_eq hk, hw]) so.2.2) fun Dn σ H q => setF_in (fun Q q => q) q
        · rename_i elt tg iter ifs asy tg1 iter1 ifs1 asy1 scope pos _
          have hk : X.env.scope.kind = .function := by rw [o.sc]; exact o.kind
          have so := o.st hi
          refine s_rel (F := fun ρ => g ρ >>= fun d => .ok (.nx (ρ.set i (.ow d)))) _ ?_
          cases hw : swB X.env.scope x py pos scope with
          | false => exact PS.imp (ps_set o.ndX so.1 so.2.1 (hF _ _ hg) (by rw [sw_eq hk, hw]) so.2.2) fun Dn σ H q => setF_in (fun Q q => q) q
          | true =>
            have hw' := hw
            simp only [swB, Bool.and_eq_true] at hw'
            have hg' := hg
            rw [hv] at hg'
            have hg2 : stepF T N (ev T N n) s (.ListComp elt [⟨tg, iter, ifs, asy⟩, ⟨tg1, iter1, ifs1, asy1⟩] scope pos) = some g := hg'
            clear hg'
            unfold stepF at hg2
            simp only at hg2
            split at hg2
            · rename_i c
              simp only [Bool.and_eq_true, decide_eq_true_eq, Bool.not_eq_true'] at c
              obtain ⟨⟨⟨⟨rfl, rfl⟩, c2⟩, c3⟩, c4⟩ := c
              obtain ⟨t, q1, hg2⟩ := Option.bind_eq_some_iff.mp hg2
              obtain ⟨t1, q2, hg2⟩ := Option.bind_eq_some_iff.mp hg2
              obtain ⟨ft, q3, hg2⟩ := Option.bind_eq_some_iff.mp hg2
              obtain ⟨ft1, q4, hg2⟩ := Option.bind_eq_some_iff.mp hg2
              split at hg2
              · rename_i c5
                simp only [Bool.and_eq_true, List.all_eq_true] at c5
                cases hg2
                have ok := blkOk_by c2
                have ok' : BlkOk X.N X.env.scope scope (ownOf N scope) := by rw [o.eN, o.sc]; exact ok
                exact PS.imp (ps_setLc2 (own := ownOf N scope) (vs1 := t1.ixs) (g := tGt C.calm t) (tt := tT C.calm ft) (g1 := tGt C.calm t1) (tt1 := tT C.calm ft1) (wi1 := tI C.calm ((ev T N n).I ⟨relab s.sc scope, (ownOf N scope).map (·.1), false, false⟩ tg1 iter1)) (te := tE C.calm ((ev T N n).E ⟨relab s.sc scope, (ownOf N scope).map (·.1), false, false⟩ elt)) o.calm o.ndX so.1 (eq_of_beq hw'.1.1) (by rw [sw_eq hk, hw]) (h0.I o tg iter) ok' (fun i hi => by have := c5.2 i hi; simpa using this)
                  (fun _ _ _ _ _ => (o.blk ok).tg q1) (fun _ _ _ _ _ => snd_ifs h0 (o.blk ok) q3) (fun _ _ _ _ _ => h0.I (o.blk ok) tg1 iter1) (fun _ _ _ _ _ => (o.blk ok).tg q2) (fun _ _ _ _ _ => snd_ifs h0 (o.blk ok) q4) (fun _ _ _ _ _ => h0.E (o.blk ok) elt) (fold_set c3) (fun _ => fold_set c4)) fun Dn σ H q => setF_in (fun Q q => lc2_data (fun i hi => by have := c5.1 i hi; simpa using this) (fun i hi => hi) q) q
              · cases hg2
            · cases hg2
        · split
          · exact ps_bad1
          · rename_i c
            exact s_rel _ (s_setF o.ndX (o.st hi) (hF _ _ hg) (by simpa using c))
      · split
        · rename_i a' b' hab
          obtain ⟨ps, rfl⟩ := ownAdd_ok hab
          exact s_rel _ (s_setF o.ndX (o.st hi) (f_cat (h.P o _) (h.P o _)) rfl)
        · split
          · exact ps_bad1
          · rename_i c
            exact s_rel _ (s_set o.ndX (o.st hi) (h.E o _) (by simpa using c))
    · exact ps_bad1
  · split
    · rename_i c
      simp only [Bool.and_eq_true, Bool.not_eq_true'] at c
      split
      · rename_i i hi
        obtain ⟨k1, k2, k3⟩ := okN_of c.1.2
        exact s_rel _ (s_put o.hw o.eK o.units (by rw [o.eN]; exact nIx_ok hi) (o.vis c.1.1) k1 k2 (h.P o _) (h.E o _) c.2)
      · exact ps_bad1
    · exact ps_bad1
  · rename_i ts k pt es k2 pt2 pos
    split
    · rename_i is his
      split
      · rename_i c
        simp only [Bool.and_eq_true, decide_eq_true_eq] at c
        have fl : is.length = (flsOf v s es).length := by simp [flsOf, c.1]
        have hk : X.env.scope.kind = .function := by rw [o.sc]; exact o.kind
        split
        · rename_i hs
          exact s_rel _ (s_parN o.calm o.ndX (o.nms his) fl c.2 (snd_argsM h hF o es) (swap_ok hk (by rw [o.sc]; exact hs)))
        · rename_i ns hs
          have hns : ns = swNames s.sc ts := by
            unfold swap? at hs
            repeat (split at hs; · cases hs)
            exact (Option.some.inj (Option.some.inj hs)).symm
          split
          · rename_i x px y py a b i j
            split
            · rename_i c2
              simp only [Bool.and_eq_true, decide_eq_true_eq] at c2
              obtain ⟨⟨⟨d1, d2⟩, d3⟩, d4⟩ := c2
              have nm := o.nms his
              cases nm with
              | cons s1 nm =>
                cases nm with
                | cons s2 nm =>
                  refine s_rel _ (s_par2 o.calm o.ndX s1.1 s2.1 d1 (by rw [o.sc]; exact eq_of_beq d3) (by rw [o.sc]; exact eq_of_beq d4) (by simp [flsOf]) (snd_argsM h hF o _) (swap_ok hk ?_))
                  rw [o.sc, hs, hns]
                  exact congrArg some (congrArg some (eq_of_beq d2))
            · exact ps_bad1
          · rename_i x px y py z pz a b c' i j l
            split
            · rename_i c2
              simp only [Bool.and_eq_true, decide_eq_true_eq] at c2
              obtain ⟨⟨⟨⟨⟨⟨d1, d2⟩, d3⟩, d4⟩, d5⟩, d6⟩, d7⟩ := c2
              have nm := o.nms his
              cases nm with
              | cons s1 nm =>
                cases nm with
                | cons s2 nm =>
                  cases nm with
                  | cons s3 nm =>
                    refine s_rel _ (s_par3 o.calm o.ndX s1.1 s2.1 s3.1 d1 d2 d3 (by rw [o.sc]; exact eq_of_beq d5) (by rw [o.sc]; exact eq_of_beq d6) (by rw [o.sc]; exact eq_of_beq d7) (by simp [flsOf]) (snd_argsM h hF o _) (swap_ok hk ?_))
                    rw [o.sc, hs, hns]
                    exact congrArg some (congrArg some (eq_of_beq d4))
            · exact ps_bad1
          · exact ps_bad1
        · exact ps_bad1
      · exact ps_bad1
    · exact ps_bad1
  · split
    · rename_i c
      simp only [Bool.and_eq_true] at c
      obtain ⟨⟨⟨c1, c2⟩, c3⟩, c4⟩ := c
      have e1 := eq_of_beq c1
      subst e1
      obtain ⟨k1, k2, k3⟩ := okN_of c3
      split
      · rename_i i t hi ht
        exact s_pop (by rw [o.eN]; exact nIx_ok hi) (o.vis c2) k1 k2 (o.tg ht) c4 swT_false (swS_none rfl) rfl
      · exact ps_bad1
    · exact ps_bad1
  · split
    · exact ps_bad1
    · rename_i c
      split
      · rename_i is his
        exact s_rel _ (s_setT (h.E o _) (g_many o.eK o.calm o.ndX (o.nms his)) swT_false (swS_none (by simpa using c)) rfl)
      · exact ps_bad1
  · split
    · rename_i t ht
      split
      · exact ps_bad1
      · rename_i c
        split
        · rename_i x e1 e2 hgr
          obtain ⟨p1, a1, p3, c1, a2, c2, p4, eb, s1, s2, l1, l2⟩ := grpOf_ok hgr
          subst eb
          split
          · rename_i c3
            simp only [Bool.and_eq_true] at c3
            obtain ⟨k1, k2, k3⟩ := okN_of c3.2
            split
            · rename_i i hi
              exact s_rel _ (s_grp o.hw o.eK o.units (by rw [o.eN]; exact nIx_ok hi) (o.vis c3.1) k1 k2 own o.calm (h.I o _ _) (o.tg ht) (h.E o _) (h.E o _) (fold_set (by simpa using c)) s1 s2 l1 l2)
            · exact ps_bad1
          · exact ps_bad1
        · exact s_rel _ (s_for own o.calm (h.I o _ _) (o.tg ht) (snd_blk hf _) (fold_set (by simpa using c)))
    · exact ps_bad1
  · exact s_rel _ (s_while wh own (h.B o _) (snd_blk hf _))
  · split
    · rename_i c
      simp only [Bool.and_eq_true] at c
      exact s_raise o.calm o.tk (o.exc _ c.2) (o.gl c.1.1) (okN_of c.1.2).1
    · exact ps_bad1
  · split
    · rename_i c
      simp only [Bool.and_eq_true] at c
      obtain ⟨⟨⟨⟨⟨⟨⟨c1, c2⟩, c3⟩, c4⟩, c5⟩, c6⟩, c7⟩, c8⟩ := c
      have e1 := eq_of_beq c1.1
      have e2 := eq_of_beq c2
      subst e1 e2
      split
      · rename_i i cs hi hcs
        split
        · rename_i q
          simp only [Bool.and_eq_true, decide_eq_true_eq, List.all_eq_true, Bool.not_eq_true'] at q
          obtain ⟨g1, g2, g3, g4⟩ := glF_of o c6 (by decide)
          obtain ⟨k1, k2, k3⟩ := okN_of c5
          refine s_try (by rw [← o.fr]; simpa using c1.2) (o.xc c8) c8 o.eK fr.1 fr.2 o.ndX (by rw [o.eN]; exact nIx_ok hi) (by show X.env.scope.names.lookup _ = _; rw [o.sc]; exact eq_of_beq c4) k1 k2 g1 g2 o.units c7 (o.gl c3) o.tk hcs (fun k hk => ?_) q.2 (fun pn xe E tk own' => snd_blk (hfG (o.tr tk) own' fr) _)
          obtain ⟨⟨⟨y1, y2⟩, y3⟩, y4⟩ := q.1 k hk
          exact ⟨y1, fun e => by rw [e] at y2; simp at y2, ⟨o.gl y3, (okN_of y4).1⟩⟩
        · exact ps_bad1
      · exact ps_bad1
    · exact ps_bad1
  · split
    · rename_i c
      simp only [Bool.and_eq_true] at c
      obtain ⟨⟨⟨⟨⟨⟨⟨⟨⟨⟨c1, c2⟩, c3⟩, c4⟩, c5⟩, c6⟩, c7⟩, c8⟩, c9⟩, c10⟩, c11⟩ := c
      have e1 := eq_of_beq c1.1
      have e2 := eq_of_beq c2
      have e3 := eq_of_beq c9
      subst e1 e2 e3
      split
      · rename_i i j cs cs2 hi hj hcs hcs2
        split
        · rename_i q
          simp only [Bool.and_eq_true, decide_eq_true_eq, List.all_eq_true, Bool.not_eq_true'] at q
          obtain ⟨g1, g2, g3, g4⟩ := glF_of o c6 (by decide)
          obtain ⟨k1, k2, k3⟩ := okN_of c5
          obtain ⟨k4, k5, k6⟩ := okN_of c11
          refine s_try2 (by rw [← o.fr]; simpa using c1.2) (o.xc c8) c8 o.eK fr.1 fr.2 o.ndX (by rw [o.eN]; exact nIx_ok hi) (by show X.env.scope.names.lookup _ = _; rw [o.sc]; exact eq_of_beq c4) k1 k2 g1 g2 o.units c7 (o.gl c3) o.tk
            (by rw [o.eN]; exact nIx_ok hj) (by rw [o.sc]; exact eq_of_beq c10) k4 k5 q.1 hcs (fun k hk => ?_) hcs2 (fun k hk => ?_) q.2.2 (fun pn xe E tk own' => snd_blk (hfG (o.tr tk) own' fr) _)
          · obtain ⟨⟨⟨y1, y2⟩, y3⟩, y4⟩ := q.2.1.1 k hk
            exact ⟨y1, fun e => by rw [e] at y2; simp at y2, ⟨o.gl y3, (okN_of y4).1⟩⟩
          · obtain ⟨⟨⟨y1, y2⟩, y3⟩, y4⟩ := q.2.1.2 k hk
            exact ⟨y1, fun e => by rw [e] at y2; simp at y2, ⟨o.gl y3, (okN_of y4).1⟩⟩
        · exact ps_bad1
      · exact ps_bad1
    · exact ps_bad1
  · exact ps_bad1
theorem snd_S {n : Nat} (hv : v = step T N (ev T N n)) : ∀ m {X : Cx} {C : Pm}, CxOk T N X C s → PassesOwn (model X.prog X.w) X.A X.env X.xe → FrOk X → ∀ st, PS X st (tS C (evS T N wh v s m st))
  | 0, _, _, _, _, _, _ => ps_bad1
  | m + 1, _, _, o, own, fr, st => snd_stepS hv o own fr (fun o' own' fr' => snd_S hv m o' own' fr') st
end
end DL
namespace DL
open PySem PySem.Spec PyProof.Rows L2
variable [Lots]
structure Glob (P : Program) (w : World) (K : PySem.W.Frag) (mg : Str → Option Value) (base : Heap) (cl : Str → Addr) (T : Tbl) (k : Nat) : Prop where
  hw : w = Lots.w
  fn : ∀ (x : Str) (n : Nat) (F : List D → R D), T.fn x = some (n, F) → ∃ (f : Addr) (fd : FuncData) (ps : List Str), FnOk P w K mg base (L2.CX P w) k f fd ps (spD K cl n F) ∧ mg x = some (.ref f) ∧ PySem.W.keepIn K (.ref f) = true ∧ Binds K fd ps []
  fo : ∀ (x : Str) (n : Nat) (F : List D → R D), T.fo x = some (n, F) → ∃ (f : Addr) (fd : FuncData) (ps : List Str), FnOk P w K mg base (L2.CX P w) k f fd ps (spF K cl n F) ∧ mg x = some (.ref f) ∧ PySem.W.keepIn K (.ref f) = true ∧ Binds K fd ps []
  con : ∀ (x : Str) (d : D), T.con x = some d → ∃ (v : V) (u : Value), mg x = some u ∧ RelV v u ∧ FlatV v d
  free : ∀ x ∈ blts, T.fn x = none → mg x = none
  exc : ∀ x, T.exc x = true → PySem.W.excIn K (cl x) [.type "ValueError", .type "Exception", .type "BaseException", .type "object"] "ValueError.__new__" = true ∧ mg x = some (.ref (cl x)) ∧ PySem.W.keepIn K (.ref (cl x)) = true ∧
    PySem.W.subIn K (.ref (cl x)) (.type "BaseException") = some true ∧ PySem.W.typeIn K (.ref (cl x)) = some (.type "type")
  xc : T.exc "FleetError" = true → (∀ c, T.exc c = true → ExcC K (cl c)) ∧ (∀ c, T.exc c = true → PySem.W.exmOne K (.ref (cl c)) (.ref (cl "FleetError")) = some true) ∧
    ∀ c k, T.exc c = true → T.exc k = true → k ≠ "FleetError" → PySem.W.kitOne K (.ref (cl c)) (.ref (cl k)) = some (decide (c = k))
  mt : ∀ (x : Str) (n : Nat) (F : List D → R D), T.mt x = some (n, F) → ∃ (f : Addr) (fd : FuncData) (ps : List Str), FnOk P w K mg base (L2.CX P w) k f fd ps (spD K cl n F) ∧ Meth K (He.ga K "Known") x f ∧ Binds K fd ps [] ∧ KnOk K
  knM : ∀ PN : List D → R D, T.knM = some PN → ∃ (kl : Nat) (f : Addr) (fd : FuncData) (ps : List Str), kl + 1 ≤ k ∧ FnOk P w K mg base (L2.CX P w) kl f fd ps (spI K cl PN) ∧ Mk K (He.ga K "Known") f ∧ mg "Known" = some (.ref (He.ga K "Known")) ∧ Binds K fd ps [] ∧ KnOk K
section
variable {P : Program} {w : World} {K : PySem.W.Frag} {mg : Str → Option Value} {base : Heap} {cl : Str → Addr} {T : Tbl} {k : Nat}
theorem start_env {N : List Str} {Hf H : Hp} {vs : List V} {ds : List D} (sf : Fit Hf H) (r : RpL K Hf vs ds) : EnvR K Hf H Hf H (L2.start N vs) (ds.map DL.Slot.va ++ List.replicate (N.length - ds.length) .un) := by
  have hl := r.length
  have sp : ∀ (i : Nat) (s : DL.Slot), (ds.map DL.Slot.va ++ List.replicate (N.length - ds.length) DL.Slot.un)[i]? = some s → (∃ d, ds[i]? = some d ∧ s = .va d) ∨ s = .un := fun i s h => by
    by_cases hi : i < ds.length
    · rw [List.getElem?_append_left (by simpa using hi), List.getElem?_map, List.getElem?_eq_getElem hi] at h
      cases h
      exact .inl ⟨_, List.getElem?_eq_getElem hi, rfl⟩
    · rw [List.getElem?_append_right (by simpa using hi)] at h
      right
      have := List.mem_of_getElem? h
      exact (List.mem_replicate.mp this).2
  refine ⟨Grow.refl sf, ?_, fun i s v h1 h2 => ?_, fun i j d e a h1 => ?_⟩
  · unfold L2.start
    simp [hl]
  · rcases sp i s h1 with ⟨d, hd, rfl⟩ | rfl
    · obtain ⟨x, q1, q2⟩ := r.get hd
      have hi : i < vs.length := (List.getElem?_eq_some_iff.mp q1).1
      unfold L2.start at h2
      rw [List.getElem?_append_left (by simpa using hi), List.getElem?_map, q1] at h2
      cases h2
      exact ⟨x, rfl, q2⟩
    · trivial
  · rcases sp i _ h1 with ⟨_, _, z⟩ | z <;> cases z
theorem cx_run {N : List Str} {qual : Str} {scope : Scope} {f : Addr} {cdv : Value} {A : Around} {outer : List PySem.Env} {s : Shared} {H : Hp} {E : XK} {ps : List Str} (b : Bool) (S : FnScope N ps scope) (G : Glob P w K mg base cl T k)
    (hr : Room k (A.deeper (envOfC qual scope s.heap.objs.size f cdv))) : CxOk T N (cxOf (L2.CX P w) P w K mg base N qual scope f cdv A outer s H E) ⟨K, E, cl, b⟩ ⟨scope, N, b, false⟩ := {
      eK := rfl
      hw := G.hw
      calm := rfl
      eN := rfl
      nd := S.nd
      sc := rfl
      kind := S.kind
      wr := fun x _ => .inl rfl
      units := by have := hr.un; show (A.deeper (envOfC qual scope s.heap.objs.size f cdv)).units + 65 < cLine; omega
      tk := takes_of rfl rfl rfl rfl
      fn := fun x n F hF => by
        obtain ⟨f', fd', ps', h1, h2, h3, h4⟩ := G.fn x n F hF
        exact ⟨k, f', fd', ps', h1, hr, h2, h3, h4⟩
      fo := fun x n F hF => by
        obtain ⟨f', fd', ps', h1, h2, h3, h4⟩ := G.fo x n F hF
        exact ⟨k, f', fd', ps', h1, hr, h2, h3, h4⟩
      fr := rfl
      con := G.con
      free := G.free
      exc := fun x hx => by
        obtain ⟨h1, h2, h3, h4, h5⟩ := G.exc x hx
        exact ⟨h1, h2, h3, raises_own h4 h5⟩
      xc := fun hF => by
        obtain ⟨h1, h2, h3⟩ := G.xc hF
        exact ⟨fun x hx => (G.exc x hx).2.1, h1, h2, h3⟩
      lam := fun z => nomatch z
      mt := fun x n F hF => by
        obtain ⟨f', fd', ps', h1, h2, h3, h4⟩ := G.mt x n F hF
        exact ⟨k, f', fd', ps', h1, hr, h2, h3, h4⟩
      knM := fun PN hF => by
        obtain ⟨kl, f', fd', ps', hl, h1, h2, h3, h4⟩ := G.knM PN hF
        exact ⟨kl, f', fd', ps', h1, hr.mono hl, h2, h3, h4⟩ }
theorem fn_run {x qual : Str} {params : Arguments} {body : List Stmt} {scope : Scope} {f : Addr} {fd : FuncData} {N ps : List Str} (n wh : Nat) (F : FunD K x qual params body scope [] [] f fd) (S : FnScope N ps scope) (G : Glob P w K mg base cl T k) :
    FnOk P w K mg base (L2.CX P w) (k + 1) f fd ps (spD K cl ps.length (runD T N wh (n + 1) scope body)) := by
  refine F.ok S (fun vs H Q E h => ?_) (fun cdv A outer s H vs Q E hr h => ?_)
  · obtain ⟨Hf, ds, _, r, hl, _⟩ := h
    exact r.length.trans hl
  · obtain ⟨Hf, ds, sf, r, hl, h⟩ := h
    have o := cx_run (E := E) (cdv := cdv) (outer := outer) (s := s) (H := H) (f := f) (qual := qual) (A := A) false S G hr
    refine ⟨_, snd_blk (snd_S (wh := wh) (n := n) (v := ev T N (n + 1)) rfl (n + 1) o (passes_of rfl) ⟨rfl, rfl⟩) body, Hf, H, Hf, _, start_env sf r, ?_⟩
    have h : OutG ⟨K, E, cl, false⟩ (RelE ⟨K, E, cl, false⟩) Hf H (blkS (evS T N wh (ev T N (n + 1)) ⟨scope, N, false, false⟩ (n + 1)) body (ds.map DL.Slot.va ++ List.replicate (N.length - ds.length) .un) >>= fun o => match o with
      | .rt d => .ok d
      | .nx _ => .ok .none
      | _ => .bad) Q := h
    cases e1 : blkS (evS T N wh (ev T N (n + 1)) ⟨scope, N, false, false⟩ (n + 1)) body (ds.map DL.Slot.va ++ List.replicate (N.length - ds.length) .un) with
    | bad => rw [e1] at h; exact h.elim
    | exc c => rw [e1] at h; exact h
    | ok o' =>
      rw [e1] at h
      cases o' with
      | rt d => exact h
      | nx ρ => exact fun Hf' H' σ' s' e' => h .non Hf' H' e'.grow .non
      | bk ρ => exact h.elim
      | ct ρ => exact h.elim
theorem fn_runF {x qual : Str} {params : Arguments} {body : List Stmt} {scope : Scope} {f : Addr} {fd : FuncData} {N ps : List Str} (n wh : Nat) (F : FunD K x qual params body scope [] [] f fd) (S : FnScope N ps scope) (G : Glob P w K mg base cl T k) :
    FnOk P w K mg base (L2.CX P w) (k + 1) f fd ps (spF K cl ps.length (runF T N wh (n + 1) scope body)) := by
  refine F.ok S (fun vs H Q E h => ?_) (fun cdv A outer s H vs Q E hr h => ?_)
  · obtain ⟨Hf, ds, _, r, hl, _⟩ := h
    exact r.length.trans hl
  · obtain ⟨Hf, ds, sf, r, hl, h⟩ := h
    have o := cx_run (E := E) (cdv := cdv) (outer := outer) (s := s) (H := H) (f := f) (qual := qual) (A := A) true S G hr
    refine ⟨_, snd_blk (snd_S (wh := wh) (n := n) (v := ev T N (n + 1)) rfl (n + 1) o (passes_of rfl) ⟨rfl, rfl⟩) body, Hf, H, Hf, _, start_env sf r, ?_⟩
    have h : OutG ⟨K, E, cl, true⟩ (RelF ⟨K, E, cl, true⟩ H) Hf H (blkS (evS T N wh (ev T N (n + 1)) ⟨scope, N, true, false⟩ (n + 1)) body (ds.map DL.Slot.va ++ List.replicate (N.length - ds.length) .un) >>= fun o => match o with
      | .rt d => .ok d
      | _ => .bad) Q := h
    cases e1 : blkS (evS T N wh (ev T N (n + 1)) ⟨scope, N, true, false⟩ (n + 1)) body (ds.map DL.Slot.va ++ List.replicate (N.length - ds.length) .un) with
    | bad => rw [e1] at h; exact h.elim
    | exc c => rw [e1] at h; exact h
    | ok o' =>
      rw [e1] at h
      cases o' with
      | rt d => exact h
      | nx ρ => exact h.elim
      | bk ρ => exact h.elim
      | ct ρ => exact h.elim
end
end DL
namespace DL
open PySem PySem.Spec PyProof.Rows L2
variable [Lots]
theorem upd_upd {H : Hp} {a : Addr} {o u : HO} : upd (upd H a o) a u = upd H a u := by
  funext b
  by_cases q : b = a
  · subst q; rw [upd_same, upd_same]
  · rw [upd_ne q, upd_ne q, upd_ne q]
theorem pf1 (a : V) : putF "sea" a [] = ([("sea", a)] : List (Str × V)) := by rfl
theorem pf2 (a b : V) : putF "worlds" b [("sea", a)] = ([("sea", a), ("worlds", b)] : List (Str × V)) := by rfl
theorem pf3 (a b c : V) : putF "names" c [("sea", a), ("worlds", b)] = ([("sea", a), ("worlds", b), ("names", c)] : List (Str × V)) := by rfl
theorem pf4 (a b c d : V) : putF "near" d [("sea", a), ("worlds", b), ("names", c)] = ([("sea", a), ("worlds", b), ("names", c), ("near", d)] : List (Str × V)) := by rfl
section
variable {P : Program} {w : World} {K : PySem.W.Frag} {mg : Str → Option Value} {base : Heap} {cl : Str → Addr} {T : Tbl} {k : Nat}
theorem init_ok {x qual : Str} {params : Arguments} {scope : Scope} {f : Addr} {fd : FuncData} {p1 p2 p3 p4 p5 p6 p7 p8 p9 p10 p11 p12 p13 p14 p15 p16 p17 p18 : Pos} {PN : List D → R D}
    (F : FunD K x qual params [.Assign [.Attribute (.Name "self" p1) "sea" p2] (.Name "fleet" p3) p4, .Assign [.Attribute (.Name "self" p5) "worlds" p6] (.Name "worlds" p7) p8, .Assign [.Attribute (.Name "self" p9) "names" p10] (.Call (.Name "plain_names" p11) [.Name "fleet" p12] [] p13) p14, .Assign [.Attribute (.Name "self" p15) "near" p16] (.Dict [] [] p17) p18] scope [] [] f fd)
    (S : FnScope ["self", "fleet", "worlds"] ["self", "fleet", "worlds"] scope) (hv0 : scope.names.lookup ("self" : Str) = some NameKind.local) (hv1 : scope.names.lookup ("fleet" : Str) = some NameKind.local) (hv2 : scope.names.lookup ("worlds" : Str) = some NameKind.local) (hgp : isGl scope "plain_names" = true)
    (G : Glob P w K mg base cl T k) (kn : KnOk K) (knr : NoAttr K (He.ga K "Known") "near") (pn : T.fn "plain_names" = some (1, PN)) :
    FnOk P w K mg base (L2.CX P w) (k + 1) f fd ["self", "fleet", "worlds"] (spI K cl PN) := by
  refine F.ok S (fun vs H Q E h => ?_) (fun cdv A outer s H vs Q E hr h => ?_)
  · obtain ⟨Hf, H1, x, dx, vF, vW, F, W, N, rfl, _⟩ := h
    rfl
  · obtain ⟨Hf, H1, x, dx, vF, vW, F, W, N, rfl, sf, nx, ndx, hne, rfl, r1, r2, eN, n1, n2, n3, hq⟩ := h
    have o := cx_run (E := E) (cdv := cdv) (outer := outer) (s := s) (H := upd (upd H1 dx (.own x)) x (.ins (He.ga K "Known") dx [])) (f := f) (qual := qual) (A := A) false S G hr
    generalize hX : cxOf (L2.CX P w) P w K mg base ["self", "fleet", "worlds"] qual scope f cdv A outer s (upd (upd H1 dx (.own x)) x (.ins (He.ga K "Known") dx [])) E = X at o ⊢
    have eK : X.K = K := by rw [← hX]; rfl
    have eN' : X.N = ([("self" : Str), ("fleet" : Str), ("worlds" : Str)] : List Str) := o.eN
    have esc : X.env.scope = scope := o.sc
    have v0 : ∀ p, PE X (.Name "self" p) (tVar 0) := fun p => pe_var (by rw [eN']; rfl) (.inl (by rw [esc]; exact hv0)) (by decide) (by decide)
    have v1 : ∀ p, PE X (.Name "fleet" p) (tVar 1) := fun p => pe_var (by rw [eN']; rfl) (.inl (by rw [esc]; exact hv1)) (by decide) (by decide)
    have v2 : ∀ p, PE X (.Name "worlds" p) (tVar 2) := fun p => pe_var (by rw [eN']; rfl) (.inl (by rw [esc]; exact hv2)) (by decide) (by decide)
    obtain ⟨k', f', fd', ps', FO, hr', hm', hk', hb'⟩ := o.fn _ _ _ pn
    have a1 : PE X (.Name "fleet" p12) (tE ⟨K, E, cl, false⟩ (rdE 1)) := e_varE (by rw [eN']; rfl) (.inl (by rw [esc]; exact hv1)) (by decide) (by decide)
    have a2 : PA X [.Name "fleet" p12] (tA ⟨K, E, cl, false⟩ (fCons (rdE 1) fun _ => .ok [])) := a_cons rfl a1 a_nil
    have c1 : PE X (.Call (.Name "plain_names" p11) [.Name "fleet" p12] [] p13) (tE ⟨K, E, cl, false⟩ fun ρ => fCons (rdE 1) (fun _ => .ok []) ρ >>= ari 1 PN) :=
      e_call eK.symm FO hr' (o.gl hgp) hm' hk' hb' o.tk a2 rfl (by decide)
    refine ⟨_, pss_cons (ps_fld (v0 p1) (v1 p3) (sw_false rfl)) (pss_cons (ps_fld (v0 p5) (v2 p7) (sw_false rfl)) (pss_cons (ps_fld (v0 p9) c1 (sw_false rfl)) (pss_one (ps_fld (v0 p15) pe_dnewT (sw_false rfl))))), ?_⟩
    refine ⟨vF, rfl, .ref x, rfl, x, _, dx, [], rfl, upd_same, by rw [eK]; exact kn.cls, by rw [eK]; exact kn.sea, by decide, ?_⟩
    rw [pf1, upd_upd]
    refine ⟨vW, rfl, .ref x, rfl, x, _, dx, _, rfl, upd_same, by rw [eK]; exact kn.cls, by rw [eK]; exact kn.worlds, by simp, ?_⟩
    rw [pf2, upd_upd]
    have ft : Fit Hf (upd (upd H1 dx (.own x)) x (.ins (He.ga K "Known") dx [("sea", vF), ("worlds", vW)])) := (sf.side ndx).side (by rw [upd_ne hne.symm]; exact nx)
    have env : EnvR K Hf (upd (upd H1 dx (.own x)) x (.ins (He.ga K "Known") dx [("sea", vF), ("worlds", vW)])) Hf (upd (upd H1 dx (.own x)) x (.ins (He.ga K "Known") dx [("sea", vF), ("worlds", vW)])) (L2.start ["self", "fleet", "worlds"] [.ref x, vF, vW]) [.un, .va F, .va W] := by
      refine ⟨Grow.refl ft, rfl, fun i sl v h1 h2 => ?_, fun i j d e a h1 => ?_⟩
      · match i, h1, h2 with
        | 0, h1, h2 => cases h1; trivial
        | 1, h1, h2 => cases h1; cases h2; exact ⟨vF, rfl, r1⟩
        | 2, h1, h2 => cases h1; cases h2; exact ⟨vW, rfl, r2⟩
        | i + 3, h1, h2 => simp at h1
      · match i, h1 with
        | 0, h1 => cases h1
        | 1, h1 => cases h1
        | 2, h1 => cases h1
        | i + 3, h1 => simp at h1
    refine ⟨Hf, _, Hf, _, env, ?_⟩
    show OutG ⟨K, E, cl, false⟩ (RelE ⟨K, E, cl, false⟩) Hf _ (PN [F]) _
    rw [eN]
    intro vN Hf2 H2 g2 rN
    have hx2 : H2 x = some (.ins (He.ga K "Known") dx [("sea", vF), ("worlds", vW)]) := g2.h.at upd_same (Same.free sf nx)
    refine ⟨.ref x, rfl, x, _, dx, _, rfl, hx2, by rw [eK]; exact kn.cls, by rw [eK]; exact kn.names, by simp, ?_⟩
    rw [pf3]
    intro b nb
    have hbx : b ≠ x := fun z => by rw [z, upd_same] at nb; cases nb
    have nb2 : H2 b = none := by rw [upd_ne hbx] at nb; exact nb
    refine ⟨.ref x, rfl, x, _, dx, [("sea", vF), ("worlds", vW), ("names", vN)], rfl, by rw [upd_ne hbx.symm]; exact upd_same, by rw [eK]; exact kn.cls, by rw [eK]; exact knr, by simp, ?_⟩
    rw [pf4]
    have eq : upd (upd (upd H2 x (.ins (He.ga K "Known") dx [("sea", vF), ("worlds", vW), ("names", vN)])) b (.dT [])) x (.ins (He.ga K "Known") dx [("sea", vF), ("worlds", vW), ("names", vN), ("near", .ref b)]) = upd (upd H2 b (.dT [])) x (.ins (He.ga K "Known") dx [("sea", vF), ("worlds", vW), ("names", vN), ("near", .ref b)]) := by
      funext c
      by_cases q : c = x
      · subst q; rw [upd_same, upd_same]
      · rw [upd_ne q, upd_ne q]
        by_cases q2 : c = b
        · subst q2; rw [upd_same, upd_same]
        · rw [upd_ne q2, upd_ne q2, upd_ne q]
    rw [eq]
    obtain ⟨Hf', g', r'⟩ := grow_kn sf nx ndx hne _ g2 nb2 (r1.mono g2.f) (r2.mono g2.f) rN n1 n2 n3
    exact hq Hf' _ g' r'
end
end DL
namespace DL
open PySem PySem.Spec PyProof.Rows L2
mutual
def beqD : D → D → Bool
  | .none, .none => true
  | .bool a, .bool b => decide (a = b)
  | .int a, .int b => decide (a = b)
  | .str a, .str b => decide (a = b)
  | .list a, .list b => beqL a b
  | .tuple a, .tuple b => beqL a b
  | _, _ => false
def beqL : List D → List D → Bool
  | [], [] => true
  | a :: as, b :: bs => beqD a b && beqL as bs
  | _, _ => false
end
mutual
theorem beqD_eq : ∀ (a b : D), beqD a b = true → a = b
  | .none, b, h => by cases b <;> simp [beqD] at h ⊢
  | .bool x, b, h => by cases b <;> simp [beqD] at h ⊢; exact h
  | .int x, b, h => by cases b <;> simp [beqD] at h ⊢; exact h
  | .str x, b, h => by cases b <;> simp [beqD] at h ⊢; exact h
  | .list xs, b, h => by
    cases b with
    | list ys => simp only [beqD] at h; rw [beqL_eq xs ys h]
    | _ => simp [beqD] at h
  | .tuple xs, b, h => by
    cases b with
    | tuple ys => simp only [beqD] at h; rw [beqL_eq xs ys h]
    | _ => simp [beqD] at h
  | .dict _, b, h => by cases b <;> simp [beqD] at h
theorem beqL_eq : ∀ (a b : List D), beqL a b = true → a = b
  | [], [], _ => rfl
  | [], _ :: _, h => by simp [beqL] at h
  | _ :: _, [], h => by simp [beqL] at h
  | a :: as, b :: bs, h => by
    simp only [beqL, Bool.and_eq_true] at h
    rw [beqD_eq a b h.1, beqL_eq as bs h.2]
end
mutual
theorem beqD_refl : ∀ (a : D), noDict a = true → beqD a a = true
  | .none, _ => rfl
  | .bool _, _ => by simp [beqD]
  | .int _, _ => by simp [beqD]
  | .str _, _ => by simp [beqD]
  | .list xs, h => by simp only [noDict] at h; simp only [beqD]; exact beqL_refl xs h
  | .tuple xs, h => by simp only [noDict] at h; simp only [beqD]; exact beqL_refl xs h
  | .dict _, h => by simp [noDict] at h
theorem beqL_refl : ∀ (a : List D), noDictL a = true → beqL a a = true
  | [], _ => rfl
  | a :: as, h => by
    simp only [noDictL, Bool.and_eq_true] at h
    simp only [beqL, beqD_refl a h.1, beqL_refl as h.2, Bool.and_self]
end
variable [Lots]
section
variable {K : PySem.W.Frag} {H : Hp}
mutual
theorem Rp.one : ∀ {v : V} {d e : D}, Rp K H v d → noDict d = true → Rp K H v e → noDict e = true → e = d
  | _, _, _, .non, _, h, _ => by cases h; rfl
  | _, _, _, .bl _, _, h, _ => by cases h; rfl
  | _, _, _, .int _, _, h, _ => by cases h; rfl
  | _, _, _, .str _, _, h, _ => by cases h; rfl
  | _, _, _, .lst h l r, n, h', n' => by
    cases h' with
    | lst q _ r' =>
      rw [h] at q
      cases q
      rw [RpL.oneL r n r' n']
    | tup q _ _ => rw [h] at q; cases q
    | scr _ _ => simp [DL.scr, noDict] at n'
    | dic _ _ _ => simp [noDict] at n'
    | dit _ _ _ => simp [tdD, noDict] at n'
    | kno _ _ _ _ _ => simp [knD, noDict] at n'
  | _, _, _, .tup h l r, n, h', n' => by
    cases h' with
    | tup q _ r' =>
      rw [h] at q
      cases q
      rw [RpL.oneL r n r' n']
    | lst q _ _ => rw [h] at q; cases q
    | scr _ _ => simp [DL.scr, noDict] at n'
    | dic _ _ _ => simp [noDict] at n'
    | dit _ _ _ => simp [tdD, noDict] at n'
    | kno _ _ _ _ _ => simp [knD, noDict] at n'
  | _, _, _, .scr _ _, n, _, _ => by simp [DL.scr, noDict] at n
  | _, _, _, .dic _ _ _, n, _, _ => by simp [noDict] at n
  | _, _, _, .dit _ _ _, n, _, _ => by simp [tdD, noDict] at n
  | _, _, _, .kno _ _ _ _ _, n, _, _ => by simp [knD, noDict] at n
theorem RpL.oneL : ∀ {vs : List V} {ds es : List D}, RpL K H vs ds → noDictL ds = true → RpL K H vs es → noDictL es = true → es = ds
  | _, _, _, .nil, _, h, _ => by cases h; rfl
  | _, _, _, .cons h r, n, h', n' => by
    cases h' with
    | cons q r' =>
      have e := Bool.and_eq_true_iff.mp (show (noDict _ && noDictL _) = true from n)
      have e' := Bool.and_eq_true_iff.mp (show (noDict _ && noDictL _) = true from n')
      rw [Rp.one h e.1 q e'.1, RpL.oneL r e.2 r' e'.2]
end
theorem RpN.anyK (K' : PySem.W.Frag) : ∀ {xs : List NE} {nds : List (D × D)}, RpN K H xs nds → (nds.all fun kv => noDict kv.1 && noDict kv.2) = true → RpN K' H xs nds
  | _, _, .nil, _ => .nil
  | _, _, .cons h1 h2 h3 h4 r, e => by
    simp only [List.all_cons, Bool.and_eq_true] at e
    exact .cons (h1.anyK K' e.1.1) h2 h3 (h4.anyK K' e.1.2) (RpN.anyK K' r (by simpa using e.2))
def okMm : D → Bool
  | .dict [(.none, .dict nds)] => nds.all fun kv => noDict kv.1 && noDict kv.2
  | _ => false
theorem Rp.mm {v : V} {d : D} (h : Rp K H v d) (k : okMm d = true) (K' : PySem.W.Frag) : Rp K' H v d := by
  unfold okMm at k
  split at k
  · obtain ⟨a, ob, xs, rfl, h1, h2, h3⟩ := h.nd_
    exact .dit h1 h2 (h3.anyK K' k)
  · cases k
end
def keep3 (K : D) (x : Str) (y : Int) : Env → Bool
  | .va (.dict [(.none, .tuple [F', W', N'])]) :: .va (.str x') :: .va (.int y') :: _ => decide (x' = x) && (decide (y' = y) && (match K with | .dict [(.none, .tuple [F, W, N])] => beqD F' F && (beqD W' W && beqD N' N) | _ => false))
  | _ => false
def keyIn (N : D) (x : Str) (y : Int) : Bool := match N with
  | .list ns => decide (ns.length ≤ 100) && (decide (0 ≤ y) && decide (y < 1000)) && ns.any fun d => beqD d (.str x)
  | _ => false
def fMemo (m : Nat) (fb : Env → R Out) (fd : Env → R D) : List D → R D
  | [.dict [(.none, .tuple [F, W, N])], .str x, .int y] => if noDict F && (noDict W && noDict N) && keyIn N x y then
      (fb (.va (.dict [(.none, .tuple [F, W, N])]) :: .va (.str x) :: .va (.int y) :: List.replicate (m - 3) .un)).calm >>= fun o => match o with
        | .nx ρ => if keep3 (.dict [(.none, .tuple [F, W, N])]) x y ρ then (fd ρ).calm >>= fun d => if okMm d then .ok d else .bad else .bad
        | _ => .bad
    else .bad
  | _ => .bad
def relX (is : List Nat) (f : Env → R D) : Env → R D := fun ρ => f (relR is ρ)
section
variable (N : List Str)
def mmSelf (sc : Scope) : Expr → Bool
  | .Attribute (.Name x _) f _ => (f == ("near" : Str)) && (isVis sc x && (okN x && decide (nIx N x = some 0)))
  | _ => false
def mmKey (sc : Scope) : Expr → Bool
  | .Tuple [.Name x _, .Name y _] _ _ => (isVis sc x && (okN x && decide (nIx N x = some 1))) && (isVis sc y && (okN y && decide (nIx N y = some 2)))
  | _ => false
def isDc : Expr → Bool
  | .DictComp .. => true
  | _ => false
def mmForm (sc : Scope) : List Stmt → Option (List Stmt × Expr)
  | [.If (.Compare t [.NotIn] [o] _) bd [] _, .Return (some (.Subscript o3 t3 _)) _] => match bd.getLast? with
    | some (.Assign [.Subscript o2 t2 _] dc _) => if (mmSelf N sc o && (mmSelf N sc o2 && mmSelf N sc o3)) && (mmKey N sc t && (mmKey N sc t2 && mmKey N sc t3)) && isDc dc then some (bd.dropLast, dc) else none
    | _ => none
  | _ => none
end
def runM (T : Tbl) (N : List Str) (wh n : Nat) (sc : Scope) (body : List Stmt) : List D → R D := match mmForm N sc body with
  | some (pre, dc) => fMemo N.length (blkS (evS T N wh (ev T N n) ⟨sc, N, false, false⟩ n) pre) (relX (rsOf N ((kn 40).E dc)) ((ev T N n).E ⟨sc, N, false, false⟩ dc))
  | none => fun _ => .bad
section
variable {X : Cx} {C : Pm}
theorem ps_relT1 {st : Stmt} {u : TS} (i : Nat) {Φ : Env → Hp → Hp → Hp → L2.St → Ends → Prop} (h : PS X st (fun Dn σ H => ∃ (Hf0 H0 Hf : Hp) (ρ : Env), EnvR C.K Hf0 H0 Hf H σ ρ ∧ Φ ρ Hf0 H0 Hf σ Dn)) (hm : ∀ ρ Hf0 H0 Hf Hf' σ Dn, Same Hf Hf' → Φ ρ Hf0 H0 Hf σ Dn → Φ ρ Hf0 H0 Hf' σ Dn) :
    PS X st (fun Dn σ H => ∃ (Hf0 H0 Hf : Hp) (ρ : Env), EnvR C.K Hf0 H0 Hf H σ ρ ∧ Φ (relR1 i ρ) Hf0 H0 Hf σ Dn) := by
  refine ⟨fun pins s σ H D I hq => ?_⟩
  obtain ⟨Hf0, H0, Hf, ρ, env, q⟩ := hq
  by_cases hd : ∃ k, ρ[i]? = some (.ow (.dict k))
  · obtain ⟨k, hd⟩ := hd
    obtain ⟨a, u, ha, mu, hh⟩ := env.rel1d hd
    obtain ⟨od, I2⟩ := I.lock ha mu
    obtain ⟨Hf', s1, e1⟩ := hh od
    exact h.run pins s σ _ D I2 ⟨Hf0, H0, Hf', _, e1, hm _ _ _ _ _ _ _ s1 q⟩
  · obtain ⟨Hf', s1, e1⟩ := env.rel1 i fun k z => hd ⟨k, z⟩
    exact h.run pins s σ H D I ⟨Hf0, H0, Hf', _, e1, hm _ _ _ _ _ _ _ s1 q⟩
theorem ps_relT {st : Stmt} : ∀ (is : List Nat) {Φ : Env → Hp → Hp → Hp → L2.St → Ends → Prop}, (∀ ρ Hf0 H0 Hf Hf' σ Dn, Same Hf Hf' → Φ ρ Hf0 H0 Hf σ Dn → Φ ρ Hf0 H0 Hf' σ Dn) → PS X st (fun Dn σ H => ∃ (Hf0 H0 Hf : Hp) (ρ : Env), EnvR C.K Hf0 H0 Hf H σ ρ ∧ Φ ρ Hf0 H0 Hf σ Dn) →
    PS X st (fun Dn σ H => ∃ (Hf0 H0 Hf : Hp) (ρ : Env), EnvR C.K Hf0 H0 Hf H σ ρ ∧ Φ (relR is ρ) Hf0 H0 Hf σ Dn)
  | [], _, _, h => h
  | i :: is, Φ, hm, h => ps_relT1 (u := fun _ _ _ => True) i (Φ := fun ρ => Φ (relR is ρ)) (ps_relT is hm h) fun ρ => hm (relR is ρ)
theorem pss_snoc {st : Stmt} {u : TS} {f : Stmt → Env → R Out} (hu : PS X st u) (hf : ∀ s, PS X s (tS C (f s))) : ∀ pre : List Stmt, PSs X (pre ++ [st]) (fun Dn σ H => ∃ (Hf0 H0 Hf : Hp) (ρ : Env), EnvR C.K Hf0 H0 Hf H σ ρ ∧ SOut C Hf0 H0 Hf { Dn with nx := u Dn } (blkS f pre ρ))
  | [] => PSs.imp (pss_one hu) fun Dn σ H ⟨Hf0, H0, Hf, ρ, env, h⟩ => h Hf H σ (Same.refl _) env
  | s :: pre => PSs.imp (pss_cons (hf s) (pss_snoc hu hf pre)) fun Dn σ H ⟨Hf0, H0, Hf, ρ, env, h⟩ => ⟨Hf0, H0, Hf, ρ, env, by
      have h : SOut C Hf0 H0 Hf { Dn with nx := u Dn } (f s ρ >>= fun o => match o with | .nx ρ' => blkS f pre ρ' | o => .ok o) := h
      cases e1 : f s ρ with
      | bad => rw [e1] at h; exact h.elim
      | exc c => rw [e1] at h; exact h
      | ok o =>
        rw [e1] at h
        cases o with
        | nx ρ' => exact fun Hf' H' σ' s1 env' => ⟨Hf0, H0, Hf', ρ', env', SOut.mono (show SOut C Hf0 H0 Hf { Dn with nx := u Dn } (blkS f pre ρ') from h) s1⟩
        | rt d => exact h
        | bk ρ' => exact h
        | ct ρ' => exact h⟩
end
theorem mmSelf_ok {N : List Str} {sc : Scope} {e : Expr} (h : mmSelf N sc e = true) : ∃ x p q, e = .Attribute (.Name x p) "near" q ∧ isVis sc x = true ∧ okN x = true ∧ nIx N x = some 0 := by
  unfold mmSelf at h
  split at h
  · simp only [Bool.and_eq_true, decide_eq_true_eq] at h
    obtain ⟨h1, h2, h3, h4⟩ := h
    have := eq_of_beq h1
    subst this
    exact ⟨_, _, _, rfl, h2, h3, h4⟩
  · cases h
theorem mmKey_ok {N : List Str} {sc : Scope} {e : Expr} (h : mmKey N sc e = true) : ∃ x y p q k r, e = .Tuple [.Name x p, .Name y q] k r ∧ (isVis sc x = true ∧ okN x = true ∧ nIx N x = some 1) ∧ (isVis sc y = true ∧ okN y = true ∧ nIx N y = some 2) := by
  unfold mmKey at h
  split at h
  · simp only [Bool.and_eq_true, decide_eq_true_eq] at h
    obtain ⟨⟨h2, h3, h4⟩, h5, h6, h7⟩ := h
    exact ⟨_, _, _, _, _, _, rfl, ⟨h2, h3, h4⟩, h5, h6, h7⟩
  · cases h
section
variable {T : Tbl} {N : List Str} {X : Cx} {C : Pm} {s : Sc}
theorem mm_self (o : CxOk T N X C s) {e : Expr} (h : mmSelf N s.sc e = true) : PE X e (tFld X.K (tVar 0) "near") ∧ behindInMarks .NotIn e = false := by
  obtain ⟨x, p, q, rfl, h1, h2, h3⟩ := mmSelf_ok h
  obtain ⟨k1, k2, _⟩ := okN_of h2
  exact ⟨pe_fld (pe_var (by rw [o.eN]; exact nIx_ok h3) (o.vis h1) k1 k2) rfl, rfl⟩
theorem mm_key (o : CxOk T N X C s) {e : Expr} (h : mmKey N s.sc e = true) : PE X e (tTup (tCons (tVar 1) (tCons (tVar 2) tNil))) ∧ NoSl e := by
  obtain ⟨x, y, p, q, k, r, rfl, ⟨h1, h2, h3⟩, h4, h5, h6⟩ := mmKey_ok h
  obtain ⟨k1, k2, _⟩ := okN_of h2
  obtain ⟨k3, k4, _⟩ := okN_of h5
  exact ⟨pe_tup (pa_cons (pe_var (by rw [o.eN]; exact nIx_ok h3) (o.vis h1) k1 k2) (pa_cons (pe_var (by rw [o.eN]; exact nIx_ok h6) (o.vis h4) k3 k4) pa_nil)), fun _ _ => rfl⟩
end
theorem Grow.mark {Hf H : Hp} {b : Addr} {fs : List (Str × V)} {o : HO} (s : Fit Hf H) (h : Hf b = some (.xd fs)) (m : MarkOk Hf (upd H b o) b fs) : Grow Hf H Hf (upd H b o) := by
  refine ⟨L2.Same.refl _, fun c u e => ?_, fun _ _ e => .inl e, fun c u e mk => ?_, fun c gs e => ?_, s.tab⟩
  · by_cases q : c = b
    · subst q; exact .inr ⟨⟨fs, h⟩, o, upd_same⟩
    · exact .inl (by rw [upd_ne q]; exact e)
  · by_cases q : c = b
    · subst q
      rw [h] at e
      cases e
      cases mk
    · rw [upd_ne q]; exact s.lk c u e mk
  · by_cases q : c = b
    · subst q
      rw [h] at e
      cases e
      exact m
    · exact (s.mks c gs e).mono (L2.Same.refl _) (upd_ne q)
theorem keep3_ok {K : D} {x : Str} {y : Int} {ρ : Env} (h : keep3 K x y ρ = true) : ∃ F W N rest, K = .dict [(.none, .tuple [F, W, N])] ∧ ρ = .va (.dict [(.none, .tuple [F, W, N])]) :: .va (.str x) :: .va (.int y) :: rest := by
  unfold keep3 at h
  split at h
  · rename_i F' W' N' x' y' rest
    simp only [Bool.and_eq_true, decide_eq_true_eq] at h
    obtain ⟨rfl, rfl, h⟩ := h
    split at h
    · rename_i F W N
      simp only [Bool.and_eq_true] at h
      obtain ⟨h1, h2, h3⟩ := h
      rw [beqD_eq _ _ h1, beqD_eq _ _ h2, beqD_eq _ _ h3]
      exact ⟨F, W, N, rest, rfl, rfl⟩
    · cases h
  · cases h
theorem rel3 {a b c : D} : ∀ {is : List Nat} {rest : Env}, ∃ rest', relR is (.va a :: .va b :: .va c :: rest) = .va a :: .va b :: .va c :: rest'
  | [], rest => ⟨rest, rfl⟩
  | i :: is, rest => by
    have : ∃ rest', relR1 i (.va a :: .va b :: .va c :: rest) = .va a :: .va b :: .va c :: rest' := by
      match i with
      | 0 => exact ⟨rest, rfl⟩
      | 1 => exact ⟨rest, rfl⟩
      | 2 => exact ⟨rest, rfl⟩
      | i + 3 =>
        unfold relR1
        split
        · exact ⟨rest.set i _, rfl⟩
        · exact ⟨rest, rfl⟩
    obtain ⟨r1, e1⟩ := this
    show ∃ rest', relR is (relR1 i (.va a :: .va b :: .va c :: rest)) = _
    rw [e1]
    exact rel3
theorem memo_ok {m : Nat} {fb : Env → R Out} {fd : Env → R D} {ds : List D} {d : D} (h : fMemo m fb fd ds = .ok d) : ∃ F W N x y ρ, ds = [.dict [(.none, .tuple [F, W, N])], .str x, .int y] ∧ (noDict F = true ∧ noDict W = true ∧ noDict N = true) ∧ keyIn N x y = true ∧
    fb (.va (.dict [(.none, .tuple [F, W, N])]) :: .va (.str x) :: .va (.int y) :: List.replicate (m - 3) .un) = .ok (.nx ρ) ∧ keep3 (.dict [(.none, .tuple [F, W, N])]) x y ρ = true ∧ fd ρ = .ok d ∧ okMm d = true := by
  unfold fMemo at h
  split at h
  · rename_i F W N x y
    split at h
    · rename_i c
      simp only [Bool.and_eq_true] at c
      obtain ⟨⟨c1, c2, c3⟩, c4⟩ := c
      cases e : fb (.va (.dict [(.none, .tuple [F, W, N])]) :: .va (.str x) :: .va (.int y) :: List.replicate (m - 3) .un) with
      | bad => rw [e] at h; cases h
      | exc c => rw [e] at h; cases h
      | ok o =>
        rw [e] at h
        cases o with
        | nx ρ =>
          have h : (if keep3 (.dict [(.none, .tuple [F, W, N])]) x y ρ then (fd ρ).calm >>= fun d => if okMm d then .ok d else .bad else .bad) = R.ok d := h
          split at h
          · rename_i hk
            cases e2 : fd ρ with
            | bad => rw [e2] at h; cases h
            | exc c => rw [e2] at h; cases h
            | ok d' =>
              rw [e2] at h
              have h : (if okMm d' then R.ok d' else .bad) = R.ok d := h
              split at h
              · rename_i hm
                cases h
                exact ⟨F, W, N, x, y, ρ, rfl, ⟨c1, c2, c3⟩, c4, e, hk, e2, hm⟩
              · cases h
          · cases h
        | rt _ => cases h
        | bk _ => cases h
        | ct _ => cases h
    · cases h
  · cases h
theorem memo_calm {m : Nat} {fb : Env → R Out} {fd : Env → R D} {ds : List D} {c : Str} : fMemo m fb fd ds ≠ .exc c := by
  intro h
  unfold fMemo at h
  split at h
  · rename_i F W N x y
    split at h
    · cases e : fb (.va (.dict [(.none, .tuple [F, W, N])]) :: .va (.str x) :: .va (.int y) :: List.replicate (m - 3) .un) with
      | bad => rw [e] at h; cases h
      | exc c => rw [e] at h; cases h
      | ok o =>
        rw [e] at h
        cases o with
        | nx ρ =>
          have h : (if keep3 (.dict [(.none, .tuple [F, W, N])]) x y ρ then (fd ρ).calm >>= fun d => if okMm d then .ok d else .bad else .bad) = R.exc c := h
          split at h
          · cases e2 : fd ρ with
            | bad => rw [e2] at h; cases h
            | exc c => rw [e2] at h; cases h
            | ok d' =>
              rw [e2] at h
              have h : (if okMm d' then R.ok d' else .bad) = R.exc c := h
              split at h <;> cases h
          · cases h
        | rt _ => cases h
        | bk _ => cases h
        | ct _ => cases h
    · cases h
  · cases h
def keyRow : D → List (List Key)
  | .str x => (List.range 1000).map fun (i : Nat) => [.inr x, .inl (i : Int)]
  | _ => []
def keysAll (N : D) : List (List Key) := match N with
  | .list ns => ns.flatMap keyRow
  | _ => []
theorem keyIn_mem {N : D} {x : Str} {y : Int} (h : keyIn N x y = true) : [Sum.inr x, Sum.inl y] ∈ keysAll N ∧ (keysAll N).length ≤ 100000 := by
  unfold keyIn at h
  split at h
  · rename_i ns
    simp only [Bool.and_eq_true, decide_eq_true_eq, List.any_eq_true] at h
    obtain ⟨⟨h1, h2, h3⟩, d, hd, e⟩ := h
    have := beqD_eq _ _ e
    subst this
    constructor
    · refine List.mem_flatMap.mpr ⟨_, hd, List.mem_map.mpr ⟨y.toNat, List.mem_range.mpr (by omega), ?_⟩⟩
      rw [show ((y.toNat : Nat) : Int) = y by omega]
    · have key : ∀ ns : List D, (ns.flatMap keyRow).length ≤ ns.length * 1000 := by
        intro ns
        induction ns with
        | nil => simp
        | cons d ns ih =>
          rw [List.flatMap_cons, List.length_append, List.length_cons]
          have : (keyRow d).length ≤ 1000 := by cases d <;> simp [keyRow]
          omega
      have := key ns
      show (ns.flatMap keyRow).length ≤ _
      omega
  · cases h
theorem mmForm_ok {N : List Str} {sc : Scope} {body pre : List Stmt} {dc : Expr} (h : mmForm N sc body = some (pre, dc)) : ∃ t o q t2 o2 q2 q3 q4 t3 o3 q5 q6, body = [.If (.Compare t [.NotIn] [o] q) (pre ++ [.Assign [.Subscript o2 t2 q2] dc q3]) [] q4, .Return (some (.Subscript o3 t3 q5)) q6] ∧
    (mmSelf N sc o = true ∧ mmSelf N sc o2 = true ∧ mmSelf N sc o3 = true) ∧ (mmKey N sc t = true ∧ mmKey N sc t2 = true ∧ mmKey N sc t3 = true) ∧ (∃ a b c d e, dc = .DictComp a b c d e) := by
  unfold mmForm at h
  split at h
  · rename_i t o q bd q4 o3 t3 q5 q6
    split at h
    · rename_i o2 t2 q2 dc' q3 hl
      split at h
      · rename_i c
        simp only [Bool.and_eq_true] at c
        obtain ⟨⟨⟨c1, c2, c3⟩, c4, c5, c6⟩, c7⟩ := c
        cases h
        have e : bd.dropLast ++ [.Assign [.Subscript o2 t2 q2] dc q3] = bd := by
          have hne : bd ≠ [] := fun z => by rw [z] at hl; cases hl
          have := List.dropLast_concat_getLast hne
          rw [List.getLast?_eq_some_getLast hne] at hl
          rw [Option.some.inj hl] at this
          exact this
        refine ⟨t, o, q, t2, o2, q2, q3, q4, t3, o3, q5, q6, by rw [e], ⟨c1, c2, c3⟩, ⟨c4, c5, c6⟩, ?_⟩
        unfold isDc at c7
        split at c7
        · exact ⟨_, _, _, _, _, rfl⟩
        · cases c7
      · cases h
    · cases h
  · cases h
end DL
namespace DL
open PySem PySem.Spec PyProof.Rows L2
variable [Lots]
theorem Rp.str_ {K : PySem.W.Frag} {H : Hp} {v : V} {x : Str} (h : Rp K H v (.str x)) : v = .str x := Rp1.str_ (Hf := H) (H := H) (.inl h)
theorem Rp.int_ {K : PySem.W.Frag} {H : Hp} {v : V} {x : Int} (h : Rp K H v (.int x)) : v = .int x := Rp1.int_ (Hf := H) (H := H) (.inl h)
theorem putK_mem {κ : Type} [DecidableEq κ] {kvs : List (κ × V)} {k : κ} {v : V} {kv : κ × V} (h : kv ∈ putK kvs k v) : kv ∈ kvs ∨ kv = (k, v) := by
  unfold putK at h
  split at h
  · obtain ⟨q, hq, e⟩ := List.mem_map.mp h
    by_cases z : q.1 = k
    · rw [if_pos z] at e; rw [← e, z]; exact .inr rfl
    · rw [if_neg z] at e; rw [← e]; exact .inl hq
  · rcases List.mem_append.mp h with z | z
    · exact .inl z
    · exact .inr (List.mem_singleton.mp z)
theorem putK_nd {κ : Type} [DecidableEq κ] {kvs : List (κ × V)} {k : κ} {v : V} (h : (kvs.map (·.1)).Nodup) : ((putK kvs k v).map (·.1)).Nodup := by
  unfold putK
  split
  · rw [List.map_map]
    have : (kvs.map ((·.1) ∘ fun kv : κ × V => if kv.1 = k then (kv.1, v) else kv)) = kvs.map (·.1) := List.map_congr_left fun q _ => by
      simp only [Function.comp]
      split <;> rfl
    rw [this]; exact h
  · rename_i c
    rw [List.map_append, List.nodup_append]
    refine ⟨h, by simp, fun a ha b hb e => ?_⟩
    obtain ⟨q, hq, rfl⟩ := List.mem_map.mp ha
    simp at hb
    refine c (List.any_eq_true.mpr ⟨q, hq, decide_eq_true (e.trans hb)⟩)
theorem valV_mem {κ : Type} [DecidableEq κ] {kvs : List (κ × V)} {k : κ} {v : V} (h : valV kvs k = some v) : (k, v) ∈ kvs := by
  unfold valV at h
  cases q : kvs.find? fun kv => decide (kv.1 = k) with
  | none => rw [q] at h; cases h
  | some p =>
    rw [q] at h
    have h1 := List.find?_some q
    simp only [decide_eq_true_eq] at h1
    cases h
    have := List.mem_of_find?_eq_some q
    rw [← h1]; exact this
section
variable {P : Program} {w : World} {K : PySem.W.Frag} {mg : Str → Option Value} {base : Heap} {cl : Str → Addr} {T : Tbl} {k : Nat}
theorem self_at {Hf0 H0 Hf H : Hp} {σ : L2.St} {F W N : D} {x : Str} {y : Int} {rest : Env} (e : EnvR K Hf0 H0 Hf H σ (.va (.dict [(.none, .tuple [F, W, N])]) :: .va (.str x) :: .va (.int y) :: rest)) (n1 : noDict F = true) (n2 : noDict W = true) (n3 : noDict N = true) :
    ∃ (xa dx b : Addr) (vF vW vN : V) (kvs : List (List Key × V)), σ[0]? = some (some (.ref xa)) ∧ σ[1]? = some (some (.str x)) ∧ σ[2]? = some (some (.int y)) ∧ Hf xa = some (.ins (He.ga K "Known") dx [("sea", vF), ("worlds", vW), ("names", vN), ("near", .ref b)]) ∧ Hf b = some (.xd [("sea", vF), ("worlds", vW), ("names", vN)]) ∧
      H b = some (.dT kvs) ∧ (kvs.map (·.1)).Nodup ∧ (∀ kv ∈ kvs, ∃ d, Lots.P F W N kv.1 d ∧ ∀ K, Rp K Hf kv.2 d) ∧ Rp K Hf vF F ∧ Rp K Hf vW W ∧ Rp K Hf vN N ∧ (∀ K', Rp K' Hf vF F) ∧ (∀ K', Rp K' Hf vW W) ∧ ∀ K', Rp K' Hf vN N := by
  obtain ⟨v0, h0, v0', q0, r0⟩ := slot_there e (i := 0) rfl
  obtain ⟨v1, h1, v1', q1, r1⟩ := slot_there e (i := 1) rfl
  obtain ⟨v2, h2, v2', q2, r2⟩ := slot_there e (i := 2) rfl
  subst q0 q1 q2
  obtain ⟨xa, dx, b, vF, vW, vN, rfl, hx, hb, rF, rW, rN⟩ := Rp.kn_ r0
  have := r1.str_
  subst this
  have := r2.int_
  subst this
  have m := e.grow.sub.mks b _ hb
  obtain ⟨F', W', N', ⟨m1, m2, m3⟩, k1, k2, k3, kvs, k4, k5, k6⟩ := m
  have eF := rF.one n1 (k1 K) m1
  have eW := rW.one n2 (k2 K) m2
  have eN := rN.one n3 (k3 K) m3
  subst eF eW eN
  exact ⟨xa, dx, b, vF, vW, vN, kvs, h0, h1, h2, hx, hb, k4, k5, k6, rF, rW, rN, k1, k2, k3⟩
theorem runM_key {N : List Str} {n wh : Nat} {sc : Scope} {body : List Stmt} {F W Nm : D} {x : Str} {y : Int} {d : D} (h : runM T N wh n sc body [knD F W Nm, .str x, .int y] = .ok d) : keyIn Nm x y = true := by
  cases hform : mmForm N sc body with
  | none => simp only [runM, hform] at h; cases h
  | some p =>
    simp only [runM, hform] at h
    obtain ⟨_, _, _, _, _, _, e, _, hk, _⟩ := memo_ok h
    unfold knD at e
    cases e
    exact hk
theorem fn_mm {x qual : Str} {params : Arguments} {body : List Stmt} {scope : Scope} {f : Addr} {fd : FuncData} {N ps : List Str} (n wh : Nat) (F : FunD K x qual params body scope [] [] f fd) (S : FnScope N ps scope) (hps : ps.length = 3) (G : Glob P w K mg base cl T k) (kn : KnOk K) (knr : NoAttr K (He.ga K "Known") "near")
    (hP : ∀ F W Nm ks d, Lots.P F W Nm ks d ↔ ∃ x y, ks = [.inr x, .inl y] ∧ runM T N wh (n + 1) scope body [knD F W Nm, .str x, .int y] = .ok d) :
    FnOk P w K mg base (L2.CX P w) (k + 1) f fd ps (spD K cl ps.length (runM T N wh (n + 1) scope body)) := by
  refine F.ok S (fun vs H Q E h => ?_) (fun cdv A outer s H vs Q E hr h => ?_)
  · obtain ⟨Hf, ds, _, r, hl, _⟩ := h
    exact r.length.trans hl
  · obtain ⟨Hf, ds, sf, r, hl, h⟩ := h
    have o := cx_run (E := E) (cdv := cdv) (outer := outer) (s := s) (H := H) (f := f) (qual := qual) (A := A) false S G hr
    cases er : runM T N wh (n + 1) scope body ds with
    | bad => rw [er] at h; exact h.elim
    | exc c =>
      exfalso
      cases hform : mmForm N scope body with
      | none => simp only [runM, hform] at er; cases er
      | some p => simp only [runM, hform] at er; exact memo_calm er
    | ok d =>
      rw [er] at h
      have er0 := er
      cases hform : mmForm N scope body with
      | none => simp only [runM, hform] at er; cases er
      | some pd =>
        obtain ⟨pre, dc⟩ := pd
        simp only [runM, hform] at er
        obtain ⟨F', W', Nm, x', y', ρ1, rfl, ⟨n1, n2, n3⟩, hkey, e1, hk3, e2, hmm⟩ := memo_ok er
        obtain ⟨t, ob, q, t2, o2, q2, q3, q4, t3, o3, q5, q6, rfl, ⟨s1, s2, s3⟩, ⟨k1, k2, k3⟩, hdc⟩ := mmForm_ok hform
        have hu : (cxOf (L2.CX P w) P w K mg base N qual scope f cdv A outer s H E).A.units + 1 < cLine := by have := o.units; omega
        have env0 := start_env (N := N) sf r
        have eρ : ([PyData.dict [(.none, .tuple [F', W', Nm])], .str x', .int y'].map DL.Slot.va ++ List.replicate (N.length - [PyData.dict [(.none, .tuple [F', W', Nm])], .str x', .int y'].length) .un) = .va (.dict [(.none, .tuple [F', W', Nm])]) :: .va (.str x') :: .va (.int y') :: List.replicate (N.length - 3) .un := rfl
        rw [eρ] at env0
        generalize hX : cxOf (L2.CX P w) P w K mg base N qual scope f cdv A outer s H E = X at o hu ⊢
        have eK : X.K = K := by rw [← hX]; rfl
        have hpass : PassesOwn (model X.prog X.w) X.A X.env X.xe := by rw [← hX]; exact passes_of rfl
        have hfr : FrOk X := by rw [← hX]; exact ⟨rfl, rfl⟩
        have hS := snd_S (wh := wh) (n := n) (v := ev T N (n + 1)) rfl (n + 1) o hpass hfr
        have hE := (snd_ev T N (n + 1)).E o dc
        obtain ⟨a1, a2, a3, a4, a5, edc⟩ := hdc
        let key : List Key := [.inr x', .inl y']
        have ekV : key.map kV = [V.str x', V.int y'] := rfl
        have tupK : ∀ {σ : L2.St} {H1 : Hp} {Q : VK}, σ[1]? = some (some (.str x')) → σ[2]? = some (some (.int y')) → (∀ p, H1 p = none → Q (.ref p) (upd H1 p (.tup [V.str x', V.int y']))) → tTup (tCons (tVar 1) (tCons (tVar 2) tNil)) σ H1 Q := fun {σ H1 Q} h1 h2 hq =>
          ⟨_, h1, _, h2, by rw [sizeLine_eq]; simp, hq⟩
        have fldK : ∀ {σ : L2.St} {H1 : Hp} {Q : VK} {xa dx b : Addr} {vF vW vN : V}, σ[0]? = some (some (.ref xa)) → H1 xa = some (.ins (He.ga K "Known") dx [("sea", vF), ("worlds", vW), ("names", vN), ("near", .ref b)]) → Q (.ref b) H1 → tFld X.K (tVar 0) "near" σ H1 Q := fun {σ H1 Q xa dx b vF vW vN} h0 hx hq =>
          ⟨_, h0, xa, He.ga K "Known", dx, _, .ref b, rfl, hx, by rw [eK]; exact kn.cls, by rw [eK]; exact knr, rfl, hq⟩
        let C : Pm := ⟨K, E, cl, false⟩
        let fE : Env → R D := (ev T N (n + 1)).E ⟨scope, N, false, false⟩ dc
        let is := rsOf N ((DL.kn 40).E dc)
        have e2 : fE (relR is ρ1) = .ok d := e2
        obtain ⟨Fa, Wa, Na, rest, eK1, eρ1⟩ := keep3_ok hk3
        cases eK1
        subst eρ1
        obtain ⟨rest', eρ2⟩ := rel3 (a := .dict [(.none, .tuple [F', W', Nm])]) (b := .str x') (c := .int y') (is := is) (rest := rest)
        have hP1 : Lots.P F' W' Nm key d := (hP _ _ _ _ _).mpr ⟨x', y', rfl, er0⟩
        let HK : L2.St → Hp → Hp → Prop := fun σ Hf H => ∃ (xa dx b : Addr) (vF vW vN v : V) (kvs : List (List Key × V)), σ[0]? = some (some (.ref xa)) ∧ σ[1]? = some (some (.str x')) ∧ σ[2]? = some (some (.int y')) ∧
          H xa = some (.ins (He.ga K "Known") dx [("sea", vF), ("worlds", vW), ("names", vN), ("near", .ref b)]) ∧ H b = some (.dT kvs) ∧ valV kvs key = some v ∧ Rp K Hf v d
        have getT : ∀ {H1 : Hp} {b p : Addr} {kvs : List (List Key × V)}, H1 b = some (.dT kvs) → H1 p = none → DGet (upd H1 p (.tup [V.str x', V.int y'])) b (.ref p) (valV kvs key) := fun {H1 b p kvs} hb np => DGet.t (k := key) (by
          rw [upd_ne fun z => by rw [z] at hb; rw [np] at hb; cases hb]; exact hb) upd_same
        have retOk : ∀ (σ : L2.St) (Hf5 H5 : Hp), Grow Hf H Hf5 H5 → HK σ Hf5 H5 → tDGet (tFld X.K (tVar 0) "near") (tTup (tCons (tVar 1) (tCons (tVar 2) tNil))) σ H5 Q := fun σ Hf5 H5 g5 ⟨xa, dx, b, vF, vW, vN, v, kvs, h0, h1, h2, hx, hb, hv, rv⟩ =>
          fldK h0 hx (tupK h1 h2 fun p np => ⟨b, v, rfl, by have := getT (p := p) hb np; rw [hv] at this; exact this, h v Hf5 _ (g5.trans (Grow.side g5.sub np)) rv⟩)
        let Φ : Env → Hp → Hp → Hp → L2.St → Ends → Prop := fun ρ Hf0 H0 Hf1 σ Dn => (∃ rest, ρ = .va (.dict [(.none, .tuple [F', W', Nm])]) :: .va (.str x') :: .va (.int y') :: rest) ∧ fE ρ = .ok d ∧
          ∀ Hf' H', Same Hf1 Hf' → Grow Hf0 H0 Hf' H' → HK σ Hf' H' → Dn.nx σ H'
        have store : PS X (.Assign [.Subscript o2 t2 q2] dc q3) (fun Dn σ H1 => ∃ (Hf0 H0 Hf1 : Hp) (ρ : Env), EnvR C.K Hf0 H0 Hf1 H1 σ ρ ∧ Φ (relR is ρ) Hf0 H0 Hf1 σ Dn) := by
          refine ps_relT (C := C) (Φ := Φ) is (fun ρ Hf0 H0 Hf Hf' σ Dn s1 q => ⟨q.1, q.2.1, fun Hf'' H'' s2 => q.2.2 Hf'' H'' (s1.trans s2)⟩) ?_
          refine PS.imp (ps_dput hu (mm_self o s2).1 (mm_key o k2).1 hE (by subst edc; rfl)) fun Dn σ H1 ⟨Hf0, H0, Hf1, ρ, env, ⟨rst, eρ⟩, ed, cont⟩ => ?_
          subst eρ
          refine ⟨Hf0, H0, Hf1, _, env, ?_⟩
          show OutG C (RelE C) Hf1 H1 (fE _) _
          rw [ed]
          intro v Hf2 H2 g2 rv
          have env2 := env.more g2
          obtain ⟨xa, dx, b, vF, vW, vN, kvs, h0, h1, h2, hx, hb, hB, nd, hall, rF, rW, rN, aF, aW, aN⟩ := self_at env2 n1 n2 n3
          have hx2 := env2.grow.sub.lk _ _ hx rfl
          refine fldK h0 hx2 (tupK h1 h2 fun p np => ?_)
          have npb : b ≠ p := fun z => by rw [z, np] at hB; cases hB
          have hfew : kvs.length < sizeLine := by
            have hs : (kvs.map (·.1)) ⊆ keysAll Nm := fun k' hk' => by
              obtain ⟨kv, hkv, rfl⟩ := List.mem_map.mp hk'
              obtain ⟨d', p1, _⟩ := hall kv hkv
              obtain ⟨x2, y2, ek, er2⟩ := (hP _ _ _ _ _).mp p1
              rw [ek]
              exact (keyIn_mem (runM_key er2)).1
            have h3 := nd.length_le_of_subset hs
            have h4 := (keyIn_mem hkey).2
            rw [List.length_map] at h3
            rw [sizeLine_eq]
            omega
          refine ⟨b, upd (upd H2 p (.tup [V.str x', V.int y'])) b (.dT (putK kvs key v)), rfl, DPut.t (k := key) (by rw [upd_ne npb]; exact hB) (upd_same) hfew, ?_⟩
          have g3 : Grow Hf2 H2 Hf2 (upd H2 p (.tup [V.str x', V.int y'])) := Grow.side env2.grow.sub np
          have mk : MarkOk Hf2 (upd (upd H2 p (.tup [V.str x', V.int y'])) b (.dT (putK kvs key v))) b [("sea", vF), ("worlds", vW), ("names", vN)] := by
            refine ⟨F', W', Nm, ⟨n1, n2, n3⟩, aF, aW, aN, putK kvs key v, upd_same, putK_nd nd, fun kv hkv => ?_⟩
            rcases putK_mem hkv with z | rfl
            · exact hall kv z
            · exact ⟨d, hP1, fun K' => Rp.mm rv hmm K'⟩
          have g4 := Grow.mark g3.sub hb mk
          refine cont Hf2 _ g2.f (env.grow.trans (g2.trans (g3.trans g4))) ⟨xa, dx, b, vF, vW, vN, v, putK kvs key v, h0, h1, h2, ?_, upd_same, by rw [valV_put]; simp, rv⟩
          have n5 : xa ≠ b := fun z => by rw [z, hb] at hx; cases hx
          have n6 : xa ≠ p := fun z => by rw [z, np] at hx2; cases hx2
          rw [upd_ne n5, upd_ne n6]
          exact hx2
        refine ⟨_, pss_cons (ps_if (pt_cmp (pc_dnotin hu (mm_key o k1).1 (mm_self o s1).1) (mm_self o s1).2) (pss_snoc (C := C) store hS pre) pss_nil) (pss_one (ps_ret (pe_dget hu (mm_self o s3).1 (mm_key o k3).1 (mm_key o k3).2))), ?_⟩
        obtain ⟨xa, dx, b, vF, vW, vN, kvs, h0, h1, h2, hx, hb, hB, nd, hall, rF, rW, rN, aF, aW, aN⟩ := self_at env0 n1 n2 n3
        have hx2 := env0.grow.sub.lk _ _ hx rfl
        unfold tSeq tIfS tB tDNotIn
        refine tupK h1 h2 fun p np => ?_
        have g3 : Grow Hf H Hf (upd H p (.tup [V.str x', V.int y'])) := Grow.side sf np
        have n6 : xa ≠ p := fun z => by rw [z, np] at hx2; cases hx2
        have npb : b ≠ p := fun z => by rw [z, np] at hB; cases hB
        refine fldK h0 (by rw [upd_ne n6]; exact hx2) ⟨b, valV kvs key, rfl, getT hB np, _, rfl, ?_⟩
        cases hv : valV kvs key with
        | none =>
          refine iteT ⟨Hf, H, Hf, _, env0.more g3, ?_⟩
          rw [e1]
          intro Hf' H' σ' s1' env'
          exact ⟨Hf, H, Hf', _, env', ⟨rest', eρ2⟩, e2, fun Hf'' H'' _ g'' hk => retOk σ' Hf'' H'' g'' hk⟩
        | some v =>
          refine iteF ?_
          obtain ⟨d', p1, rd⟩ := hall _ (valV_mem hv)
          obtain ⟨x2, y2, ek, er2⟩ := (hP _ _ _ _ _).mp p1
          cases ek
          have ed : d' = d := by
            have := er2.symm.trans er0
            cases this
            rfl
          subst ed
          exact retOk _ Hf _ g3 ⟨xa, dx, b, vF, vW, vN, v, kvs, h0, h1, h2, by rw [upd_ne n6]; exact hx2, by rw [upd_ne npb]; exact hB, hv, rd K⟩
end
end DL
namespace DL
open PySem PySem.Spec PyProof.Rows L2
variable [Lots]
structure DefI where
  name : Str
  st : Stmt
  ps : List Str
  N : List Str
def DefI.d (i : DefI) : He.DefD := ⟨(i.name, none), i.name, i.name, defArgs i.st, defBody i.st, defScope i.st, [], []⟩
def scB (d : DefI) : Bool := (match (defScope d.st).kind with | .function => true | _ => false) && !(defScope d.st).isCoroutine && !(defScope d.st).isGenerator && decide d.N.Nodup && decide (d.N.take d.ps.length = d.ps) &&
  (d.ps.all fun x => isLoc (defScope d.st) x) && ((defScope d.st).names.all fun y => match y.2 with | .free => false | _ => true)
theorem scB_ok {d : DefI} (h : scB d = true) : FnScope d.N d.ps (defScope d.st) := by
  simp only [scB, Bool.and_eq_true, Bool.not_eq_true', decide_eq_true_eq, List.all_eq_true] at h
  obtain ⟨⟨⟨⟨⟨⟨h1, h2⟩, h3⟩, h4⟩, h5⟩, h6⟩, h7⟩ := h
  refine ⟨?_, h2, h3, h4, h5, fun x hx => ?_, fun y hy e => ?_⟩
  · split at h1
    · rename_i e; exact e
    · cases h1
  · have := h6 x hx
    unfold isLoc at this
    split at this
    · rename_i e; exact .inl e
    · rename_i e; exact .inr e
    · cases this
  · have := h7 y hy
    rw [e] at this
    cases this
def DefI.m (i : DefI) : He.DefD := ⟨("Known", some i.name), i.name, ("Known." : Str) ++ i.name, defArgs i.st, defBody i.st, defScope i.st, [], []⟩
def clsSts : Stmt → List Stmt
  | .ClassDef _ _ _ b _ _ _ _ _ _ _ => b
  | _ => []
structure Prg where
  defs : List DefI
  inn : List (Str × Int)
  txt : List (Str × Str)
  excs : List Str
  mths : List DefI
def Prg.has (p : Prg) (x : Str) : Bool := p.defs.any fun d => d.name == x
def Prg.fn (p : Prg) : List He.DefD := p.defs.map DefI.d ++ p.mths.map DefI.m
def Prg.knFa (p : Prg) : List He.Fa := if p.mths.isEmpty then [] else [.glo "Known", .cls "Known", .noat "Known" "sea", .noat "Known" "worlds", .noat "Known" "names", .noat "Known" "near", .mkr "Known"] ++ (p.mths.filter fun d => !(d.name == ("__init__" : Str))).map fun d => .meth "Known" d.name
def Prg.fa (p : Prg) : List He.Fa := p.defs.map (fun d => .glo d.name) ++ (blts.map .free ++ (p.inn.map (fun q => .int q.1 q.2) ++ (p.txt.map (fun q => .str q.1 q.2) ++ (p.excs.map .exc ++ (p.excs.map .glo ++ p.knFa)))))
def Prg.con (p : Prg) (x : Str) : Option D := match p.inn.lookup x with
  | some i => some (.int i)
  | none => (p.txt.lookup x).map .str
def frs : List Str := ["bounds_for"]
def Prg.mkT (p : Prg) (wh n : Nat) (ml : Option (Nat × (List D → R D))) (pn : Option (List D → R D)) (t : Tbl) : Tbl :=
  ⟨fun x => (p.defs.find? fun d => d.name == x).map fun d => (d.ps.length, runD t d.N wh (n + 1) (defScope d.st) (defBody d.st)), p.con, fun x => p.excs.contains x,
    fun x => if frs.contains x then (p.defs.find? fun d => d.name == x).map fun d => (d.ps.length, runF t d.N wh (n + 1) (defScope d.st) (defBody d.st)) else none,
    fun x => match ml with
      | some e => if x == ("lots" : Str) then some e else if x == ("__init__" : Str) then none else (p.mths.find? fun d => d.name == x).map fun d => (d.ps.length, runD t d.N wh (n + 1) (defScope d.st) (defBody d.st))
      | none => none, pn⟩
def Prg.T0 (p : Prg) (wh n : Nat) : Nat → Tbl
  | 0 => ⟨fun _ => none, p.con, fun x => p.excs.contains x, fun _ => none, fun _ => none, none⟩
  | k + 1 => p.mkT wh n none none (p.T0 wh n k)
def Prg.lots (p : Prg) : Option DefI := p.mths.find? fun d => d.name == ("lots" : Str)
def Prg.pn (p : Prg) (wh n : Nat) : Option (List D → R D) := if p.mths.isEmpty then none else (p.defs.find? fun d => d.name == ("plain_names" : Str)).map fun d => runD (p.T0 wh n 0) d.N wh (n + 1) (defScope d.st) (defBody d.st)
def Prg.TL (p : Prg) (wh n : Nat) : Tbl := ⟨(p.T0 wh n 8).fn, p.con, fun x => p.excs.contains x, (p.T0 wh n 8).fo, fun _ => none, p.pn wh n⟩
def Prg.ml (p : Prg) (wh n : Nat) : Option (Nat × (List D → R D)) := p.lots.map fun d => (d.ps.length, runM (p.TL wh n) d.N wh (n + 1) (defScope d.st) (defBody d.st))
def Prg.off (p : Prg) : Nat := if p.mths.isEmpty then 0 else 9
def Prg.TB (p : Prg) (wh n : Nat) : Tbl := if p.mths.isEmpty then p.T0 wh n 0 else ⟨(p.T0 wh n 9).fn, p.con, fun x => p.excs.contains x, (p.T0 wh n 9).fo, fun x => if x == ("lots" : Str) then p.ml wh n else none, p.pn wh n⟩
def Prg.T (p : Prg) (wh n : Nat) : Nat → Tbl
  | 0 => p.TB wh n
  | k + 1 => p.mkT wh n (p.ml wh n) (p.pn wh n) (p.T wh n k)
def Prg.memoP (p : Prg) (wh n : Nat) (F W N : D) (ks : List Key) (d : D) : Prop := ∃ dm x y, p.lots = some dm ∧ ks = [.inr x, .inl y] ∧ runM (p.TL wh n) dm.N wh (n + 1) (defScope dm.st) (defBody dm.st) [knD F W N, .str x, .int y] = .ok d
def initB (d : DefI) : Bool := decide (d.N = ([("self" : Str), ("fleet" : Str), ("worlds" : Str)] : List Str)) && (decide (d.ps = ([("self" : Str), ("fleet" : Str), ("worlds" : Str)] : List Str)) && (decide ((defScope d.st).names.lookup ("self" : Str) = some NameKind.local) && (decide ((defScope d.st).names.lookup ("fleet" : Str) = some NameKind.local) && (decide ((defScope d.st).names.lookup ("worlds" : Str) = some NameKind.local) && ((isGl (defScope d.st) "plain_names") && match defBody d.st with
  | [.Assign [.Attribute (.Name x1 _) f1 _] (.Name y1 _) _, .Assign [.Attribute (.Name x2 _) f2 _] (.Name y2 _) _, .Assign [.Attribute (.Name x3 _) f3 _] (.Call (.Name g _) [.Name y3 _] [] _) _, .Assign [.Attribute (.Name x4 _) f4 _] (.Dict [] [] _) _] =>
    ((x1 == ("self" : Str)) && (f1 == ("sea" : Str)) && (y1 == ("fleet" : Str))) && (((x2 == ("self" : Str)) && (f2 == ("worlds" : Str)) && (y2 == ("worlds" : Str))) && (((x3 == ("self" : Str)) && (f3 == ("names" : Str)) && ((g == ("plain_names" : Str)) && (y3 == ("fleet" : Str)))) && ((x4 == ("self" : Str)) && (f4 == ("near" : Str)))))
  | _ => false)))))
def Prg.knB (p : Prg) : Bool := p.mths.isEmpty || ((p.mths.all scB) && ((match p.mths.find? fun d => d.name == ("__init__" : Str) with | some d => initB d | none => false) && ((match p.lots with | some d => decide (d.ps.length = 3) | none => false) && (match p.defs.find? fun d => d.name == ("plain_names" : Str) with | some d => decide (d.ps.length = 1) | none => false))))
def excCB (K : PySem.W.Frag) (D : Addr) : Bool := He.eqO (PySem.W.findIn K (.ref D) "__getattribute__") (some (some (.builtin "BaseException.__getattribute__"))) && (He.eqO (PySem.W.findIn K (.ref D) "__getattr__") (some none) && (decide (PySem.W.subIn K (.ref D) (.type "BaseException") = some true) &&
  (PySem.W.hasDictIn K D && (He.eqO (PySem.W.findIn K (.ref D) "__class__") (some (some (.builtin "object.__class__"))) && (He.eqO (PySem.W.specialIn K (.builtin "object.__class__") "__get__") (some (some (.builtin "getset_descriptor.__get__"))) &&
  (decide (PySem.W.takesIn K (.builtin "object.__class__") = some true) && decide (PySem.W.mroIn K D (.type "object") = some true)))))))
theorem excC_of {K : PySem.W.Frag} {D : Addr} (h : excCB K D = true) : ExcC K D := by
  simp only [excCB, Bool.and_eq_true, decide_eq_true_eq] at h
  obtain ⟨h1, h2, h3, h4, h5, h6, h7, h8⟩ := h
  exact ⟨He.eqO_ok h1, He.eqO_ok h2, h3, h4, He.eqO_ok h5, He.eqO_ok h6, h7, h8⟩
def Prg.xB (p : Prg) (K : PySem.W.Frag) : Bool := !(p.excs.contains "FleetError") || p.excs.all fun c => excCB K (He.ga K c) && (decide (PySem.W.exmOne K (.ref (He.ga K c)) (.ref (He.ga K "FleetError")) = some true) &&
  p.excs.all fun k => (k == ("FleetError" : Str)) || decide (PySem.W.kitOne K (.ref (He.ga K c)) (.ref (He.ga K k)) = some (decide (c = k))))
theorem xB_of {p : Prg} {K : PySem.W.Frag} (h : p.xB K = true) (hF : p.excs.contains "FleetError" = true) : (∀ c, p.excs.contains c = true → ExcC K (He.ga K c)) ∧ (∀ c, p.excs.contains c = true → PySem.W.exmOne K (.ref (He.ga K c)) (.ref (He.ga K "FleetError")) = some true) ∧
    ∀ c k, p.excs.contains c = true → p.excs.contains k = true → k ≠ "FleetError" → PySem.W.kitOne K (.ref (He.ga K c)) (.ref (He.ga K k)) = some (decide (c = k)) := by
  unfold Prg.xB at h
  rw [hF] at h
  simp only [Bool.not_true, Bool.false_or, List.all_eq_true, Bool.and_eq_true, Bool.or_eq_true, decide_eq_true_eq] at h
  refine ⟨fun c hc => excC_of (h c (by simpa using hc)).1, fun c hc => (h c (by simpa using hc)).2.1, fun c k hc hk hne => ?_⟩
  rcases (h c (by simpa using hc)).2.2 k (by simpa using hk) with z | z
  · exact absurd (eq_of_beq z) hne
  · exact z
def obsX (xB : PySem.W.Frag → Bool) (fa : List He.Fa) (fn : List He.DefD) (K : PySem.W.Frag) : Bool × He.AlD := (xB K, He.obsD fa fn K)
def obsXG (n : Nat) (xB : PySem.W.Frag → Bool) (fa : List He.Fa) (fn : List He.DefD) (g : Addr → Option Obj) : Bool × He.AlD := obsX xB fa fn (He.frG g (He.asD g n))
def hookX (n : Nat) (xB : PySem.W.Frag → Bool) (fa : List He.Fa) (fn : List He.DefD) : PySem.W.Hook where
  α := Bool × He.AlD
  obs := fun s => obsXG n xB fa fn s.heap.get?
  val := fun _ => (true, He.valD fn)
  says := fun _ h => ∃ K : PySem.W.Frag, K.In h ∧ xB K = true ∧ He.SaysD fa fn K
  of := fun _ _ e => ⟨_, He.frG_in, congrArg (fun z : Bool × He.AlD => z.1) e, congrArg (fun z : Bool × He.AlD => z.2) e⟩
  keeps := fun _ _ _ ⟨K, hK, c⟩ k => ⟨K, PySem.W.Frag.In.keeps hK k, c⟩
theorem obsXG_eq {n : Nat} {xB : PySem.W.Frag → Bool} {fa : List He.Fa} {fn : List He.DefD} {g : Addr → Option Obj} {s : Shared} (h : ∀ a, g a = s.heap.get? a) : obsXG n xB fa fn g = (hookX n xB fa fn).obs s := by
  have e : g = s.heap.get? := funext h
  rw [e] <;> rfl
def BndOk (d : DefI) : Prop := ∀ (kV doc pm : Value) (an : Option Addr) (cdv ct : Value) (us : List Value), us.length = d.ps.length → bindArgs (PySem.W.fnOf d.name d.name (defArgs d.st) (defBody d.st) (defScope d.st) .none kV doc pm an cdv ct) ⟨us, []⟩ = pure (d.ps.zip us)
def BndOkM (d : DefI) : Prop := ∀ (kV doc pm : Value) (an : Option Addr) (cdv ct : Value) (us : List Value), us.length = d.ps.length → bindArgs (PySem.W.fnOf d.name (("Known." : Str) ++ d.name) (defArgs d.st) (defBody d.st) (defScope d.st) .none kV doc pm an cdv ct) ⟨us, []⟩ = pure (d.ps.zip us)
section
variable {P : Program} {w : World} {K : PySem.W.Frag} {mg : Str → Option Value} {base h : Heap}
theorem fact_mem {fa : List He.Fa} {fn : List He.DefD} (c : He.SaysD fa fn K) {f : He.Fa} (hf : f ∈ fa) : f.ok K = true := by
  obtain ⟨i, hi⟩ := List.getElem?_of_mem hf
  exact c.fact i hi
theorem lookup_mem2 {α : Type} {l : List (Str × α)} {x : Str} {a : α} (h : l.lookup x = some a) : (x, a) ∈ l := PySem.mem_of_lookup h
theorem fn_def {p : Prg} (c : He.SaysD p.fa p.fn K) {d : DefI} (hm : d ∈ p.defs) : ∃ fd, FunD K d.name d.name (defArgs d.st) (defBody d.st) (defScope d.st) [] [] (He.ga K d.name) fd := by
  obtain ⟨i, hi⟩ := List.getElem?_of_mem (List.mem_append_left (p.mths.map DefI.m) (List.mem_map_of_mem (f := DefI.d) hm))
  exact c.def_ i (d := d.d) hi
theorem fn_mth {p : Prg} (c : He.SaysD p.fa p.fn K) {d : DefI} (hm : d ∈ p.mths) : ∃ fd, FunD K d.name (("Known." : Str) ++ d.name) (defArgs d.st) (defBody d.st) (defScope d.st) [] [] (He.ma K (He.ga K "Known") d.name) fd := by
  obtain ⟨i, hi⟩ := List.getElem?_of_mem (List.mem_append_right (p.defs.map DefI.d) (List.mem_map_of_mem (f := DefI.m) hm))
  exact c.def_ i (d := d.m) hi
theorem kn_fact {p : Prg} (c : He.SaysD p.fa p.fn K) {f : He.Fa} (hf : f ∈ p.knFa) : f.ok K = true := fact_mem c (by
  unfold Prg.fa
  exact List.mem_append_right _ (List.mem_append_right _ (List.mem_append_right _ (List.mem_append_right _ (List.mem_append_right _ (List.mem_append_right _ hf))))))
structure Grd (K : PySem.W.Frag) (mg : Str → Option Value) (p : Prg) : Prop where
  con : ∀ (x : Str) (d : D), p.con x = some d → ∃ (v : V) (u : Value), mg x = some u ∧ RelV v u ∧ FlatV v d
  free : ∀ x ∈ blts, mg x = none
  exc : ∀ x, p.excs.contains x = true → PySem.W.excIn K (He.ga K x) [.type "ValueError", .type "Exception", .type "BaseException", .type "object"] "ValueError.__new__" = true ∧ mg x = some (.ref (He.ga K x)) ∧ PySem.W.keepIn K (.ref (He.ga K x)) = true ∧
      PySem.W.subIn K (.ref (He.ga K x)) (.type "BaseException") = some true ∧ PySem.W.typeIn K (.ref (He.ga K x)) = some (.type "type")
  glo : ∀ d ∈ p.defs, mg d.name = some (.ref (He.ga K d.name))
theorem prg_grd (p : Prg) (X : K.In h) (G : h.Ns mainGlobals mg) (c : He.SaysD p.fa p.fn K) : Grd K mg p where
  con := fun x d hd => by
    unfold Prg.con at hd
    cases q : p.inn.lookup x with
    | some i =>
      rw [q] at hd
      cases hd
      obtain ⟨t, e⟩ := He.int_ok X G (fact_mem c (f := .int x i) (by
        unfold Prg.fa
        exact List.mem_append_right _ (List.mem_append_right _ (List.mem_append_left _ (List.mem_map.mpr ⟨(x, i), lookup_mem2 q, rfl⟩)))))
      exact ⟨.int i, _, e, ⟨t, rfl⟩, fun _ _ => .int i⟩
    | none =>
      rw [q] at hd
      cases q2 : p.txt.lookup x with
      | none => rw [q2] at hd; cases hd
      | some z =>
        rw [q2] at hd
        cases hd
        obtain ⟨t, e⟩ := He.str_ok X G (fact_mem c (f := .str x z) (by
          unfold Prg.fa
          exact List.mem_append_right _ (List.mem_append_right _ (List.mem_append_right _ (List.mem_append_left _ (List.mem_map.mpr ⟨(x, z), lookup_mem2 q2, rfl⟩))))))
        exact ⟨.str z, _, e, ⟨t, rfl⟩, fun _ _ => .str z⟩
  free := fun x hx => He.free_ok X G (fact_mem c (f := .free x) (by
    unfold Prg.fa
    exact List.mem_append_right _ (List.mem_append_left _ (List.mem_map.mpr ⟨x, hx, rfl⟩))))
  exc := fun x hx => by
    have hm : x ∈ p.excs := by simpa using hx
    obtain ⟨h1, h2, h3, h4⟩ := He.exc_ok (fact_mem c (f := .exc x) (by
      unfold Prg.fa
      exact List.mem_append_right _ (List.mem_append_right _ (List.mem_append_right _ (List.mem_append_right _ (List.mem_append_left _ (List.mem_map.mpr ⟨x, hm, rfl⟩)))))))
    have g := He.glo_ok X G (fact_mem c (f := .glo x) (by
      unfold Prg.fa
      exact List.mem_append_right _ (List.mem_append_right _ (List.mem_append_right _ (List.mem_append_right _ (List.mem_append_right _ (List.mem_append_left _ (List.mem_map.mpr ⟨x, hm, rfl⟩))))))))
    exact ⟨h1, g, h2, h3, h4⟩
  glo := fun d hm => He.glo_ok X G (fact_mem c (f := .glo d.name) (by
    unfold Prg.fa
    exact List.mem_append_left _ (List.mem_map.mpr ⟨d, hm, rfl⟩)))
theorem glob_mk {p : Prg} {wh n k : Nat} {t : Tbl} {ml : Option (Nat × (List D → R D))} {pn : Option (List D → R D)} (hw : w = Lots.w) (cx : p.xB K = true) (c : He.SaysD p.fa p.fn K) (hs : p.defs.all scB = true) (hb : ∀ d ∈ p.defs, BndOk d) (g : Grd K mg p) (G : Glob P w K mg base (He.ga K) t k)
    (hmt : ∀ (x : Str) (m : Nat) (F : List D → R D), (p.mkT wh n ml pn t).mt x = some (m, F) → ∃ (f : Addr) (fd : FuncData) (ps : List Str), FnOk P w K mg base (L2.CX P w) (k + 1) f fd ps (spD K (He.ga K) m F) ∧ Meth K (He.ga K "Known") x f ∧ Binds K fd ps [] ∧ KnOk K)
    (hpn : ∀ PN : List D → R D, pn = some PN → ∃ (kl : Nat) (f : Addr) (fd : FuncData) (ps : List Str), kl + 1 ≤ k + 1 ∧ FnOk P w K mg base (L2.CX P w) kl f fd ps (spI K (He.ga K) PN) ∧ Mk K (He.ga K "Known") f ∧ mg "Known" = some (.ref (He.ga K "Known")) ∧ Binds K fd ps [] ∧ KnOk K) :
    Glob P w K mg base (He.ga K) (p.mkT wh n ml pn t) (k + 1) := by
  refine ⟨hw, fun x m F e => ?_, fun x m F e => ?_, g.con, fun x hx _ => g.free x hx, g.exc, xB_of cx, hmt, hpn⟩
  · have e : ((p.defs.find? fun d => d.name == x).map fun d => (d.ps.length, runD t d.N wh (n + 1) (defScope d.st) (defBody d.st))) = some (m, F) := e
    cases q : p.defs.find? fun d => d.name == x with
    | none => rw [q] at e; cases e
    | some d =>
      rw [q] at e
      cases e
      have hm : d ∈ p.defs := List.mem_of_find?_eq_some q
      have hx : d.name = x := by simpa using List.find?_some q
      obtain ⟨fd, FD⟩ := fn_def c hm
      exact ⟨_, fd, d.ps, fn_run n wh FD (scB_ok (List.all_eq_true.mp hs d hm)) G, by rw [← hx]; exact g.glo d hm, FD.kp, FD.bindsN (hb d hm)⟩
  · have e : (if frs.contains x then (p.defs.find? fun d => d.name == x).map fun d => (d.ps.length, runF t d.N wh (n + 1) (defScope d.st) (defBody d.st)) else none) = some (m, F) := e
    have e : ((p.defs.find? fun d => d.name == x).map fun d => (d.ps.length, runF t d.N wh (n + 1) (defScope d.st) (defBody d.st))) = some (m, F) := by
      split at e
      · exact e
      · cases e
    cases q : p.defs.find? fun d => d.name == x with
    | none => rw [q] at e; cases e
    | some d =>
      rw [q] at e
      cases e
      have hm : d ∈ p.defs := List.mem_of_find?_eq_some q
      have hx : d.name = x := by simpa using List.find?_some q
      obtain ⟨fd, FD⟩ := fn_def c hm
      exact ⟨_, fd, d.ps, fn_runF n wh FD (scB_ok (List.all_eq_true.mp hs d hm)) G, by rw [← hx]; exact g.glo d hm, FD.kp, FD.bindsN (hb d hm)⟩
theorem prg_glob0 (hw : w = Lots.w) (p : Prg) (wh n : Nat) (g : Grd K mg p) (cx : p.xB K = true) (c : He.SaysD p.fa p.fn K) (hs : p.defs.all scB = true) (hb : ∀ d ∈ p.defs, BndOk d) : ∀ k, Glob P w K mg base (He.ga K) (p.T0 wh n k) k
  | 0 => ⟨hw, fun x n F e => (nomatch e), fun x n F e => (nomatch e), g.con, fun x hx _ => g.free x hx, g.exc, xB_of cx, fun x n F e => (nomatch e), fun PN e => (nomatch e)⟩
  | k + 1 => glob_mk hw cx c hs hb g (prg_glob0 hw p wh n g cx c hs hb k) (fun x n F e => (nomatch e)) (fun PN e => (nomatch e))
structure KnG (P : Program) (w : World) (K : PySem.W.Frag) (mg : Str → Option Value) (base : Heap) (p : Prg) (wh n : Nat) : Prop where
  ok : KnOk K
  lots : ∀ e : Nat × (List D → R D), p.ml wh n = some e → ∃ (f : Addr) (fd : FuncData) (ps : List Str), FnOk P w K mg base (L2.CX P w) 9 f fd ps (spD K (He.ga K) e.1 e.2) ∧ Meth K (He.ga K "Known") "lots" f ∧ Binds K fd ps []
  make : ∀ PN : List D → R D, p.pn wh n = some PN → ∃ (f : Addr) (fd : FuncData) (ps : List Str), FnOk P w K mg base (L2.CX P w) 2 f fd ps (spI K (He.ga K) PN) ∧ Mk K (He.ga K "Known") f ∧ mg "Known" = some (.ref (He.ga K "Known")) ∧ Binds K fd ps []
theorem find_name {ds : List DefI} {x : Str} {d : DefI} (h : (ds.find? fun d => d.name == x) = some d) : d ∈ ds ∧ d.name = x := ⟨List.mem_of_find?_eq_some h, by simpa using List.find?_some h⟩
theorem prg_kng (hw : w = Lots.w) {p : Prg} {wh n : Nat} (X : K.In h) (G : h.Ns mainGlobals mg) (g : Grd K mg p) (cx : p.xB K = true) (c : He.SaysD p.fa p.fn K) (hs : p.defs.all scB = true) (hb : ∀ d ∈ p.defs, BndOk d) (hne : p.mths.isEmpty = false) (hk : p.knB = true) (hbm : ∀ d ∈ p.mths, BndOkM d)
    (hP : ∀ F W Nm ks d, Lots.P F W Nm ks d ↔ p.memoP wh n F W Nm ks d) : KnG P w K mg base p wh n := by
  unfold Prg.knB at hk
  rw [hne, Bool.false_or] at hk
  simp only [Bool.and_eq_true] at hk
  obtain ⟨k1, k2, k3, k4⟩ := hk
  have hfa : ∀ f ∈ ([.glo "Known", .cls "Known", .noat "Known" "sea", .noat "Known" "worlds", .noat "Known" "names", .noat "Known" "near", .mkr "Known"] : List He.Fa), f.ok K = true := fun f hf => kn_fact c (by
    unfold Prg.knFa
    rw [hne]
    exact List.mem_append_left _ hf)
  have kn : KnOk K := ⟨He.cls_ok (hfa (.cls "Known") (by simp)), He.noat_ok (hfa (.noat "Known" "sea") (by simp)), He.noat_ok (hfa (.noat "Known" "worlds") (by simp)), He.noat_ok (hfa (.noat "Known" "names") (by simp))⟩
  have knr : NoAttr K (He.ga K "Known") "near" := He.noat_ok (hfa (.noat "Known" "near") (by simp))
  have meth : ∀ d ∈ p.mths, d.name ≠ "__init__" → Meth K (He.ga K "Known") d.name (He.ma K (He.ga K "Known") d.name) := fun d hd hn => He.meth_ok (kn_fact c (f := .meth "Known" d.name) (by
    unfold Prg.knFa
    rw [hne]
    refine List.mem_append_right _ (List.mem_map.mpr ⟨d, List.mem_filter.mpr ⟨hd, ?_⟩, rfl⟩)
    simpa using hn))
  have make : ∀ PN : List D → R D, p.pn wh n = some PN → ∃ (f : Addr) (fd : FuncData) (ps : List Str), FnOk P w K mg base (L2.CX P w) 2 f fd ps (spI K (He.ga K) PN) ∧ Mk K (He.ga K "Known") f ∧ mg "Known" = some (.ref (He.ga K "Known")) ∧ Binds K fd ps [] := fun PN hPN => by
    unfold Prg.pn at hPN
    rw [hne] at hPN
    have hPN : ((p.defs.find? fun d => d.name == ("plain_names" : Str)).map fun d => runD (p.T0 wh n 0) d.N wh (n + 1) (defScope d.st) (defBody d.st)) = some PN := hPN
    cases qp : p.defs.find? fun d => d.name == ("plain_names" : Str) with
    | none => rw [qp] at hPN; cases hPN
    | some d0 =>
      rw [qp] at hPN k4
      cases hPN
      cases qi : p.mths.find? fun d => d.name == ("__init__" : Str) with
      | none => rw [qi] at k2; cases k2
      | some di =>
        rw [qi] at k2
        obtain ⟨hm, hn⟩ := find_name qi
        obtain ⟨fd, FD⟩ := fn_mth c hm
        have S := scB_ok (List.all_eq_true.mp k1 di hm)
        have k2 : initB di = true := k2
        unfold initB at k2
        simp only [Bool.and_eq_true, decide_eq_true_eq] at k2
        obtain ⟨n1, n2, l1, l2, l3, l4, bd⟩ := k2
        split at bd
        · rename_i x1 q1 f1 q2 y1 q3 q4 x2 q5 f2 q6 y2 q7 q8 x3 q9 f3 q10 gg q11 y3 q12 q13 q14 x4 q15 f4 q16 q17 q18 eb
          simp only [Bool.and_eq_true] at bd
          obtain ⟨⟨⟨b1, b2⟩, b3⟩, ⟨⟨b4, b5⟩, b6⟩, ⟨⟨b7, b8⟩, b9, b10⟩, b11, b12⟩ := bd
          have z1 := eq_of_beq b1; have z2 := eq_of_beq b2; have z3 := eq_of_beq b3; have z4 := eq_of_beq b4; have z5 := eq_of_beq b5; have z6 := eq_of_beq b6
          have z7 := eq_of_beq b7; have z8 := eq_of_beq b8; have z9 := eq_of_beq b9; have z10 := eq_of_beq b10; have z11 := eq_of_beq b11; have z12 := eq_of_beq b12
          subst z1 z2 z3 z4 z5 z6 z7 z8 z9 z10 z11 z12
          have hB := FD.bindsN (ps := di.ps) (hbm di hm)
          rw [eb] at FD
          rw [n1, n2] at S
          rw [n2] at hB
          have pn : (p.T0 wh n 1).fn "plain_names" = some (1, runD (p.T0 wh n 0) d0.N wh (n + 1) (defScope d0.st) (defBody d0.st)) := by
            show ((p.defs.find? fun d => d.name == ("plain_names" : Str)).map fun d => (d.ps.length, runD (p.T0 wh n 0) d.N wh (n + 1) (defScope d.st) (defBody d.st))) = _
            rw [qp]
            show some (d0.ps.length, _) = _
            rw [of_decide_eq_true k4]
          have hmk := He.mkr_ok (hfa (.mkr "Known") (by simp))
          refine ⟨_, fd, _, init_ok (k := 1) FD S l1 l2 l3 l4 (prg_glob0 hw p wh n g cx c hs hb 1) kn knr pn, ?_, He.glo_ok X G (hfa (.glo "Known") (by simp)), hB⟩
          rw [hn]
          exact hmk
        · cases bd
  refine ⟨kn, fun e he => ?_, make⟩
  · unfold Prg.ml at he
    cases ql : p.lots with
    | none => rw [ql] at he; cases he
    | some dm =>
      rw [ql] at he k3
      cases he
      obtain ⟨hm, hn⟩ := find_name ql
      obtain ⟨fd, FD⟩ := fn_mth c hm
      have S := scB_ok (List.all_eq_true.mp k1 dm hm)
      have G0 := prg_glob0 (P := P) (base := base) hw p wh n g cx c hs hb 8
      have G8 : Glob P w K mg base (He.ga K) (p.TL wh n) 8 := ⟨hw, G0.fn, G0.fo, g.con, fun x hx _ => g.free x hx, g.exc, xB_of cx, fun x m F e => (nomatch e), fun PN e => by
        obtain ⟨f, fd, ps, h1, h2, h3, h4⟩ := make PN e
        exact ⟨2, f, fd, ps, by omega, h1, h2, h3, h4, kn⟩⟩
      have hP8 : ∀ F W Nm ks d, Lots.P F W Nm ks d ↔ ∃ x y, ks = [.inr x, .inl y] ∧ runM (p.TL wh n) dm.N wh (n + 1) (defScope dm.st) (defBody dm.st) [knD F W Nm, .str x, .int y] = .ok d := fun F W Nm ks d => by
        rw [hP]
        unfold Prg.memoP
        rw [ql]
        constructor
        · rintro ⟨dm', x, y, e, h1, h2⟩
          cases e
          exact ⟨x, y, h1, h2⟩
        · rintro ⟨x, y, h1, h2⟩
          exact ⟨dm, x, y, rfl, h1, h2⟩
      generalize p.TL wh n = T8 at G8 hP8 ⊢
      have FO := fn_mm n wh FD S (of_decide_eq_true k3) G8 kn knr hP8
      have hM := meth dm hm (by rw [hn]; decide)
      have hB := FD.bindsN (hbm dm hm)
      rw [hn] at hM FO
      exact ⟨_, fd, dm.ps, FO, hM, hB⟩
theorem prg_glob (hw : w = Lots.w) (p : Prg) (wh n : Nat) (X : K.In h) (G : h.Ns mainGlobals mg) (cx : p.xB K = true) (c : He.SaysD p.fa p.fn K) (hs : p.defs.all scB = true) (hb : ∀ d ∈ p.defs, BndOk d) (hk : p.knB = true) (hbm : ∀ d ∈ p.mths, BndOkM d)
    (hP : ∀ F W Nm ks d, Lots.P F W Nm ks d ↔ p.memoP wh n F W Nm ks d) : ∀ k, Glob P w K mg base (He.ga K) (p.T wh n k) (k + p.off) := by
  have g := prg_grd p X G c
  cases hne : p.mths.isEmpty with
  | true =>
    have e1 : p.ml wh n = none := by
      unfold Prg.ml Prg.lots
      rw [List.isEmpty_iff.mp hne]
      rfl
    have e2 : p.pn wh n = none := by unfold Prg.pn; rw [hne]; rfl
    have e3 : p.off = 0 := by unfold Prg.off; rw [hne]; rfl
    have key : ∀ k, p.T wh n k = p.T0 wh n k := fun k => by
      induction k with
      | zero => show p.TB wh n = _; unfold Prg.TB; rw [hne]; rfl
      | succ k ih => show p.mkT wh n (p.ml wh n) (p.pn wh n) (p.T wh n k) = _; rw [e1, e2, ih]; rfl
    intro k
    rw [key, e3]
    exact prg_glob0 hw p wh n g cx c hs hb k
  | false =>
    have KG := prg_kng (P := P) (base := base) hw (wh := wh) (n := n) X G g cx c hs hb hne hk hbm hP
    have e3 : p.off = 9 := by unfold Prg.off; rw [hne]; rfl
    have hk' := hk
    unfold Prg.knB at hk'
    rw [hne, Bool.false_or] at hk'
    simp only [Bool.and_eq_true] at hk'
    intro k
    rw [e3]
    induction k with
    | zero =>
      show Glob P w K mg base (He.ga K) (p.TB wh n) (0 + 9)
      unfold Prg.TB
      rw [hne]
      have G9 := prg_glob0 (P := P) (base := base) hw p wh n g cx c hs hb 9
      refine ⟨hw, G9.fn, G9.fo, g.con, fun x hx _ => g.free x hx, g.exc, xB_of cx, fun x m F e => ?_, fun PN e => ?_⟩
      · have e : (if x == ("lots" : Str) then p.ml wh n else none) = some (m, F) := e
        split at e
        · rename_i q
          have := eq_of_beq q
          subst this
          obtain ⟨f, fd, ps, h1, h2, h3⟩ := KG.lots _ e
          exact ⟨f, fd, ps, h1, h2, h3, KG.ok⟩
        · cases e
      · obtain ⟨f, fd, ps, h1, h2, h3, h4⟩ := KG.make PN e
        exact ⟨2, f, fd, ps, by omega, h1, h2, h3, h4, KG.ok⟩
    | succ k ih =>
      rw [show k + 1 + 9 = (k + 9) + 1 by omega]
      refine glob_mk hw cx c hs hb g ih (fun x m F e => ?_) (fun PN e => ?_)
      · have e : (match p.ml wh n with
          | some e => if x == ("lots" : Str) then some e else if x == ("__init__" : Str) then none else (p.mths.find? fun d => d.name == x).map fun d => (d.ps.length, runD (p.T wh n k) d.N wh (n + 1) (defScope d.st) (defBody d.st))
          | none => none) = some (m, F) := e
        cases qm : p.ml wh n with
        | none => rw [qm] at e; cases e
        | some eL =>
          rw [qm] at e
          have e : (if x == ("lots" : Str) then some eL else if x == ("__init__" : Str) then none else (p.mths.find? fun d => d.name == x).map fun d => (d.ps.length, runD (p.T wh n k) d.N wh (n + 1) (defScope d.st) (defBody d.st))) = some (m, F) := e
          split at e
          · rename_i q
            have := eq_of_beq q
            subst this
            cases e
            obtain ⟨f, fd, ps, h1, h2, h3⟩ := KG.lots _ qm
            exact ⟨f, fd, ps, h1.mono (by omega), h2, h3, KG.ok⟩
          · split at e
            · cases e
            · rename_i hni
              cases q : p.mths.find? fun d => d.name == x with
              | none => rw [q] at e; cases e
              | some d =>
                rw [q] at e
                cases e
                obtain ⟨hm, hx⟩ := find_name q
                obtain ⟨fd, FD⟩ := fn_mth c hm
                have hmeth : Meth K (He.ga K "Known") d.name (He.ma K (He.ga K "Known") d.name) := He.meth_ok (kn_fact c (f := .meth "Known" d.name) (by
                  unfold Prg.knFa
                  rw [hne]
                  refine List.mem_append_right _ (List.mem_map.mpr ⟨d, List.mem_filter.mpr ⟨hm, ?_⟩, rfl⟩)
                  rw [hx]
                  simpa using hni))
                refine ⟨_, fd, d.ps, fn_run n wh FD (scB_ok (List.all_eq_true.mp hk'.1 d hm)) ih, ?_, FD.bindsN (hbm d hm), KG.ok⟩
                rw [hx] at hmeth ⊢
                exact hmeth
      · obtain ⟨f, fd, ps, h1, h2, h3, h4⟩ := KG.make PN e
        exact ⟨2, f, fd, ps, by omega, h1, h2, h3, h4, KG.ok⟩
end
def CXany : CXT := fun outer H s E e s' => ∃ (P : Program) (w : World), L2.CX P w outer H s E e s'
theorem fn_wider {P : Program} {w : World} {K : PySem.W.Frag} {mg : Str → Option Value} {base : Heap} {k : Nat} {f : Addr} {fd : FuncData} {ps : List Str} {sp : Sp} (F : FnOk P w K mg base (L2.CX P w) k f fd ps sp) : FnOk P w K mg base CXany k f fd ps sp :=
  ⟨F.len, fun A outer s H args us vs Q E hr he hb hv hs => codeAny_mono (F.run A outer s H args us vs Q E hr he hb hv hs) fun r s' q => by
    cases r with
    | error e => exact ⟨P, w, q⟩
    | ok fl =>
      cases fl with
      | ret u => exact q
      | next => exact q
      | brk => exact q
      | cont => exact q⟩
theorem cxany_no {H : Hp} {s : Shared} {e : Value} {s' : Shared} (h : CXany [] H s (fun _ _ _ => False) e s') : False := by
  obtain ⟨P, w, _, _, _, _, _, _, _, _, _, _, _, _, z⟩ := h
  exact z
def lsts (H : Hp) : Hp := fun b => match H b with
  | some (.lst xs) => some (.lst xs)
  | some (.frz o (.lst xs)) => some (.frz o (.lst xs))
  | _ => none
theorem lsts_fit (h0 : (Lots.tabs : List (Addr × Str)) = []) (H : Hp) : Fit (lsts H) H := by
  refine ⟨fun b o e _ => ?_, fun b fs e => ?_, fun p hp => by rw [h0] at hp; cases hp⟩
  · unfold lsts at e
    split at e
    · rename_i q; rw [q]; exact e
    · rename_i q; rw [q]; exact e
    · cases e
  · unfold lsts at e
    split at e <;> cases e
theorem lsts_seq {K : PySem.W.Frag} {H : Hp} {a : Addr} {xs : List V} (h : SqL K H a xs) : SqL K (lsts H) a xs := by
  rcases h with (h | ⟨o, h⟩) | h
  · refine .inl (.inl ?_)
    unfold lsts
    rw [h]
  · refine .inl (.inr ⟨o, ?_⟩)
    unfold lsts
    rw [h]
  · exact .inr h
end DL
namespace DL
open PySem PySem.Spec PyProof.Rows L2
theorem law_ok {P : Program} {w : World} {K : PySem.W.Frag} {mg : Str → Option Value} {h : Heap} {f : Addr} (p : Prg) (wh n k : Nat) (X : K.In h) (G : h.Ns mainGlobals mg) (hfa : mg ("law" : Str) = some (.ref f)) (cx : p.xB K = true) (c : He.SaysD p.fa p.fn K) (hs : p.defs.all scB = true) (hb : ∀ d ∈ p.defs, BndOk d) (hk : p.knB = true) (hbm : ∀ d ∈ p.mths, BndOkM d)
    (d : DefI) (hd : d ∈ p.defs) (hn : d.name = "law") (hp : d.ps = [("script" : Str)]) (ok : ∀ ns : List Int, ns.length ≤ 63 → runD (p.T wh n k) d.N wh (n + 1) (defScope d.st) (defBody d.st) [scr ns] = .ok (.bool true)) :
    ∃ (fd : FuncData) (sp : Sp), (∀ (s : Shared) (u : Value), BindsTo s fd ⟨[u], []⟩ [("script", u)]) ∧
      (∀ (H : Hp) (a : Addr) (ns : List Int), ns.length ≤ 63 → Only H → SqL K H a (ns.map V.int) → sp [.ref a] H (fun v _ => v = .bl true) fun _ _ _ => False) ∧
      ∀ base : Heap, K.In base → base.Ns mainGlobals mg → FnOk P w K mg base CXany (k + p.off + 1) f fd [("script" : Str)] sp := by
  letI inst : Lots := { P := p.memoP wh n, w := w }
  obtain ⟨fd, FD⟩ := fn_def c hd
  have g := He.glo_ok X G (fact_mem c (f := .glo d.name) (by
    unfold Prg.fa
    exact List.mem_append_left _ (List.mem_map.mpr ⟨d, hd, rfl⟩)))
  have ef : He.ga K d.name = f := by
    rw [hn, hfa] at g
    rw [hn]
    cases g
    rfl
  refine ⟨fd, spD K (He.ga K) 1 (runD (p.T wh n k) d.N wh (n + 1) (defScope d.st) (defBody d.st)), fun s u => ?_, fun H a ns hlen _ hS => ?_, fun base KB GB => ?_⟩
  · have := FD.bindsA (ps := d.ps) (hb d hd) s [u] (by rw [hp]; rfl)
    rw [hp] at this
    exact this
  · refine ⟨lsts H, [scr ns], lsts_fit rfl H, .cons (.scr (lsts_seq hS) (by rw [sizeLine_eq]; omega)) .nil, rfl, ?_⟩
    rw [ok ns hlen]
    intro v Hf' H' g r
    cases r
    rfl
  · have q := fn_run (P := P) (w := w) (base := base) (mg := mg) (k := k + p.off) (cl := He.ga K) n wh FD (scB_ok (List.all_eq_true.mp hs d hd)) (prg_glob rfl p wh n X G cx c hs hb hk hbm (fun _ _ _ _ _ => Iff.rfl) k)
    rw [hp, ef] at q
    exact fn_wider q
end DL
namespace DL
open PySem PySem.Spec PyProof.Rows L2
section
variable {K : PySem.W.Frag} {mg : Str → Option Value} {h : Heap}
end
end DL
namespace DL
open PySem PySem.Spec PyProof.Rows L2
end DL
namespace DL
open PySem PySem.Spec PyProof.Rows L2
def kD (d : D) : Env → R D := fun _ => .ok d
def kT (b : Bool) : Env → R Bool := fun _ => .ok b
def e1 (F : D → R D) (a : Env → R D) : Env → R D := fun ρ => a ρ >>= F
def e2 (F : D → D → R D) (a b : Env → R D) : Env → R D := fun ρ => a ρ >>= fun x => b ρ >>= fun y => F x y
def t1 (F : D → R Bool) (a : Env → R D) : Env → R Bool := fun ρ => a ρ >>= F
def t2 (F : D → D → R Bool) (a b : Env → R D) : Env → R Bool := fun ρ => a ρ >>= fun x => b ρ >>= fun y => F x y
def bCmp (op : CmpOp) (x y : D) : R D := asBool (dCmp op x y)
def eBo (f : Env → R Bool) : Env → R D := fun ρ => asBool (f ρ)
def eArgs : List (Env → R D) → Env → R (List D)
  | [] => fun _ => .ok []
  | f :: fs => fCons f (eArgs fs)
def eTup (fs : List (Env → R D)) : Env → R D := fun ρ => eArgs fs ρ >>= fun ds => okLen ds .tuple
def eLst (fs : List (Env → R D)) : Env → R D := fun ρ => eArgs fs ρ >>= fun ds => okLen ds .list
def pN : Env → R (Option Int) := fun _ => .ok none
def pS (a : Env → R D) : Env → R (Option Int) := fun ρ => a ρ >>= dPart
def eSl (a : Env → R D) (lo hi : Env → R (Option Int)) : Env → R D := fun ρ => a ρ >>= fun x => lo ρ >>= fun l => hi ρ >>= fun u => dSl x l u
def eRv (a : Env → R D) : Env → R D := fun ρ => a ρ >>= fun x => (R.ok none : R (Option Int)) >>= fun l => dRev x l
def eC (n : Nat) (F : List D → R D) (fs : List (Env → R D)) : Env → R D := fun ρ => eArgs fs ρ >>= ari n F
def eM (n : Nat) (F : List D → R D) (fo : Env → R D) (fs : List (Env → R D)) : Env → R D := fun ρ => fo ρ >>= fun d => knB d >>= fun _ => eArgs fs ρ >>= fun ds => ari n F (d :: ds)
def eB (F : List D → R D) (fs : List (Env → R D)) : Env → R D := fun ρ => eArgs fs ρ >>= F
def iB (F : List D → R (List D)) (fs : List (Env → R D)) : Env → R (List D) := fun ρ => eArgs fs ρ >>= F
def i1 (F : D → R (List D)) (a : Env → R D) : Env → R (List D) := fun ρ => a ρ >>= F
def sNil : Env → R Out := fun ρ => .ok (.nx ρ)
def sBrk : Env → R Out := fun ρ => .ok (.bk ρ)
def sCnt : Env → R Out := fun ρ => .ok (.ct ρ)
def sRet0 : Env → R Out := fun _ => .ok (.rt .none)
def sRet (a : Env → R D) : Env → R Out := fun ρ => a ρ >>= fun d => .ok (.rt d)
def sExp (a : Env → R D) : Env → R Out := fun ρ => a ρ >>= fun _ => .ok (.nx ρ)
def sSet (i : Nat) (a : Env → R D) : Env → R Out := fun ρ => a ρ >>= fun d => .ok (.nx (ρ.set i (.va d)))
def sOwn (i : Nat) (a : Env → R D) : Env → R Out := fun ρ => a ρ >>= fun d => .ok (.nx (ρ.set i (.ow d)))
def sExc (c : Str) : Env → R Out := fun _ => .exc c
def fOut : Out → R D
  | .rt d => .ok d
  | .nx _ => .ok .none
  | _ => .bad
def fRun (n : Nat) (b : Env → R Out) (ds : List D) : R D := b (ds.map Slot.va ++ List.replicate (n - ds.length) .un) >>= fun o => match o with
    | .rt d => .ok d
    | .nx _ => .ok .none
    | _ => .bad
def fRunF (n : Nat) (b : Env → R Out) (ds : List D) : R D := b (ds.map Slot.va ++ List.replicate (n - ds.length) .un) >>= fun o => match o with
    | .rt d => .ok d
    | _ => .bad
end DL
namespace DL
open PySem PySem.Spec PyProof.Rows L2
section
variable {ρ : Env} {a b : Env → R D}
@[simp] theorem rdE_zero (d : D) : rdE 0 (.va d :: ρ) = .ok d := (rfl)
@[simp] theorem rdE_one (s : Slot) (d : D) : rdE 1 (s :: .va d :: ρ) = .ok d := (rfl)
@[simp] theorem rdP_zero (d : D) : rdP 0 (.va d :: ρ) = .ok d := (rfl)
@[simp] theorem rdP_zero_ow (d : D) : rdP 0 (.ow d :: ρ) = .ok d := (rfl)
theorem rdP_succ (n : Nat) (s : Slot) : rdP (n + 1) (s :: ρ) = rdP n ρ := by simp [rdP]
@[simp] theorem kD_ap (d : D) : kD d ρ = .ok d := (rfl)
@[simp] theorem kT_ap (d : Bool) : kT d ρ = .ok d := (rfl)
@[simp] theorem e1_ap (F : D → R D) : e1 F a ρ = a ρ >>= F := (rfl)
@[simp] theorem e2_ap (F : D → D → R D) : e2 F a b ρ = a ρ >>= fun x => b ρ >>= fun y => F x y := (rfl)
@[simp] theorem t1_ap (F : D → R Bool) : t1 F a ρ = a ρ >>= F := (rfl)
@[simp] theorem t2_ap (F : D → D → R Bool) : t2 F a b ρ = a ρ >>= fun x => b ρ >>= fun y => F x y := (rfl)
@[simp] theorem bCmp_ap (op : CmpOp) (x y : D) : bCmp op x y = asBool (dCmp op x y) := (rfl)
@[simp] theorem asBool_ok (x : Bool) : asBool (.ok x) = .ok (.bool x) := (rfl)
@[simp] theorem eBo_ap (f : Env → R Bool) : eBo f ρ = asBool (f ρ) := (rfl)
@[simp] theorem eArgs_nil : eArgs [] ρ = .ok [] := (rfl)
@[simp] theorem eArgs_cons (f : Env → R D) (fs : List (Env → R D)) : eArgs (f :: fs) ρ = f ρ >>= fun x => eArgs fs ρ >>= fun xs => .ok (x :: xs) := (rfl)
@[simp] theorem eTup_ap (fs : List (Env → R D)) : eTup fs ρ = eArgs fs ρ >>= fun ds => okLen ds .tuple := (rfl)
@[simp] theorem eLst_ap (fs : List (Env → R D)) : eLst fs ρ = eArgs fs ρ >>= fun ds => okLen ds .list := (rfl)
@[simp] theorem okLen_nil (f : List D → D) : okLen [] f = .ok (f []) := (rfl)
@[simp] theorem okLen_1 (f : List D → D) (x1 : D) : okLen [x1] f = .ok (f [x1]) := (rfl)
@[simp] theorem okLen_2 (f : List D → D) (x1 x2 : D) : okLen [x1, x2] f = .ok (f [x1, x2]) := (rfl)
@[simp] theorem okLen_3 (f : List D → D) (x1 x2 x3 : D) : okLen [x1, x2, x3] f = .ok (f [x1, x2, x3]) := (rfl)
@[simp] theorem okLen_4 (f : List D → D) (x1 x2 x3 x4 : D) : okLen [x1, x2, x3, x4] f = .ok (f [x1, x2, x3, x4]) := (rfl)
@[simp] theorem okLen_5 (f : List D → D) (x1 x2 x3 x4 x5 : D) : okLen [x1, x2, x3, x4, x5] f = .ok (f [x1, x2, x3, x4, x5]) := (rfl)
@[simp] theorem pN_ap : pN ρ = .ok none := (rfl)
@[simp] theorem pS_ap : pS a ρ = a ρ >>= dPart := (rfl)
@[simp] theorem dPart_int (i : Int) : dPart (.int i) = .ok (some i) := (rfl)
@[simp] theorem eSl_ap (lo hi : Env → R (Option Int)) : eSl a lo hi ρ = a ρ >>= fun x => lo ρ >>= fun l => hi ρ >>= fun u => dSl x l u := (rfl)
@[simp] theorem eRv_ap : eRv a ρ = a ρ >>= fun x => dRev x none := (rfl)
@[simp] theorem eC_ap (n : Nat) (F : List D → R D) (fs : List (Env → R D)) : eC n F fs ρ = eArgs fs ρ >>= ari n F := (rfl)
@[simp] theorem ari_1 (F : List D → R D) (x1 : D) : ari 1 F [x1] = F [x1] := (rfl)
@[simp] theorem ari_2 (F : List D → R D) (x1 x2 : D) : ari 2 F [x1, x2] = F [x1, x2] := (rfl)
@[simp] theorem ari_3 (F : List D → R D) (x1 x2 x3 : D) : ari 3 F [x1, x2, x3] = F [x1, x2, x3] := (rfl)
@[simp] theorem ari_4 (F : List D → R D) (x1 x2 x3 x4 : D) : ari 4 F [x1, x2, x3, x4] = F [x1, x2, x3, x4] := (rfl)
@[simp] theorem ari_5 (F : List D → R D) (x1 x2 x3 x4 x5 : D) : ari 5 F [x1, x2, x3, x4, x5] = F [x1, x2, x3, x4, x5] := (rfl)
@[simp] theorem ari_6 (F : List D → R D) (x1 x2 x3 x4 x5 x6 : D) : ari 6 F [x1, x2, x3, x4, x5, x6] = F [x1, x2, x3, x4, x5, x6] := (rfl)
@[simp] theorem eM_ap (n : Nat) (F : List D → R D) (fo : Env → R D) (fs : List (Env → R D)) : eM n F fo fs ρ = fo ρ >>= fun d => knB d >>= fun _ => eArgs fs ρ >>= fun ds => ari n F (d :: ds) := (rfl)
@[simp] theorem knB_ok (x y z : D) : knB (.dict [(.none, .tuple [x, y, z])]) = .ok () := (rfl)
@[simp] theorem dFld_sea (x y z : D) : dFld "sea" (.dict [(.none, .tuple [x, y, z])]) = .ok x := (rfl)
@[simp] theorem dFld_worlds (x y z : D) : dFld "worlds" (.dict [(.none, .tuple [x, y, z])]) = .ok y := (rfl)
@[simp] theorem dFld_names (x y z : D) : dFld "names" (.dict [(.none, .tuple [x, y, z])]) = .ok z := (rfl)
@[simp] theorem relX_ap (is : List Nat) (F : Env → R D) : relX is F ρ = F (relR is ρ) := (rfl)
@[simp] theorem eB_ap (F : List D → R D) (fs : List (Env → R D)) : eB F fs ρ = eArgs fs ρ >>= F := (rfl)
@[simp] theorem iB_ap (F : List D → R (List D)) (fs : List (Env → R D)) : iB F fs ρ = eArgs fs ρ >>= F := (rfl)
@[simp] theorem i1_ap (F : D → R (List D)) : i1 F a ρ = a ρ >>= F := (rfl)
@[simp] theorem sNil_ap : sNil ρ = .ok (.nx ρ) := (rfl)
@[simp] theorem sBrk_ap : sBrk ρ = .ok (.bk ρ) := (rfl)
@[simp] theorem sCnt_ap : sCnt ρ = .ok (.ct ρ) := (rfl)
@[simp] theorem sRet0_ap : sRet0 ρ = .ok (.rt .none) := (rfl)
@[simp] theorem sRet_ap : sRet a ρ = a ρ >>= fun d => .ok (.rt d) := (rfl)
@[simp] theorem sExp_ap : sExp a ρ = a ρ >>= fun _ => .ok (.nx ρ) := (rfl)
@[simp] theorem sSet_ap (i : Nat) : sSet i a ρ = a ρ >>= fun d => .ok (.nx (ρ.set i (.va d))) := (rfl)
@[simp] theorem sOwn_ap (i : Nat) : sOwn i a ρ = a ρ >>= fun d => .ok (.nx (ρ.set i (.ow d))) := (rfl)
@[simp] theorem sExc_ap (c : Str) : sExc c ρ = .exc c := (rfl)
def thenS (G : Env → R Out) : Out → R Out
  | .nx ρ' => G ρ'
  | o => .ok o
@[simp] theorem fSeq_ap (F G : Env → R Out) : fSeq F G ρ = F ρ >>= thenS G := by
  show (F ρ).bind _ = (F ρ).bind _
  refine congrArg _ (funext fun o => ?_)
  cases o <;> rfl
@[simp] theorem thenS_nx (G : Env → R Out) : thenS G (.nx ρ) = G ρ := (rfl)
@[simp] theorem thenS_rt (G : Env → R Out) (d : D) : thenS G (.rt d) = .ok (.rt d) := (rfl)
@[simp] theorem thenS_bk (G : Env → R Out) : thenS G (.bk ρ) = .ok (.bk ρ) := (rfl)
@[simp] theorem thenS_ct (G : Env → R Out) : thenS G (.ct ρ) = .ok (.ct ρ) := (rfl)
@[simp] theorem fRun_ap (n : Nat) (B : Env → R Out) (ds : List D) : fRun n B ds = B (ds.map Slot.va ++ List.replicate (n - ds.length) .un) >>= fOut := by
  refine congrArg (R.bind _) (funext fun o => ?_)
  cases o <;> rfl
def fOutF : Out → R D
  | .rt d => .ok d
  | _ => .bad
@[simp] theorem fRunF_ap (n : Nat) (B : Env → R Out) (ds : List D) : fRunF n B ds = B (ds.map Slot.va ++ List.replicate (n - ds.length) .un) >>= fOutF := by
  refine congrArg (R.bind _) (funext fun o => ?_)
  cases o <;> rfl
@[simp] theorem fOutF_rt (d : D) : fOutF (.rt d) = .ok d := (rfl)
@[simp] theorem fRetO_0 {ρ : Env} (d : D) : fRetO 0 (.ow d :: ρ) = .ok (.rt d) := (rfl)
@[simp] theorem fOut_rt (d : D) : fOut (.rt d) = .ok d := (rfl)
@[simp] theorem fOut_nx : fOut (.nx ρ) = .ok .none := (rfl)
@[simp] theorem fIfS_ap (t : Env → R Bool) (F G : Env → R Out) : fIfS t F G ρ = t ρ >>= fun b => if b then F ρ else G ρ := (rfl)
@[simp] theorem fIf_ap (t : Env → R Bool) (F G : Env → R D) : fIf t F G ρ = t ρ >>= fun b => if b then F ρ else G ρ := (rfl)
@[simp] theorem tstAnd_ap (s t : Env → R Bool) : tstAnd s t ρ = s ρ >>= fun x => if x then t ρ else .ok false := (rfl)
@[simp] theorem tstOr_ap (s t : Env → R Bool) : tstOr s t ρ = s ρ >>= fun x => if x then .ok true else t ρ := (rfl)
@[simp] theorem tstNot_ap (s : Env → R Bool) : tstNot s ρ = s ρ >>= fun x => .ok (!x) := (rfl)
@[simp] theorem fChain_ap (F G : D → D → R Bool) (fa fb fc : Env → R D) : fChain F G fa fb fc ρ = fa ρ >>= fun x => fb ρ >>= fun y => F x y >>= fun k => if k then fc ρ >>= fun z => G y z else .ok false := (rfl)
@[simp] theorem fChain3_ap (F G G2 : D → D → R Bool) (fa fb fc fd : Env → R D) : fChain3 F G G2 fa fb fc fd ρ = fa ρ >>= fun x => fb ρ >>= fun y => F x y >>= fun k => if k then fc ρ >>= fun z => G y z >>= fun k2 => if k2 then fd ρ >>= fun u => G2 z u else .ok false else .ok false := (rfl)
def andK (y : R D) : D → R D
  | .bool b => if b then y else .ok (.bool false)
  | _ => .bad
def orK (y : R D) : D → R D
  | .bool b => if b then .ok (.bool true) else y
  | _ => .bad
@[simp] theorem andK_bool (y : R D) (b : Bool) : andK y (.bool b) = if b then y else .ok (.bool false) := (rfl)
@[simp] theorem orK_bool (y : R D) (b : Bool) : orK y (.bool b) = if b then .ok (.bool true) else y := (rfl)
@[simp] theorem fAnd_ap (fa fb : Env → R D) : fAnd fa fb ρ = fa ρ >>= andK (fb ρ) := by
  unfold fAnd
  congr 1
  funext x
  cases x with
  | bool b => cases b <;> rfl
  | _ => rfl
@[simp] theorem fOr_ap (fa fb : Env → R D) : fOr fa fb ρ = fa ρ >>= orK (fb ρ) := by
  unfold fOr
  congr 1
  funext x
  cases x with
  | bool b => cases b <;> rfl
  | _ => rfl
@[simp] theorem relS_ap (is : List Nat) (F : Env → R Out) : relS is F ρ = F (relR is ρ) := (rfl)
@[simp] theorem relR_nil : relR [] ρ = ρ := (rfl)
@[simp] theorem relR_cons (i : Nat) (is : List Nat) : relR (i :: is) ρ = relR is (relR1 i ρ) := (rfl)
@[simp] theorem relR1_0va (d : D) : relR1 0 (.va d :: ρ) = .va d :: ρ := (rfl)
@[simp] theorem relR1_0ow (d : D) : relR1 0 (.ow d :: ρ) = .va d :: ρ := (rfl)
@[simp] theorem relR1_0un : relR1 0 (.un :: ρ) = .un :: ρ := (rfl)
@[simp] theorem dNot_bool (x : Bool) : dNot (.bool x) = .ok (.bool (!x)) := (rfl)
@[simp] theorem dNeg_int (x : Int) : dNeg (.int x) = .ok (.int (-x)) := (rfl)
@[simp] theorem dTru_bool (x : Bool) : dTru (.bool x) = .ok x := (rfl)
@[simp] theorem fPar_ap (fl : List Bool) (is : List Nat) (fr : Env → R (List D)) : fPar fl is fr ρ = fr ρ >>= fun ds => .ok (.nx (setFl fl is ds ρ)) := (rfl)
@[simp] theorem fSetT_ap (tg : Tg) (fe : Env → R D) : fSetT tg fe ρ = fe ρ >>= fun d => fTg tg d ρ >>= fun ρ' => .ok (.nx ρ') := (rfl)
@[simp] theorem fFor_ap (fi : Env → R (List D)) (tg : Tg) (fb : Env → R Out) : fFor fi tg fb ρ = fi ρ >>= fun ds => forLoop tg fb ds ρ := (rfl)
@[simp] theorem fTg_one (i : Nat) (d : D) : fTg (.one i) d ρ = .ok (ρ.set i (.va d)) := (rfl)
@[simp] theorem calm_ok {α : Type} (x : α) : (R.ok x).calm = .ok x := (rfl)
@[simp] theorem fLc_ap (fi : Env → R (List D)) (tg : Tg) (ft : Env → R Bool) (fe : Env → R D) (own : List Nat) : fLc fi tg ft fe own ρ = fi ρ >>= fun ds => (lcLoop tg ft fe (wipeR ρ own) ds).calm >>= fun ys => .ok (.list ys) := (rfl)
@[simp] theorem wipeR_nil : wipeR ρ [] = ρ := (rfl)
@[simp] theorem wipeR_cons (v : Nat) (vs : List Nat) : wipeR ρ (v :: vs) = (wipeR ρ vs).set v .un := (rfl)
end
@[simp] theorem ite_ok_and (b c : Bool) : (if b = true then (R.ok (.bool c) : R D) else .ok (.bool false)) = .ok (.bool (b && c)) := by cases b <;> rfl
@[simp] theorem ite_ok_or (b c : Bool) : (if b = true then (R.ok (.bool true) : R D) else .ok (.bool c)) = .ok (.bool (b || c)) := by cases b <;> rfl
@[simp] theorem ite_ok_andB (b c : Bool) : (if b = true then (R.ok c : R Bool) else .ok false) = .ok (b && c) := by cases b <;> rfl
@[simp] theorem ite_ok_orB (b c : Bool) : (if b = true then (R.ok true : R Bool) else .ok c) = .ok (b || c) := by cases b <;> rfl
@[simp] theorem ite_ok_andP (p : Prop) [Decidable p] (c : Bool) : (if p then (R.ok (.bool c) : R D) else .ok (.bool false)) = .ok (.bool (decide p && c)) := by by_cases h : p <;> simp [h]
@[simp] theorem ite_ok_orP (p : Prop) [Decidable p] (c : Bool) : (if p then (R.ok (.bool true) : R D) else .ok (.bool c)) = .ok (.bool (decide p || c)) := by by_cases h : p <;> simp [h]
@[simp] theorem ite_ok_andBP (p : Prop) [Decidable p] (c : Bool) : (if p then (R.ok c : R Bool) else .ok false) = .ok (decide p && c) := by by_cases h : p <;> simp [h]
@[simp] theorem ite_ok_orBP (p : Prop) [Decidable p] (c : Bool) : (if p then (R.ok true : R Bool) else .ok c) = .ok (decide p || c) := by by_cases h : p <;> simp [h]
@[simp] theorem dCmp_lte (i j : Int) : dCmp .LtE (.int i) (.int j) = .ok (decide (i ≤ j)) := (rfl)
@[simp] theorem dCmp_gt (i j : Int) : dCmp .Gt (.int i) (.int j) = .ok (decide (j < i)) := (rfl)
@[simp] theorem dCmp_gte (i j : Int) : dCmp .GtE (.int i) (.int j) = .ok (decide (j ≤ i)) := (rfl)
@[simp] theorem dCmp_lt (i j : Int) : dCmp .Lt (.int i) (.int j) = .ok (decide (i < j)) := (rfl)
@[simp] theorem shaped_int (i : Int) : SeqAt.shaped (.int i) = true := (rfl)
@[simp] theorem dCmp_eq (i j : Int) : dCmp .Eq (.int i) (.int j) = .ok (decide (i = j)) := by
  show dEq (.int i) (.int j) = _
  unfold dEq
  simp [PyData.eqv, BEq.beq]
@[simp] theorem dCmp_ne (i j : Int) : dCmp .NotEq (.int i) (.int j) = .ok (!decide (i = j)) := by
  show (dEq (.int i) (.int j) >>= fun b => .ok (!b)) = _
  have : dEq (.int i) (.int j) = .ok (decide (i = j)) := dCmp_eq i j
  rw [this]
  rfl
@[simp] theorem dIsi_int (t : String) (i : Int) : dIsi t (.int i) = .ok (.bool (t == "int")) := (rfl)
@[simp] theorem dIsi_none (t : String) : dIsi t .none = .ok (.bool false) := (rfl)
@[simp] theorem dIsi_bool (t : String) (b : Bool) : dIsi t (.bool b) = .ok (.bool (t == "bool" || t == "int")) := (rfl)
@[simp] theorem dIsi_str (t : String) (z : Str) : dIsi t (.str z) = .ok (.bool (t == "str")) := (rfl)
@[simp] theorem dIsi_list (t : String) (z : List D) : dIsi t (.list z) = .ok (.bool (t == "list")) := (rfl)
@[simp] theorem dIsi_tuple (t : String) (z : List D) : dIsi t (.tuple z) = .ok (.bool (t == "tuple")) := (rfl)
@[simp] theorem dLen_list (ds : List D) : dLen [.list ds] = .ok (.int ds.length) := (rfl)
@[simp] theorem dLen_tuple (ds : List D) : dLen [.tuple ds] = .ok (.int ds.length) := (rfl)
@[simp] theorem dLen_str {z : Str} (h : z.length ≤ sizeLine) : dLen [.str z] = .ok (.int z.length) := (if_pos h)
@[simp] theorem dItems_list (ds : List D) : dItems (.list ds) = .ok ds := (rfl)
@[simp] theorem dItems_tuple (ds : List D) : dItems (.tuple ds) = .ok ds := (rfl)
@[simp] theorem dItems_str {z : Str} (h : z.length ≤ sizeLine) : dItems (.str z) = .ok (signs z) := (if_pos h)
@[simp] theorem dTuple_list (ds : List D) : dTuple [.list ds] = .ok (.tuple ds) := (rfl)
@[simp] theorem dTuple_tuple (ds : List D) : dTuple [.tuple ds] = .ok (.tuple ds) := (rfl)
@[simp] theorem dList_list (ds : List D) : dList [.list ds] = .ok (.list ds) := (rfl)
@[simp] theorem dList_tuple (ds : List D) : dList [.tuple ds] = .ok (.list ds) := (rfl)
@[simp] theorem dZip_tt (xs ys : List D) : dZip [.tuple xs, .tuple ys] = .ok (pairs xs ys) := (rfl)
@[simp] theorem dZip_ll (xs ys : List D) : dZip [.list xs, .list ys] = .ok (pairs xs ys) := (rfl)
@[simp] theorem dAdd_int (i j : Int) : dBin .Add (.int i) (.int j) = .ok (.int (i + j)) := (rfl)
@[simp] theorem dSub_int (i j : Int) : dBin .Sub (.int i) (.int j) = .ok (.int (i - j)) := (rfl)
theorem bools_map {α : Type} (g : α → Bool) : ∀ xs : List α, bools (xs.map fun x => .bool (g x)) = some (xs.map g)
  | [] => rfl
  | x :: xs => by simp [bools, bools_map g xs]
@[simp] theorem dAll_map {α : Type} (g : α → Bool) (xs : List α) : dAll [.list (xs.map fun x => .bool (g x))] = .ok (.bool (xs.all g)) := by
  simp [dAll, bools_map, List.all_map, Function.comp_def]
@[simp] theorem dAny_map {α : Type} (g : α → Bool) (xs : List α) : dAny [.list (xs.map fun x => .bool (g x))] = .ok (.bool (xs.any g)) := by
  simp [dAny, bools_map, List.any_map, Function.comp_def]
end DL
namespace DL
open PySem PySem.Spec PyProof.Rows L2
theorem seq_nx {F G : Env → R Out} {ρ ρ' : Env} (h : F ρ = .ok (.nx ρ')) : fSeq F G ρ = G ρ' := by rw [fSeq_ap, h]; rfl
theorem seq_rt {F G : Env → R Out} {ρ : Env} {d : D} (h : F ρ = .ok (.rt d)) : fSeq F G ρ = .ok (.rt d) := by rw [fSeq_ap, h]; rfl
instance (priority := low) lots0 : Lots := { P := fun _ _ _ _ _ => False, w := ⟨fun _ _ => 0, { strHash := fun _ => 0, shareClass := fun _ => 0, mergeTok := id, idOf := fun _ => 0, idOfShared := fun _ _ => 0, followText := fun _ => true, idOfImm := fun _ => 0 }⟩ }
end DL
namespace DL
open PySem PySem.Spec PyProof.Rows L2
def FF_is_whole : List D → R D := fRun 3 (fSeq (relS [] (sRet (fAnd (e1 (dIsi "int") (rdP 0)) (fAnd (e1 dNot (e1 (dIsi "bool") (rdP 0))) (eBo (fChain (dCmp .LtE) (dCmp .LtE) (rdP 1) (rdP 0) (rdP 2)))))))
  sNil)
def FF_is_name : List D → R D := fRun 2 (fSeq (relS [0] (sRet (fAnd (e1 (dIsi "str") (rdP 0)) (fAnd (eBo (fChain (dCmp .LtE) (dCmp .LtE) (kD (.int 1)) (eB dLen [(rdP 0)]) (kD (.int 6)))) (eB dAll [(fLc (i1 dItems (rdE 0)) (.one 1) (kT true) (e2 (bCmp .In) (rdP 1) (kD (.str "abcdefghijklmnopqrstuvwxyz"))) [1])])))))
  sNil)
def FF_is_cell (f_is_whole : List D → R D) : List D → R D := fRun 2 (fSeq (relS [1, 0] (sRet (fAnd (e1 (dIsi "tuple") (rdP 0)) (fAnd (e2 (bCmp .Eq) (eB dLen [(rdP 0)]) (kD (.int 2))) (eB dAll [(fLc (i1 dItems (rdE 0)) (.one 1) (kT true) (eC 3 f_is_whole [(rdE 1), (kD (.int 0)), (kD (.int 9))]) [1])])))))
  sNil)
def FF_is_rising : List D → R D := fRun 3 (fSeq (relS [0] (sRet (eB dAll [(fLc (iB dZip [(rdE 0), (eSl (rdP 0) (pS (kD (.int 1))) pN)]) (.many [1, 2]) (kT true) (e2 (bCmp .Lt) (rdP 1) (rdP 2)) [1, 2])])))
  sNil)
def FF_is_islands (f_is_cell : List D → R D) (f_is_rising : List D → R D) : List D → R D := fRun 2 (fSeq (relS [1, 0] (fIfS (tstOr (tstNot (t1 dTru (e1 (dIsi "tuple") (rdP 0)))) (tstOr (t2 (dCmp .Gt) (eB dLen [(rdP 0)]) (kD (.int 12))) (tstNot (t1 dTru (eB dAll [(fLc (i1 dItems (rdE 0)) (.one 1) (kT true) (eC 1 f_is_cell [(rdE 1)]) [1])]))))) (fSeq (relS [] (sRet (kD (.bool false))))
    sNil) sNil))
  (fSeq (relS [0] (sRet (eC 1 f_is_rising [(rdE 0)])))
  sNil))
def FF_is_ship (f_is_name : List D → R D) (f_is_whole : List D → R D) (f_is_cell : List D → R D) : List D → R D := fRun 5 (fSeq (relS [] (fIfS (tstOr (tstNot (t1 dTru (e1 (dIsi "tuple") (rdP 2)))) (tstOr (t2 (dCmp .NotEq) (eB dLen [(rdP 2)]) (kD (.int 3))) (tstOr (tstNot (t1 dTru (eC 1 f_is_name [(e2 dIx (rdP 2) (kD (.int 0)))]))) (tstNot (t1 dTru (eC 3 f_is_whole [(e2 dIx (rdP 2) (kD (.int 1))), (kD (.int 0)), (kD (.int 9))])))))) (fSeq (relS [] (sRet (kD (.bool false))))
    sNil) sNil))
  (fSeq (relS [] (sSet 3 (e2 dIx (rdP 2) (kD (.int 2)))))
  (fSeq (relS [] (fIfS (tstOr (tstNot (t1 dTru (e1 (dIsi "tuple") (rdP 3)))) (t2 (dCmp .NotEq) (eB dLen [(rdP 3)]) (e2 (dBin .Add) (rdP 0) (kD (.int 1))))) (fSeq (relS [] (sRet (kD (.bool false))))
    sNil) sNil))
  (fSeq (relS [4, 3] (sRet (eB dAll [(fLc (i1 dItems (rdE 3)) (.one 4) (kT true) (fAnd (eC 1 f_is_cell [(rdE 4)]) (e2 (bCmp .NotIn) (rdP 4) (rdP 1))) [4])])))
  sNil))))
def FF_is_mist (f_is_whole : List D → R D) (f_is_cell : List D → R D) : List D → R D := fRun 7 (fSeq (relS [] (fIfS (tstOr (tstNot (t1 dTru (e1 (dIsi "tuple") (rdP 1)))) (t2 (dCmp .NotEq) (eB dLen [(rdP 1)]) (kD (.int 5)))) (fSeq (relS [] (sRet (kD (.bool false))))
    sNil) sNil))
  (fSeq (relS [1] (fSetT (.many [2, 3, 4, 5, 6]) (rdE 1)))
  (fSeq (relS [2, 0, 3, 2, 0, 6] (fIfS (tstOr (tstNot (t1 dTru (eC 3 f_is_whole [(rdE 2), (kD (.int 0)), (rdE 0)]))) (tstOr (tstNot (t1 dTru (eC 3 f_is_whole [(rdE 3), (rdE 2), (rdE 0)]))) (tstNot (t1 dTru (eC 3 f_is_whole [(rdE 6), (kD (.int 0)), (kD (.int 9))]))))) (fSeq (relS [] (sRet (kD (.bool false))))
    sNil) sNil))
  (fSeq (relS [4, 5] (sRet (fAnd (eC 1 f_is_cell [(rdE 4)]) (fAnd (eC 1 f_is_cell [(rdE 5)]) (fAnd (e2 (bCmp .LtE) (e2 dIx (rdP 4) (kD (.int 0))) (e2 dIx (rdP 5) (kD (.int 0)))) (e2 (bCmp .LtE) (e2 dIx (rdP 4) (kD (.int 1))) (e2 dIx (rdP 5) (kD (.int 1)))))))))
  sNil))))
def FF_is_fleet (f_is_whole : List D → R D) (f_is_islands : List D → R D) (f_is_ship : List D → R D) (f_is_rising : List D → R D) (f_is_mist : List D → R D) : List D → R D := fRun 7 (fSeq (relS [] (fIfS (tstOr (tstNot (t1 dTru (e1 (dIsi "tuple") (rdP 0)))) (tstOr (t2 (dCmp .NotEq) (eB dLen [(rdP 0)]) (kD (.int 4))) (tstNot (t1 dTru (eC 3 f_is_whole [(e2 dIx (rdP 0) (kD (.int 0))), (kD (.int 0)), (kD (.int 7))]))))) (fSeq (relS [] (sRet (kD (.bool false))))
    sNil) sNil))
  (fSeq (relS [0] (fSetT (.many [1, 2, 3, 4]) (rdE 0)))
  (fSeq (relS [2] (fIfS (tstOr (tstNot (t1 dTru (eC 1 f_is_islands [(rdE 2)]))) (tstOr (tstNot (t1 dTru (e1 (dIsi "tuple") (rdP 3)))) (tstNot (fChain (dCmp .LtE) (dCmp .LtE) (kD (.int 1)) (eB dLen [(rdP 3)]) (kD (.int 5)))))) (fSeq (relS [] (sRet (kD (.bool false))))
    sNil) sNil))
  (fSeq (relS [1, 2, 5, 3, 3] (fIfS (tstOr (tstNot (t1 dTru (eB dAll [(fLc (i1 dItems (rdE 3)) (.one 5) (kT true) (eC 3 f_is_ship [(rdE 1), (rdE 2), (rdE 5)]) [5])]))) (tstNot (t1 dTru (eC 1 f_is_rising [(fLc (i1 dItems (rdE 3)) (.one 5) (kT true) (e2 dIx (rdP 5) (kD (.int 0))) [5])])))) (fSeq (relS [] (sRet (kD (.bool false))))
    sNil) sNil))
  (fSeq (relS [1, 6, 4] (fIfS (tstOr (tstNot (t1 dTru (e1 (dIsi "tuple") (rdP 4)))) (tstOr (t2 (dCmp .Gt) (eB dLen [(rdP 4)]) (kD (.int 4))) (tstNot (t1 dTru (eB dAll [(fLc (i1 dItems (rdE 4)) (.one 6) (kT true) (eC 2 f_is_mist [(rdE 1), (rdE 6)]) [6])]))))) (fSeq (relS [] (sRet (kD (.bool false))))
    sNil) sNil))
  (fSeq (relS [4] (sRet (eC 1 f_is_rising [(rdE 4)])))
  sNil))))))
def FF_look_fleet (f_is_fleet : List D → R D) : List D → R D := fRun 1 (fSeq (relS [0] (fIfS (tstNot (t1 dTru (eC 1 f_is_fleet [(rdE 0)]))) (fSeq (sExc "NoFleet")
    sNil) sNil))
  sNil)
def FF_plain_names : List D → R D := fRun 2 (fSeq (relS [] (sRet (fLc (i1 dItems (e2 dIx (rdP 0) (kD (.int 2)))) (.one 1) (kT true) (e2 dIx (rdP 1) (kD (.int 0))) [1])))
  sNil)
def FF_look_ship (f_is_name : List D → R D) (f_plain_names : List D → R D) : List D → R D := fRun 2 (fSeq (relS [1, 0] (fIfS (tstOr (tstNot (t1 dTru (eC 1 f_is_name [(rdE 1)]))) (t2 (dCmp .NotIn) (rdP 1) (eC 1 f_plain_names [(rdE 0)]))) (fSeq (sExc "NoShip")
    sNil) sNil))
  sNil)
def FF_look_hour (f_is_whole : List D → R D) : List D → R D := fRun 2 (fSeq (relS [0, 1] (fIfS (tstNot (t1 dTru (eC 3 f_is_whole [(rdE 0), (kD (.int 0)), (rdE 1)]))) (fSeq (sExc "NoHour")
    sNil) sNil))
  sNil)
def FF_is_in : List D → R D := fRun 4 (fSeq (relS [] (fPar [false, false] [2, 3] (eArgs [(e2 dIx (rdP 0) (kD (.int 2))), (e2 dIx (rdP 0) (kD (.int 3)))])))
  (fSeq (relS [] (sRet (fAnd (eBo (fChain (dCmp .LtE) (dCmp .LtE) (e2 dIx (rdP 2) (kD (.int 0))) (e2 dIx (rdP 1) (kD (.int 0))) (e2 dIx (rdP 3) (kD (.int 0))))) (eBo (fChain (dCmp .LtE) (dCmp .LtE) (e2 dIx (rdP 2) (kD (.int 1))) (e2 dIx (rdP 1) (kD (.int 1))) (e2 dIx (rdP 3) (kD (.int 1))))))))
  sNil))
def FF_is_between : List D → R D := fRun 4 (fSeq (relS [0, 1] (fIfS (t2 (dCmp .In) (rdP 2) (eTup [(rdE 0), (rdE 1)])) (fSeq (relS [] (sRet (kD (.bool false))))
    sNil) sNil))
  (fSeq (relS [] (fIfS (t2 (dCmp .NotEq) (e2 (dBin .Mult) (e2 (dBin .Sub) (e2 dIx (rdP 2) (kD (.int 0))) (e2 dIx (rdP 0) (kD (.int 0)))) (e2 (dBin .Sub) (e2 dIx (rdP 1) (kD (.int 1))) (e2 dIx (rdP 0) (kD (.int 1))))) (e2 (dBin .Mult) (e2 (dBin .Sub) (e2 dIx (rdP 2) (kD (.int 1))) (e2 dIx (rdP 0) (kD (.int 1)))) (e2 (dBin .Sub) (e2 dIx (rdP 1) (kD (.int 0))) (e2 dIx (rdP 0) (kD (.int 0)))))) (fSeq (relS [] (sRet (kD (.bool false))))
    sNil) sNil))
  (fSeq (relS [] (sSet 3 (eBo (fChain (dCmp .LtE) (dCmp .LtE) (eB dMin [(e2 dIx (rdP 0) (kD (.int 0))), (e2 dIx (rdP 1) (kD (.int 0)))]) (e2 dIx (rdP 2) (kD (.int 0))) (eB dMax [(e2 dIx (rdP 0) (kD (.int 0))), (e2 dIx (rdP 1) (kD (.int 0)))])))))
  (fSeq (relS [3] (sRet (fAnd (rdP 3) (eBo (fChain (dCmp .LtE) (dCmp .LtE) (eB dMin [(e2 dIx (rdP 0) (kD (.int 1))), (e2 dIx (rdP 1) (kD (.int 1)))]) (e2 dIx (rdP 2) (kD (.int 1))) (eB dMax [(e2 dIx (rdP 0) (kD (.int 1))), (e2 dIx (rdP 1) (kD (.int 1)))]))))))
  sNil))))
def FF_sees_at (f_is_in : List D → R D) (f_is_between : List D → R D) : List D → R D := fRun 9 (fSeq (relS [] (fPar [false, false] [4, 5] (eArgs [(e2 dIx (e2 dIx (rdP 2) (kD (.int 2))) (rdP 1)), (e2 dIx (e2 dIx (rdP 3) (kD (.int 2))) (rdP 1))])))
  (fSeq (relS [] (sSet 6 (eB dMax [(eB dAbs [(e2 (dBin .Sub) (e2 dIx (rdP 4) (kD (.int 0))) (e2 dIx (rdP 5) (kD (.int 0))))]), (eB dAbs [(e2 (dBin .Sub) (e2 dIx (rdP 4) (kD (.int 1))) (e2 dIx (rdP 5) (kD (.int 1))))])])))
  (fSeq (relS [] (fIfS (tstOr (t2 (dCmp .Eq) (rdP 2) (rdP 3)) (t2 (dCmp .Gt) (rdP 6) (e2 dIx (rdP 2) (kD (.int 1))))) (fSeq (relS [] (sRet (kD (.bool false))))
    sNil) sNil))
  (fSeq (relS [] (fFor (i1 dItems (e2 dIx (rdP 0) (kD (.int 3)))) (.one 7) (fSeq (relS [7, 4, 7, 5] (fIfS (tstAnd (fChain (dCmp .LtE) (dCmp .LtE) (e2 dIx (rdP 7) (kD (.int 0))) (rdP 1) (e2 dIx (rdP 7) (kD (.int 1)))) (tstAnd (tstOr (t1 dTru (eC 2 f_is_in [(rdE 7), (rdE 4)])) (t1 dTru (eC 2 f_is_in [(rdE 7), (rdE 5)]))) (t2 (dCmp .Gt) (rdP 6) (e2 dIx (rdP 7) (kD (.int 4)))))) (fSeq (relS [] (sRet (kD (.bool false))))
      sNil) sNil))
    sNil)))
  (fSeq (relS [4, 5, 8] (sRet (e1 dNot (eB dAny [(fLc (i1 dItems (e2 dIx (rdP 0) (kD (.int 1)))) (.one 8) (kT true) (eC 3 f_is_between [(rdE 4), (rdE 5), (rdE 8)]) [8])]))))
  sNil)))))
def FF_plain_sightings (f_sees_at : List D → R D) : List D → R D := fRun 5 (fSeq (relS [] (sOwn 1 (eLst [])))
  (fSeq (relS [] (fFor (iB dRng1 [(e2 (dBin .Add) (e2 dIx (rdP 0) (kD (.int 0))) (kD (.int 1)))]) (.one 2) (fSeq (relS [] (fFor (i1 dItems (e2 dIx (rdP 0) (kD (.int 2)))) (.one 3) (fSeq (relS [] (fFor (i1 dItems (e2 dIx (rdP 0) (kD (.int 2)))) (.one 4) (fSeq (relS [0, 2, 3, 4] (fIfS (t1 dTru (eC 4 f_sees_at [(rdE 0), (rdE 2), (rdE 3), (rdE 4)])) (fSeq (relS [2] (fApp 1 (eTup [(rdE 2), (e2 dIx (rdP 3) (kD (.int 0))), (e2 dIx (rdP 4) (kD (.int 0)))])))
          sNil) sNil))
        sNil)))
      sNil)))
    sNil)))
  (fSeq (relS [1] (sRet (rdE 1)))
  sNil)))
def FF_spread : List D → R D := fRun 7 (fSeq (relS [1, 2] (sOwn 3 (e2 dDict1 (rdE 1) (rdE 2))))
  (fSeq (relS [0] (fFor (i1 dItems (rdE 0)) (.many [4, 5, 6]) (fSeq (relS [] (fIfS (tstAnd (t2 (dCmp .In) (rdP 6) (rdP 3)) (tstAnd (t2 (dCmp .LtE) (e2 dIx (rdP 3) (rdP 6)) (rdP 4)) (t2 (dCmp .NotIn) (rdP 5) (rdP 3)))) (fSeq (relS [] (fPut 3 (rdP 5) (e2 (dBin .Add) (rdP 4) (kD (.int 1)))))
      sNil) sNil))
    sNil)))
  (fSeq (relS [3] (sRet (rdE 3)))
  sNil)))
def FF_lots_of : List D → R D := fRun 4 (fSeq (relS [] (sOwn 1 (eLst [(eTup [])])))
  (fSeq (relS [0] (fFor (i1 dItems (rdE 0)) (.one 2) (fSeq (relS [2, 1] (sSet 1 (e2 (dBin .Add) (rdP 1) (fLc (i1 dItems (rdE 1)) (.one 3) (kT true) (e2 (dBin .Add) (rdP 3) (eTup [(rdE 2)])) [3]))))
    sNil)))
  (fSeq (relS [1] (sRet (rdE 1)))
  sNil)))
def FF_look_asked (f_look_fleet : List D → R D) (f_look_ship : List D → R D) (f_look_hour : List D → R D) : List D → R D := fRun 5 (fSeq (relS [0] (sExp (eC 1 f_look_fleet [(rdE 0)])))
  (fSeq (relS [0, 1] (sExp (eC 2 f_look_ship [(rdE 0), (rdE 1)])))
  (fSeq (relS [0, 3] (sExp (eC 2 f_look_ship [(rdE 0), (rdE 3)])))
  (fSeq (relS [] (fIfS (t2 (dCmp .Eq) (rdP 3) (rdP 1)) (fSeq (sExc "NoShip")
    sNil) sNil))
  (fSeq (relS [2] (sExp (eC 2 f_look_hour [(rdE 2), (e2 dIx (rdP 0) (kD (.int 0)))])))
  (fSeq (relS [4] (sExp (eC 2 f_look_hour [(rdE 4), (e2 (dBin .Add) (e2 dIx (rdP 0) (kD (.int 0))) (kD (.int 1)))])))
  sNil))))))
def FF_others_of (f_plain_names : List D → R D) : List D → R D := fRun 4 (fSeq (relS [3, 0, 1, 2] (sRet (fLc (i1 dItems (eC 1 f_plain_names [(rdE 0)])) (.one 3) (t2 (dCmp .NotIn) (rdP 3) (eTup [(rdE 1), (rdE 2)])) (rdE 3) [3])))
  sNil)
def FF_clear_of : List D → R D := fRun 3 (fSeq (relS [2, 0] (sRet (fLc (i1 dItems (rdE 0)) (.one 2) (tstAnd (t2 (dCmp .NotIn) (e2 dIx (rdP 2) (kD (.int 1))) (rdP 1)) (t2 (dCmp .NotIn) (e2 dIx (rdP 2) (kD (.int 2))) (rdP 1))) (rdE 2) [2])))
  sNil)
def FF_comes (f_spread : List D → R D) : List D → R D := fRun 6 (fSeq (relS [0, 1, 2] (sSet 5 (eC 3 f_spread [(rdE 0), (rdE 1), (rdE 2)])))
  (fSeq (relS [] (sRet (fAnd (e2 (bCmp .In) (rdP 3) (rdP 5)) (e2 (bCmp .LtE) (e2 dIx (rdP 5) (rdP 3)) (rdP 4)))))
  sNil))
def FF_least_cut (f_look_asked : List D → R D) (f_plain_sightings : List D → R D) (f_lots_of : List D → R D) (f_others_of : List D → R D) (f_comes : List D → R D) (f_clear_of : List D → R D) : List D → R D := fRun 9 (fSeq (relS [0, 1, 2, 3, 4] (sExp (eC 5 f_look_asked [(rdE 0), (rdE 1), (rdE 2), (rdE 3), (rdE 4)])))
  (fSeq (relS [0] (sSet 5 (eC 1 f_plain_sightings [(rdE 0)])))
  (fSeq (relS [0, 1, 3] (sSet 6 (eC 1 f_lots_of [(eC 3 f_others_of [(rdE 0), (rdE 1), (rdE 3)])])))
  (fSeq (relS [8, 6, 5, 8, 1, 2, 3, 4] (sOwn 7 (fLc (i1 dItems (rdE 6)) (.one 8) (tstNot (t1 dTru (eC 5 f_comes [(eC 2 f_clear_of [(rdE 5), (rdE 8)]), (rdE 1), (rdE 2), (rdE 3), (rdE 4)]))) (eTup [(eB dLen [(rdP 8)]), (rdE 8)]) [8])))
  (fSeq (relS [] (sRet (fIf (t2 (dCmp .NotEq) (rdP 7) (eLst [])) (e2 dIx (eB dMin [(rdP 7)]) (kD (.int 1))) (kD .none))))
  sNil)))))
def FF_law_pick_s5 : DL.Env → R Out := (relS [] (sRet (e2 (dBin .Mod) (e2 (dBin .Mod) (e2 (dBin .Add) (e2 (dBin .Mult) (rdP 6) (rdP 6)) (e2 (dBin .FloorDiv) (rdP 6) (kD (.int 31)))) (kD (.int 2147483629))) (rdP 2))))
def FF_law_pick_t5 : DL.Env → R Out := fSeq (FF_law_pick_s5) sNil
def FF_law_pick_s4 : DL.Env → R Out := (relS [] (sSet 6 (e2 (dBin .Mod) (e2 (dBin .Mult) (e2 (dBin .Add) (e2 (dBin .Mult) (rdP 3) (kD (.int 31))) (e2 (dBin .Mult) (kD (.int 6151)) (e2 (dBin .Add) (rdP 1) (kD (.int 1))))) (kD (.int 40692))) (kD (.int 2147483399)))))
def FF_law_pick_t4 : DL.Env → R Out := fSeq (FF_law_pick_s4) (FF_law_pick_t5)
def FF_law_pick_s3 : DL.Env → R Out := (relS [] (fIfS (t2 (dCmp .Gt) (rdP 4) (kD (.int 0))) (fSeq (relS [] (sRet (e2 (dBin .Mod) (e2 (dBin .Mod) (rdP 4) (kD (.int 840))) (rdP 2))))
  sNil) sNil))
def FF_law_pick_t3 : DL.Env → R Out := fSeq (FF_law_pick_s3) (FF_law_pick_t4)
def FF_law_pick_s2 : DL.Env → R Out := (relS [] (whLoop (tstAnd (t2 (dCmp .Gt) (rdP 4) (kD (.int 0))) (t2 (dCmp .Gt) (rdP 5) (kD (.int 0)))) (fSeq (relS [] (fPar [false, false] [4, 5] (eArgs [(e2 (dBin .FloorDiv) (rdP 4) (kD (.int 840))), (e2 (dBin .Sub) (rdP 5) (kD (.int 1)))])))
  sNil) 100000))
def FF_law_pick_t2 : DL.Env → R Out := fSeq (FF_law_pick_s2) (FF_law_pick_t3)
def FF_law_pick_s1 : DL.Env → R Out := (relS [] (fPar [false, false] [4, 5] (eArgs [(e2 (dBin .FloorDiv) (rdP 3) (e2 (dBin .Pow) (kD (.int 10)) (kD (.int 18)))), (e2 (dBin .FloorDiv) (rdP 1) (eB dMax [(eB dLen [(rdP 0)]), (kD (.int 1))]))])))
def FF_law_pick_t1 : DL.Env → R Out := fSeq (FF_law_pick_s1) (FF_law_pick_t2)
def FF_law_pick_s0 : DL.Env → R Out := (relS [] (sSet 3 (fIf (t2 (dCmp .NotEq) (rdP 0) (eLst [])) (e2 dIx (rdP 0) (e2 (dBin .Mod) (rdP 1) (eB dLen [(rdP 0)]))) (kD (.int 0)))))
def FF_law_pick_t0 : DL.Env → R Out := fSeq (FF_law_pick_s0) (FF_law_pick_t1)
def FF_law_pick : List D → R D := fRun 7 (FF_law_pick_t0)
def FF_chains_of (f_plain_sightings : List D → R D) : List D → R D := fRun 13 (fSeq (relS [12, 0] (sOwn 5 (fLc (i1 dItems (eC 1 f_plain_sightings [(rdE 0)])) (.one 12) (tstAnd (fChain (dCmp .LtE) (dCmp .Lt) (rdP 2) (e2 dIx (rdP 12) (kD (.int 0))) (rdP 4)) (t2 (dCmp .NotEq) (e2 dIx (rdP 12) (kD (.int 1))) (rdP 1))) (rdE 12) [12])))
  (fSeq (relS [1, 2] (fPar [true, true] [6, 7] (eArgs [(eLst []), (eLst [(eTup [(eLst []), (rdE 1), (rdE 2)])])])))
  (fSeq (relS [] (whLoop (t2 (dCmp .NotEq) (rdP 7) (eLst [])) (fSeq (fPop 7 (.many [8, 9, 10]))
    (fSeq (relS [] (fIfS (t2 (dCmp .Eq) (rdP 9) (rdP 3)) (fSeq (relS [8] (fApp 6 (rdE 8)))
      (fSeq (relS [] (fIfS (t2 (dCmp .Gt) (eB dLen [(rdP 6)]) (kD (.int 150))) (fSeq (sExc "TooGreat")
        sNil) sNil))
      sNil)) (fSeq (relS [8] (sOwn 11 (fLc (i1 dItems (rdE 8)) (.one 12) (kT true) (e2 dIx (rdP 12) (kD (.int 1))) [12])))
      (fSeq (relS [5] (fFor (i1 dItems (rdE 5)) (.one 12) (fSeq (relS [] (fIfS (tstAnd (t2 (dCmp .Eq) (e2 dIx (rdP 12) (kD (.int 2))) (rdP 9)) (tstAnd (t2 (dCmp .GtE) (e2 dIx (rdP 12) (kD (.int 0))) (rdP 10)) (t2 (dCmp .NotIn) (e2 dIx (rdP 12) (kD (.int 1))) (rdP 11)))) (fSeq (relS [12] (fApp 7 (eTup [(e2 (dBin .Add) (rdP 8) (eLst [(rdE 12)])), (e2 dIx (rdP 12) (kD (.int 1))), (e2 (dBin .Add) (e2 dIx (rdP 12) (kD (.int 0))) (kD (.int 1)))])))
          sNil) sNil))
        sNil)))
      sNil))))
    sNil)) 100000))
  (fSeq (relS [] (sRet (eB dSorted [(rdP 6)])))
  sNil))))
def FF_all_chains (f_look_asked : List D → R D) (f_chains_of : List D → R D) : List D → R D := fRun 5 (fSeq (relS [0, 1, 2, 3, 4] (sExp (eC 5 f_look_asked [(rdE 0), (rdE 1), (rdE 2), (rdE 3), (rdE 4)])))
  (fSeq (relS [0, 1, 2, 3, 4] (sRet (eC 5 f_chains_of [(rdE 0), (rdE 1), (rdE 2), (rdE 3), (rdE 4)])))
  sNil))
def FF_is_clear : List D → R D := fRun 3 (fSeq (relS [0] (sRet (e1 dNot (eB dAny [(fLc (i1 dItems (rdE 0)) (.one 2) (kT true) (fOr (e2 (bCmp .In) (e2 dIx (rdP 2) (kD (.int 1))) (rdP 1)) (e2 (bCmp .In) (e2 dIx (rdP 2) (kD (.int 2))) (rdP 1))) [2])]))))
  sNil)
def FF_are_readings (f_is_name : List D → R D) : List D → R D := fRun 6 (fSeq (relS [1] (fIfS (tstOr (tstNot (t1 dTru (e1 (dIsi "list") (rdP 1)))) (tstNot (t1 dTru (eB dAll [(fLc (i1 dItems (rdE 1)) (.one 2) (kT true) (fAnd (e1 (dIsi "tuple") (rdP 2)) (e2 (bCmp .Eq) (eB dLen [(rdP 2)]) (kD (.int 2)))) [2])])))) (fSeq (relS [] (sRet (kD (.bool false))))
    sNil) sNil))
  (fSeq (relS [1] (fIfS (tstNot (t1 dTru (eB dAll [(fLc (i1 dItems (rdE 1)) (.one 2) (kT true) (fAnd (e1 (dIsi "list") (e2 dIx (rdP 2) (kD (.int 0)))) (fAnd (e2 (bCmp .In) (e2 dIx (rdP 2) (kD (.int 0))) (rdP 0)) (eC 1 f_is_name [(e2 dIx (rdP 2) (kD (.int 1)))]))) [2])]))) (fSeq (relS [] (sRet (kD (.bool false))))
    sNil) sNil))
  (fSeq (relS [1] (fIfS (t1 dTru (eB dAny [(fLc2 (i1 dItems (rdE 1)) (.one 2) (kT true) (i1 dItems (e2 dIx (rdP 2) (kD (.int 0)))) (.one 3) (kT true) (e1 (dIsi "bool") (e2 dIx (rdP 3) (kD (.int 0)))) [2, 3] [3])])) (fSeq (relS [] (sRet (kD (.bool false))))
    sNil) sNil))
  (fSeq (relS [1] (sRet (eB dAll [(fLc (iB dZip [(rdE 1), (eSl (rdP 1) (pS (kD (.int 1))) pN)]) (.many [4, 5]) (kT true) (e2 (bCmp .Lt) (e2 dIx (rdP 4) (kD (.int 0))) (e2 dIx (rdP 5) (kD (.int 0)))) [4, 5])])))
  sNil))))
def FF_values_of : List D → R D := fRun 3 (fSeq (relS [2, 0] (sRet (eB dSorted [(fDc (i1 dItems (rdE 0)) (.many [1, 2]) (kT true) (rdE 2) (kD (.bool true)) [1, 2])])))
  sNil)
def FF_fits (f_is_clear : List D → R D) : List D → R D := fRun 6 (fSeq (relS [5, 0, 5, 3] (sOwn 4 (fLc (i1 dItems (rdE 0)) (.one 5) (t1 dTru (eC 2 f_is_clear [(rdE 5), (rdE 3)])) (rdE 5) [5])))
  (fSeq (relS [] (fIfS (t2 (dCmp .Is) (rdP 2) (kD .none)) (fSeq (relS [] (sRet (e2 (bCmp .Eq) (rdP 4) (eLst []))))
    sNil) sNil))
  (fSeq (relS [5, 2, 4] (sRet (eB dAll [(fLc (i1 dItems (rdE 4)) (.one 5) (kT true) (e2 (bCmp .In) (eTup [(rdE 5), (rdE 2)]) (rdP 1)) [5])])))
  sNil)))
def FF_look_readings (f_look_asked : List D → R D) (f_chains_of : List D → R D) (f_are_readings : List D → R D) (f_is_whole : List D → R D) : List D → R D := fRun 8 (fSeq (relS [0, 1, 2, 3, 4] (sExp (eC 5 f_look_asked [(rdE 0), (rdE 1), (rdE 2), (rdE 3), (rdE 4)])))
  (fSeq (relS [0, 1, 2, 3, 4] (sSet 7 (eC 5 f_chains_of [(rdE 0), (rdE 1), (rdE 2), (rdE 3), (rdE 4)])))
  (fSeq (relS [7, 5] (fIfS (tstNot (t1 dTru (eC 2 f_are_readings [(rdE 7), (rdE 5)]))) (fSeq (sExc "NoReadings")
    sNil) sNil))
  (fSeq (relS [6] (fIfS (tstNot (t1 dTru (eC 3 f_is_whole [(rdE 6), (kD (.int 0)), (kD (.int 3))]))) (fSeq (sExc "NoNumber")
    sNil) sNil))
  (fSeq (relS [7] (sRet (rdE 7)))
  sNil)))))
def FF_are_false (f_is_name : List D → R D) (f_is_rising : List D → R D) : List D → R D := fRun 4 (fSeq (relS [3, 1] (fIfS (tstOr (tstNot (t1 dTru (e1 (dIsi "tuple") (rdP 1)))) (tstOr (t2 (dCmp .Gt) (eB dLen [(rdP 1)]) (rdP 2)) (tstNot (t1 dTru (eB dAll [(fLc (i1 dItems (rdE 1)) (.one 3) (kT true) (eC 1 f_is_name [(rdE 3)]) [3])]))))) (fSeq (relS [] (sRet (kD (.bool false))))
    sNil) sNil))
  (fSeq (relS [1, 1] (sRet (fAnd (eC 1 f_is_rising [(rdE 1)]) (eB dAll [(fLc (i1 dItems (rdE 1)) (.one 3) (kT true) (e2 (bCmp .In) (rdP 3) (rdP 0)) [3])]))))
  sNil))
def FF_is_tale (f_look_readings : List D → R D) (f_are_false : List D → R D) (f_others_of : List D → R D) (f_is_name : List D → R D) (f_values_of : List D → R D) (f_fits : List D → R D) : List D → R D := fRun 9 (fSeq (relS [0, 1, 2, 3, 4, 5, 6] (sSet 8 (eC 7 f_look_readings [(rdE 0), (rdE 1), (rdE 2), (rdE 3), (rdE 4), (rdE 5), (rdE 6)])))
  (fSeq (relS [0, 1, 3, 6] (fIfS (tstOr (tstNot (t1 dTru (e1 (dIsi "tuple") (rdP 7)))) (tstOr (t2 (dCmp .NotEq) (eB dLen [(rdP 7)]) (kD (.int 2))) (tstNot (t1 dTru (eC 3 f_are_false [(eC 3 f_others_of [(rdE 0), (rdE 1), (rdE 3)]), (e2 dIx (rdP 7) (kD (.int 1))), (rdE 6)]))))) (fSeq (relS [] (sRet (kD (.bool false))))
    sNil) sNil))
  (fSeq (relS [5] (fIfS (tstAnd (t2 (dCmp .IsNot) (e2 dIx (rdP 7) (kD (.int 0))) (kD .none)) (tstOr (tstNot (t1 dTru (eC 1 f_is_name [(e2 dIx (rdP 7) (kD (.int 0)))]))) (t2 (dCmp .NotIn) (e2 dIx (rdP 7) (kD (.int 0))) (eC 1 f_values_of [(rdE 5)])))) (fSeq (relS [] (sRet (kD (.bool false))))
    sNil) sNil))
  (fSeq (relS [8, 5] (sRet (eC 4 f_fits [(rdE 8), (rdE 5), (e2 dIx (rdP 7) (kD (.int 0))), (e2 dIx (rdP 7) (kD (.int 1)))])))
  sNil))))
def FF_tales (f_look_readings : List D → R D) (f_lots_of : List D → R D) (f_others_of : List D → R D) (f_values_of : List D → R D) (f_fits : List D → R D) : List D → R D := fRun 12 (fSeq (relS [0, 1, 2, 3, 4, 5, 6] (sSet 7 (eC 7 f_look_readings [(rdE 0), (rdE 1), (rdE 2), (rdE 3), (rdE 4), (rdE 5), (rdE 6)])))
  (fSeq (relS [11, 0, 1, 3] (sOwn 8 (eB dSorted [(fLc (i1 dItems (eC 1 f_lots_of [(eC 3 f_others_of [(rdE 0), (rdE 1), (rdE 3)])])) (.one 11) (t2 (dCmp .LtE) (eB dLen [(rdP 11)]) (rdP 6)) (rdE 11) [11])])))
  (fSeq (relS [] (sOwn 9 (eLst [])))
  (fSeq (relS [5] (fFor (i1 dItems (e2 (dBin .Add) (eLst [(kD .none)]) (eC 1 f_values_of [(rdE 5)]))) (.one 10) (fSeq (relS [10, 11, 8, 7, 5, 10, 11] (fExt 9 (fLc (i1 dItems (rdE 8)) (.one 11) (t1 dTru (eC 4 f_fits [(rdE 7), (rdE 5), (rdE 10), (rdE 11)])) (eTup [(rdE 10), (rdE 11)]) [11])))
    sNil)))
  (fSeq (relS [9] (sRet (rdE 9)))
  sNil)))))
def FF_stands (f_tales : List D → R D) : List D → R D := fRun 11 (fSeq (relS [0, 1, 2, 3, 4, 5, 6] (sSet 7 (eC 7 f_tales [(rdE 0), (rdE 1), (rdE 2), (rdE 3), (rdE 4), (rdE 5), (rdE 6)])))
  (fSeq (relS [9, 7] (sOwn 8 (fLc (i1 dItems (rdE 7)) (.many [9, 10]) (kT true) (rdE 9) [9, 10])))
  (fSeq (relS [] (sRet (fIf (tstAnd (t2 (dCmp .NotEq) (rdP 8) (eLst [])) (tstAnd (t2 (dCmp .IsNot) (e2 dIx (rdP 8) (kD (.int 0))) (kD .none)) (t2 (dCmp .Eq) (e2 dIx (rdP 8) (e1 dNeg (kD (.int 1)))) (e2 dIx (rdP 8) (kD (.int 0)))))) (e2 dIx (rdP 8) (kD (.int 0))) (kD .none))))
  sNil)))
def FF_surely_false (f_tales : List D → R D) (f_others_of : List D → R D) : List D → R D := fRun 12 (fSeq (relS [0, 1, 2, 3, 4, 5, 6] (sSet 7 (eC 7 f_tales [(rdE 0), (rdE 1), (rdE 2), (rdE 3), (rdE 4), (rdE 5), (rdE 6)])))
  (fSeq (relS [0, 1, 3] (sSet 8 (eC 3 f_others_of [(rdE 0), (rdE 1), (rdE 3)])))
  (fSeq (relS [9, 8, 7] (sRet (fIf (t2 (dCmp .NotEq) (rdP 7) (eLst [])) (fLc (i1 dItems (rdE 8)) (.one 9) (t1 dTru (eB dAll [(fLc (i1 dItems (rdE 7)) (.many [10, 11]) (kT true) (e2 (bCmp .In) (rdP 9) (rdP 11)) [10, 11])])) (rdE 9) [9]) (kD .none))))
  sNil)))
def FF_look_most (f_look_asked : List D → R D) (f_chains_of : List D → R D) (f_is_whole : List D → R D) : List D → R D := fRun 7 (fSeq (relS [0, 1, 2, 3, 4] (sExp (eC 5 f_look_asked [(rdE 0), (rdE 1), (rdE 2), (rdE 3), (rdE 4)])))
  (fSeq (relS [0, 1, 2, 3, 4] (sSet 6 (eC 5 f_chains_of [(rdE 0), (rdE 1), (rdE 2), (rdE 3), (rdE 4)])))
  (fSeq (relS [5] (fIfS (tstNot (t1 dTru (eC 3 f_is_whole [(rdE 5), (kD (.int 0)), (kD (.int 3))]))) (fSeq (sExc "NoNumber")
    sNil) sNil))
  (fSeq (relS [6] (sRet (rdE 6)))
  sNil))))
def FF_is_safe (f_look_most : List D → R D) (f_comes : List D → R D) (f_clear_of : List D → R D) (f_plain_sightings : List D → R D) (f_others_of : List D → R D) (f_least_cut : List D → R D) : List D → R D := fRun 6 (fSeq (relS [0, 1, 2, 3, 4, 5] (fIfS (t2 (dCmp .Eq) (eC 6 f_look_most [(rdE 0), (rdE 1), (rdE 2), (rdE 3), (rdE 4), (rdE 5)]) (eLst [])) (fSeq (relS [] (sRet (kD (.bool false))))
    sNil) sNil))
  (fSeq (relS [0, 0, 1, 3, 1, 2, 3, 4] (fIfS (t1 dTru (eC 5 f_comes [(eC 2 f_clear_of [(eC 1 f_plain_sightings [(rdE 0)]), (eC 3 f_others_of [(rdE 0), (rdE 1), (rdE 3)])]), (rdE 1), (rdE 2), (rdE 3), (rdE 4)])) (fSeq (relS [] (sRet (kD (.bool true))))
    sNil) sNil))
  (fSeq (relS [0, 1, 2, 3, 4] (sRet (e2 (bCmp .Gt) (eB dLen [(eC 5 f_least_cut [(rdE 0), (rdE 1), (rdE 2), (rdE 3), (rdE 4)])]) (e2 (dBin .Mult) (kD (.int 2)) (rdP 5)))))
  sNil)))
def FF_rival (f_look_most : List D → R D) (f_is_safe : List D → R D) (f_least_cut : List D → R D) (f_is_clear : List D → R D) (f_values_of : List D → R D) : List D → R D := fRun 14 (fSeq (relS [0, 1, 2, 3, 4, 5] (sSet 6 (eC 6 f_look_most [(rdE 0), (rdE 1), (rdE 2), (rdE 3), (rdE 4), (rdE 5)])))
  (fSeq (relS [0, 1, 2, 3, 4, 5] (fIfS (tstOr (t2 (dCmp .Eq) (rdP 6) (eLst [])) (t1 dTru (eC 6 f_is_safe [(rdE 0), (rdE 1), (rdE 2), (rdE 3), (rdE 4), (rdE 5)]))) (fSeq (relS [] (sRet (kD .none)))
    sNil) sNil))
  (fSeq (relS [0, 1, 2, 3, 4] (sSet 7 (eC 5 f_least_cut [(rdE 0), (rdE 1), (rdE 2), (rdE 3), (rdE 4)])))
  (fSeq (relS [] (fPar [false, false] [8, 9] (eArgs [(eSl (rdP 7) pN (pS (rdP 5))), (eSl (rdP 7) (pS (rdP 5)) pN)])))
  (fSeq (relS [] (sOwn 10 (eLst [])))
  (fSeq (relS [6] (fFor (i1 dItems (rdE 6)) (.one 11) (fSeq (relS [11, 8] (fIfS (t1 dTru (eC 2 f_is_clear [(rdE 11), (rdE 8)])) (fSeq (relS [11] (fApp 10 (eTup [(rdE 11), (kD (.str "so"))])))
      sNil) (fSeq (relS [11, 9] (fIfS (t1 dTru (eC 2 f_is_clear [(rdE 11), (rdE 9)])) (fSeq (relS [11] (fApp 10 (eTup [(rdE 11), (kD (.str "thus"))])))
        sNil) sNil))
      sNil)))
    sNil)))
  (fSeq (relS [13, 10] (sOwn 12 (fLc (i1 dItems (eTup [(kD (.str "so")), (kD (.str "thus"))])) (.one 13) (t2 (dCmp .In) (rdP 13) (eC 1 f_values_of [(rdE 10)])) (rdE 13) [13])))
  (fSeq (relS [] (fIfS (t2 (dCmp .Eq) (rdP 12) (eLst [(kD (.str "so")), (kD (.str "thus"))])) (fSeq (relS [10, 8, 9] (sRet (eTup [(rdE 10), (eTup [(kD (.str "so")), (rdE 8)]), (eTup [(kD (.str "thus")), (rdE 9)])])))
    sNil) sNil))
  (fSeq (relS [10, 8, 9, 7] (sRet (eTup [(rdE 10), (eTup [(e2 dIx (rdP 12) (kD (.int 0))), (fIf (t2 (dCmp .Eq) (rdP 12) (eLst [(kD (.str "so"))])) (rdE 8) (rdE 9))]), (eTup [(kD .none), (rdE 7)])])))
  sNil)))))))))
def FF_is_rival (f_look_most : List D → R D) (f_are_readings : List D → R D) (f_is_tale : List D → R D) : List D → R D := fRun 9 (fSeq (relS [0, 1, 2, 3, 4, 5] (sSet 7 (eC 6 f_look_most [(rdE 0), (rdE 1), (rdE 2), (rdE 3), (rdE 4), (rdE 5)])))
  (fSeq (relS [7] (fIfS (tstOr (tstNot (t1 dTru (e1 (dIsi "tuple") (rdP 6)))) (tstOr (t2 (dCmp .NotEq) (eB dLen [(rdP 6)]) (kD (.int 3))) (tstNot (t1 dTru (eC 2 f_are_readings [(rdE 7), (e2 dIx (rdP 6) (kD (.int 0)))]))))) (fSeq (relS [] (sRet (kD (.bool false))))
    sNil) sNil))
  (fSeq (relS [0, 1, 2, 3, 4, 5] (sSet 8 (eC 8 f_is_tale [(rdE 0), (rdE 1), (rdE 2), (rdE 3), (rdE 4), (e2 dIx (rdP 6) (kD (.int 0))), (rdE 5), (e2 dIx (rdP 6) (kD (.int 1)))])))
  (fSeq (relS [8, 0, 1, 2, 3, 4, 5] (sRet (fAnd (rdP 8) (fAnd (eC 8 f_is_tale [(rdE 0), (rdE 1), (rdE 2), (rdE 3), (rdE 4), (e2 dIx (rdP 6) (kD (.int 0))), (rdE 5), (e2 dIx (rdP 6) (kD (.int 2)))]) (e2 (bCmp .NotEq) (e2 dIx (e2 dIx (rdP 6) (kD (.int 1))) (kD (.int 0))) (e2 dIx (e2 dIx (rdP 6) (kD (.int 2))) (kD (.int 0))))))))
  sNil))))
def C_is_whole : List D → R D := FF_is_whole
def C_is_name : List D → R D := FF_is_name
def C_is_rising : List D → R D := FF_is_rising
def C_plain_names : List D → R D := FF_plain_names
def C_is_in : List D → R D := FF_is_in
def C_is_between : List D → R D := FF_is_between
def C_spread_s0 : DL.Env → R Out := (relS [1, 2] (sOwn 3 (e2 dDict1 (rdE 1) (rdE 2))))
def C_spread_s1b_s0 : DL.Env → R Out := (relS [] (fIfS (tstAnd (t2 (dCmp .In) (rdP 6) (rdP 3)) (tstAnd (t2 (dCmp .LtE) (e2 dIx (rdP 3) (rdP 6)) (rdP 4)) (t2 (dCmp .NotIn) (rdP 5) (rdP 3)))) (fSeq (relS [] (fPut 3 (rdP 5) (e2 (dBin .Add) (rdP 4) (kD (.int 1))))) sNil) sNil))
def C_spread_s1b_t0 : DL.Env → R Out := fSeq (C_spread_s1b_s0) sNil
def C_spread_s1 : DL.Env → R Out := (relS [0] (fFor (i1 dItems (rdE 0)) (.many [4, 5, 6]) (C_spread_s1b_t0)))
def C_spread_s2 : DL.Env → R Out := (relS [3] (sRet (rdE 3)))
def C_spread_t2 : DL.Env → R Out := fSeq (C_spread_s2) sNil
def C_spread_t1 : DL.Env → R Out := fSeq (C_spread_s1) (C_spread_t2)
def C_spread_t0 : DL.Env → R Out := fSeq (C_spread_s0) (C_spread_t1)
def C_spread : List D → R D := fRun 7 (C_spread_t0)
theorem cf_spread : FF_spread = C_spread := by kernel_rfl
def C_lots_of_s0 : DL.Env → R Out := (relS [] (sOwn 1 (eLst [(eTup [])])))
def C_lots_of_s1b_s0 : DL.Env → R Out := (relS [2, 1] (sSet 1 (e2 (dBin .Add) (rdP 1) (fLc (i1 dItems (rdE 1)) (.one 3) (kT true) (e2 (dBin .Add) (rdP 3) (eTup [(rdE 2)])) [3]))))
def C_lots_of_s1b_t0 : DL.Env → R Out := fSeq (C_lots_of_s1b_s0) sNil
def C_lots_of_s1 : DL.Env → R Out := (relS [0] (fFor (i1 dItems (rdE 0)) (.one 2) (C_lots_of_s1b_t0)))
def C_lots_of_s2 : DL.Env → R Out := (relS [1] (sRet (rdE 1)))
def C_lots_of_t2 : DL.Env → R Out := fSeq (C_lots_of_s2) sNil
def C_lots_of_t1 : DL.Env → R Out := fSeq (C_lots_of_s1) (C_lots_of_t2)
def C_lots_of_t0 : DL.Env → R Out := fSeq (C_lots_of_s0) (C_lots_of_t1)
def C_lots_of : List D → R D := fRun 4 (C_lots_of_t0)
theorem cf_lots_of : FF_lots_of = C_lots_of := by kernel_rfl
def C_clear_of_s0 : DL.Env → R Out := (relS [2, 0] (sRet (fLc (i1 dItems (rdE 0)) (.one 2) (tstAnd (t2 (dCmp .NotIn) (e2 dIx (rdP 2) (kD (.int 1))) (rdP 1)) (t2 (dCmp .NotIn) (e2 dIx (rdP 2) (kD (.int 2))) (rdP 1))) (rdE 2) [2])))
def C_clear_of_t0 : DL.Env → R Out := fSeq (C_clear_of_s0) sNil
def C_clear_of : List D → R D := fRun 3 (C_clear_of_t0)
theorem cf_clear_of : FF_clear_of = C_clear_of := by kernel_rfl
def C_law_pick : List D → R D := FF_law_pick
def C_is_clear_s0 : DL.Env → R Out := (relS [0] (sRet (e1 dNot (eB dAny [(fLc (i1 dItems (rdE 0)) (.one 2) (kT true) (fOr (e2 (bCmp .In) (e2 dIx (rdP 2) (kD (.int 1))) (rdP 1)) (e2 (bCmp .In) (e2 dIx (rdP 2) (kD (.int 2))) (rdP 1))) [2])]))))
def C_is_clear_t0 : DL.Env → R Out := fSeq (C_is_clear_s0) sNil
def C_is_clear : List D → R D := fRun 3 (C_is_clear_t0)
theorem cf_is_clear : FF_is_clear = C_is_clear := by kernel_rfl
def C_values_of_s0 : DL.Env → R Out := (relS [2, 0] (sRet (eB dSorted [(fDc (i1 dItems (rdE 0)) (.many [1, 2]) (kT true) (rdE 2) (kD (.bool true)) [1, 2])])))
def C_values_of_t0 : DL.Env → R Out := fSeq (C_values_of_s0) sNil
def C_values_of : List D → R D := fRun 3 (C_values_of_t0)
theorem cf_values_of : FF_values_of = C_values_of := by kernel_rfl
def C_is_cell : List D → R D := FF_is_cell C_is_whole
def C_look_ship : List D → R D := FF_look_ship C_is_name C_plain_names
def C_look_hour : List D → R D := FF_look_hour C_is_whole
def C_sees_at : List D → R D := FF_sees_at C_is_in C_is_between
def C_others_of_s0 : DL.Env → R Out := (relS [3, 0, 1, 2] (sRet (fLc (i1 dItems (eC 1 C_plain_names [(rdE 0)])) (.one 3) (t2 (dCmp .NotIn) (rdP 3) (eTup [(rdE 1), (rdE 2)])) (rdE 3) [3])))
def C_others_of_t0 : DL.Env → R Out := fSeq (C_others_of_s0) sNil
def C_others_of : List D → R D := fRun 4 (C_others_of_t0)
theorem cf_others_of : FF_others_of C_plain_names = C_others_of := by kernel_rfl
def C_comes_s0 : DL.Env → R Out := (relS [0, 1, 2] (sSet 5 (eC 3 C_spread [(rdE 0), (rdE 1), (rdE 2)])))
def C_comes_s1 : DL.Env → R Out := (relS [] (sRet (fAnd (e2 (bCmp .In) (rdP 3) (rdP 5)) (e2 (bCmp .LtE) (e2 dIx (rdP 5) (rdP 3)) (rdP 4)))))
def C_comes_t1 : DL.Env → R Out := fSeq (C_comes_s1) sNil
def C_comes_t0 : DL.Env → R Out := fSeq (C_comes_s0) (C_comes_t1)
def C_comes : List D → R D := fRun 6 (C_comes_t0)
theorem cf_comes : FF_comes C_spread = C_comes := by kernel_rfl
def C_are_readings_s0 : DL.Env → R Out := (relS [1] (fIfS (tstOr (tstNot (t1 dTru (e1 (dIsi "list") (rdP 1)))) (tstNot (t1 dTru (eB dAll [(fLc (i1 dItems (rdE 1)) (.one 2) (kT true) (fAnd (e1 (dIsi "tuple") (rdP 2)) (e2 (bCmp .Eq) (eB dLen [(rdP 2)]) (kD (.int 2)))) [2])])))) (fSeq (relS [] (sRet (kD (.bool false)))) sNil) sNil))
def C_are_readings_s1 : DL.Env → R Out := (relS [1] (fIfS (tstNot (t1 dTru (eB dAll [(fLc (i1 dItems (rdE 1)) (.one 2) (kT true) (fAnd (e1 (dIsi "list") (e2 dIx (rdP 2) (kD (.int 0)))) (fAnd (e2 (bCmp .In) (e2 dIx (rdP 2) (kD (.int 0))) (rdP 0)) (eC 1 C_is_name [(e2 dIx (rdP 2) (kD (.int 1)))]))) [2])]))) (fSeq (relS [] (sRet (kD (.bool false)))) sNil) sNil))
def C_are_readings_s2 : DL.Env → R Out := (relS [1] (fIfS (t1 dTru (eB dAny [(fLc2 (i1 dItems (rdE 1)) (.one 2) (kT true) (i1 dItems (e2 dIx (rdP 2) (kD (.int 0)))) (.one 3) (kT true) (e1 (dIsi "bool") (e2 dIx (rdP 3) (kD (.int 0)))) [2, 3] [3])])) (fSeq (relS [] (sRet (kD (.bool false)))) sNil) sNil))
def C_are_readings_s3 : DL.Env → R Out := (relS [1] (sRet (eB dAll [(fLc (iB dZip [(rdE 1), (eSl (rdP 1) (pS (kD (.int 1))) pN)]) (.many [4, 5]) (kT true) (e2 (bCmp .Lt) (e2 dIx (rdP 4) (kD (.int 0))) (e2 dIx (rdP 5) (kD (.int 0)))) [4, 5])])))
def C_are_readings_t3 : DL.Env → R Out := fSeq (C_are_readings_s3) sNil
def C_are_readings_t2 : DL.Env → R Out := fSeq (C_are_readings_s2) (C_are_readings_t3)
def C_are_readings_t1 : DL.Env → R Out := fSeq (C_are_readings_s1) (C_are_readings_t2)
def C_are_readings_t0 : DL.Env → R Out := fSeq (C_are_readings_s0) (C_are_readings_t1)
def C_are_readings : List D → R D := fRun 6 (C_are_readings_t0)
theorem cf_are_readings : FF_are_readings C_is_name = C_are_readings := by kernel_rfl
def C_fits_s0 : DL.Env → R Out := (relS [5, 0, 5, 3] (sOwn 4 (fLc (i1 dItems (rdE 0)) (.one 5) (t1 dTru (eC 2 C_is_clear [(rdE 5), (rdE 3)])) (rdE 5) [5])))
def C_fits_s1 : DL.Env → R Out := (relS [] (fIfS (t2 (dCmp .Is) (rdP 2) (kD .none)) (fSeq (relS [] (sRet (e2 (bCmp .Eq) (rdP 4) (eLst [])))) sNil) sNil))
def C_fits_s2 : DL.Env → R Out := (relS [5, 2, 4] (sRet (eB dAll [(fLc (i1 dItems (rdE 4)) (.one 5) (kT true) (e2 (bCmp .In) (eTup [(rdE 5), (rdE 2)]) (rdP 1)) [5])])))
def C_fits_t2 : DL.Env → R Out := fSeq (C_fits_s2) sNil
def C_fits_t1 : DL.Env → R Out := fSeq (C_fits_s1) (C_fits_t2)
def C_fits_t0 : DL.Env → R Out := fSeq (C_fits_s0) (C_fits_t1)
def C_fits : List D → R D := fRun 6 (C_fits_t0)
theorem cf_fits : FF_fits C_is_clear = C_fits := by kernel_rfl
def C_are_false_s0 : DL.Env → R Out := (relS [3, 1] (fIfS (tstOr (tstNot (t1 dTru (e1 (dIsi "tuple") (rdP 1)))) (tstOr (t2 (dCmp .Gt) (eB dLen [(rdP 1)]) (rdP 2)) (tstNot (t1 dTru (eB dAll [(fLc (i1 dItems (rdE 1)) (.one 3) (kT true) (eC 1 C_is_name [(rdE 3)]) [3])]))))) (fSeq (relS [] (sRet (kD (.bool false)))) sNil) sNil))
def C_are_false_s1 : DL.Env → R Out := (relS [1, 1] (sRet (fAnd (eC 1 C_is_rising [(rdE 1)]) (eB dAll [(fLc (i1 dItems (rdE 1)) (.one 3) (kT true) (e2 (bCmp .In) (rdP 3) (rdP 0)) [3])]))))
def C_are_false_t1 : DL.Env → R Out := fSeq (C_are_false_s1) sNil
def C_are_false_t0 : DL.Env → R Out := fSeq (C_are_false_s0) (C_are_false_t1)
def C_are_false : List D → R D := fRun 4 (C_are_false_t0)
theorem cf_are_false : FF_are_false C_is_name C_is_rising = C_are_false := by kernel_rfl
def C_is_islands : List D → R D := FF_is_islands C_is_cell C_is_rising
def C_is_ship : List D → R D := FF_is_ship C_is_name C_is_whole C_is_cell
def C_is_mist : List D → R D := FF_is_mist C_is_whole C_is_cell
def C_plain_sightings : List D → R D := FF_plain_sightings C_sees_at
def C_is_fleet : List D → R D := FF_is_fleet C_is_whole C_is_islands C_is_ship C_is_rising C_is_mist
def C_chains_of_s0 : DL.Env → R Out := (relS [12, 0] (sOwn 5 (fLc (i1 dItems (eC 1 C_plain_sightings [(rdE 0)])) (.one 12) (tstAnd (fChain (dCmp .LtE) (dCmp .Lt) (rdP 2) (e2 dIx (rdP 12) (kD (.int 0))) (rdP 4)) (t2 (dCmp .NotEq) (e2 dIx (rdP 12) (kD (.int 1))) (rdP 1))) (rdE 12) [12])))
def C_chains_of_s1 : DL.Env → R Out := (relS [1, 2] (fPar [true, true] [6, 7] (eArgs [(eLst []), (eLst [(eTup [(eLst []), (rdE 1), (rdE 2)])])])))
def C_chains_of_s2b_s0 : DL.Env → R Out := (fPop 7 (.many [8, 9, 10]))
def C_chains_of_s2b_s1i_s0 : DL.Env → R Out := (relS [8] (fApp 6 (rdE 8)))
def C_chains_of_s2b_s1i_s1 : DL.Env → R Out := (relS [] (fIfS (t2 (dCmp .Gt) (eB dLen [(rdP 6)]) (kD (.int 150))) (fSeq (sExc "TooGreat") sNil) sNil))
def C_chains_of_s2b_s1i_t1 : DL.Env → R Out := fSeq (C_chains_of_s2b_s1i_s1) sNil
def C_chains_of_s2b_s1i_t0 : DL.Env → R Out := fSeq (C_chains_of_s2b_s1i_s0) (C_chains_of_s2b_s1i_t1)
def C_chains_of_s2b_s1e_s0 : DL.Env → R Out := (relS [8] (sOwn 11 (fLc (i1 dItems (rdE 8)) (.one 12) (kT true) (e2 dIx (rdP 12) (kD (.int 1))) [12])))
def C_chains_of_s2b_s1e_s1b_s0 : DL.Env → R Out := (relS [] (fIfS (tstAnd (t2 (dCmp .Eq) (e2 dIx (rdP 12) (kD (.int 2))) (rdP 9)) (tstAnd (t2 (dCmp .GtE) (e2 dIx (rdP 12) (kD (.int 0))) (rdP 10)) (t2 (dCmp .NotIn) (e2 dIx (rdP 12) (kD (.int 1))) (rdP 11)))) (fSeq (relS [12] (fApp 7 (eTup [(e2 (dBin .Add) (rdP 8) (eLst [(rdE 12)])), (e2 dIx (rdP 12) (kD (.int 1))), (e2 (dBin .Add) (e2 dIx (rdP 12) (kD (.int 0))) (kD (.int 1)))]))) sNil) sNil))
def C_chains_of_s2b_s1e_s1b_t0 : DL.Env → R Out := fSeq (C_chains_of_s2b_s1e_s1b_s0) sNil
def C_chains_of_s2b_s1e_s1 : DL.Env → R Out := (relS [5] (fFor (i1 dItems (rdE 5)) (.one 12) (C_chains_of_s2b_s1e_s1b_t0)))
def C_chains_of_s2b_s1e_t1 : DL.Env → R Out := fSeq (C_chains_of_s2b_s1e_s1) sNil
def C_chains_of_s2b_s1e_t0 : DL.Env → R Out := fSeq (C_chains_of_s2b_s1e_s0) (C_chains_of_s2b_s1e_t1)
def C_chains_of_s2b_s1 : DL.Env → R Out := (relS [] (fIfS (t2 (dCmp .Eq) (rdP 9) (rdP 3)) (C_chains_of_s2b_s1i_t0) (C_chains_of_s2b_s1e_t0)))
def C_chains_of_s2b_t1 : DL.Env → R Out := fSeq (C_chains_of_s2b_s1) sNil
def C_chains_of_s2b_t0 : DL.Env → R Out := fSeq (C_chains_of_s2b_s0) (C_chains_of_s2b_t1)
def C_chains_of_s2 : DL.Env → R Out := (relS [] (whLoop (t2 (dCmp .NotEq) (rdP 7) (eLst [])) (C_chains_of_s2b_t0) 100000))
def C_chains_of_s3 : DL.Env → R Out := (relS [] (sRet (eB dSorted [(rdP 6)])))
def C_chains_of_t3 : DL.Env → R Out := fSeq (C_chains_of_s3) sNil
def C_chains_of_t2 : DL.Env → R Out := fSeq (C_chains_of_s2) (C_chains_of_t3)
def C_chains_of_t1 : DL.Env → R Out := fSeq (C_chains_of_s1) (C_chains_of_t2)
def C_chains_of_t0 : DL.Env → R Out := fSeq (C_chains_of_s0) (C_chains_of_t1)
def C_chains_of : List D → R D := fRun 13 (C_chains_of_t0)
theorem cf_chains_of : FF_chains_of C_plain_sightings = C_chains_of := by kernel_rfl
def C_look_fleet : List D → R D := FF_look_fleet C_is_fleet
def C_look_asked_s0 : DL.Env → R Out := (relS [0] (sExp (eC 1 C_look_fleet [(rdE 0)])))
def C_look_asked_s1 : DL.Env → R Out := (relS [0, 1] (sExp (eC 2 C_look_ship [(rdE 0), (rdE 1)])))
def C_look_asked_s2 : DL.Env → R Out := (relS [0, 3] (sExp (eC 2 C_look_ship [(rdE 0), (rdE 3)])))
def C_look_asked_s3 : DL.Env → R Out := (relS [] (fIfS (t2 (dCmp .Eq) (rdP 3) (rdP 1)) (fSeq (sExc "NoShip") sNil) sNil))
def C_look_asked_s4 : DL.Env → R Out := (relS [2] (sExp (eC 2 C_look_hour [(rdE 2), (e2 dIx (rdP 0) (kD (.int 0)))])))
def C_look_asked_s5 : DL.Env → R Out := (relS [4] (sExp (eC 2 C_look_hour [(rdE 4), (e2 (dBin .Add) (e2 dIx (rdP 0) (kD (.int 0))) (kD (.int 1)))])))
def C_look_asked_t5 : DL.Env → R Out := fSeq (C_look_asked_s5) sNil
def C_look_asked_t4 : DL.Env → R Out := fSeq (C_look_asked_s4) (C_look_asked_t5)
def C_look_asked_t3 : DL.Env → R Out := fSeq (C_look_asked_s3) (C_look_asked_t4)
def C_look_asked_t2 : DL.Env → R Out := fSeq (C_look_asked_s2) (C_look_asked_t3)
def C_look_asked_t1 : DL.Env → R Out := fSeq (C_look_asked_s1) (C_look_asked_t2)
def C_look_asked_t0 : DL.Env → R Out := fSeq (C_look_asked_s0) (C_look_asked_t1)
def C_look_asked : List D → R D := fRun 5 (C_look_asked_t0)
theorem cf_look_asked : FF_look_asked C_look_fleet C_look_ship C_look_hour = C_look_asked := by kernel_rfl
def C_least_cut_s0 : DL.Env → R Out := (relS [0, 1, 2, 3, 4] (sExp (eC 5 C_look_asked [(rdE 0), (rdE 1), (rdE 2), (rdE 3), (rdE 4)])))
def C_least_cut_s1 : DL.Env → R Out := (relS [0] (sSet 5 (eC 1 C_plain_sightings [(rdE 0)])))
def C_least_cut_s2 : DL.Env → R Out := (relS [0, 1, 3] (sSet 6 (eC 1 C_lots_of [(eC 3 C_others_of [(rdE 0), (rdE 1), (rdE 3)])])))
def C_least_cut_s3 : DL.Env → R Out := (relS [8, 6, 5, 8, 1, 2, 3, 4] (sOwn 7 (fLc (i1 dItems (rdE 6)) (.one 8) (tstNot (t1 dTru (eC 5 C_comes [(eC 2 C_clear_of [(rdE 5), (rdE 8)]), (rdE 1), (rdE 2), (rdE 3), (rdE 4)]))) (eTup [(eB dLen [(rdP 8)]), (rdE 8)]) [8])))
def C_least_cut_s4 : DL.Env → R Out := (relS [] (sRet (fIf (t2 (dCmp .NotEq) (rdP 7) (eLst [])) (e2 dIx (eB dMin [(rdP 7)]) (kD (.int 1))) (kD .none))))
def C_least_cut_t4 : DL.Env → R Out := fSeq (C_least_cut_s4) sNil
def C_least_cut_t3 : DL.Env → R Out := fSeq (C_least_cut_s3) (C_least_cut_t4)
def C_least_cut_t2 : DL.Env → R Out := fSeq (C_least_cut_s2) (C_least_cut_t3)
def C_least_cut_t1 : DL.Env → R Out := fSeq (C_least_cut_s1) (C_least_cut_t2)
def C_least_cut_t0 : DL.Env → R Out := fSeq (C_least_cut_s0) (C_least_cut_t1)
def C_least_cut : List D → R D := fRun 9 (C_least_cut_t0)
theorem cf_least_cut : FF_least_cut C_look_asked C_plain_sightings C_lots_of C_others_of C_comes C_clear_of = C_least_cut := by kernel_rfl
def C_all_chains_s0 : DL.Env → R Out := (relS [0, 1, 2, 3, 4] (sExp (eC 5 C_look_asked [(rdE 0), (rdE 1), (rdE 2), (rdE 3), (rdE 4)])))
def C_all_chains_s1 : DL.Env → R Out := (relS [0, 1, 2, 3, 4] (sRet (eC 5 C_chains_of [(rdE 0), (rdE 1), (rdE 2), (rdE 3), (rdE 4)])))
def C_all_chains_t1 : DL.Env → R Out := fSeq (C_all_chains_s1) sNil
def C_all_chains_t0 : DL.Env → R Out := fSeq (C_all_chains_s0) (C_all_chains_t1)
def C_all_chains : List D → R D := fRun 5 (C_all_chains_t0)
theorem cf_all_chains : FF_all_chains C_look_asked C_chains_of = C_all_chains := by kernel_rfl
def C_look_readings_s0 : DL.Env → R Out := (relS [0, 1, 2, 3, 4] (sExp (eC 5 C_look_asked [(rdE 0), (rdE 1), (rdE 2), (rdE 3), (rdE 4)])))
def C_look_readings_s1 : DL.Env → R Out := (relS [0, 1, 2, 3, 4] (sSet 7 (eC 5 C_chains_of [(rdE 0), (rdE 1), (rdE 2), (rdE 3), (rdE 4)])))
def C_look_readings_s2 : DL.Env → R Out := (relS [7, 5] (fIfS (tstNot (t1 dTru (eC 2 C_are_readings [(rdE 7), (rdE 5)]))) (fSeq (sExc "NoReadings") sNil) sNil))
def C_look_readings_s3 : DL.Env → R Out := (relS [6] (fIfS (tstNot (t1 dTru (eC 3 C_is_whole [(rdE 6), (kD (.int 0)), (kD (.int 3))]))) (fSeq (sExc "NoNumber") sNil) sNil))
def C_look_readings_s4 : DL.Env → R Out := (relS [7] (sRet (rdE 7)))
def C_look_readings_t4 : DL.Env → R Out := fSeq (C_look_readings_s4) sNil
def C_look_readings_t3 : DL.Env → R Out := fSeq (C_look_readings_s3) (C_look_readings_t4)
def C_look_readings_t2 : DL.Env → R Out := fSeq (C_look_readings_s2) (C_look_readings_t3)
def C_look_readings_t1 : DL.Env → R Out := fSeq (C_look_readings_s1) (C_look_readings_t2)
def C_look_readings_t0 : DL.Env → R Out := fSeq (C_look_readings_s0) (C_look_readings_t1)
def C_look_readings : List D → R D := fRun 8 (C_look_readings_t0)
theorem cf_look_readings : FF_look_readings C_look_asked C_chains_of C_are_readings C_is_whole = C_look_readings := by kernel_rfl
def C_look_most_s0 : DL.Env → R Out := (relS [0, 1, 2, 3, 4] (sExp (eC 5 C_look_asked [(rdE 0), (rdE 1), (rdE 2), (rdE 3), (rdE 4)])))
def C_look_most_s1 : DL.Env → R Out := (relS [0, 1, 2, 3, 4] (sSet 6 (eC 5 C_chains_of [(rdE 0), (rdE 1), (rdE 2), (rdE 3), (rdE 4)])))
def C_look_most_s2 : DL.Env → R Out := (relS [5] (fIfS (tstNot (t1 dTru (eC 3 C_is_whole [(rdE 5), (kD (.int 0)), (kD (.int 3))]))) (fSeq (sExc "NoNumber") sNil) sNil))
def C_look_most_s3 : DL.Env → R Out := (relS [6] (sRet (rdE 6)))
def C_look_most_t3 : DL.Env → R Out := fSeq (C_look_most_s3) sNil
def C_look_most_t2 : DL.Env → R Out := fSeq (C_look_most_s2) (C_look_most_t3)
def C_look_most_t1 : DL.Env → R Out := fSeq (C_look_most_s1) (C_look_most_t2)
def C_look_most_t0 : DL.Env → R Out := fSeq (C_look_most_s0) (C_look_most_t1)
def C_look_most : List D → R D := fRun 7 (C_look_most_t0)
theorem cf_look_most : FF_look_most C_look_asked C_chains_of C_is_whole = C_look_most := by kernel_rfl
def C_is_tale_s0 : DL.Env → R Out := (relS [0, 1, 2, 3, 4, 5, 6] (sSet 8 (eC 7 C_look_readings [(rdE 0), (rdE 1), (rdE 2), (rdE 3), (rdE 4), (rdE 5), (rdE 6)])))
def C_is_tale_s1 : DL.Env → R Out := (relS [0, 1, 3, 6] (fIfS (tstOr (tstNot (t1 dTru (e1 (dIsi "tuple") (rdP 7)))) (tstOr (t2 (dCmp .NotEq) (eB dLen [(rdP 7)]) (kD (.int 2))) (tstNot (t1 dTru (eC 3 C_are_false [(eC 3 C_others_of [(rdE 0), (rdE 1), (rdE 3)]), (e2 dIx (rdP 7) (kD (.int 1))), (rdE 6)]))))) (fSeq (relS [] (sRet (kD (.bool false)))) sNil) sNil))
def C_is_tale_s2 : DL.Env → R Out := (relS [5] (fIfS (tstAnd (t2 (dCmp .IsNot) (e2 dIx (rdP 7) (kD (.int 0))) (kD .none)) (tstOr (tstNot (t1 dTru (eC 1 C_is_name [(e2 dIx (rdP 7) (kD (.int 0)))]))) (t2 (dCmp .NotIn) (e2 dIx (rdP 7) (kD (.int 0))) (eC 1 C_values_of [(rdE 5)])))) (fSeq (relS [] (sRet (kD (.bool false)))) sNil) sNil))
def C_is_tale_s3 : DL.Env → R Out := (relS [8, 5] (sRet (eC 4 C_fits [(rdE 8), (rdE 5), (e2 dIx (rdP 7) (kD (.int 0))), (e2 dIx (rdP 7) (kD (.int 1)))])))
def C_is_tale_t3 : DL.Env → R Out := fSeq (C_is_tale_s3) sNil
def C_is_tale_t2 : DL.Env → R Out := fSeq (C_is_tale_s2) (C_is_tale_t3)
def C_is_tale_t1 : DL.Env → R Out := fSeq (C_is_tale_s1) (C_is_tale_t2)
def C_is_tale_t0 : DL.Env → R Out := fSeq (C_is_tale_s0) (C_is_tale_t1)
def C_is_tale : List D → R D := fRun 9 (C_is_tale_t0)
theorem cf_is_tale : FF_is_tale C_look_readings C_are_false C_others_of C_is_name C_values_of C_fits = C_is_tale := by kernel_rfl
def C_tales_s0 : DL.Env → R Out := (relS [0, 1, 2, 3, 4, 5, 6] (sSet 7 (eC 7 C_look_readings [(rdE 0), (rdE 1), (rdE 2), (rdE 3), (rdE 4), (rdE 5), (rdE 6)])))
def C_tales_s1 : DL.Env → R Out := (relS [11, 0, 1, 3] (sOwn 8 (eB dSorted [(fLc (i1 dItems (eC 1 C_lots_of [(eC 3 C_others_of [(rdE 0), (rdE 1), (rdE 3)])])) (.one 11) (t2 (dCmp .LtE) (eB dLen [(rdP 11)]) (rdP 6)) (rdE 11) [11])])))
def C_tales_s2 : DL.Env → R Out := (relS [] (sOwn 9 (eLst [])))
def C_tales_s3b_s0 : DL.Env → R Out := (relS [10, 11, 8, 7, 5, 10, 11] (fExt 9 (fLc (i1 dItems (rdE 8)) (.one 11) (t1 dTru (eC 4 C_fits [(rdE 7), (rdE 5), (rdE 10), (rdE 11)])) (eTup [(rdE 10), (rdE 11)]) [11])))
def C_tales_s3b_t0 : DL.Env → R Out := fSeq (C_tales_s3b_s0) sNil
def C_tales_s3 : DL.Env → R Out := (relS [5] (fFor (i1 dItems (e2 (dBin .Add) (eLst [(kD .none)]) (eC 1 C_values_of [(rdE 5)]))) (.one 10) (C_tales_s3b_t0)))
def C_tales_s4 : DL.Env → R Out := (relS [9] (sRet (rdE 9)))
def C_tales_t4 : DL.Env → R Out := fSeq (C_tales_s4) sNil
def C_tales_t3 : DL.Env → R Out := fSeq (C_tales_s3) (C_tales_t4)
def C_tales_t2 : DL.Env → R Out := fSeq (C_tales_s2) (C_tales_t3)
def C_tales_t1 : DL.Env → R Out := fSeq (C_tales_s1) (C_tales_t2)
def C_tales_t0 : DL.Env → R Out := fSeq (C_tales_s0) (C_tales_t1)
def C_tales : List D → R D := fRun 12 (C_tales_t0)
theorem cf_tales : FF_tales C_look_readings C_lots_of C_others_of C_values_of C_fits = C_tales := by kernel_rfl
def C_is_safe_s0 : DL.Env → R Out := (relS [0, 1, 2, 3, 4, 5] (fIfS (t2 (dCmp .Eq) (eC 6 C_look_most [(rdE 0), (rdE 1), (rdE 2), (rdE 3), (rdE 4), (rdE 5)]) (eLst [])) (fSeq (relS [] (sRet (kD (.bool false)))) sNil) sNil))
def C_is_safe_s1 : DL.Env → R Out := (relS [0, 0, 1, 3, 1, 2, 3, 4] (fIfS (t1 dTru (eC 5 C_comes [(eC 2 C_clear_of [(eC 1 C_plain_sightings [(rdE 0)]), (eC 3 C_others_of [(rdE 0), (rdE 1), (rdE 3)])]), (rdE 1), (rdE 2), (rdE 3), (rdE 4)])) (fSeq (relS [] (sRet (kD (.bool true)))) sNil) sNil))
def C_is_safe_s2 : DL.Env → R Out := (relS [0, 1, 2, 3, 4] (sRet (e2 (bCmp .Gt) (eB dLen [(eC 5 C_least_cut [(rdE 0), (rdE 1), (rdE 2), (rdE 3), (rdE 4)])]) (e2 (dBin .Mult) (kD (.int 2)) (rdP 5)))))
def C_is_safe_t2 : DL.Env → R Out := fSeq (C_is_safe_s2) sNil
def C_is_safe_t1 : DL.Env → R Out := fSeq (C_is_safe_s1) (C_is_safe_t2)
def C_is_safe_t0 : DL.Env → R Out := fSeq (C_is_safe_s0) (C_is_safe_t1)
def C_is_safe : List D → R D := fRun 6 (C_is_safe_t0)
theorem cf_is_safe : FF_is_safe C_look_most C_comes C_clear_of C_plain_sightings C_others_of C_least_cut = C_is_safe := by kernel_rfl
def C_stands_s0 : DL.Env → R Out := (relS [0, 1, 2, 3, 4, 5, 6] (sSet 7 (eC 7 C_tales [(rdE 0), (rdE 1), (rdE 2), (rdE 3), (rdE 4), (rdE 5), (rdE 6)])))
def C_stands_s1 : DL.Env → R Out := (relS [9, 7] (sOwn 8 (fLc (i1 dItems (rdE 7)) (.many [9, 10]) (kT true) (rdE 9) [9, 10])))
def C_stands_s2 : DL.Env → R Out := (relS [] (sRet (fIf (tstAnd (t2 (dCmp .NotEq) (rdP 8) (eLst [])) (tstAnd (t2 (dCmp .IsNot) (e2 dIx (rdP 8) (kD (.int 0))) (kD .none)) (t2 (dCmp .Eq) (e2 dIx (rdP 8) (e1 dNeg (kD (.int 1)))) (e2 dIx (rdP 8) (kD (.int 0)))))) (e2 dIx (rdP 8) (kD (.int 0))) (kD .none))))
def C_stands_t2 : DL.Env → R Out := fSeq (C_stands_s2) sNil
def C_stands_t1 : DL.Env → R Out := fSeq (C_stands_s1) (C_stands_t2)
def C_stands_t0 : DL.Env → R Out := fSeq (C_stands_s0) (C_stands_t1)
def C_stands : List D → R D := fRun 11 (C_stands_t0)
theorem cf_stands : FF_stands C_tales = C_stands := by kernel_rfl
def C_surely_false_s0 : DL.Env → R Out := (relS [0, 1, 2, 3, 4, 5, 6] (sSet 7 (eC 7 C_tales [(rdE 0), (rdE 1), (rdE 2), (rdE 3), (rdE 4), (rdE 5), (rdE 6)])))
def C_surely_false_s1 : DL.Env → R Out := (relS [0, 1, 3] (sSet 8 (eC 3 C_others_of [(rdE 0), (rdE 1), (rdE 3)])))
def C_surely_false_s2 : DL.Env → R Out := (relS [9, 8, 7] (sRet (fIf (t2 (dCmp .NotEq) (rdP 7) (eLst [])) (fLc (i1 dItems (rdE 8)) (.one 9) (t1 dTru (eB dAll [(fLc (i1 dItems (rdE 7)) (.many [10, 11]) (kT true) (e2 (bCmp .In) (rdP 9) (rdP 11)) [10, 11])])) (rdE 9) [9]) (kD .none))))
def C_surely_false_t2 : DL.Env → R Out := fSeq (C_surely_false_s2) sNil
def C_surely_false_t1 : DL.Env → R Out := fSeq (C_surely_false_s1) (C_surely_false_t2)
def C_surely_false_t0 : DL.Env → R Out := fSeq (C_surely_false_s0) (C_surely_false_t1)
def C_surely_false : List D → R D := fRun 12 (C_surely_false_t0)
theorem cf_surely_false : FF_surely_false C_tales C_others_of = C_surely_false := by kernel_rfl
def C_rival_s0 : DL.Env → R Out := (relS [0, 1, 2, 3, 4, 5] (sSet 6 (eC 6 C_look_most [(rdE 0), (rdE 1), (rdE 2), (rdE 3), (rdE 4), (rdE 5)])))
def C_rival_s1 : DL.Env → R Out := (relS [0, 1, 2, 3, 4, 5] (fIfS (tstOr (t2 (dCmp .Eq) (rdP 6) (eLst [])) (t1 dTru (eC 6 C_is_safe [(rdE 0), (rdE 1), (rdE 2), (rdE 3), (rdE 4), (rdE 5)]))) (fSeq (relS [] (sRet (kD .none))) sNil) sNil))
def C_rival_s2 : DL.Env → R Out := (relS [0, 1, 2, 3, 4] (sSet 7 (eC 5 C_least_cut [(rdE 0), (rdE 1), (rdE 2), (rdE 3), (rdE 4)])))
def C_rival_s3 : DL.Env → R Out := (relS [] (fPar [false, false] [8, 9] (eArgs [(eSl (rdP 7) pN (pS (rdP 5))), (eSl (rdP 7) (pS (rdP 5)) pN)])))
def C_rival_s4 : DL.Env → R Out := (relS [] (sOwn 10 (eLst [])))
def C_rival_s5b_s0e_s0 : DL.Env → R Out := (relS [11, 9] (fIfS (t1 dTru (eC 2 C_is_clear [(rdE 11), (rdE 9)])) (fSeq (relS [11] (fApp 10 (eTup [(rdE 11), (kD (.str "thus"))]))) sNil) sNil))
def C_rival_s5b_s0e_t0 : DL.Env → R Out := fSeq (C_rival_s5b_s0e_s0) sNil
def C_rival_s5b_s0 : DL.Env → R Out := (relS [11, 8] (fIfS (t1 dTru (eC 2 C_is_clear [(rdE 11), (rdE 8)])) (fSeq (relS [11] (fApp 10 (eTup [(rdE 11), (kD (.str "so"))]))) sNil) (C_rival_s5b_s0e_t0)))
def C_rival_s5b_t0 : DL.Env → R Out := fSeq (C_rival_s5b_s0) sNil
def C_rival_s5 : DL.Env → R Out := (relS [6] (fFor (i1 dItems (rdE 6)) (.one 11) (C_rival_s5b_t0)))
def C_rival_s6 : DL.Env → R Out := (relS [13, 10] (sOwn 12 (fLc (i1 dItems (eTup [(kD (.str "so")), (kD (.str "thus"))])) (.one 13) (t2 (dCmp .In) (rdP 13) (eC 1 C_values_of [(rdE 10)])) (rdE 13) [13])))
def C_rival_s7 : DL.Env → R Out := (relS [] (fIfS (t2 (dCmp .Eq) (rdP 12) (eLst [(kD (.str "so")), (kD (.str "thus"))])) (fSeq (relS [10, 8, 9] (sRet (eTup [(rdE 10), (eTup [(kD (.str "so")), (rdE 8)]), (eTup [(kD (.str "thus")), (rdE 9)])]))) sNil) sNil))
def C_rival_s8 : DL.Env → R Out := (relS [10, 8, 9, 7] (sRet (eTup [(rdE 10), (eTup [(e2 dIx (rdP 12) (kD (.int 0))), (fIf (t2 (dCmp .Eq) (rdP 12) (eLst [(kD (.str "so"))])) (rdE 8) (rdE 9))]), (eTup [(kD .none), (rdE 7)])])))
def C_rival_t8 : DL.Env → R Out := fSeq (C_rival_s8) sNil
def C_rival_t7 : DL.Env → R Out := fSeq (C_rival_s7) (C_rival_t8)
def C_rival_t6 : DL.Env → R Out := fSeq (C_rival_s6) (C_rival_t7)
def C_rival_t5 : DL.Env → R Out := fSeq (C_rival_s5) (C_rival_t6)
def C_rival_t4 : DL.Env → R Out := fSeq (C_rival_s4) (C_rival_t5)
def C_rival_t3 : DL.Env → R Out := fSeq (C_rival_s3) (C_rival_t4)
def C_rival_t2 : DL.Env → R Out := fSeq (C_rival_s2) (C_rival_t3)
def C_rival_t1 : DL.Env → R Out := fSeq (C_rival_s1) (C_rival_t2)
def C_rival_t0 : DL.Env → R Out := fSeq (C_rival_s0) (C_rival_t1)
def C_rival : List D → R D := fRun 14 (C_rival_t0)
theorem cf_rival : FF_rival C_look_most C_is_safe C_least_cut C_is_clear C_values_of = C_rival := by kernel_rfl
def C_is_rival_s0 : DL.Env → R Out := (relS [0, 1, 2, 3, 4, 5] (sSet 7 (eC 6 C_look_most [(rdE 0), (rdE 1), (rdE 2), (rdE 3), (rdE 4), (rdE 5)])))
def C_is_rival_s1 : DL.Env → R Out := (relS [7] (fIfS (tstOr (tstNot (t1 dTru (e1 (dIsi "tuple") (rdP 6)))) (tstOr (t2 (dCmp .NotEq) (eB dLen [(rdP 6)]) (kD (.int 3))) (tstNot (t1 dTru (eC 2 C_are_readings [(rdE 7), (e2 dIx (rdP 6) (kD (.int 0)))]))))) (fSeq (relS [] (sRet (kD (.bool false)))) sNil) sNil))
def C_is_rival_s2 : DL.Env → R Out := (relS [0, 1, 2, 3, 4, 5] (sSet 8 (eC 8 C_is_tale [(rdE 0), (rdE 1), (rdE 2), (rdE 3), (rdE 4), (e2 dIx (rdP 6) (kD (.int 0))), (rdE 5), (e2 dIx (rdP 6) (kD (.int 1)))])))
def C_is_rival_s3 : DL.Env → R Out := (relS [8, 0, 1, 2, 3, 4, 5] (sRet (fAnd (rdP 8) (fAnd (eC 8 C_is_tale [(rdE 0), (rdE 1), (rdE 2), (rdE 3), (rdE 4), (e2 dIx (rdP 6) (kD (.int 0))), (rdE 5), (e2 dIx (rdP 6) (kD (.int 2)))]) (e2 (bCmp .NotEq) (e2 dIx (e2 dIx (rdP 6) (kD (.int 1))) (kD (.int 0))) (e2 dIx (e2 dIx (rdP 6) (kD (.int 2))) (kD (.int 0))))))))
def C_is_rival_t3 : DL.Env → R Out := fSeq (C_is_rival_s3) sNil
def C_is_rival_t2 : DL.Env → R Out := fSeq (C_is_rival_s2) (C_is_rival_t3)
def C_is_rival_t1 : DL.Env → R Out := fSeq (C_is_rival_s1) (C_is_rival_t2)
def C_is_rival_t0 : DL.Env → R Out := fSeq (C_is_rival_s0) (C_is_rival_t1)
def C_is_rival : List D → R D := fRun 9 (C_is_rival_t0)
theorem cf_is_rival : FF_is_rival C_look_most C_are_readings C_is_tale = C_is_rival := by kernel_rfl
end DL
namespace DL
open PySem PySem.Spec PyProof.Rows L2
def small : List Nat := ("abcdefghijklmnopqrstuvwxyz" : Str).cps.toList
theorem atI_nat {α : Type} {xs : List α} {i : Nat} (h : i < xs.length) : L2.atI xs (i : Int) = some xs[i] := by
  unfold L2.atI L2.ixN
  rw [if_pos (by omega), if_pos (by omega)]
  simp [h]
theorem dIx_tup {ds : List D} {i : Nat} {d : D} (h : ds[i]? = some d) : dIx (.tuple ds) (.int i) = .ok d := by
  obtain ⟨h1, h2⟩ := List.getElem?_eq_some_iff.mp h
  simp only [dIx, atI_nat h1, h2]
@[simp] theorem dIx_t0 (a : D) (r : List D) : dIx (.tuple (a :: r)) (.int 0) = .ok a := dIx_tup (i := 0) rfl
@[simp] theorem dIx_t1 (a b : D) (r : List D) : dIx (.tuple (a :: b :: r)) (.int 1) = .ok b := dIx_tup (i := 1) rfl
@[simp] theorem dIx_t2 (a b c : D) (r : List D) : dIx (.tuple (a :: b :: c :: r)) (.int 2) = .ok c := dIx_tup (i := 2) rfl
@[simp] theorem dIx_t3 (a b c d : D) (r : List D) : dIx (.tuple (a :: b :: c :: d :: r)) (.int 3) = .ok d := dIx_tup (i := 3) rfl
@[simp] theorem dIx_t4 (a b c d e : D) (r : List D) : dIx (.tuple (a :: b :: c :: d :: e :: r)) (.int 4) = .ok e := dIx_tup (i := 4) rfl
end DL
namespace DL
open PySem PySem.Spec PyProof.Rows L2
theorem log2_small {n : Nat} (h : n < 2 ^ 64) : n.log2 < 9000 := by
  by_cases h0 : n = 0
  · subst h0; decide
  · have := (Nat.log2_lt h0).mpr h
    omega
theorem dDiv_int {i j : Int} (h : 0 < j) (h1 : j < 2 ^ 64) : dBin .FloorDiv (.int i) (.int j) = .ok (.int (i / j)) := by
  have : j.natAbs.log2 < 9000 := log2_small (by omega)
  simp only [dBin, decide_eq_true h, decide_eq_true this, Bool.and_self, if_true]
theorem dMod_int {i j : Int} (h : 0 < j) : dBin .Mod (.int i) (.int j) = .ok (.int (i % j)) := if_pos h
theorem dMul_l {i j : Int} (h : smallI i = true) : dBin .Mult (.int i) (.int j) = .ok (.int (i * j)) := by simp [dBin, h]
theorem dMul_r {i j : Int} (h : smallI j = true) : dBin .Mult (.int i) (.int j) = .ok (.int (i * j)) := by simp [dBin, h]
theorem smallI_of {i : Int} (h : 0 ≤ i) (h1 : i < 2 ^ 64) : smallI i = true := by
  simp only [smallI, Bool.and_eq_true, decide_eq_true_eq]
  omega
theorem dPow_18 : dBin .Pow (.int 10) (.int 18) = .ok (.int 1000000000000000000) := rfl
theorem dMul_5 (j : Int) : dBin .Mult (.int j) (.int 31) = .ok (.int (j * 31)) := dMul_r (by decide)
theorem dMul_6 (j : Int) : dBin .Mult (.int 6151) (.int j) = .ok (.int (6151 * j)) := dMul_l (by decide)
theorem dMul_7 (j : Int) : dBin .Mult (.int j) (.int 40692) = .ok (.int (j * 40692)) := dMul_r (by decide)
theorem dEq_scr (ns : List Int) : dCmp .NotEq (scr ns) (.list []) = .ok (!ns.isEmpty) := by
  show (dEq (scr ns) (.list []) >>= fun b => .ok (!b)) = _
  simp [dEq, scr]
theorem dLen_scr (ns : List Int) : dLen [scr ns] = .ok (.int ns.length) := by simp [dLen, scr]
theorem dIx_scr {ns : List Int} {i : Nat} (h : i < ns.length) : dIx (scr ns) (.int i) = .ok (.int ns[i]) := by
  have : L2.atI (ns.map PyData.int) (i : Int) = some (.int ns[i]) := by
    rw [atI_nat (by simpa using h)]
    simp
  simp only [dIx, scr, this]
theorem wh_pick {s k m c u : Slot} : ∀ (fuel : Nat) (turn rest : Int), turn < fuel → ∃ turn' rest' : Int, whLoop (tstAnd (t2 (dCmp .Gt) (rdP 4) (kD (.int 0))) (t2 (dCmp .Gt) (rdP 5) (kD (.int 0)))) (fSeq (relS [] (fPar [false, false] [4, 5] (eArgs [(e2 (dBin .FloorDiv) (rdP 4) (kD (.int 840))), (e2 (dBin .Sub) (rdP 5) (kD (.int 1)))])))
    sNil) (fuel + 1) [s, k, m, c, .va (.int rest), .va (.int turn), u] = .ok (.nx [s, k, m, c, .va (.int rest'), .va (.int turn'), u])
  | fuel, turn, rest, h => by
    by_cases h1 : 0 < rest
    · by_cases h2 : 0 < turn
      · match fuel, h with
        | 0, h => exact absurd h (by simp; omega)
        | fuel + 1, h =>
          obtain ⟨t', r', e⟩ := wh_pick (s := s) (k := k) (m := m) (c := c) (u := u) fuel (turn - 1) (rest / 840) (by omega)
          refine ⟨t', r', ?_⟩
          rw [whLoop]
          simp [rdP_succ, h1, h2, dDiv_int (i := rest) (j := 840) (by decide) (by decide), e, setFl]
      · refine ⟨turn, rest, ?_⟩
        rw [whLoop]
        simp [rdP_succ, h1, h2]
    · refine ⟨turn, rest, ?_⟩
      rw [whLoop]
      simp [rdP_succ, h1]
theorem sp_pick (ns : List Int) {k many : Int} (hns : ns.length ≤ 63) (hk : 0 ≤ k) (hk2 : k < 99999) (hm : 0 < many) : ∃ a : Int, 0 ≤ a ∧ a < many ∧ FF_law_pick [scr ns, .int k, .int many] = .ok (.int a) := by
  have e0 : ∃ cell : Int, FF_law_pick_s0 [.va (scr ns), .va (.int k), .va (.int many), .un, .un, .un, .un] = .ok (.nx [.va (scr ns), .va (.int k), .va (.int many), .va (.int cell), .un, .un, .un]) := by
    cases ns with
    | nil => exact ⟨0, by simp [FF_law_pick_s0, dEq_scr]⟩
    | cons n ns =>
      have hl : 0 < ((n :: ns).length : Int) := by simp only [List.length_cons]; omega
      have hmod : k % ((n :: ns).length : Int) = ((k % ((n :: ns).length : Int)).toNat : Int) := (Int.toNat_of_nonneg (Int.emod_nonneg _ (by omega))).symm
      have hlt : (k % ((n :: ns).length : Int)).toNat < (n :: ns).length := by
        have := Int.emod_lt_of_pos k hl
        omega
      generalize hcell : (n :: ns)[(k % ((n :: ns).length : Int)).toNat] = cell
      have hix : dIx (scr (n :: ns)) (.int (k % ((n :: ns).length : Int))) = .ok (.int cell) := by
        rw [hmod, dIx_scr hlt, ← hcell]
      have hml := dMod_int (i := k) hl
      have hnl := dLen_scr (n :: ns)
      generalize hll : ((n :: ns).length : Int) = ll at hml hix hnl
      exact ⟨cell, by simp [FF_law_pick_s0, dEq_scr, hnl, rdP_succ, hml, hix]⟩
  obtain ⟨cell, e0⟩ := e0
  have e1 : ∃ turn : Int, turn ≤ k ∧ FF_law_pick_s1 [.va (scr ns), .va (.int k), .va (.int many), .va (.int cell), .un, .un, .un] = .ok (.nx [.va (scr ns), .va (.int k), .va (.int many), .va (.int cell), .va (.int (cell / 1000000000000000000)), .va (.int turn), .un]) := by
    have hnl := dLen_scr ns
    generalize hl : (if (1 : Int) > (ns.length : Int) then (1 : Int) else (ns.length : Int)) = l
    have hl0 : 0 < l ∧ l < 2 ^ 64 := by
      rw [← hl]
      by_cases h : (1 : Int) > (ns.length : Int)
      · rw [if_pos h]; decide
      · rw [if_neg h]; omega
    have hmx : dMax [.int ns.length, .int 1] = .ok (.int l) := by rw [← hl]; rfl
    refine ⟨k / l, Int.ediv_le_self _ hk, ?_⟩
    simp [FF_law_pick_s1, rdP_succ, hnl, hmx, dPow_18, dDiv_int (i := cell) (j := 1000000000000000000) (by decide) (by decide), dDiv_int (i := k) hl0.1 hl0.2, setFl]
  obtain ⟨turn, ht, e1⟩ := e1
  obtain ⟨turn', rest', hw⟩ := wh_pick (s := .va (scr ns)) (k := .va (.int k)) (m := .va (.int many)) (c := .va (.int cell)) (u := .un) 99999 turn (cell / 1000000000000000000) (by omega)
  have e2 : FF_law_pick_s2 [.va (scr ns), .va (.int k), .va (.int many), .va (.int cell), .va (.int (cell / 1000000000000000000)), .va (.int turn), .un] = .ok (.nx [.va (scr ns), .va (.int k), .va (.int many), .va (.int cell), .va (.int rest'), .va (.int turn'), .un]) := by
    unfold FF_law_pick_s2
    rw [relS_ap, relR_nil]
    exact hw
  by_cases hr : 0 < rest'
  · refine ⟨rest' % 840 % many, Int.emod_nonneg _ (by omega), Int.emod_lt_of_pos _ hm, ?_⟩
    have e3 : FF_law_pick_s3 [.va (scr ns), .va (.int k), .va (.int many), .va (.int cell), .va (.int rest'), .va (.int turn'), .un] = .ok (.rt (.int (rest' % 840 % many))) := by
      simp [FF_law_pick_s3, rdP_succ, hr, dMod_int (i := rest') (j := 840) (by decide), dMod_int hm]
    unfold FF_law_pick
    rw [fRun_ap]
    show FF_law_pick_t0 [.va (scr ns), .va (.int k), .va (.int many), .un, .un, .un, .un] >>= fOut = _
    rw [FF_law_pick_t0, seq_nx e0, FF_law_pick_t1, seq_nx e1, FF_law_pick_t2, seq_nx e2, FF_law_pick_t3, seq_rt e3]
    rfl
  · have e3 : FF_law_pick_s3 [.va (scr ns), .va (.int k), .va (.int many), .va (.int cell), .va (.int rest'), .va (.int turn'), .un] = .ok (.nx [.va (scr ns), .va (.int k), .va (.int many), .va (.int cell), .va (.int rest'), .va (.int turn'), .un]) := by
      simp [FF_law_pick_s3, rdP_succ, hr]
    generalize hd : (cell * 31 + 6151 * (k + 1)) * 40692 % 2147483399 = dr
    have b2 : 0 ≤ dr ∧ dr < 2147483399 := ⟨by rw [← hd]; exact Int.emod_nonneg _ (by decide), by rw [← hd]; exact Int.emod_lt_of_pos _ (by decide)⟩
    have e4 : FF_law_pick_s4 [.va (scr ns), .va (.int k), .va (.int many), .va (.int cell), .va (.int rest'), .va (.int turn'), .un] = .ok (.nx [.va (scr ns), .va (.int k), .va (.int many), .va (.int cell), .va (.int rest'), .va (.int turn'), .va (.int dr)]) := by
      simp [FF_law_pick_s4, rdP_succ, dMul_5, dMul_6, dMul_7, dMod_int (j := 2147483399) (by decide), hd]
    refine ⟨(dr * dr + dr / 31) % 2147483629 % many, Int.emod_nonneg _ (by omega), Int.emod_lt_of_pos _ hm, ?_⟩
    have e5 : FF_law_pick_s5 [.va (scr ns), .va (.int k), .va (.int many), .va (.int cell), .va (.int rest'), .va (.int turn'), .va (.int dr)] = .ok (.rt (.int ((dr * dr + dr / 31) % 2147483629 % many))) := by
      simp [FF_law_pick_s5, rdP_succ, dMul_l (smallI_of b2.1 (by omega)), dDiv_int (j := 31) (by decide) (by decide), dMod_int (j := 2147483629) (by decide), dMod_int hm]
    unfold FF_law_pick
    rw [fRun_ap]
    show FF_law_pick_t0 [.va (scr ns), .va (.int k), .va (.int many), .un, .un, .un, .un] >>= fOut = _
    rw [FF_law_pick_t0, seq_nx e0, FF_law_pick_t1, seq_nx e1, FF_law_pick_t2, seq_nx e2, FF_law_pick_t3, seq_nx e3, FF_law_pick_t4, seq_nx e4, FF_law_pick_t5, seq_rt e5]
    rfl
def pk (ns : List Int) (k many : Int) : Int := match C_law_pick [scr ns, .int k, .int many] with
  | .ok (.int a) => a
  | _ => 0
end DL
namespace Lw
open PySem PySem.Spec PyProof.Rows L2 DL
def top (i : Nat) : Stmt := PySem.Challenge.pw_hullflags_k95_whole_by_hand.main.body.getD i (.Pass ⟨0, 0, 0, 0⟩)
def d_is_whole : DefI := ⟨"is_whole", top 19, ["thing", "least", "most"], ["thing", "least", "most"]⟩
def d_is_name : DefI := ⟨"is_name", top 20, ["thing"], ["thing", "sign"]⟩
def d_is_cell : DefI := ⟨"is_cell", top 21, ["thing"], ["thing", "part"]⟩
def d_is_rising : DefI := ⟨"is_rising", top 22, ["things"], ["things", "one", "other"]⟩
def d_is_islands : DefI := ⟨"is_islands", top 23, ["thing"], ["thing", "cell"]⟩
def d_is_ship : DefI := ⟨"is_ship", top 24, ["last", "islands", "thing"], ["last", "islands", "thing", "course", "cell"]⟩
def d_is_mist : DefI := ⟨"is_mist", top 25, ["last", "thing"], ["last", "thing", "first", "until", "one", "other", "most"]⟩
def d_is_fleet : DefI := ⟨"is_fleet", top 26, ["thing"], ["thing", "last", "islands", "ships", "mists", "ship", "mist"]⟩
def d_look_fleet : DefI := ⟨"look_fleet", top 27, ["thing"], ["thing"]⟩
def d_plain_names : DefI := ⟨"plain_names", top 28, ["fleet"], ["fleet", "ship"]⟩
def d_look_ship : DefI := ⟨"look_ship", top 29, ["fleet", "thing"], ["fleet", "thing"]⟩
def d_look_hour : DefI := ⟨"look_hour", top 30, ["thing", "last"], ["thing", "last"]⟩
def d_is_in : DefI := ⟨"is_in", top 31, ["mist", "cell"], ["mist", "cell", "one", "other"]⟩
def d_is_between : DefI := ⟨"is_between", top 32, ["one", "other", "cell"], ["one", "other", "cell", "is_wide"]⟩
def d_sees_at : DefI := ⟨"sees_at", top 33, ["fleet", "hour", "one", "other"], ["fleet", "hour", "one", "other", "here", "there", "apart", "mist", "cell"]⟩
def d_plain_sightings : DefI := ⟨"plain_sightings", top 34, ["fleet"], ["fleet", "found", "hour", "one", "other"]⟩
def d_spread : DefI := ⟨"spread", top 36, ["rows", "ship", "hour"], ["rows", "ship", "hour", "found", "when", "seer", "seen"]⟩
def d_bounds_for : DefI := ⟨"bounds_for", top 37, ["rows", "goal", "by"], ["rows", "goal", "by", "found", "when", "seer", "seen"]⟩
def d_plain_latest : DefI := ⟨"plain_latest", top 38, ["fleet", "goal", "by"], ["fleet", "goal", "by", "found"]⟩
def d_are_names : DefI := ⟨"are_names", top 40, ["fleet", "thing"], ["fleet", "thing", "name"]⟩
def d_lots_of : DefI := ⟨"lots_of", top 41, ["names"], ["names", "found", "name", "lot"]⟩
def d_look_asked : DefI := ⟨"look_asked", top 43, ["fleet", "ship", "hour", "goal", "by"], ["fleet", "ship", "hour", "goal", "by"]⟩
def d_others_of : DefI := ⟨"others_of", top 44, ["fleet", "ship", "goal"], ["fleet", "ship", "goal", "name"]⟩
def d_clear_of : DefI := ⟨"clear_of", top 45, ["rows", "names"], ["rows", "names", "row"]⟩
def d_comes : DefI := ⟨"comes", top 46, ["rows", "ship", "hour", "goal", "by"], ["rows", "ship", "hour", "goal", "by", "found"]⟩
def d_least_cut : DefI := ⟨"least_cut", top 47, ["fleet", "ship", "hour", "goal", "by"], ["fleet", "ship", "hour", "goal", "by", "rows", "lots", "some", "lot"]⟩
def d_chains_of : DefI := ⟨"chains_of", top 51, ["fleet", "ship", "hour", "goal", "by"], ["fleet", "ship", "hour", "goal", "by", "rows", "made", "line", "chain", "here", "since", "met", "row"]⟩
def d_all_chains : DefI := ⟨"all_chains", top 52, ["fleet", "ship", "hour", "goal", "by"], ["fleet", "ship", "hour", "goal", "by"]⟩
def d_is_clear : DefI := ⟨"is_clear", top 53, ["chain", "names"], ["chain", "names", "row"]⟩
def d_are_readings : DefI := ⟨"are_readings", top 54, ["chains", "thing"], ["chains", "thing", "row", "step", "one", "other"]⟩
def d_values_of : DefI := ⟨"values_of", top 55, ["readings"], ["readings", "chain", "value"]⟩
def d_fits : DefI := ⟨"fits", top 56, ["chains", "readings", "value", "false"], ["chains", "readings", "value", "false", "clear", "chain"]⟩
def d_look_readings : DefI := ⟨"look_readings", top 57, ["fleet", "ship", "hour", "goal", "by", "readings", "most"], ["fleet", "ship", "hour", "goal", "by", "readings", "most", "chains"]⟩
def d_are_false : DefI := ⟨"are_false", top 58, ["others", "thing", "most"], ["others", "thing", "most", "name"]⟩
def d_is_tale : DefI := ⟨"is_tale", top 59, ["fleet", "ship", "hour", "goal", "by", "readings", "most", "thing"], ["fleet", "ship", "hour", "goal", "by", "readings", "most", "thing", "chains"]⟩
def d_tales : DefI := ⟨"tales", top 60, ["fleet", "ship", "hour", "goal", "by", "readings", "most"], ["fleet", "ship", "hour", "goal", "by", "readings", "most", "chains", "lots", "made", "value", "lot"]⟩
def d_stands : DefI := ⟨"stands", top 61, ["fleet", "ship", "hour", "goal", "by", "readings", "most"], ["fleet", "ship", "hour", "goal", "by", "readings", "most", "told", "some", "value", "false"]⟩
def d_surely_false : DefI := ⟨"surely_false", top 62, ["fleet", "ship", "hour", "goal", "by", "readings", "most"], ["fleet", "ship", "hour", "goal", "by", "readings", "most", "told", "others", "name", "value", "false"]⟩
def d_look_most : DefI := ⟨"look_most", top 63, ["fleet", "ship", "hour", "goal", "by", "most"], ["fleet", "ship", "hour", "goal", "by", "most", "chains"]⟩
def d_is_safe : DefI := ⟨"is_safe", top 64, ["fleet", "ship", "hour", "goal", "by", "most"], ["fleet", "ship", "hour", "goal", "by", "most"]⟩
def d_rival : DefI := ⟨"rival", top 65, ["fleet", "ship", "hour", "goal", "by", "most"], ["fleet", "ship", "hour", "goal", "by", "most", "chains", "cut", "one", "other", "readings", "chain", "some", "value"]⟩
def d_is_rival : DefI := ⟨"is_rival", top 66, ["fleet", "ship", "hour", "goal", "by", "most", "thing"], ["fleet", "ship", "hour", "goal", "by", "most", "thing", "chains", "one"]⟩
def d_is_world_of : DefI := ⟨"is_world_of", top 70, ["fleet", "thing"], ["fleet", "thing", "part"]⟩
def d_are_worlds_of : DefI := ⟨"are_worlds_of", top 71, ["fleet", "thing"], ["fleet", "thing", "world"]⟩
def d_look_worlds : DefI := ⟨"look_worlds", top 72, ["fleet", "worlds", "world"], ["fleet", "worlds", "world"]⟩
def d_read_in : DefI := ⟨"read_in", top 73, ["names", "tills", "world"], ["names", "tills", "world", "name", "till"]⟩
def d_when_read : DefI := ⟨"when_read", top 74, ["hour", "till"], ["hour", "till"]⟩
def d_deep : DefI := ⟨"deep", top 75, ["fleet", "thing", "most"], ["fleet", "thing", "most", "some", "below", "part"]⟩
def d_is_hour_of : DefI := ⟨"is_hour_of", top 76, ["fleet", "thing"], ["fleet", "thing"]⟩
def d_is_knower : DefI := ⟨"is_knower", top 77, ["fleet", "thing"], ["fleet", "thing"]⟩
def d_look_sentence : DefI := ⟨"look_sentence", top 78, ["fleet", "sentence", "more"], ["fleet", "sentence", "more"]⟩
def d_holds : DefI := ⟨"holds", top 80, ["fleet", "worlds", "world", "sentence"], ["fleet", "worlds", "world", "sentence"]⟩
def d_first_hour : DefI := ⟨"first_hour", top 82, ["known", "world", "word", "who", "sentence"], ["known", "world", "word", "who", "sentence", "hour"]⟩
def d_knows_from : DefI := ⟨"knows_from", top 83, ["fleet", "worlds", "world", "ship", "sentence"], ["fleet", "worlds", "world", "ship", "sentence"]⟩
def d_look_names : DefI := ⟨"look_names", top 84, ["fleet", "names"], ["fleet", "names"]⟩
def d_look_doubters : DefI := ⟨"look_doubters", top 85, ["fleet", "worlds", "world", "names", "hour", "sentence"], ["fleet", "worlds", "world", "names", "hour", "sentence"]⟩
def d_doubts : DefI := ⟨"doubts", top 86, ["fleet", "worlds", "world", "names", "hour", "sentence"], ["fleet", "worlds", "world", "names", "hour", "sentence", "known", "found", "line", "at", "here", "name", "there"]⟩
def d_law_pick : DefI := ⟨"_law_pick", top 88, ["script", "k", "many"], ["script", "k", "many", "cell", "rest", "turn", "drawn"]⟩
def d_law_three : DefI := ⟨"_law_three", top 89, ["many"], ["many", "names", "ships", "k", "name"]⟩
def d_law_waving : DefI := ⟨"_law_waving", top 90, ["last"], ["last", "one", "other", "islands", "mists", "hour"]⟩
def d_law : DefI := ⟨"law", top 91, ["script"], ["script", "fleet", "chains", "liar", "readings", "pair", "told", "waves", "worlds", "names", "open_worlds", "k", "chain", "link", "hour"]⟩
def m_init : DefI := ⟨"__init__", (clsSts (top 79)).getD 0 (.Pass ⟨0, 0, 0, 0⟩), ["self", "fleet", "worlds"], ["self", "fleet", "worlds"]⟩
def m_lots : DefI := ⟨"lots", (clsSts (top 79)).getD 1 (.Pass ⟨0, 0, 0, 0⟩), ["self", "ship", "hour"], ["self", "ship", "hour", "tills", "looks", "world", "look"]⟩
def m_met : DefI := ⟨"met", (clsSts (top 79)).getD 2 (.Pass ⟨0, 0, 0, 0⟩), ["self", "names", "hour", "world"], ["self", "names", "hour", "world", "found", "line", "here", "name"]⟩
def m_holds : DefI := ⟨"holds", (clsSts (top 79)).getD 3 (.Pass ⟨0, 0, 0, 0⟩), ["self", "world", "sentence"], ["self", "world", "sentence", "some", "names", "name", "there"]⟩
def prg : Prg := ⟨[d_is_whole, d_is_name, d_is_cell, d_is_rising, d_is_islands, d_is_ship, d_is_mist, d_is_fleet, d_look_fleet, d_plain_names, d_look_ship, d_look_hour, d_is_in, d_is_between, d_sees_at, d_plain_sightings, d_spread, d_bounds_for, d_plain_latest, d_are_names, d_lots_of, d_look_asked, d_others_of, d_clear_of, d_comes, d_least_cut, d_chains_of, d_all_chains, d_is_clear, d_are_readings, d_values_of, d_fits, d_look_readings, d_are_false, d_is_tale, d_tales, d_stands, d_surely_false, d_look_most, d_is_safe, d_rival, d_is_rival, d_is_world_of, d_are_worlds_of, d_look_worlds, d_read_in, d_when_read, d_deep, d_is_hour_of, d_is_knower, d_look_sentence, d_holds, d_first_hour, d_knows_from, d_look_names, d_look_doubters, d_doubts, d_law_pick, d_law_three, d_law_waving, d_law], [("MOST_PART", 9), ("MOST_LAST", 7), ("MOST_ISLANDS", 12), ("MOST_SHIPS", 5), ("MOST_MISTS", 4), ("MOST_CHAINS", 150), ("MOST_FALSE", 3), ("MOST_WORLDS", 24), ("MOST_DEEP", 4)], [("SMALL", "abcdefghijklmnopqrstuvwxyz")], ["FleetError", "NoFleet", "NoShip", "NoHour", "NoGoals", "NoWorld", "NoWorlds", "NoSentence", "NoReadings", "NoNumber", "TooGreat"], [m_init, m_lots, m_met, m_holds]⟩
theorem bnd_d_is_whole : BndOk d_is_whole := fun _ _ _ _ _ _ us hl => match us, hl with | [_, _, _], _ => rfl
theorem bnd_d_is_name : BndOk d_is_name := fun _ _ _ _ _ _ us hl => match us, hl with | [_], _ => rfl
theorem bnd_d_is_cell : BndOk d_is_cell := fun _ _ _ _ _ _ us hl => match us, hl with | [_], _ => rfl
theorem bnd_d_is_rising : BndOk d_is_rising := fun _ _ _ _ _ _ us hl => match us, hl with | [_], _ => rfl
theorem bnd_d_is_islands : BndOk d_is_islands := fun _ _ _ _ _ _ us hl => match us, hl with | [_], _ => rfl
theorem bnd_d_is_ship : BndOk d_is_ship := fun _ _ _ _ _ _ us hl => match us, hl with | [_, _, _], _ => rfl
theorem bnd_d_is_mist : BndOk d_is_mist := fun _ _ _ _ _ _ us hl => match us, hl with | [_, _], _ => rfl
theorem bnd_d_is_fleet : BndOk d_is_fleet := fun _ _ _ _ _ _ us hl => match us, hl with | [_], _ => rfl
theorem bnd_d_look_fleet : BndOk d_look_fleet := fun _ _ _ _ _ _ us hl => match us, hl with | [_], _ => rfl
theorem bnd_d_plain_names : BndOk d_plain_names := fun _ _ _ _ _ _ us hl => match us, hl with | [_], _ => rfl
theorem bnd_d_look_ship : BndOk d_look_ship := fun _ _ _ _ _ _ us hl => match us, hl with | [_, _], _ => rfl
theorem bnd_d_look_hour : BndOk d_look_hour := fun _ _ _ _ _ _ us hl => match us, hl with | [_, _], _ => rfl
theorem bnd_d_is_in : BndOk d_is_in := fun _ _ _ _ _ _ us hl => match us, hl with | [_, _], _ => rfl
theorem bnd_d_is_between : BndOk d_is_between := fun _ _ _ _ _ _ us hl => match us, hl with | [_, _, _], _ => rfl
theorem bnd_d_sees_at : BndOk d_sees_at := fun _ _ _ _ _ _ us hl => match us, hl with | [_, _, _, _], _ => rfl
theorem bnd_d_plain_sightings : BndOk d_plain_sightings := fun _ _ _ _ _ _ us hl => match us, hl with | [_], _ => rfl
theorem bnd_d_spread : BndOk d_spread := fun _ _ _ _ _ _ us hl => match us, hl with | [_, _, _], _ => rfl
theorem bnd_d_bounds_for : BndOk d_bounds_for := fun _ _ _ _ _ _ us hl => match us, hl with | [_, _, _], _ => rfl
theorem bnd_d_plain_latest : BndOk d_plain_latest := fun _ _ _ _ _ _ us hl => match us, hl with | [_, _, _], _ => rfl
theorem bnd_d_are_names : BndOk d_are_names := fun _ _ _ _ _ _ us hl => match us, hl with | [_, _], _ => rfl
theorem bnd_d_lots_of : BndOk d_lots_of := fun _ _ _ _ _ _ us hl => match us, hl with | [_], _ => rfl
theorem bnd_d_look_asked : BndOk d_look_asked := fun _ _ _ _ _ _ us hl => match us, hl with | [_, _, _, _, _], _ => rfl
theorem bnd_d_others_of : BndOk d_others_of := fun _ _ _ _ _ _ us hl => match us, hl with | [_, _, _], _ => rfl
theorem bnd_d_clear_of : BndOk d_clear_of := fun _ _ _ _ _ _ us hl => match us, hl with | [_, _], _ => rfl
theorem bnd_d_comes : BndOk d_comes := fun _ _ _ _ _ _ us hl => match us, hl with | [_, _, _, _, _], _ => rfl
theorem bnd_d_least_cut : BndOk d_least_cut := fun _ _ _ _ _ _ us hl => match us, hl with | [_, _, _, _, _], _ => rfl
theorem bnd_d_chains_of : BndOk d_chains_of := fun _ _ _ _ _ _ us hl => match us, hl with | [_, _, _, _, _], _ => rfl
theorem bnd_d_all_chains : BndOk d_all_chains := fun _ _ _ _ _ _ us hl => match us, hl with | [_, _, _, _, _], _ => rfl
theorem bnd_d_is_clear : BndOk d_is_clear := fun _ _ _ _ _ _ us hl => match us, hl with | [_, _], _ => rfl
theorem bnd_d_are_readings : BndOk d_are_readings := fun _ _ _ _ _ _ us hl => match us, hl with | [_, _], _ => rfl
theorem bnd_d_values_of : BndOk d_values_of := fun _ _ _ _ _ _ us hl => match us, hl with | [_], _ => rfl
theorem bnd_d_fits : BndOk d_fits := fun _ _ _ _ _ _ us hl => match us, hl with | [_, _, _, _], _ => rfl
theorem bnd_d_look_readings : BndOk d_look_readings := fun _ _ _ _ _ _ us hl => match us, hl with | [_, _, _, _, _, _, _], _ => rfl
theorem bnd_d_are_false : BndOk d_are_false := fun _ _ _ _ _ _ us hl => match us, hl with | [_, _, _], _ => rfl
theorem bnd_d_is_tale : BndOk d_is_tale := fun _ _ _ _ _ _ us hl => match us, hl with | [_, _, _, _, _, _, _, _], _ => rfl
theorem bnd_d_tales : BndOk d_tales := fun _ _ _ _ _ _ us hl => match us, hl with | [_, _, _, _, _, _, _], _ => rfl
theorem bnd_d_stands : BndOk d_stands := fun _ _ _ _ _ _ us hl => match us, hl with | [_, _, _, _, _, _, _], _ => rfl
theorem bnd_d_surely_false : BndOk d_surely_false := fun _ _ _ _ _ _ us hl => match us, hl with | [_, _, _, _, _, _, _], _ => rfl
theorem bnd_d_look_most : BndOk d_look_most := fun _ _ _ _ _ _ us hl => match us, hl with | [_, _, _, _, _, _], _ => rfl
theorem bnd_d_is_safe : BndOk d_is_safe := fun _ _ _ _ _ _ us hl => match us, hl with | [_, _, _, _, _, _], _ => rfl
theorem bnd_d_rival : BndOk d_rival := fun _ _ _ _ _ _ us hl => match us, hl with | [_, _, _, _, _, _], _ => rfl
theorem bnd_d_is_rival : BndOk d_is_rival := fun _ _ _ _ _ _ us hl => match us, hl with | [_, _, _, _, _, _, _], _ => rfl
theorem bnd_d_is_world_of : BndOk d_is_world_of := fun _ _ _ _ _ _ us hl => match us, hl with | [_, _], _ => rfl
theorem bnd_d_are_worlds_of : BndOk d_are_worlds_of := fun _ _ _ _ _ _ us hl => match us, hl with | [_, _], _ => rfl
theorem bnd_d_look_worlds : BndOk d_look_worlds := fun _ _ _ _ _ _ us hl => match us, hl with | [_, _, _], _ => rfl
theorem bnd_d_read_in : BndOk d_read_in := fun _ _ _ _ _ _ us hl => match us, hl with | [_, _, _], _ => rfl
theorem bnd_d_when_read : BndOk d_when_read := fun _ _ _ _ _ _ us hl => match us, hl with | [_, _], _ => rfl
theorem bnd_d_deep : BndOk d_deep := fun _ _ _ _ _ _ us hl => match us, hl with | [_, _, _], _ => rfl
theorem bnd_d_is_hour_of : BndOk d_is_hour_of := fun _ _ _ _ _ _ us hl => match us, hl with | [_, _], _ => rfl
theorem bnd_d_is_knower : BndOk d_is_knower := fun _ _ _ _ _ _ us hl => match us, hl with | [_, _], _ => rfl
theorem bnd_d_look_sentence : BndOk d_look_sentence := fun _ _ _ _ _ _ us hl => match us, hl with | [_, _, _], _ => rfl
theorem bnd_d_holds : BndOk d_holds := fun _ _ _ _ _ _ us hl => match us, hl with | [_, _, _, _], _ => rfl
theorem bnd_d_first_hour : BndOk d_first_hour := fun _ _ _ _ _ _ us hl => match us, hl with | [_, _, _, _, _], _ => rfl
theorem bnd_d_knows_from : BndOk d_knows_from := fun _ _ _ _ _ _ us hl => match us, hl with | [_, _, _, _, _], _ => rfl
theorem bnd_d_look_names : BndOk d_look_names := fun _ _ _ _ _ _ us hl => match us, hl with | [_, _], _ => rfl
theorem bnd_d_look_doubters : BndOk d_look_doubters := fun _ _ _ _ _ _ us hl => match us, hl with | [_, _, _, _, _, _], _ => rfl
theorem bnd_d_doubts : BndOk d_doubts := fun _ _ _ _ _ _ us hl => match us, hl with | [_, _, _, _, _, _], _ => rfl
theorem bnd_d_law_pick : BndOk d_law_pick := fun _ _ _ _ _ _ us hl => match us, hl with | [_, _, _], _ => rfl
theorem bnd_d_law_three : BndOk d_law_three := fun _ _ _ _ _ _ us hl => match us, hl with | [_], _ => rfl
theorem bnd_d_law_waving : BndOk d_law_waving := fun _ _ _ _ _ _ us hl => match us, hl with | [_], _ => rfl
theorem bnd_d_law : BndOk d_law := fun _ _ _ _ _ _ us hl => match us, hl with | [_], _ => rfl
theorem bnd_all : ∀ d ∈ prg.defs, BndOk d := by
  intro d hd
  simp only [prg, List.mem_cons, List.not_mem_nil, or_false] at hd
  rcases hd with rfl | rfl | rfl | rfl | rfl | rfl | rfl | rfl | rfl | rfl | rfl | rfl | rfl | rfl | rfl | rfl | rfl | rfl | rfl | rfl | rfl | rfl | rfl | rfl | rfl | rfl | rfl | rfl | rfl | rfl | rfl | rfl | rfl | rfl | rfl | rfl | rfl | rfl | rfl | rfl | rfl | rfl | rfl | rfl | rfl | rfl | rfl | rfl | rfl | rfl | rfl | rfl | rfl | rfl | rfl | rfl | rfl | rfl | rfl | rfl | rfl
  · exact bnd_d_is_whole
  · exact bnd_d_is_name
  · exact bnd_d_is_cell
  · exact bnd_d_is_rising
  · exact bnd_d_is_islands
  · exact bnd_d_is_ship
  · exact bnd_d_is_mist
  · exact bnd_d_is_fleet
  · exact bnd_d_look_fleet
  · exact bnd_d_plain_names
  · exact bnd_d_look_ship
  · exact bnd_d_look_hour
  · exact bnd_d_is_in
  · exact bnd_d_is_between
  · exact bnd_d_sees_at
  · exact bnd_d_plain_sightings
  · exact bnd_d_spread
  · exact bnd_d_bounds_for
  · exact bnd_d_plain_latest
  · exact bnd_d_are_names
  · exact bnd_d_lots_of
  · exact bnd_d_look_asked
  · exact bnd_d_others_of
  · exact bnd_d_clear_of
  · exact bnd_d_comes
  · exact bnd_d_least_cut
  · exact bnd_d_chains_of
  · exact bnd_d_all_chains
  · exact bnd_d_is_clear
  · exact bnd_d_are_readings
  · exact bnd_d_values_of
  · exact bnd_d_fits
  · exact bnd_d_look_readings
  · exact bnd_d_are_false
  · exact bnd_d_is_tale
  · exact bnd_d_tales
  · exact bnd_d_stands
  · exact bnd_d_surely_false
  · exact bnd_d_look_most
  · exact bnd_d_is_safe
  · exact bnd_d_rival
  · exact bnd_d_is_rival
  · exact bnd_d_is_world_of
  · exact bnd_d_are_worlds_of
  · exact bnd_d_look_worlds
  · exact bnd_d_read_in
  · exact bnd_d_when_read
  · exact bnd_d_deep
  · exact bnd_d_is_hour_of
  · exact bnd_d_is_knower
  · exact bnd_d_look_sentence
  · exact bnd_d_holds
  · exact bnd_d_first_hour
  · exact bnd_d_knows_from
  · exact bnd_d_look_names
  · exact bnd_d_look_doubters
  · exact bnd_d_doubts
  · exact bnd_d_law_pick
  · exact bnd_d_law_three
  · exact bnd_d_law_waving
  · exact bnd_d_law
theorem bnd_m_init : BndOkM m_init := fun _ _ _ _ _ _ us hl => match us, hl with | [_, _, _], _ => rfl
theorem bnd_m_lots : BndOkM m_lots := fun _ _ _ _ _ _ us hl => match us, hl with | [_, _, _], _ => rfl
theorem bnd_m_met : BndOkM m_met := fun _ _ _ _ _ _ us hl => match us, hl with | [_, _, _, _], _ => rfl
theorem bnd_m_holds : BndOkM m_holds := fun _ _ _ _ _ _ us hl => match us, hl with | [_, _, _], _ => rfl
theorem bnd_mths : ∀ d ∈ prg.mths, BndOkM d := by
  intro d hd
  simp only [prg, List.mem_cons, List.not_mem_nil, or_false] at hd
  rcases hd with rfl | rfl | rfl | rfl
  · exact bnd_m_init
  · exact bnd_m_lots
  · exact bnd_m_met
  · exact bnd_m_holds
theorem kn_ok : prg.knB = true := by decide +kernel
theorem sc_all : prg.defs.all scB = true := by decide +kernel
end Lw
namespace LwT
open PySem PySem.Spec PyProof.Rows L2 DL Lw
abbrev R : PySem.W.OpenRow := PySem.W.OpenLaw.row PySem.Challenge.rw_hullflags_k95_whole_by_hand
abbrev hk : PySem.W.Hook := DL.hookX 4 prg.xB prg.fa prg.fn
def ob (s : PySem.W.SharedT) : Bool × He.AlD := DL.obsXG 4 prg.xB prg.fa prg.fn (HandSHeadRun.getT s)
theorem ob_eq (s : PySem.W.SharedT) : ob s = hk.obs s.abs := DL.obsXG_eq (HandSHeadRun.getT_eq s)
def loose : List PySem.Str := (["FleetError", "NoFleet", "NoShip", "NoHour", "NoGoals", "NoWorld", "NoWorlds", "NoSentence", "NoReadings", "NoNumber", "TooGreat", "SMALL", "MOST_PART", "MOST_LAST", "MOST_ISLANDS", "MOST_SHIPS", "MOST_MISTS", "is_whole", "is_name", "is_cell", "is_rising", "is_islands", "is_ship", "is_mist", "is_fleet", "look_fleet", "plain_names", "look_ship", "look_hour", "is_in"] : List PySem.Str) ++ (["is_between", "sees_at", "plain_sightings", "spread", "bounds_for", "plain_latest", "are_names", "lots_of", "look_asked", "others_of", "clear_of", "comes", "least_cut", "MOST_CHAINS", "MOST_FALSE", "chains_of", "all_chains", "is_clear", "are_readings", "values_of", "fits", "look_readings", "are_false", "is_tale", "tales", "stands", "surely_false", "look_most", "is_safe", "rival"] : List PySem.Str) ++ (["is_rival", "MOST_WORLDS", "MOST_DEEP", "is_world_of", "are_worlds_of", "look_worlds", "read_in", "when_read", "deep", "is_hour_of", "is_knower", "look_sentence", "Known", "holds", "first_hour", "knows_from", "look_names", "look_doubters", "doubts", "_law_pick", "_law_three", "_law_waving"] : List PySem.Str)
theorem six_runs {α β γ : Type} {o : Option α} {f1 : α → β} {f2 : α → γ} {K : α → PySem.W.Frag} {xB : PySem.W.Frag → Bool} {fa : List He.Fa} {fn : List He.DefD} {b : β} {c : γ} (h1 : o.map (fun s => f1 s) = some b) (h2 : o.map (fun s => f2 s) = some c) (h3 : o.map (fun s => xB (K s)) = some true)
    (h4 : o.map (fun s => fa.all fun f => f.ok (K s)) = some true) (h5 : o.map (fun s => fn.all fun d => d.ok (K s)) = some true) (h6 : o.map (fun s => fn.map fun d => He.fnW (K s) d.at_) = some (fn.map He.DefD.val)) :
    o.map (fun s => (f1 s, f2 s, (xB (K s), He.obsD fa fn (K s)))) = some (b, c, (true, He.valD fn)) := by
  cases o with
  | none => cases h1
  | some s =>
    simp only [Option.map_some, Option.some.injEq] at h1 h2 h3 h4 h5 h6 ⊢
    unfold He.obsD He.valD
    rw [h1, h2, h3, h4, h5, h6]
    rfl
open PySem.W PySem.Calls HandSHeadRun in
theorem run1 (w : World) (os : OsState) : (HandSHeadRun.endF (HandSHeadRun.stepQ (HandSHeadRun.denQ HandSHeadRun.tabQ) R.prog w) 12000 R.prog w os).map (fun s => HandSHeadRun.looksF R.prog (boot_heap w.params) s.abs) = some (true) := by kernel_rfl
open PySem.W PySem.Calls HandSHeadRun in
theorem run2 (w : World) (os : OsState) : (HandSHeadRun.endF (HandSHeadRun.stepQ (HandSHeadRun.denQ HandSHeadRun.tabQ) R.prog w) 12000 R.prog w os).map (fun s => HandSHeadRun.seenQ (PySem.W.view R.prog [91]) loose (importedModules R.prog.main.body) (fun s => PySem.W.xlAt (PySem.W.view R.prog [91]) [] s && PySem.W.recOk R.toRowW.records s) s.abs) = some (PySem.W.openGood (PySem.W.view R.prog [91]) loose) := by kernel_rfl
open PySem.W PySem.Calls HandSHeadRun in
theorem run3 (w : World) (os : OsState) : (HandSHeadRun.endF (HandSHeadRun.stepQ (HandSHeadRun.denQ HandSHeadRun.tabQ) R.prog w) 12000 R.prog w os).map (fun s => prg.xB (He.frG (HandSHeadRun.getT s) (He.asD (HandSHeadRun.getT s) 4))) = some (true) := by kernel_rfl
open PySem.W PySem.Calls HandSHeadRun in
theorem run4 (w : World) (os : OsState) : (HandSHeadRun.endF (HandSHeadRun.stepQ (HandSHeadRun.denQ HandSHeadRun.tabQ) R.prog w) 12000 R.prog w os).map (fun s => prg.fa.all fun f => f.ok (He.frG (HandSHeadRun.getT s) (He.asD (HandSHeadRun.getT s) 4))) = some (true) := by kernel_rfl
open PySem.W PySem.Calls HandSHeadRun in
theorem run5 (w : World) (os : OsState) : (HandSHeadRun.endF (HandSHeadRun.stepQ (HandSHeadRun.denQ HandSHeadRun.tabQ) R.prog w) 12000 R.prog w os).map (fun s => prg.fn.all fun d => d.ok (He.frG (HandSHeadRun.getT s) (He.asD (HandSHeadRun.getT s) 4))) = some (true) := by kernel_rfl
open PySem.W PySem.Calls HandSHeadRun in
theorem run6 (w : World) (os : OsState) : (HandSHeadRun.endF (HandSHeadRun.stepQ (HandSHeadRun.denQ HandSHeadRun.tabQ) R.prog w) 12000 R.prog w os).map (fun s => prg.fn.map fun d => He.fnW (He.frG (HandSHeadRun.getT s) (He.asD (HandSHeadRun.getT s) 4)) d.at_) = some (prg.fn.map He.DefD.val) := by kernel_rfl
theorem run (w : World) : HandSHeadRun.RunEq R (PySem.W.view R.prog [91]) hk ob 12000 loose w := fun os => six_runs (xB := prg.xB) (K := fun s => (He.frG (HandSHeadRun.getT s) (He.asD (HandSHeadRun.getT s) 4))) (run1 w os) (run2 w os) (run3 w os) (run4 w os) (run5 w os) (run6 w os)
end LwT
namespace Lw
open PySem PySem.Spec PyProof.Rows L2 DL
def FF_law_three : List D → R D := fRun 5 (fSeq (relS [] (fPar [false, true] [1, 2] (eArgs [(eSl (eLst [(kD (.str "oa")), (kD (.str "ob")), (kD (.str "oc"))]) pN (pS (rdP 0))), (eLst [])])))
  (fSeq (relS [1] (fFor (iB dEnum [(rdE 1)]) (.many [3, 4]) (fSeq (relS [4] (fApp 2 (eTup [(rdE 4), (kD (.int 2)), (eTup [(e2 dIx (eTup [(eTup [(kD (.int 0)), (kD (.int 0))]), (eTup [(kD (.int 4)), (kD (.int 0))]), (eTup [(kD (.int 0)), (kD (.int 4))])]) (rdP 3)), (eTup [(kD (.int 7)), (e2 (dBin .Mult) (kD (.int 4)) (rdP 3))]), (eTup [(kD (.int 7)), (e2 (dBin .Mult) (kD (.int 4)) (rdP 3))])])])))
    sNil)))
  (fSeq (relS [] (fApp 2 (eTup [(kD (.str "goal")), (kD (.int 5)), (eTup [(eTup [(kD (.int 9)), (kD (.int 4))]), (eTup [(kD (.int 9)), (kD (.int 4))]), (eTup [(kD (.int 9)), (kD (.int 4))])])])))
  (fSeq (relS [] (fApp 2 (eTup [(kD (.str "sun")), (kD (.int 0)), (eTup [(eTup [(kD (.int 2)), (kD (.int 2))]), (eTup [(kD (.int 2)), (kD (.int 2))]), (eTup [(kD (.int 2)), (kD (.int 2))])])])))
  (fSeq (relS [] (sRet (eTup [(kD (.int 2)), (eTup []), (eB dTuple [(eB dSorted [(rdP 2)])]), (eTup [])])))
  sNil)))))
def FF_law_waving : List D → R D := fRun 6 (fSeq (relS [] (sSet 1 (eB dTuple [(e2 (dBin .Mult) (eLst [(eTup [(kD (.int 0)), (kD (.int 0))])]) (e2 (dBin .Add) (rdP 0) (kD (.int 1))))])))
  (fSeq (relS [] (sSet 2 (eB dTuple [(e2 (dBin .Mult) (eLst [(eTup [(kD (.int 1)), (kD (.int 0))])]) (e2 (dBin .Add) (rdP 0) (kD (.int 1))))])))
  (fSeq (relS [] (sSet 3 (eTup [])))
  (fSeq (relS [5, 5] (sSet 4 (eB dTuple [(eSl (fLc (iB dRng3 [(kD (.int 1)), (e2 (dBin .Add) (rdP 0) (kD (.int 1))), (kD (.int 2))]) (.one 5) (kT true) (eTup [(rdE 5), (rdE 5), (eTup [(kD (.int 0)), (kD (.int 0))]), (eTup [(kD (.int 0)), (kD (.int 0))]), (kD (.int 0))]) [5]) pN (pS (kD (.int 4))))])))
  (fSeq (relS [0, 3, 1, 2, 4] (sRet (eTup [(rdE 0), (rdE 3), (eTup [(eTup [(kD (.str "one")), (kD (.int 1)), (rdE 1)]), (eTup [(kD (.str "two")), (kD (.int 1)), (rdE 2)])]), (rdE 4)])))
  sNil)))))
def FF_law (f_law_three : List D → R D) (f_all_chains : List D → R D) (f_is_safe : List D → R D) (f_law_pick : List D → R D) (f_stands : List D → R D) (f_surely_false : List D → R D) (f_least_cut : List D → R D) (f_rival : List D → R D) (f_is_rival : List D → R D) (f_law_waving : List D → R D) (f_holds : List D → R D) (f_knows_from : List D → R D) (f_doubts : List D → R D) : List D → R D := fRun 15 (fSeq (relS [] (sSet 1 (eC 1 f_law_three [(kD (.int 3))])))
  (fSeq (relS [1] (sSet 2 (eC 5 f_all_chains [(rdE 1), (kD (.str "sun")), (kD (.int 0)), (kD (.str "goal")), (kD (.int 2))])))
  (fSeq (relS [12, 2] (fIfS (t2 (dCmp .NotEq) (fLc (i1 dItems (rdE 2)) (.one 12) (kT true) (fLc (i1 dItems (rdE 12)) (.one 13) (kT true) (e2 dIx (rdP 13) (kD (.int 1))) [13]) [12]) (eLst [(eLst [(kD (.str "oa")), (kD (.str "goal"))]), (eLst [(kD (.str "ob")), (kD (.str "goal"))]), (eLst [(kD (.str "oc")), (kD (.str "goal"))])])) (fSeq (relS [] (sRet (kD (.bool false))))
    sNil) sNil))
  (fSeq (relS [1, 1] (fIfS (tstOr (tstNot (t1 dTru (eC 6 f_is_safe [(rdE 1), (kD (.str "sun")), (kD (.int 0)), (kD (.str "goal")), (kD (.int 2)), (kD (.int 1))]))) (t1 dTru (eC 6 f_is_safe [(rdE 1), (kD (.str "sun")), (kD (.int 0)), (kD (.str "goal")), (kD (.int 2)), (kD (.int 2))]))) (fSeq (relS [] (sRet (kD (.bool false))))
    sNil) sNil))
  (fSeq (relS [0] (sSet 3 (eC 3 f_law_pick [(rdE 0), (kD (.int 0)), (kD (.int 3))])))
  (fSeq (relS [12, 2] (sOwn 4 (fLc (iB dEnum [(rdE 2)]) (.many [11, 12]) (kT true) (eTup [(rdE 12), (fIf (t2 (dCmp .Eq) (rdP 11) (rdP 3)) (kD (.str "lie")) (kD (.str "so")))]) [11, 12])))
  (fSeq (relS [1, 4] (fIfS (t2 (dCmp .NotEq) (eC 7 f_stands [(rdE 1), (kD (.str "sun")), (kD (.int 0)), (kD (.str "goal")), (kD (.int 2)), (rdE 4), (kD (.int 1))]) (kD (.str "so"))) (fSeq (relS [] (sRet (kD (.bool false))))
    sNil) sNil))
  (fSeq (relS [1, 4] (fIfS (t2 (dCmp .NotEq) (eC 7 f_surely_false [(rdE 1), (kD (.str "sun")), (kD (.int 0)), (kD (.str "goal")), (kD (.int 2)), (rdE 4), (kD (.int 1))]) (eLst [(e2 dIx (eLst [(kD (.str "oa")), (kD (.str "ob")), (kD (.str "oc"))]) (rdP 3))])) (fSeq (relS [] (sRet (kD (.bool false))))
    sNil) sNil))
  (fSeq (relS [1, 4] (fIfS (t2 (dCmp .IsNot) (eC 7 f_stands [(rdE 1), (kD (.str "sun")), (kD (.int 0)), (kD (.str "goal")), (kD (.int 2)), (rdE 4), (kD (.int 2))]) (kD .none)) (fSeq (relS [] (sRet (kD (.bool false))))
    sNil) sNil))
  (fSeq (relS [1] (fIfS (t2 (dCmp .NotEq) (eC 5 f_least_cut [(rdE 1), (kD (.str "sun")), (kD (.int 0)), (kD (.str "goal")), (kD (.int 2))]) (eTup [(kD (.str "oa")), (kD (.str "ob")), (kD (.str "oc"))])) (fSeq (relS [] (sRet (kD (.bool false))))
    sNil) sNil))
  (fSeq (relS [] (sSet 5 (eC 1 f_law_three [(kD (.int 2))])))
  (fSeq (relS [5] (sSet 6 (eC 6 f_rival [(rdE 5), (kD (.str "sun")), (kD (.int 0)), (kD (.str "goal")), (kD (.int 2)), (kD (.int 1))])))
  (fSeq (relS [5, 5, 6] (fIfS (tstOr (t1 dTru (eC 6 f_is_safe [(rdE 5), (kD (.str "sun")), (kD (.int 0)), (kD (.str "goal")), (kD (.int 2)), (kD (.int 1))])) (tstNot (t1 dTru (eC 7 f_is_rival [(rdE 5), (kD (.str "sun")), (kD (.int 0)), (kD (.str "goal")), (kD (.int 2)), (kD (.int 1)), (rdE 6)])))) (fSeq (relS [] (sRet (kD (.bool false))))
    sNil) sNil))
  (fSeq (relS [] (sSet 7 (eC 1 f_law_waving [(kD (.int 4))])))
  (fSeq (relS [] (fPar [false, false] [8, 9] (eArgs [(eTup [(eTup [(kD (.int 0)), (kD (.int 5))]), (eTup [(kD (.int 5)), (kD (.int 5))])]), (eTup [(kD (.str "one")), (kD (.str "two"))])])))
  (fSeq (relS [7, 8, 9] (fIfS (tstNot (t1 dTru (eC 4 f_holds [(rdE 7), (rdE 8), (eTup [(kD (.int 0)), (kD (.int 5))]), (eTup [(kD (.str "common")), (rdE 9), (kD (.int 1)), (eTup [(kD (.str "by")), (kD (.str "one")), (kD (.int 0))])])]))) (fSeq (relS [] (sRet (kD (.bool false))))
    sNil) sNil))
  (fSeq (relS [14] (sSet 10 (eB dTuple [(eB dSorted [(fLc (iB dRng1 [(kD (.int 6))]) (.one 14) (kT true) (eTup [(rdE 14), (kD (.int 5))]) [14])])])))
  (fSeq (relS [7, 10] (fIfS (t2 (dCmp .NotEq) (eC 5 f_knows_from [(rdE 7), (rdE 10), (eTup [(kD (.int 2)), (kD (.int 5))]), (kD (.str "two")), (eTup [(kD (.str "by")), (kD (.str "one")), (kD (.int 2))])]) (kD (.int 3))) (fSeq (relS [] (sRet (kD (.bool false))))
    sNil) sNil))
  (fSeq (relS [7, 10, 9] (sRet (e2 (bCmp .Eq) (eC 6 f_doubts [(rdE 7), (rdE 10), (eTup [(kD (.int 2)), (kD (.int 5))]), (rdE 9), (kD (.int 2)), (eTup [(kD (.str "by")), (kD (.str "one")), (kD (.int 2))])]) (eLst [(eTup [(kD (.str "two")), (eTup [(kD (.int 3)), (kD (.int 5))])])]))))
  sNil)))))))))))))))))))
def C_law_three_s0 : DL.Env → R Out := (relS [] (fPar [false, true] [1, 2] (eArgs [(eSl (eLst [(kD (.str "oa")), (kD (.str "ob")), (kD (.str "oc"))]) pN (pS (rdP 0))), (eLst [])])))
def C_law_three_s1b_s0 : DL.Env → R Out := (relS [4] (fApp 2 (eTup [(rdE 4), (kD (.int 2)), (eTup [(e2 dIx (eTup [(eTup [(kD (.int 0)), (kD (.int 0))]), (eTup [(kD (.int 4)), (kD (.int 0))]), (eTup [(kD (.int 0)), (kD (.int 4))])]) (rdP 3)), (eTup [(kD (.int 7)), (e2 (dBin .Mult) (kD (.int 4)) (rdP 3))]), (eTup [(kD (.int 7)), (e2 (dBin .Mult) (kD (.int 4)) (rdP 3))])])])))
def C_law_three_s1b_t0 : DL.Env → R Out := fSeq (C_law_three_s1b_s0) sNil
def C_law_three_s1 : DL.Env → R Out := (relS [1] (fFor (iB dEnum [(rdE 1)]) (.many [3, 4]) (C_law_three_s1b_t0)))
def C_law_three_s2 : DL.Env → R Out := (relS [] (fApp 2 (eTup [(kD (.str "goal")), (kD (.int 5)), (eTup [(eTup [(kD (.int 9)), (kD (.int 4))]), (eTup [(kD (.int 9)), (kD (.int 4))]), (eTup [(kD (.int 9)), (kD (.int 4))])])])))
def C_law_three_s3 : DL.Env → R Out := (relS [] (fApp 2 (eTup [(kD (.str "sun")), (kD (.int 0)), (eTup [(eTup [(kD (.int 2)), (kD (.int 2))]), (eTup [(kD (.int 2)), (kD (.int 2))]), (eTup [(kD (.int 2)), (kD (.int 2))])])])))
def C_law_three_s4 : DL.Env → R Out := (relS [] (sRet (eTup [(kD (.int 2)), (eTup []), (eB dTuple [(eB dSorted [(rdP 2)])]), (eTup [])])))
def C_law_three_t4 : DL.Env → R Out := fSeq (C_law_three_s4) sNil
def C_law_three_t3 : DL.Env → R Out := fSeq (C_law_three_s3) (C_law_three_t4)
def C_law_three_t2 : DL.Env → R Out := fSeq (C_law_three_s2) (C_law_three_t3)
def C_law_three_t1 : DL.Env → R Out := fSeq (C_law_three_s1) (C_law_three_t2)
def C_law_three_t0 : DL.Env → R Out := fSeq (C_law_three_s0) (C_law_three_t1)
def C_law_three : List D → R D := fRun 5 (C_law_three_t0)
theorem cf_law_three : FF_law_three = C_law_three := by kernel_rfl
def C_law_waving_s0 : DL.Env → R Out := (relS [] (sSet 1 (eB dTuple [(e2 (dBin .Mult) (eLst [(eTup [(kD (.int 0)), (kD (.int 0))])]) (e2 (dBin .Add) (rdP 0) (kD (.int 1))))])))
def C_law_waving_s1 : DL.Env → R Out := (relS [] (sSet 2 (eB dTuple [(e2 (dBin .Mult) (eLst [(eTup [(kD (.int 1)), (kD (.int 0))])]) (e2 (dBin .Add) (rdP 0) (kD (.int 1))))])))
def C_law_waving_s2 : DL.Env → R Out := (relS [] (sSet 3 (eTup [])))
def C_law_waving_s3 : DL.Env → R Out := (relS [5, 5] (sSet 4 (eB dTuple [(eSl (fLc (iB dRng3 [(kD (.int 1)), (e2 (dBin .Add) (rdP 0) (kD (.int 1))), (kD (.int 2))]) (.one 5) (kT true) (eTup [(rdE 5), (rdE 5), (eTup [(kD (.int 0)), (kD (.int 0))]), (eTup [(kD (.int 0)), (kD (.int 0))]), (kD (.int 0))]) [5]) pN (pS (kD (.int 4))))])))
def C_law_waving_s4 : DL.Env → R Out := (relS [0, 3, 1, 2, 4] (sRet (eTup [(rdE 0), (rdE 3), (eTup [(eTup [(kD (.str "one")), (kD (.int 1)), (rdE 1)]), (eTup [(kD (.str "two")), (kD (.int 1)), (rdE 2)])]), (rdE 4)])))
def C_law_waving_t4 : DL.Env → R Out := fSeq (C_law_waving_s4) sNil
def C_law_waving_t3 : DL.Env → R Out := fSeq (C_law_waving_s3) (C_law_waving_t4)
def C_law_waving_t2 : DL.Env → R Out := fSeq (C_law_waving_s2) (C_law_waving_t3)
def C_law_waving_t1 : DL.Env → R Out := fSeq (C_law_waving_s1) (C_law_waving_t2)
def C_law_waving_t0 : DL.Env → R Out := fSeq (C_law_waving_s0) (C_law_waving_t1)
def C_law_waving : List D → R D := fRun 6 (C_law_waving_t0)
theorem cf_law_waving : FF_law_waving = C_law_waving := by kernel_rfl
def C_law_s0 (f_holds : List D → R D) (f_knows_from : List D → R D) (f_doubts : List D → R D) : DL.Env → R Out := (relS [] (sSet 1 (eC 1 C_law_three [(kD (.int 3))])))
def C_law_s1 (f_holds : List D → R D) (f_knows_from : List D → R D) (f_doubts : List D → R D) : DL.Env → R Out := (relS [1] (sSet 2 (eC 5 C_all_chains [(rdE 1), (kD (.str "sun")), (kD (.int 0)), (kD (.str "goal")), (kD (.int 2))])))
def C_law_s2 (f_holds : List D → R D) (f_knows_from : List D → R D) (f_doubts : List D → R D) : DL.Env → R Out := (relS [12, 2] (fIfS (t2 (dCmp .NotEq) (fLc (i1 dItems (rdE 2)) (.one 12) (kT true) (fLc (i1 dItems (rdE 12)) (.one 13) (kT true) (e2 dIx (rdP 13) (kD (.int 1))) [13]) [12]) (eLst [(eLst [(kD (.str "oa")), (kD (.str "goal"))]), (eLst [(kD (.str "ob")), (kD (.str "goal"))]), (eLst [(kD (.str "oc")), (kD (.str "goal"))])])) (fSeq (relS [] (sRet (kD (.bool false)))) sNil) sNil))
def C_law_s3 (f_holds : List D → R D) (f_knows_from : List D → R D) (f_doubts : List D → R D) : DL.Env → R Out := (relS [1, 1] (fIfS (tstOr (tstNot (t1 dTru (eC 6 C_is_safe [(rdE 1), (kD (.str "sun")), (kD (.int 0)), (kD (.str "goal")), (kD (.int 2)), (kD (.int 1))]))) (t1 dTru (eC 6 C_is_safe [(rdE 1), (kD (.str "sun")), (kD (.int 0)), (kD (.str "goal")), (kD (.int 2)), (kD (.int 2))]))) (fSeq (relS [] (sRet (kD (.bool false)))) sNil) sNil))
def C_law_s4 (f_holds : List D → R D) (f_knows_from : List D → R D) (f_doubts : List D → R D) : DL.Env → R Out := (relS [0] (sSet 3 (eC 3 C_law_pick [(rdE 0), (kD (.int 0)), (kD (.int 3))])))
def C_law_s5 (f_holds : List D → R D) (f_knows_from : List D → R D) (f_doubts : List D → R D) : DL.Env → R Out := (relS [12, 2] (sOwn 4 (fLc (iB dEnum [(rdE 2)]) (.many [11, 12]) (kT true) (eTup [(rdE 12), (fIf (t2 (dCmp .Eq) (rdP 11) (rdP 3)) (kD (.str "lie")) (kD (.str "so")))]) [11, 12])))
def C_law_s6 (f_holds : List D → R D) (f_knows_from : List D → R D) (f_doubts : List D → R D) : DL.Env → R Out := (relS [1, 4] (fIfS (t2 (dCmp .NotEq) (eC 7 C_stands [(rdE 1), (kD (.str "sun")), (kD (.int 0)), (kD (.str "goal")), (kD (.int 2)), (rdE 4), (kD (.int 1))]) (kD (.str "so"))) (fSeq (relS [] (sRet (kD (.bool false)))) sNil) sNil))
def C_law_s7 (f_holds : List D → R D) (f_knows_from : List D → R D) (f_doubts : List D → R D) : DL.Env → R Out := (relS [1, 4] (fIfS (t2 (dCmp .NotEq) (eC 7 C_surely_false [(rdE 1), (kD (.str "sun")), (kD (.int 0)), (kD (.str "goal")), (kD (.int 2)), (rdE 4), (kD (.int 1))]) (eLst [(e2 dIx (eLst [(kD (.str "oa")), (kD (.str "ob")), (kD (.str "oc"))]) (rdP 3))])) (fSeq (relS [] (sRet (kD (.bool false)))) sNil) sNil))
def C_law_s8 (f_holds : List D → R D) (f_knows_from : List D → R D) (f_doubts : List D → R D) : DL.Env → R Out := (relS [1, 4] (fIfS (t2 (dCmp .IsNot) (eC 7 C_stands [(rdE 1), (kD (.str "sun")), (kD (.int 0)), (kD (.str "goal")), (kD (.int 2)), (rdE 4), (kD (.int 2))]) (kD .none)) (fSeq (relS [] (sRet (kD (.bool false)))) sNil) sNil))
def C_law_s9 (f_holds : List D → R D) (f_knows_from : List D → R D) (f_doubts : List D → R D) : DL.Env → R Out := (relS [1] (fIfS (t2 (dCmp .NotEq) (eC 5 C_least_cut [(rdE 1), (kD (.str "sun")), (kD (.int 0)), (kD (.str "goal")), (kD (.int 2))]) (eTup [(kD (.str "oa")), (kD (.str "ob")), (kD (.str "oc"))])) (fSeq (relS [] (sRet (kD (.bool false)))) sNil) sNil))
def C_law_s10 (f_holds : List D → R D) (f_knows_from : List D → R D) (f_doubts : List D → R D) : DL.Env → R Out := (relS [] (sSet 5 (eC 1 C_law_three [(kD (.int 2))])))
def C_law_s11 (f_holds : List D → R D) (f_knows_from : List D → R D) (f_doubts : List D → R D) : DL.Env → R Out := (relS [5] (sSet 6 (eC 6 C_rival [(rdE 5), (kD (.str "sun")), (kD (.int 0)), (kD (.str "goal")), (kD (.int 2)), (kD (.int 1))])))
def C_law_s12 (f_holds : List D → R D) (f_knows_from : List D → R D) (f_doubts : List D → R D) : DL.Env → R Out := (relS [5, 5, 6] (fIfS (tstOr (t1 dTru (eC 6 C_is_safe [(rdE 5), (kD (.str "sun")), (kD (.int 0)), (kD (.str "goal")), (kD (.int 2)), (kD (.int 1))])) (tstNot (t1 dTru (eC 7 C_is_rival [(rdE 5), (kD (.str "sun")), (kD (.int 0)), (kD (.str "goal")), (kD (.int 2)), (kD (.int 1)), (rdE 6)])))) (fSeq (relS [] (sRet (kD (.bool false)))) sNil) sNil))
def C_law_s13 (f_holds : List D → R D) (f_knows_from : List D → R D) (f_doubts : List D → R D) : DL.Env → R Out := (relS [] (sSet 7 (eC 1 C_law_waving [(kD (.int 4))])))
def C_law_s14 (f_holds : List D → R D) (f_knows_from : List D → R D) (f_doubts : List D → R D) : DL.Env → R Out := (relS [] (fPar [false, false] [8, 9] (eArgs [(eTup [(eTup [(kD (.int 0)), (kD (.int 5))]), (eTup [(kD (.int 5)), (kD (.int 5))])]), (eTup [(kD (.str "one")), (kD (.str "two"))])])))
def C_law_s15 (f_holds : List D → R D) (f_knows_from : List D → R D) (f_doubts : List D → R D) : DL.Env → R Out := (relS [7, 8, 9] (fIfS (tstNot (t1 dTru (eC 4 f_holds [(rdE 7), (rdE 8), (eTup [(kD (.int 0)), (kD (.int 5))]), (eTup [(kD (.str "common")), (rdE 9), (kD (.int 1)), (eTup [(kD (.str "by")), (kD (.str "one")), (kD (.int 0))])])]))) (fSeq (relS [] (sRet (kD (.bool false)))) sNil) sNil))
def C_law_s16 (f_holds : List D → R D) (f_knows_from : List D → R D) (f_doubts : List D → R D) : DL.Env → R Out := (relS [14] (sSet 10 (eB dTuple [(eB dSorted [(fLc (iB dRng1 [(kD (.int 6))]) (.one 14) (kT true) (eTup [(rdE 14), (kD (.int 5))]) [14])])])))
def C_law_s17 (f_holds : List D → R D) (f_knows_from : List D → R D) (f_doubts : List D → R D) : DL.Env → R Out := (relS [7, 10] (fIfS (t2 (dCmp .NotEq) (eC 5 f_knows_from [(rdE 7), (rdE 10), (eTup [(kD (.int 2)), (kD (.int 5))]), (kD (.str "two")), (eTup [(kD (.str "by")), (kD (.str "one")), (kD (.int 2))])]) (kD (.int 3))) (fSeq (relS [] (sRet (kD (.bool false)))) sNil) sNil))
def C_law_s18 (f_holds : List D → R D) (f_knows_from : List D → R D) (f_doubts : List D → R D) : DL.Env → R Out := (relS [7, 10, 9] (sRet (e2 (bCmp .Eq) (eC 6 f_doubts [(rdE 7), (rdE 10), (eTup [(kD (.int 2)), (kD (.int 5))]), (rdE 9), (kD (.int 2)), (eTup [(kD (.str "by")), (kD (.str "one")), (kD (.int 2))])]) (eLst [(eTup [(kD (.str "two")), (eTup [(kD (.int 3)), (kD (.int 5))])])]))))
def C_law_t18 (f_holds : List D → R D) (f_knows_from : List D → R D) (f_doubts : List D → R D) : DL.Env → R Out := fSeq (C_law_s18 f_holds f_knows_from f_doubts) sNil
def C_law_t17 (f_holds : List D → R D) (f_knows_from : List D → R D) (f_doubts : List D → R D) : DL.Env → R Out := fSeq (C_law_s17 f_holds f_knows_from f_doubts) (C_law_t18 f_holds f_knows_from f_doubts)
def C_law_t16 (f_holds : List D → R D) (f_knows_from : List D → R D) (f_doubts : List D → R D) : DL.Env → R Out := fSeq (C_law_s16 f_holds f_knows_from f_doubts) (C_law_t17 f_holds f_knows_from f_doubts)
def C_law_t15 (f_holds : List D → R D) (f_knows_from : List D → R D) (f_doubts : List D → R D) : DL.Env → R Out := fSeq (C_law_s15 f_holds f_knows_from f_doubts) (C_law_t16 f_holds f_knows_from f_doubts)
def C_law_t14 (f_holds : List D → R D) (f_knows_from : List D → R D) (f_doubts : List D → R D) : DL.Env → R Out := fSeq (C_law_s14 f_holds f_knows_from f_doubts) (C_law_t15 f_holds f_knows_from f_doubts)
def C_law_t13 (f_holds : List D → R D) (f_knows_from : List D → R D) (f_doubts : List D → R D) : DL.Env → R Out := fSeq (C_law_s13 f_holds f_knows_from f_doubts) (C_law_t14 f_holds f_knows_from f_doubts)
def C_law_t12 (f_holds : List D → R D) (f_knows_from : List D → R D) (f_doubts : List D → R D) : DL.Env → R Out := fSeq (C_law_s12 f_holds f_knows_from f_doubts) (C_law_t13 f_holds f_knows_from f_doubts)
def C_law_t11 (f_holds : List D → R D) (f_knows_from : List D → R D) (f_doubts : List D → R D) : DL.Env → R Out := fSeq (C_law_s11 f_holds f_knows_from f_doubts) (C_law_t12 f_holds f_knows_from f_doubts)
def C_law_t10 (f_holds : List D → R D) (f_knows_from : List D → R D) (f_doubts : List D → R D) : DL.Env → R Out := fSeq (C_law_s10 f_holds f_knows_from f_doubts) (C_law_t11 f_holds f_knows_from f_doubts)
def C_law_t9 (f_holds : List D → R D) (f_knows_from : List D → R D) (f_doubts : List D → R D) : DL.Env → R Out := fSeq (C_law_s9 f_holds f_knows_from f_doubts) (C_law_t10 f_holds f_knows_from f_doubts)
def C_law_t8 (f_holds : List D → R D) (f_knows_from : List D → R D) (f_doubts : List D → R D) : DL.Env → R Out := fSeq (C_law_s8 f_holds f_knows_from f_doubts) (C_law_t9 f_holds f_knows_from f_doubts)
def C_law_t7 (f_holds : List D → R D) (f_knows_from : List D → R D) (f_doubts : List D → R D) : DL.Env → R Out := fSeq (C_law_s7 f_holds f_knows_from f_doubts) (C_law_t8 f_holds f_knows_from f_doubts)
def C_law_t6 (f_holds : List D → R D) (f_knows_from : List D → R D) (f_doubts : List D → R D) : DL.Env → R Out := fSeq (C_law_s6 f_holds f_knows_from f_doubts) (C_law_t7 f_holds f_knows_from f_doubts)
def C_law_t5 (f_holds : List D → R D) (f_knows_from : List D → R D) (f_doubts : List D → R D) : DL.Env → R Out := fSeq (C_law_s5 f_holds f_knows_from f_doubts) (C_law_t6 f_holds f_knows_from f_doubts)
def C_law_t4 (f_holds : List D → R D) (f_knows_from : List D → R D) (f_doubts : List D → R D) : DL.Env → R Out := fSeq (C_law_s4 f_holds f_knows_from f_doubts) (C_law_t5 f_holds f_knows_from f_doubts)
def C_law_t3 (f_holds : List D → R D) (f_knows_from : List D → R D) (f_doubts : List D → R D) : DL.Env → R Out := fSeq (C_law_s3 f_holds f_knows_from f_doubts) (C_law_t4 f_holds f_knows_from f_doubts)
def C_law_t2 (f_holds : List D → R D) (f_knows_from : List D → R D) (f_doubts : List D → R D) : DL.Env → R Out := fSeq (C_law_s2 f_holds f_knows_from f_doubts) (C_law_t3 f_holds f_knows_from f_doubts)
def C_law_t1 (f_holds : List D → R D) (f_knows_from : List D → R D) (f_doubts : List D → R D) : DL.Env → R Out := fSeq (C_law_s1 f_holds f_knows_from f_doubts) (C_law_t2 f_holds f_knows_from f_doubts)
def C_law_t0 (f_holds : List D → R D) (f_knows_from : List D → R D) (f_doubts : List D → R D) : DL.Env → R Out := fSeq (C_law_s0 f_holds f_knows_from f_doubts) (C_law_t1 f_holds f_knows_from f_doubts)
def C_law (f_holds : List D → R D) (f_knows_from : List D → R D) (f_doubts : List D → R D) : List D → R D := fRun 15 (C_law_t0 f_holds f_knows_from f_doubts)
theorem cf_law (f_holds : List D → R D) (f_knows_from : List D → R D) (f_doubts : List D → R D) : FF_law C_law_three C_all_chains C_is_safe C_law_pick C_stands C_surely_false C_least_cut C_rival C_is_rival C_law_waving f_holds f_knows_from f_doubts = C_law f_holds f_knows_from f_doubts := by kernel_rfl
abbrev fn_is_whole (k : Nat) : List D → R D := runD (prg.T 100000 60 k) d_is_whole.N 100000 61 (defScope d_is_whole.st) (defBody d_is_whole.st)
abbrev fn_is_name (k : Nat) : List D → R D := runD (prg.T 100000 60 k) d_is_name.N 100000 61 (defScope d_is_name.st) (defBody d_is_name.st)
abbrev fn_is_cell (k : Nat) : List D → R D := runD (prg.T 100000 60 k) d_is_cell.N 100000 61 (defScope d_is_cell.st) (defBody d_is_cell.st)
abbrev fn_is_rising (k : Nat) : List D → R D := runD (prg.T 100000 60 k) d_is_rising.N 100000 61 (defScope d_is_rising.st) (defBody d_is_rising.st)
abbrev fn_is_islands (k : Nat) : List D → R D := runD (prg.T 100000 60 k) d_is_islands.N 100000 61 (defScope d_is_islands.st) (defBody d_is_islands.st)
abbrev fn_is_ship (k : Nat) : List D → R D := runD (prg.T 100000 60 k) d_is_ship.N 100000 61 (defScope d_is_ship.st) (defBody d_is_ship.st)
abbrev fn_is_mist (k : Nat) : List D → R D := runD (prg.T 100000 60 k) d_is_mist.N 100000 61 (defScope d_is_mist.st) (defBody d_is_mist.st)
abbrev fn_is_fleet (k : Nat) : List D → R D := runD (prg.T 100000 60 k) d_is_fleet.N 100000 61 (defScope d_is_fleet.st) (defBody d_is_fleet.st)
abbrev fn_look_fleet (k : Nat) : List D → R D := runD (prg.T 100000 60 k) d_look_fleet.N 100000 61 (defScope d_look_fleet.st) (defBody d_look_fleet.st)
abbrev fn_plain_names (k : Nat) : List D → R D := runD (prg.T 100000 60 k) d_plain_names.N 100000 61 (defScope d_plain_names.st) (defBody d_plain_names.st)
abbrev fn_look_ship (k : Nat) : List D → R D := runD (prg.T 100000 60 k) d_look_ship.N 100000 61 (defScope d_look_ship.st) (defBody d_look_ship.st)
abbrev fn_look_hour (k : Nat) : List D → R D := runD (prg.T 100000 60 k) d_look_hour.N 100000 61 (defScope d_look_hour.st) (defBody d_look_hour.st)
abbrev fn_is_in (k : Nat) : List D → R D := runD (prg.T 100000 60 k) d_is_in.N 100000 61 (defScope d_is_in.st) (defBody d_is_in.st)
abbrev fn_is_between (k : Nat) : List D → R D := runD (prg.T 100000 60 k) d_is_between.N 100000 61 (defScope d_is_between.st) (defBody d_is_between.st)
abbrev fn_sees_at (k : Nat) : List D → R D := runD (prg.T 100000 60 k) d_sees_at.N 100000 61 (defScope d_sees_at.st) (defBody d_sees_at.st)
abbrev fn_plain_sightings (k : Nat) : List D → R D := runD (prg.T 100000 60 k) d_plain_sightings.N 100000 61 (defScope d_plain_sightings.st) (defBody d_plain_sightings.st)
abbrev fn_spread (k : Nat) : List D → R D := runD (prg.T 100000 60 k) d_spread.N 100000 61 (defScope d_spread.st) (defBody d_spread.st)
abbrev fn_lots_of (k : Nat) : List D → R D := runD (prg.T 100000 60 k) d_lots_of.N 100000 61 (defScope d_lots_of.st) (defBody d_lots_of.st)
abbrev fn_look_asked (k : Nat) : List D → R D := runD (prg.T 100000 60 k) d_look_asked.N 100000 61 (defScope d_look_asked.st) (defBody d_look_asked.st)
abbrev fn_others_of (k : Nat) : List D → R D := runD (prg.T 100000 60 k) d_others_of.N 100000 61 (defScope d_others_of.st) (defBody d_others_of.st)
abbrev fn_clear_of (k : Nat) : List D → R D := runD (prg.T 100000 60 k) d_clear_of.N 100000 61 (defScope d_clear_of.st) (defBody d_clear_of.st)
abbrev fn_comes (k : Nat) : List D → R D := runD (prg.T 100000 60 k) d_comes.N 100000 61 (defScope d_comes.st) (defBody d_comes.st)
abbrev fn_least_cut (k : Nat) : List D → R D := runD (prg.T 100000 60 k) d_least_cut.N 100000 61 (defScope d_least_cut.st) (defBody d_least_cut.st)
abbrev fn_chains_of (k : Nat) : List D → R D := runD (prg.T 100000 60 k) d_chains_of.N 100000 61 (defScope d_chains_of.st) (defBody d_chains_of.st)
abbrev fn_all_chains (k : Nat) : List D → R D := runD (prg.T 100000 60 k) d_all_chains.N 100000 61 (defScope d_all_chains.st) (defBody d_all_chains.st)
abbrev fn_is_clear (k : Nat) : List D → R D := runD (prg.T 100000 60 k) d_is_clear.N 100000 61 (defScope d_is_clear.st) (defBody d_is_clear.st)
abbrev fn_are_readings (k : Nat) : List D → R D := runD (prg.T 100000 60 k) d_are_readings.N 100000 61 (defScope d_are_readings.st) (defBody d_are_readings.st)
abbrev fn_values_of (k : Nat) : List D → R D := runD (prg.T 100000 60 k) d_values_of.N 100000 61 (defScope d_values_of.st) (defBody d_values_of.st)
abbrev fn_fits (k : Nat) : List D → R D := runD (prg.T 100000 60 k) d_fits.N 100000 61 (defScope d_fits.st) (defBody d_fits.st)
abbrev fn_look_readings (k : Nat) : List D → R D := runD (prg.T 100000 60 k) d_look_readings.N 100000 61 (defScope d_look_readings.st) (defBody d_look_readings.st)
abbrev fn_are_false (k : Nat) : List D → R D := runD (prg.T 100000 60 k) d_are_false.N 100000 61 (defScope d_are_false.st) (defBody d_are_false.st)
abbrev fn_is_tale (k : Nat) : List D → R D := runD (prg.T 100000 60 k) d_is_tale.N 100000 61 (defScope d_is_tale.st) (defBody d_is_tale.st)
abbrev fn_tales (k : Nat) : List D → R D := runD (prg.T 100000 60 k) d_tales.N 100000 61 (defScope d_tales.st) (defBody d_tales.st)
abbrev fn_stands (k : Nat) : List D → R D := runD (prg.T 100000 60 k) d_stands.N 100000 61 (defScope d_stands.st) (defBody d_stands.st)
abbrev fn_surely_false (k : Nat) : List D → R D := runD (prg.T 100000 60 k) d_surely_false.N 100000 61 (defScope d_surely_false.st) (defBody d_surely_false.st)
abbrev fn_look_most (k : Nat) : List D → R D := runD (prg.T 100000 60 k) d_look_most.N 100000 61 (defScope d_look_most.st) (defBody d_look_most.st)
abbrev fn_is_safe (k : Nat) : List D → R D := runD (prg.T 100000 60 k) d_is_safe.N 100000 61 (defScope d_is_safe.st) (defBody d_is_safe.st)
abbrev fn_rival (k : Nat) : List D → R D := runD (prg.T 100000 60 k) d_rival.N 100000 61 (defScope d_rival.st) (defBody d_rival.st)
abbrev fn_is_rival (k : Nat) : List D → R D := runD (prg.T 100000 60 k) d_is_rival.N 100000 61 (defScope d_is_rival.st) (defBody d_is_rival.st)
abbrev fn_holds (k : Nat) : List D → R D := runD (prg.T 100000 60 k) d_holds.N 100000 61 (defScope d_holds.st) (defBody d_holds.st)
abbrev fn_knows_from (k : Nat) : List D → R D := runD (prg.T 100000 60 k) d_knows_from.N 100000 61 (defScope d_knows_from.st) (defBody d_knows_from.st)
abbrev fn_doubts (k : Nat) : List D → R D := runD (prg.T 100000 60 k) d_doubts.N 100000 61 (defScope d_doubts.st) (defBody d_doubts.st)
abbrev fn_law_pick (k : Nat) : List D → R D := runD (prg.T 100000 60 k) d_law_pick.N 100000 61 (defScope d_law_pick.st) (defBody d_law_pick.st)
abbrev fn_law_three (k : Nat) : List D → R D := runD (prg.T 100000 60 k) d_law_three.N 100000 61 (defScope d_law_three.st) (defBody d_law_three.st)
abbrev fn_law_waving (k : Nat) : List D → R D := runD (prg.T 100000 60 k) d_law_waving.N 100000 61 (defScope d_law_waving.st) (defBody d_law_waving.st)
abbrev fn_law (k : Nat) : List D → R D := runD (prg.T 100000 60 k) d_law.N 100000 61 (defScope d_law.st) (defBody d_law.st)
theorem ff_is_whole (k : Nat) : fn_is_whole (k + 1) = FF_is_whole := by kernel_rfl
theorem ff_is_name (k : Nat) : fn_is_name (k + 1) = FF_is_name := by kernel_rfl
theorem ff_is_cell (k : Nat) : fn_is_cell (k + 1) = FF_is_cell (fn_is_whole k) := by kernel_rfl
theorem ff_is_rising (k : Nat) : fn_is_rising (k + 1) = FF_is_rising := by kernel_rfl
theorem ff_is_islands (k : Nat) : fn_is_islands (k + 1) = FF_is_islands (fn_is_cell k) (fn_is_rising k) := by kernel_rfl
theorem ff_is_ship (k : Nat) : fn_is_ship (k + 1) = FF_is_ship (fn_is_name k) (fn_is_whole k) (fn_is_cell k) := by kernel_rfl
theorem ff_is_mist (k : Nat) : fn_is_mist (k + 1) = FF_is_mist (fn_is_whole k) (fn_is_cell k) := by kernel_rfl
theorem ff_is_fleet (k : Nat) : fn_is_fleet (k + 1) = FF_is_fleet (fn_is_whole k) (fn_is_islands k) (fn_is_ship k) (fn_is_rising k) (fn_is_mist k) := by kernel_rfl
theorem ff_look_fleet (k : Nat) : fn_look_fleet (k + 1) = FF_look_fleet (fn_is_fleet k) := by kernel_rfl
theorem ff_plain_names (k : Nat) : fn_plain_names (k + 1) = FF_plain_names := by kernel_rfl
theorem ff_look_ship (k : Nat) : fn_look_ship (k + 1) = FF_look_ship (fn_is_name k) (fn_plain_names k) := by kernel_rfl
theorem ff_look_hour (k : Nat) : fn_look_hour (k + 1) = FF_look_hour (fn_is_whole k) := by kernel_rfl
theorem ff_is_in (k : Nat) : fn_is_in (k + 1) = FF_is_in := by kernel_rfl
theorem ff_is_between (k : Nat) : fn_is_between (k + 1) = FF_is_between := by kernel_rfl
theorem ff_sees_at (k : Nat) : fn_sees_at (k + 1) = FF_sees_at (fn_is_in k) (fn_is_between k) := by kernel_rfl
theorem ff_plain_sightings (k : Nat) : fn_plain_sightings (k + 1) = FF_plain_sightings (fn_sees_at k) := by kernel_rfl
theorem ff_spread (k : Nat) : fn_spread (k + 1) = FF_spread := by kernel_rfl
theorem ff_lots_of (k : Nat) : fn_lots_of (k + 1) = FF_lots_of := by kernel_rfl
theorem ff_look_asked (k : Nat) : fn_look_asked (k + 1) = FF_look_asked (fn_look_fleet k) (fn_look_ship k) (fn_look_hour k) := by kernel_rfl
theorem ff_others_of (k : Nat) : fn_others_of (k + 1) = FF_others_of (fn_plain_names k) := by kernel_rfl
theorem ff_clear_of (k : Nat) : fn_clear_of (k + 1) = FF_clear_of := by kernel_rfl
theorem ff_comes (k : Nat) : fn_comes (k + 1) = FF_comes (fn_spread k) := by kernel_rfl
theorem ff_least_cut (k : Nat) : fn_least_cut (k + 1) = FF_least_cut (fn_look_asked k) (fn_plain_sightings k) (fn_lots_of k) (fn_others_of k) (fn_comes k) (fn_clear_of k) := by kernel_rfl
theorem ff_chains_of (k : Nat) : fn_chains_of (k + 1) = FF_chains_of (fn_plain_sightings k) := by kernel_rfl
theorem ff_all_chains (k : Nat) : fn_all_chains (k + 1) = FF_all_chains (fn_look_asked k) (fn_chains_of k) := by kernel_rfl
theorem ff_is_clear (k : Nat) : fn_is_clear (k + 1) = FF_is_clear := by kernel_rfl
theorem ff_are_readings (k : Nat) : fn_are_readings (k + 1) = FF_are_readings (fn_is_name k) := by kernel_rfl
theorem ff_values_of (k : Nat) : fn_values_of (k + 1) = FF_values_of := by kernel_rfl
theorem ff_fits (k : Nat) : fn_fits (k + 1) = FF_fits (fn_is_clear k) := by kernel_rfl
theorem ff_look_readings (k : Nat) : fn_look_readings (k + 1) = FF_look_readings (fn_look_asked k) (fn_chains_of k) (fn_are_readings k) (fn_is_whole k) := by kernel_rfl
theorem ff_are_false (k : Nat) : fn_are_false (k + 1) = FF_are_false (fn_is_name k) (fn_is_rising k) := by kernel_rfl
theorem ff_is_tale (k : Nat) : fn_is_tale (k + 1) = FF_is_tale (fn_look_readings k) (fn_are_false k) (fn_others_of k) (fn_is_name k) (fn_values_of k) (fn_fits k) := by kernel_rfl
theorem ff_tales (k : Nat) : fn_tales (k + 1) = FF_tales (fn_look_readings k) (fn_lots_of k) (fn_others_of k) (fn_values_of k) (fn_fits k) := by kernel_rfl
theorem ff_stands (k : Nat) : fn_stands (k + 1) = FF_stands (fn_tales k) := by kernel_rfl
theorem ff_surely_false (k : Nat) : fn_surely_false (k + 1) = FF_surely_false (fn_tales k) (fn_others_of k) := by kernel_rfl
theorem ff_look_most (k : Nat) : fn_look_most (k + 1) = FF_look_most (fn_look_asked k) (fn_chains_of k) (fn_is_whole k) := by kernel_rfl
theorem ff_is_safe (k : Nat) : fn_is_safe (k + 1) = FF_is_safe (fn_look_most k) (fn_comes k) (fn_clear_of k) (fn_plain_sightings k) (fn_others_of k) (fn_least_cut k) := by kernel_rfl
theorem ff_rival (k : Nat) : fn_rival (k + 1) = FF_rival (fn_look_most k) (fn_is_safe k) (fn_least_cut k) (fn_is_clear k) (fn_values_of k) := by kernel_rfl
theorem ff_is_rival (k : Nat) : fn_is_rival (k + 1) = FF_is_rival (fn_look_most k) (fn_are_readings k) (fn_is_tale k) := by kernel_rfl
theorem ff_law_pick (k : Nat) : fn_law_pick (k + 1) = FF_law_pick := by kernel_rfl
theorem ff_law_three (k : Nat) : fn_law_three (k + 1) = FF_law_three := by kernel_rfl
theorem ff_law_waving (k : Nat) : fn_law_waving (k + 1) = FF_law_waving := by kernel_rfl
theorem ff_law (k : Nat) : fn_law (k + 1) = FF_law (fn_law_three k) (fn_all_chains k) (fn_is_safe k) (fn_law_pick k) (fn_stands k) (fn_surely_false k) (fn_least_cut k) (fn_rival k) (fn_is_rival k) (fn_law_waving k) (fn_holds k) (fn_knows_from k) (fn_doubts k) := by kernel_rfl
theorem c_is_whole (k : Nat) : fn_is_whole (k + 1) = C_is_whole := ff_is_whole k
theorem c_is_name (k : Nat) : fn_is_name (k + 1) = C_is_name := ff_is_name k
theorem c_is_rising (k : Nat) : fn_is_rising (k + 1) = C_is_rising := ff_is_rising k
theorem c_plain_names (k : Nat) : fn_plain_names (k + 1) = C_plain_names := ff_plain_names k
theorem c_is_in (k : Nat) : fn_is_in (k + 1) = C_is_in := ff_is_in k
theorem c_is_between (k : Nat) : fn_is_between (k + 1) = C_is_between := ff_is_between k
theorem c_spread (k : Nat) : fn_spread (k + 1) = C_spread := (ff_spread k).trans cf_spread
theorem c_lots_of (k : Nat) : fn_lots_of (k + 1) = C_lots_of := (ff_lots_of k).trans cf_lots_of
theorem c_clear_of (k : Nat) : fn_clear_of (k + 1) = C_clear_of := (ff_clear_of k).trans cf_clear_of
theorem c_is_clear (k : Nat) : fn_is_clear (k + 1) = C_is_clear := (ff_is_clear k).trans cf_is_clear
theorem c_values_of (k : Nat) : fn_values_of (k + 1) = C_values_of := (ff_values_of k).trans cf_values_of
theorem c_law_pick (k : Nat) : fn_law_pick (k + 1) = C_law_pick := ff_law_pick k
theorem c_law_three (k : Nat) : fn_law_three (k + 1) = C_law_three := (ff_law_three k).trans cf_law_three
theorem c_law_waving (k : Nat) : fn_law_waving (k + 1) = C_law_waving := (ff_law_waving k).trans cf_law_waving
theorem c_is_cell (k : Nat) : fn_is_cell (k + 2) = C_is_cell := (ff_is_cell (k + 1)).trans (congrArg FF_is_cell (c_is_whole (k + 0)))
theorem c_look_ship (k : Nat) : fn_look_ship (k + 2) = C_look_ship := (ff_look_ship (k + 1)).trans (congr (congrArg FF_look_ship (c_is_name (k + 0))) (c_plain_names (k + 0)))
theorem c_look_hour (k : Nat) : fn_look_hour (k + 2) = C_look_hour := (ff_look_hour (k + 1)).trans (congrArg FF_look_hour (c_is_whole (k + 0)))
theorem c_sees_at (k : Nat) : fn_sees_at (k + 2) = C_sees_at := (ff_sees_at (k + 1)).trans (congr (congrArg FF_sees_at (c_is_in (k + 0))) (c_is_between (k + 0)))
theorem c_others_of (k : Nat) : fn_others_of (k + 2) = C_others_of := ((ff_others_of (k + 1)).trans (congrArg FF_others_of (c_plain_names (k + 0)))).trans cf_others_of
theorem c_comes (k : Nat) : fn_comes (k + 2) = C_comes := ((ff_comes (k + 1)).trans (congrArg FF_comes (c_spread (k + 0)))).trans cf_comes
theorem c_are_readings (k : Nat) : fn_are_readings (k + 2) = C_are_readings := ((ff_are_readings (k + 1)).trans (congrArg FF_are_readings (c_is_name (k + 0)))).trans cf_are_readings
theorem c_fits (k : Nat) : fn_fits (k + 2) = C_fits := ((ff_fits (k + 1)).trans (congrArg FF_fits (c_is_clear (k + 0)))).trans cf_fits
theorem c_are_false (k : Nat) : fn_are_false (k + 2) = C_are_false := ((ff_are_false (k + 1)).trans (congr (congrArg FF_are_false (c_is_name (k + 0))) (c_is_rising (k + 0)))).trans cf_are_false
theorem c_is_islands (k : Nat) : fn_is_islands (k + 3) = C_is_islands := (ff_is_islands (k + 2)).trans (congr (congrArg FF_is_islands (c_is_cell (k + 0))) (c_is_rising (k + 1)))
theorem c_is_ship (k : Nat) : fn_is_ship (k + 3) = C_is_ship := (ff_is_ship (k + 2)).trans (congr (congr (congrArg FF_is_ship (c_is_name (k + 1))) (c_is_whole (k + 1))) (c_is_cell (k + 0)))
theorem c_is_mist (k : Nat) : fn_is_mist (k + 3) = C_is_mist := (ff_is_mist (k + 2)).trans (congr (congrArg FF_is_mist (c_is_whole (k + 1))) (c_is_cell (k + 0)))
theorem c_plain_sightings (k : Nat) : fn_plain_sightings (k + 3) = C_plain_sightings := (ff_plain_sightings (k + 2)).trans (congrArg FF_plain_sightings (c_sees_at (k + 0)))
theorem c_is_fleet (k : Nat) : fn_is_fleet (k + 4) = C_is_fleet := (ff_is_fleet (k + 3)).trans (congr (congr (congr (congr (congrArg FF_is_fleet (c_is_whole (k + 2))) (c_is_islands (k + 0))) (c_is_ship (k + 0))) (c_is_rising (k + 2))) (c_is_mist (k + 0)))
theorem c_chains_of (k : Nat) : fn_chains_of (k + 4) = C_chains_of := ((ff_chains_of (k + 3)).trans (congrArg FF_chains_of (c_plain_sightings (k + 0)))).trans cf_chains_of
theorem c_look_fleet (k : Nat) : fn_look_fleet (k + 5) = C_look_fleet := (ff_look_fleet (k + 4)).trans (congrArg FF_look_fleet (c_is_fleet (k + 0)))
theorem c_look_asked (k : Nat) : fn_look_asked (k + 6) = C_look_asked := ((ff_look_asked (k + 5)).trans (congr (congr (congrArg FF_look_asked (c_look_fleet (k + 0))) (c_look_ship (k + 3))) (c_look_hour (k + 3)))).trans cf_look_asked
theorem c_least_cut (k : Nat) : fn_least_cut (k + 7) = C_least_cut := ((ff_least_cut (k + 6)).trans (congr (congr (congr (congr (congr (congrArg FF_least_cut (c_look_asked (k + 0))) (c_plain_sightings (k + 3))) (c_lots_of (k + 5))) (c_others_of (k + 4))) (c_comes (k + 4))) (c_clear_of (k + 5)))).trans cf_least_cut
theorem c_all_chains (k : Nat) : fn_all_chains (k + 7) = C_all_chains := ((ff_all_chains (k + 6)).trans (congr (congrArg FF_all_chains (c_look_asked (k + 0))) (c_chains_of (k + 2)))).trans cf_all_chains
theorem c_look_readings (k : Nat) : fn_look_readings (k + 7) = C_look_readings := ((ff_look_readings (k + 6)).trans (congr (congr (congr (congrArg FF_look_readings (c_look_asked (k + 0))) (c_chains_of (k + 2))) (c_are_readings (k + 4))) (c_is_whole (k + 5)))).trans cf_look_readings
theorem c_look_most (k : Nat) : fn_look_most (k + 7) = C_look_most := ((ff_look_most (k + 6)).trans (congr (congr (congrArg FF_look_most (c_look_asked (k + 0))) (c_chains_of (k + 2))) (c_is_whole (k + 5)))).trans cf_look_most
theorem c_is_tale (k : Nat) : fn_is_tale (k + 8) = C_is_tale := ((ff_is_tale (k + 7)).trans (congr (congr (congr (congr (congr (congrArg FF_is_tale (c_look_readings (k + 0))) (c_are_false (k + 5))) (c_others_of (k + 5))) (c_is_name (k + 6))) (c_values_of (k + 6))) (c_fits (k + 5)))).trans cf_is_tale
theorem c_tales (k : Nat) : fn_tales (k + 8) = C_tales := ((ff_tales (k + 7)).trans (congr (congr (congr (congr (congrArg FF_tales (c_look_readings (k + 0))) (c_lots_of (k + 6))) (c_others_of (k + 5))) (c_values_of (k + 6))) (c_fits (k + 5)))).trans cf_tales
theorem c_is_safe (k : Nat) : fn_is_safe (k + 8) = C_is_safe := ((ff_is_safe (k + 7)).trans (congr (congr (congr (congr (congr (congrArg FF_is_safe (c_look_most (k + 0))) (c_comes (k + 5))) (c_clear_of (k + 6))) (c_plain_sightings (k + 4))) (c_others_of (k + 5))) (c_least_cut (k + 0)))).trans cf_is_safe
theorem c_stands (k : Nat) : fn_stands (k + 9) = C_stands := ((ff_stands (k + 8)).trans (congrArg FF_stands (c_tales (k + 0)))).trans cf_stands
theorem c_surely_false (k : Nat) : fn_surely_false (k + 9) = C_surely_false := ((ff_surely_false (k + 8)).trans (congr (congrArg FF_surely_false (c_tales (k + 0))) (c_others_of (k + 6)))).trans cf_surely_false
theorem c_rival (k : Nat) : fn_rival (k + 9) = C_rival := ((ff_rival (k + 8)).trans (congr (congr (congr (congr (congrArg FF_rival (c_look_most (k + 1))) (c_is_safe (k + 0))) (c_least_cut (k + 1))) (c_is_clear (k + 7))) (c_values_of (k + 7)))).trans cf_rival
theorem c_is_rival (k : Nat) : fn_is_rival (k + 9) = C_is_rival := ((ff_is_rival (k + 8)).trans (congr (congr (congrArg FF_is_rival (c_look_most (k + 1))) (c_are_readings (k + 6))) (c_is_tale (k + 0)))).trans cf_is_rival
end Lw
namespace Lw
open PySem PySem.Spec PyProof.Rows L2 DL
def F3 : D := (.tuple [(.int 2), (.tuple []), (.tuple [(.tuple [(.str "goal"), (.int 5), (.tuple [(.tuple [(.int 9), (.int 4)]), (.tuple [(.int 9), (.int 4)]), (.tuple [(.int 9), (.int 4)])])]), (.tuple [(.str "oa"), (.int 2), (.tuple [(.tuple [(.int 0), (.int 0)]), (.tuple [(.int 7), (.int 0)]), (.tuple [(.int 7), (.int 0)])])]), (.tuple [(.str "ob"), (.int 2), (.tuple [(.tuple [(.int 4), (.int 0)]), (.tuple [(.int 7), (.int 4)]), (.tuple [(.int 7), (.int 4)])])]), (.tuple [(.str "oc"), (.int 2), (.tuple [(.tuple [(.int 0), (.int 4)]), (.tuple [(.int 7), (.int 8)]), (.tuple [(.int 7), (.int 8)])])]), (.tuple [(.str "sun"), (.int 0), (.tuple [(.tuple [(.int 2), (.int 2)]), (.tuple [(.int 2), (.int 2)]), (.tuple [(.int 2), (.int 2)])])])]), (.tuple [])])
def F2 : D := (.tuple [(.int 2), (.tuple []), (.tuple [(.tuple [(.str "goal"), (.int 5), (.tuple [(.tuple [(.int 9), (.int 4)]), (.tuple [(.int 9), (.int 4)]), (.tuple [(.int 9), (.int 4)])])]), (.tuple [(.str "oa"), (.int 2), (.tuple [(.tuple [(.int 0), (.int 0)]), (.tuple [(.int 7), (.int 0)]), (.tuple [(.int 7), (.int 0)])])]), (.tuple [(.str "ob"), (.int 2), (.tuple [(.tuple [(.int 4), (.int 0)]), (.tuple [(.int 7), (.int 4)]), (.tuple [(.int 7), (.int 4)])])]), (.tuple [(.str "sun"), (.int 0), (.tuple [(.tuple [(.int 2), (.int 2)]), (.tuple [(.int 2), (.int 2)]), (.tuple [(.int 2), (.int 2)])])])]), (.tuple [])])
def WV : D := (.tuple [(.int 4), (.tuple []), (.tuple [(.tuple [(.str "one"), (.int 1), (.tuple [(.tuple [(.int 0), (.int 0)]), (.tuple [(.int 0), (.int 0)]), (.tuple [(.int 0), (.int 0)]), (.tuple [(.int 0), (.int 0)]), (.tuple [(.int 0), (.int 0)])])]), (.tuple [(.str "two"), (.int 1), (.tuple [(.tuple [(.int 1), (.int 0)]), (.tuple [(.int 1), (.int 0)]), (.tuple [(.int 1), (.int 0)]), (.tuple [(.int 1), (.int 0)]), (.tuple [(.int 1), (.int 0)])])])]), (.tuple [(.tuple [(.int 1), (.int 1), (.tuple [(.int 0), (.int 0)]), (.tuple [(.int 0), (.int 0)]), (.int 0)]), (.tuple [(.int 3), (.int 3), (.tuple [(.int 0), (.int 0)]), (.tuple [(.int 0), (.int 0)]), (.int 0)])])])
def CH3 : D := (.list [(.list [(.tuple [(.int 0), (.str "oa"), (.str "sun")]), (.tuple [(.int 1), (.str "goal"), (.str "oa")])]), (.list [(.tuple [(.int 0), (.str "ob"), (.str "sun")]), (.tuple [(.int 1), (.str "goal"), (.str "ob")])]), (.list [(.tuple [(.int 0), (.str "oc"), (.str "sun")]), (.tuple [(.int 1), (.str "goal"), (.str "oc")])])])
def RV2 : D := match C_rival [F2, .str "sun", .int 0, .str "goal", .int 2, .int 1] with | .ok d => d | _ => .none
def RD0 : D := (.list [(.tuple [(.list [(.tuple [(.int 0), (.str "oa"), (.str "sun")]), (.tuple [(.int 1), (.str "goal"), (.str "oa")])]), (.str "lie")]), (.tuple [(.list [(.tuple [(.int 0), (.str "ob"), (.str "sun")]), (.tuple [(.int 1), (.str "goal"), (.str "ob")])]), (.str "so")]), (.tuple [(.list [(.tuple [(.int 0), (.str "oc"), (.str "sun")]), (.tuple [(.int 1), (.str "goal"), (.str "oc")])]), (.str "so")])])
def RD1 : D := (.list [(.tuple [(.list [(.tuple [(.int 0), (.str "oa"), (.str "sun")]), (.tuple [(.int 1), (.str "goal"), (.str "oa")])]), (.str "so")]), (.tuple [(.list [(.tuple [(.int 0), (.str "ob"), (.str "sun")]), (.tuple [(.int 1), (.str "goal"), (.str "ob")])]), (.str "lie")]), (.tuple [(.list [(.tuple [(.int 0), (.str "oc"), (.str "sun")]), (.tuple [(.int 1), (.str "goal"), (.str "oc")])]), (.str "so")])])
def RD2 : D := (.list [(.tuple [(.list [(.tuple [(.int 0), (.str "oa"), (.str "sun")]), (.tuple [(.int 1), (.str "goal"), (.str "oa")])]), (.str "so")]), (.tuple [(.list [(.tuple [(.int 0), (.str "ob"), (.str "sun")]), (.tuple [(.int 1), (.str "goal"), (.str "ob")])]), (.str "so")]), (.tuple [(.list [(.tuple [(.int 0), (.str "oc"), (.str "sun")]), (.tuple [(.int 1), (.str "goal"), (.str "oc")])]), (.str "lie")])])
def W1 : D := (.tuple [(.tuple [(.int 0), (.int 5)]), (.tuple [(.int 5), (.int 5)])])
def NM : D := (.tuple [(.str "one"), (.str "two")])
def OW : D := (.tuple [(.tuple [(.int 0), (.int 5)]), (.tuple [(.int 1), (.int 5)]), (.tuple [(.int 2), (.int 5)]), (.tuple [(.int 3), (.int 5)]), (.tuple [(.int 4), (.int 5)]), (.tuple [(.int 5), (.int 5)])])
theorem st0 (ns : List Int) : C_law_s0 (fn_holds 28) (fn_knows_from 28) (fn_doubts 28) [.va (scr ns), .un, .un, .un, .un, .un, .un, .un, .un, .un, .un, .un, .un, .un, .un] = .ok (.nx [.va (scr ns), .va F3, .un, .un, .un, .un, .un, .un, .un, .un, .un, .un, .un, .un, .un]) := by kernel_rfl
theorem st1 (ns : List Int) : C_law_s1 (fn_holds 28) (fn_knows_from 28) (fn_doubts 28) [.va (scr ns), .va F3, .un, .un, .un, .un, .un, .un, .un, .un, .un, .un, .un, .un, .un] = .ok (.nx [.va (scr ns), .va F3, .va CH3, .un, .un, .un, .un, .un, .un, .un, .un, .un, .un, .un, .un]) := by kernel_rfl
theorem st2 (ns : List Int) : C_law_s2 (fn_holds 28) (fn_knows_from 28) (fn_doubts 28) [.va (scr ns), .va F3, .va CH3, .un, .un, .un, .un, .un, .un, .un, .un, .un, .un, .un, .un] = .ok (.nx [.va (scr ns), .va F3, .va CH3, .un, .un, .un, .un, .un, .un, .un, .un, .un, .un, .un, .un]) := by kernel_rfl
theorem st3 (ns : List Int) : C_law_s3 (fn_holds 28) (fn_knows_from 28) (fn_doubts 28) [.va (scr ns), .va F3, .va CH3, .un, .un, .un, .un, .un, .un, .un, .un, .un, .un, .un, .un] = .ok (.nx [.va (scr ns), .va F3, .va CH3, .un, .un, .un, .un, .un, .un, .un, .un, .un, .un, .un, .un]) := by kernel_rfl
theorem st5_0 (ns : List Int) : C_law_s5 (fn_holds 28) (fn_knows_from 28) (fn_doubts 28) [.va (scr ns), .va F3, .va CH3, .va (.int 0), .un, .un, .un, .un, .un, .un, .un, .un, .un, .un, .un] = .ok (.nx [.va (scr ns), .va F3, .va CH3, .va (.int 0), .ow RD0, .un, .un, .un, .un, .un, .un, .un, .un, .un, .un]) := by kernel_rfl
theorem st6_0 (ns : List Int) : C_law_s6 (fn_holds 28) (fn_knows_from 28) (fn_doubts 28) [.va (scr ns), .va F3, .va CH3, .va (.int 0), .ow RD0, .un, .un, .un, .un, .un, .un, .un, .un, .un, .un] = .ok (.nx [.va (scr ns), .va F3, .va CH3, .va (.int 0), .va RD0, .un, .un, .un, .un, .un, .un, .un, .un, .un, .un]) := by kernel_rfl
theorem st7_0 (ns : List Int) : C_law_s7 (fn_holds 28) (fn_knows_from 28) (fn_doubts 28) [.va (scr ns), .va F3, .va CH3, .va (.int 0), .va RD0, .un, .un, .un, .un, .un, .un, .un, .un, .un, .un] = .ok (.nx [.va (scr ns), .va F3, .va CH3, .va (.int 0), .va RD0, .un, .un, .un, .un, .un, .un, .un, .un, .un, .un]) := by kernel_rfl
theorem st8_0 (ns : List Int) : C_law_s8 (fn_holds 28) (fn_knows_from 28) (fn_doubts 28) [.va (scr ns), .va F3, .va CH3, .va (.int 0), .va RD0, .un, .un, .un, .un, .un, .un, .un, .un, .un, .un] = .ok (.nx [.va (scr ns), .va F3, .va CH3, .va (.int 0), .va RD0, .un, .un, .un, .un, .un, .un, .un, .un, .un, .un]) := by kernel_rfl
theorem st9_0 (ns : List Int) : C_law_s9 (fn_holds 28) (fn_knows_from 28) (fn_doubts 28) [.va (scr ns), .va F3, .va CH3, .va (.int 0), .va RD0, .un, .un, .un, .un, .un, .un, .un, .un, .un, .un] = .ok (.nx [.va (scr ns), .va F3, .va CH3, .va (.int 0), .va RD0, .un, .un, .un, .un, .un, .un, .un, .un, .un, .un]) := by kernel_rfl
theorem st5_1 (ns : List Int) : C_law_s5 (fn_holds 28) (fn_knows_from 28) (fn_doubts 28) [.va (scr ns), .va F3, .va CH3, .va (.int 1), .un, .un, .un, .un, .un, .un, .un, .un, .un, .un, .un] = .ok (.nx [.va (scr ns), .va F3, .va CH3, .va (.int 1), .ow RD1, .un, .un, .un, .un, .un, .un, .un, .un, .un, .un]) := by kernel_rfl
theorem st6_1 (ns : List Int) : C_law_s6 (fn_holds 28) (fn_knows_from 28) (fn_doubts 28) [.va (scr ns), .va F3, .va CH3, .va (.int 1), .ow RD1, .un, .un, .un, .un, .un, .un, .un, .un, .un, .un] = .ok (.nx [.va (scr ns), .va F3, .va CH3, .va (.int 1), .va RD1, .un, .un, .un, .un, .un, .un, .un, .un, .un, .un]) := by kernel_rfl
theorem st7_1 (ns : List Int) : C_law_s7 (fn_holds 28) (fn_knows_from 28) (fn_doubts 28) [.va (scr ns), .va F3, .va CH3, .va (.int 1), .va RD1, .un, .un, .un, .un, .un, .un, .un, .un, .un, .un] = .ok (.nx [.va (scr ns), .va F3, .va CH3, .va (.int 1), .va RD1, .un, .un, .un, .un, .un, .un, .un, .un, .un, .un]) := by kernel_rfl
theorem st8_1 (ns : List Int) : C_law_s8 (fn_holds 28) (fn_knows_from 28) (fn_doubts 28) [.va (scr ns), .va F3, .va CH3, .va (.int 1), .va RD1, .un, .un, .un, .un, .un, .un, .un, .un, .un, .un] = .ok (.nx [.va (scr ns), .va F3, .va CH3, .va (.int 1), .va RD1, .un, .un, .un, .un, .un, .un, .un, .un, .un, .un]) := by kernel_rfl
theorem st9_1 (ns : List Int) : C_law_s9 (fn_holds 28) (fn_knows_from 28) (fn_doubts 28) [.va (scr ns), .va F3, .va CH3, .va (.int 1), .va RD1, .un, .un, .un, .un, .un, .un, .un, .un, .un, .un] = .ok (.nx [.va (scr ns), .va F3, .va CH3, .va (.int 1), .va RD1, .un, .un, .un, .un, .un, .un, .un, .un, .un, .un]) := by kernel_rfl
theorem st5_2 (ns : List Int) : C_law_s5 (fn_holds 28) (fn_knows_from 28) (fn_doubts 28) [.va (scr ns), .va F3, .va CH3, .va (.int 2), .un, .un, .un, .un, .un, .un, .un, .un, .un, .un, .un] = .ok (.nx [.va (scr ns), .va F3, .va CH3, .va (.int 2), .ow RD2, .un, .un, .un, .un, .un, .un, .un, .un, .un, .un]) := by kernel_rfl
theorem st6_2 (ns : List Int) : C_law_s6 (fn_holds 28) (fn_knows_from 28) (fn_doubts 28) [.va (scr ns), .va F3, .va CH3, .va (.int 2), .ow RD2, .un, .un, .un, .un, .un, .un, .un, .un, .un, .un] = .ok (.nx [.va (scr ns), .va F3, .va CH3, .va (.int 2), .va RD2, .un, .un, .un, .un, .un, .un, .un, .un, .un, .un]) := by kernel_rfl
theorem st7_2 (ns : List Int) : C_law_s7 (fn_holds 28) (fn_knows_from 28) (fn_doubts 28) [.va (scr ns), .va F3, .va CH3, .va (.int 2), .va RD2, .un, .un, .un, .un, .un, .un, .un, .un, .un, .un] = .ok (.nx [.va (scr ns), .va F3, .va CH3, .va (.int 2), .va RD2, .un, .un, .un, .un, .un, .un, .un, .un, .un, .un]) := by kernel_rfl
theorem st8_2 (ns : List Int) : C_law_s8 (fn_holds 28) (fn_knows_from 28) (fn_doubts 28) [.va (scr ns), .va F3, .va CH3, .va (.int 2), .va RD2, .un, .un, .un, .un, .un, .un, .un, .un, .un, .un] = .ok (.nx [.va (scr ns), .va F3, .va CH3, .va (.int 2), .va RD2, .un, .un, .un, .un, .un, .un, .un, .un, .un, .un]) := by kernel_rfl
theorem st9_2 (ns : List Int) : C_law_s9 (fn_holds 28) (fn_knows_from 28) (fn_doubts 28) [.va (scr ns), .va F3, .va CH3, .va (.int 2), .va RD2, .un, .un, .un, .un, .un, .un, .un, .un, .un, .un] = .ok (.nx [.va (scr ns), .va F3, .va CH3, .va (.int 2), .va RD2, .un, .un, .un, .un, .un, .un, .un, .un, .un, .un]) := by kernel_rfl
section
variable (a c d e : Slot)
theorem st10 : C_law_s10 (fn_holds 28) (fn_knows_from 28) (fn_doubts 28) [a, .va F3, .va CH3, c, d, .un, .un, .un, .un, .un, .un, .un, .un, .un, .un] = .ok (.nx [a, .va F3, .va CH3, c, d, .va F2, .un, .un, .un, .un, .un, .un, .un, .un, .un]) := by kernel_rfl
theorem st11 : C_law_s11 (fn_holds 28) (fn_knows_from 28) (fn_doubts 28) [a, .va F3, .va CH3, c, d, .va F2, .un, .un, .un, .un, .un, .un, .un, .un, .un] = .ok (.nx [a, .va F3, .va CH3, c, d, .va F2, .va RV2, .un, .un, .un, .un, .un, .un, .un, .un]) := by kernel_rfl
theorem st12 : C_law_s12 (fn_holds 28) (fn_knows_from 28) (fn_doubts 28) [a, .va F3, .va CH3, c, d, .va F2, .va RV2, .un, .un, .un, .un, .un, .un, .un, .un] = .ok (.nx [a, .va F3, .va CH3, c, d, .va F2, .va RV2, .un, .un, .un, .un, .un, .un, .un, .un]) := by kernel_rfl
theorem st13 : C_law_s13 (fn_holds 28) (fn_knows_from 28) (fn_doubts 28) [a, .va F3, .va CH3, c, d, .va F2, .va RV2, .un, .un, .un, .un, .un, .un, .un, .un] = .ok (.nx [a, .va F3, .va CH3, c, d, .va F2, .va RV2, .va WV, .un, .un, .un, .un, .un, .un, .un]) := by kernel_rfl
theorem st14 : C_law_s14 (fn_holds 28) (fn_knows_from 28) (fn_doubts 28) [a, .va F3, .va CH3, c, d, .va F2, .va RV2, .va WV, .un, .un, .un, .un, .un, .un, .un] = .ok (.nx [a, .va F3, .va CH3, c, d, .va F2, .va RV2, .va WV, .va W1, .va NM, .un, .un, .un, .un, .un]) := by kernel_rfl
theorem st15 : C_law_s15 (fn_holds 28) (fn_knows_from 28) (fn_doubts 28) [a, .va F3, .va CH3, c, d, .va F2, .va RV2, .va WV, .va W1, .va NM, .un, .un, .un, .un, .un] = .ok (.nx [a, .va F3, .va CH3, c, d, .va F2, .va RV2, .va WV, .va W1, .va NM, .un, .un, .un, .un, .un]) := by kernel_rfl
theorem st16 : C_law_s16 (fn_holds 28) (fn_knows_from 28) (fn_doubts 28) [a, .va F3, .va CH3, c, d, .va F2, .va RV2, .va WV, .va W1, .va NM, .un, .un, .un, .un, .un] = .ok (.nx [a, .va F3, .va CH3, c, d, .va F2, .va RV2, .va WV, .va W1, .va NM, .va OW, .un, .un, .un, .un]) := by kernel_rfl
theorem st17 : C_law_s17 (fn_holds 28) (fn_knows_from 28) (fn_doubts 28) [a, .va F3, .va CH3, c, d, .va F2, .va RV2, .va WV, .va W1, .va NM, .va OW, .un, .un, .un, .un] = .ok (.nx [a, .va F3, .va CH3, c, d, .va F2, .va RV2, .va WV, .va W1, .va NM, .va OW, .un, .un, .un, .un]) := by kernel_rfl
theorem st18 : C_law_s18 (fn_holds 28) (fn_knows_from 28) (fn_doubts 28) [a, .va F3, .va CH3, c, d, .va F2, .va RV2, .va WV, .va W1, .va NM, .va OW, .un, .un, .un, .un] = .ok (.rt (.bool true)) := by kernel_rfl
end
theorem law_c (ns : List Int) (hn : ns.length ≤ 63) : C_law (fn_holds 28) (fn_knows_from 28) (fn_doubts 28) [scr ns] = .ok (.bool true) := by
  obtain ⟨i, i0, i3, ei⟩ := sp_pick ns (k := 0) (many := 3) hn (by decide) (by decide) (by decide)
  have e4 : C_law_s4 (fn_holds 28) (fn_knows_from 28) (fn_doubts 28) [.va (scr ns), .va F3, .va CH3, .un, .un, .un, .un, .un, .un, .un, .un, .un, .un, .un, .un] = .ok (.nx [.va (scr ns), .va F3, .va CH3, .va (.int i), .un, .un, .un, .un, .un, .un, .un, .un, .un, .un, .un]) := by
    have er : relR [0] [.va (scr ns), .va F3, .va CH3, .un, .un, .un, .un, .un, .un, .un, .un, .un, .un, .un, .un] = [.va (scr ns), .va F3, .va CH3, .un, .un, .un, .un, .un, .un, .un, .un, .un, .un, .un, .un] := rfl
    have r0 : rdE 0 [.va (scr ns), .va F3, .va CH3, .un, .un, .un, .un, .un, .un, .un, .un, .un, .un, .un, .un] = .ok (scr ns) := rfl
    simp -implicitDefEqProofs only [C_law_s4, relS_ap, er, sSet_ap, eC_ap, eArgs_cons, eArgs_nil, kD_ap, r0, R.ok_bind, ari_3, show C_law_pick [scr ns, .int 0, .int 3] = .ok (.int i) from ei]
    rfl
  show (C_law_t0 (fn_holds 28) (fn_knows_from 28) (fn_doubts 28) [.va (scr ns), .un, .un, .un, .un, .un, .un, .un, .un, .un, .un, .un, .un, .un, .un] >>= fOut) = _
  rw [C_law_t0, seq_nx (st0 ns), C_law_t1, seq_nx (st1 ns), C_law_t2, seq_nx (st2 ns), C_law_t3, seq_nx (st3 ns), C_law_t4, seq_nx e4]
  have h : i = 0 ∨ i = 1 ∨ i = 2 := by omega
  rcases h with rfl | rfl | rfl
  · rw [C_law_t5, seq_nx (st5_0 ns), C_law_t6, seq_nx (st6_0 ns), C_law_t7, seq_nx (st7_0 ns), C_law_t8, seq_nx (st8_0 ns), C_law_t9, seq_nx (st9_0 ns), C_law_t10, seq_nx (st10 ..), C_law_t11, seq_nx (st11 _ _ _), C_law_t12, seq_nx (st12 _ _ _), C_law_t13, seq_nx (st13 _ _ _), C_law_t14, seq_nx (st14 _ _ _), C_law_t15, seq_nx (st15 _ _ _), C_law_t16, seq_nx (st16 _ _ _), C_law_t17, seq_nx (st17 _ _ _), C_law_t18, fSeq_ap, st18 _ _ _]
    rfl
  · rw [C_law_t5, seq_nx (st5_1 ns), C_law_t6, seq_nx (st6_1 ns), C_law_t7, seq_nx (st7_1 ns), C_law_t8, seq_nx (st8_1 ns), C_law_t9, seq_nx (st9_1 ns), C_law_t10, seq_nx (st10 ..), C_law_t11, seq_nx (st11 _ _ _), C_law_t12, seq_nx (st12 _ _ _), C_law_t13, seq_nx (st13 _ _ _), C_law_t14, seq_nx (st14 _ _ _), C_law_t15, seq_nx (st15 _ _ _), C_law_t16, seq_nx (st16 _ _ _), C_law_t17, seq_nx (st17 _ _ _), C_law_t18, fSeq_ap, st18 _ _ _]
    rfl
  · rw [C_law_t5, seq_nx (st5_2 ns), C_law_t6, seq_nx (st6_2 ns), C_law_t7, seq_nx (st7_2 ns), C_law_t8, seq_nx (st8_2 ns), C_law_t9, seq_nx (st9_2 ns), C_law_t10, seq_nx (st10 ..), C_law_t11, seq_nx (st11 _ _ _), C_law_t12, seq_nx (st12 _ _ _), C_law_t13, seq_nx (st13 _ _ _), C_law_t14, seq_nx (st14 _ _ _), C_law_t15, seq_nx (st15 _ _ _), C_law_t16, seq_nx (st16 _ _ _), C_law_t17, seq_nx (st17 _ _ _), C_law_t18, fSeq_ap, st18 _ _ _]
    rfl
theorem law_true : ∀ ns : List Int, ns.length ≤ 63 → runD (prg.T 100000 60 29) d_law.N 100000 61 (defScope d_law.st) (defBody d_law.st) [scr ns] = .ok (.bool true) := fun ns hn => by
  have e : fn_law 29 = C_law (fn_holds 28) (fn_knows_from 28) (fn_doubts 28) := by
    have := ff_law 28
    rw [c_law_three 27, c_all_chains 21, c_is_safe 20, c_law_pick 27, c_stands 19, c_surely_false 19, c_least_cut 21, c_rival 19, c_is_rival 19, c_law_waving 27] at this
    exact this.trans (cf_law _ _ _)
  have := congrFun e [scr ns]
  exact this.trans (law_c ns hn)
end Lw
open PySem PySem.W PySem.Calls PyProof.Rows
theorem PySem.Challenge.cw_hullflags_k95_whole_by_hand_holds : PySem.Challenge.rw_hullflags_k95_whole_by_hand.Holds := by
  w_on; o_law
  refine HandSHeadRun.head_any (r := OpenLaw.row PySem.Challenge.rw_hullflags_k95_whole_by_hand) (q := view (OpenLaw.row PySem.Challenge.rw_hullflags_k95_whole_by_hand).prog [91]) (H := LwT.hk) (ob := LwT.ob) (M := 12000) (loose := LwT.loose) (d := HandSHeadRun.topDef (OpenLaw.row PySem.Challenge.rw_hullflags_k95_whole_by_hand).prog 91) (kwd := []) LwT.ob_eq
    (by kernel_rfl) (fun s => by kernel_rfl) LwT.run (by kernel_rfl) (by kernel_rfl) (by kernel_rfl) (by rfl) (by first | assumption | decide +kernel) (by decide +kernel) ⟨rfl, rfl, rfl, rfl, rfl, by decide +kernel⟩ ?hw ?hc
  case hw => w_witness2
  case hc =>
    refine L2.walk_ofE (l := PySem.Challenge.rw_hullflags_k95_whole_by_hand) (n := 63) (k := 39) (x := "script") (CX := DL.CXany) rfl (by decide) (by kernel_rfl) ⟨rfl, by decide, by decide⟩ ?F (fun _ _ _ _ z => DL.cxany_no z)
    intro w mg fa h Y G hmg0
    obtain ⟨K, KX, cx, c⟩ := Y
    have hmg : mg ("law" : PySem.Str) = some (.ref fa) := by
      have e : (HandSHeadRun.topDef (OpenLaw.row PySem.Challenge.rw_hullflags_k95_whole_by_hand).prog 91).name = ("law" : PySem.Str) := by kernel_rfl
      rw [← e]
      exact hmg0
    obtain ⟨fd, sp, hb, hsp, hF⟩ := DL.law_ok (P := (PySem.Challenge.rw_hullflags_k95_whole_by_hand).prog) (w := w) Lw.prg 100000 60 29 KX G hmg cx c Lw.sc_all Lw.bnd_all Lw.kn_ok Lw.bnd_mths Lw.d_law (by simp [Lw.prg]) rfl rfl Lw.law_true
    exact ⟨K, fd, sp, KX, hb, hsp, hF⟩
