import PyProof.Rows.All
import Wide.All
import OpenK.AllK
import Wide.FinOn
import HandS.Base
import HandS.Call
import HandS.List
import HandS.Comp
import HandS.Iter
import HandS.Exc
import HandS.ExcOwn
import HandS.TryOnly
import HandS.Lambda
import HandS.CallSlots
import HandS.Words
import HandS.WordsExc
import HandS.Defaults
import HandS.IsInst
import HandS.TupAny
import HandS.TupMul
import HandS.Flow
import HandS.Deep
import HandS.Wide
import HandS.Style
import HandS.Text
import HandS.SortInts
import HandS.More
import KE.GoesNew
import KE.GoesEnum
import KE.GoesMore
import HandS.Zip
import HandS.ExcIs
import HandS.HeadHook1
import HandS.DictComp
import HandS.WordsDict
import HandS.Conv
import KE.DataAny
import KE.DataFind
import KE.DataMinMax
import HandS.HeadHook2
import HandS.HeadHook3
import HandS.HeadHook4
import HandS.EndTab
import HandS.HeadWalk
import PySem.Challenge.RW_emberhall_k71_whole_rounds_of_teams_and
import HandS.Head0
import HandS.Head1
import HandS.Head2
import HandS.HeadEnd
import KE.KStateDown
set_option Elab.async false
set_option linter.all false
set_option maxRecDepth 100000
/- DL1 -/
section
set_option maxHeartbeats 4000000
/-! DL: a layer of data over HandS. Values are data (PyData, frozen in the heap) or lists owned by one slot. -/
namespace DL
open PySem PySem.Spec PyProof.Rows L2

/-! ### frozen data -/
/-- a list that stands in the written part -/
def KL (K : PySem.W.Frag) (a : Addr) (xs : List V) : Prop := ∃ (its : Array Value) (n : Nat), K.lookup a = some { cls := .type "list", data := .seq its n } ∧ its.size ≤ sizeLine ∧ Vals xs its.toList
def FzL (K : PySem.W.Frag) (H : Hp) (a : Addr) (xs : List V) : Prop := (∃ o, H a = some (.frz o (.lst xs))) ∨ KL K a xs
def RdL (K : PySem.W.Frag) (H : Hp) (a : Addr) (xs : List V) : Prop := Rd H a (.lst xs) ∨ KL K a xs
theorem RdL.sq {K : PySem.W.Frag} {H : Hp} {a : Addr} {xs : List V} (h : RdL K H a xs) : SqL K H a xs := by
  rcases h with h | ⟨its, n, h1, h2, h3⟩
  · exact .inl h
  · exact .inr ⟨_, its, n, h1, rfl, rfl, rfl, h2, h3⟩
def FzT (K : PySem.W.Frag) (H : Hp) (a : Addr) (xs : List V) : Prop := H a = some (.tup xs) ∨
    ∃ (o : Obj) (its : Array Value) (n : Nat), K.lookup a = some o ∧ o.cls = .type "tuple" ∧ o.data = .seq its n ∧ its.size ≤ sizeLine ∧ Vals xs its.toList
theorem FzL.rd {K : PySem.W.Frag} {H : Hp} {a : Addr} {xs : List V} (h : FzL K H a xs) : RdL K H a xs := by
  rcases h with h | h
  · exact .inl (.inr h)
  · exact .inr h
theorem FzL.sq {K : PySem.W.Frag} {H : Hp} {a : Addr} {xs : List V} (h : FzL K H a xs) : SqL K H a xs := h.rd.sq
theorem FzT.sq {K : PySem.W.Frag} {H : Hp} {a : Addr} {xs : List V} (h : FzT K H a xs) : SqT K H a xs := by
  rcases h with h | h
  · exact .inl (.inl h)
  · exact .inr h
mutual
inductive Dz (K : PySem.W.Frag) (H : Hp) : V → PyData → Prop
  | non : Dz K H .non .none
  | bl (b : Bool) : Dz K H (.bl b) (.bool b)
  | int (i : Int) : Dz K H (.int i) (.int i)
  | str (x : Str) : Dz K H (.str x) (.str x)
  | lst {a : Addr} {xs : List V} {ds : List PyData} : FzL K H a xs → DzAll K H xs ds → Dz K H (.ref a) (.list ds)
  | tup {a : Addr} {xs : List V} {ds : List PyData} : FzT K H a xs → DzAll K H xs ds → Dz K H (.ref a) (.tuple ds)
inductive DzAll (K : PySem.W.Frag) (H : Hp) : List V → List PyData → Prop
  | nil : DzAll K H [] []
  | cons {v : V} {vs : List V} {d : PyData} {ds : List PyData} : Dz K H v d → DzAll K H vs ds → DzAll K H (v :: vs) (d :: ds)
end
/-- what is frozen stays -/
structure Le (H H' : Hp) : Prop where
  t : ∀ a xs, H a = some (.tup xs) → H' a = some (.tup xs)
  f : ∀ a o u, H a = some (.frz o u) → H' a = some (.frz o u)
theorem Le.refl (H : Hp) : Le H H := ⟨fun _ _ h => h, fun _ _ _ h => h⟩
theorem Le.trans {H H1 H2 : Hp} (a : Le H H1) (b : Le H1 H2) : Le H H2 := ⟨fun c x h => b.t c x (a.t c x h), fun c o u h => b.f c o u (a.f c o u h)⟩
theorem Le.same {H H' : Hp} (e : Same H H') : Le H H' := ⟨fun a _ h => e a _ h, fun a _ _ h => e a _ h⟩
theorem FzL.le {K : PySem.W.Frag} {H H' : Hp} {a : Addr} {xs : List V} (e : Le H H') (h : FzL K H a xs) : FzL K H' a xs := by
  rcases h with ⟨o, h⟩ | h
  · exact .inl ⟨o, e.f _ _ _ h⟩
  · exact .inr h
theorem FzT.le {K : PySem.W.Frag} {H H' : Hp} {a : Addr} {xs : List V} (e : Le H H') (h : FzT K H a xs) : FzT K H' a xs := by
  rcases h with h | h
  · exact .inl (e.t _ _ h)
  · exact .inr h
section
variable {K : PySem.W.Frag} {H H' : Hp}
mutual
theorem Dz.le (e : Le H H') : ∀ (d : PyData) {v : V}, Dz K H v d → Dz K H' v d
  | .none, _, h => by cases h; exact .non
  | .bool b, _, h => by cases h; exact .bl b
  | .int i, _, h => by cases h; exact .int i
  | .str x, _, h => by cases h; exact .str x
  | .list ds, _, h => by
    cases h with
    | lst hs ha => exact .lst (hs.le e) (DzAll.le e ds ha)
  | .tuple ds, _, h => by
    cases h with
    | tup hs ha => exact .tup (hs.le e) (DzAll.le e ds ha)
  | .dict _, _, h => by cases h
theorem DzAll.le (e : Le H H') : ∀ (ds : List PyData) {vs : List V}, DzAll K H vs ds → DzAll K H' vs ds
  | [], _, h => by cases h; exact .nil
  | d :: ds, _, h => by
    cases h with
    | cons h1 h2 => exact .cons (Dz.le e d h1) (DzAll.le e ds h2)
end
mutual
theorem Dz.dp : ∀ (d : PyData) {v : V}, Dz K H v d → Dp K H v d
  | .none, _, h => by cases h; exact .non
  | .bool b, _, h => by cases h; exact .bl b
  | .int i, _, h => by cases h; exact .int i
  | .str x, _, h => by cases h; exact .str x
  | .list ds, _, h => by
    cases h with
    | lst hs ha => exact .lst hs.sq (DzAll.dp ds ha)
  | .tuple ds, _, h => by
    cases h with
    | tup hs ha => exact .tup hs.sq (DzAll.dp ds ha)
  | .dict _, _, h => by cases h
theorem DzAll.dp : ∀ (ds : List PyData) {vs : List V}, DzAll K H vs ds → DpAll K H vs ds
  | [], _, h => by cases h; exact .nil
  | d :: ds, _, h => by
    cases h with
    | cons h1 h2 => exact .cons (Dz.dp d h1) (DzAll.dp ds h2)
end
theorem DzAll.length : ∀ {vs : List V} {ds : List PyData}, DzAll K H vs ds → vs.length = ds.length
  | _, _, .nil => rfl
  | _, _, .cons _ t => congrArg Nat.succ (DzAll.length t)
theorem DzAll.get : ∀ {vs : List V} {ds : List PyData}, DzAll K H vs ds → ∀ {i : Nat} {d : PyData}, ds[i]? = some d → ∃ v, vs[i]? = some v ∧ Dz K H v d
  | _, _, .nil, i, d, e => by simp at e
  | _, _, .cons r t, 0, d, e => by simp at e; subst e; exact ⟨_, rfl, r⟩
  | _, _, .cons r t, i + 1, d, e => by
    obtain ⟨v, h1, h2⟩ := DzAll.get t (i := i) (d := d) (by simpa using e)
    exact ⟨v, by simpa using h1, h2⟩
theorem DzAll.getV : ∀ {vs : List V} {ds : List PyData}, DzAll K H vs ds → ∀ {i : Nat} {v : V}, vs[i]? = some v → ∃ d, ds[i]? = some d ∧ Dz K H v d
  | _, _, .nil, i, d, e => by simp at e
  | _, _, .cons r t, 0, d, e => by simp at e; subst e; exact ⟨_, rfl, r⟩
  | _, _, .cons r t, i + 1, v, e => by
    obtain ⟨d, h1, h2⟩ := DzAll.getV t (i := i) (v := v) (by simpa using e)
    exact ⟨d, by simpa using h1, h2⟩
theorem DzAll.append : ∀ {vs ws : List V} {ds es : List PyData}, DzAll K H vs ds → DzAll K H ws es → DzAll K H (vs ++ ws) (ds ++ es)
  | _, _, _, _, .nil, s => s
  | _, _, _, _, .cons r t, s => .cons r (DzAll.append t s)
theorem DzAll.set {v : V} {d : PyData} (r : Dz K H v d) : ∀ {vs : List V} {ds : List PyData} (i : Nat), DzAll K H vs ds → DzAll K H (vs.set i v) (ds.set i d)
  | _, _, _, .nil => .nil
  | _, _, 0, .cons _ t => .cons r t
  | _, _, i + 1, .cons q t => .cons q (DzAll.set r i t)
theorem DzAll.take : ∀ {vs : List V} {ds : List PyData} (n : Nat), DzAll K H vs ds → DzAll K H (vs.take n) (ds.take n)
  | _, _, 0, _ => .nil
  | _, _, _ + 1, .nil => .nil
  | _, _, n + 1, .cons r t => .cons r (DzAll.take n t)
theorem DzAll.drop : ∀ {vs : List V} {ds : List PyData} (n : Nat), DzAll K H vs ds → DzAll K H (vs.drop n) (ds.drop n)
  | _, _, 0, r => r
  | _, _, _ + 1, .nil => .nil
  | _, _, n + 1, .cons r t => DzAll.drop n t
theorem DzAll.eraseIdx : ∀ {vs : List V} {ds : List PyData} (i : Nat), DzAll K H vs ds → DzAll K H (vs.eraseIdx i) (ds.eraseIdx i)
  | _, _, _, .nil => .nil
  | _, _, 0, .cons _ t => t
  | _, _, i + 1, .cons q t => .cons q (DzAll.eraseIdx i t)
theorem DzAll.reverse : ∀ {vs : List V} {ds : List PyData}, DzAll K H vs ds → DzAll K H vs.reverse ds.reverse
  | _, _, .nil => .nil
  | _, _, .cons r t => by
    rw [List.reverse_cons, List.reverse_cons]
    exact (DzAll.reverse t).append (.cons r .nil)
theorem DzAll.rep {vs : List V} {ds : List PyData} (h : DzAll K H vs ds) : ∀ k : Nat, DzAll K H (List.replicate k vs).flatten (List.replicate k ds).flatten
  | 0 => .nil
  | k + 1 => by
    rw [List.replicate_succ, List.flatten_cons, List.replicate_succ, List.flatten_cons]
    exact h.append (DzAll.rep h k)
theorem DzAll.of_get : ∀ {vs : List V} {ds : List PyData}, vs.length = ds.length → (∀ (i : Nat) v d, vs[i]? = some v → ds[i]? = some d → Dz K H v d) → DzAll K H vs ds
  | [], [], _, _ => .nil
  | [], _ :: _, h, _ => by simp at h
  | _ :: _, [], h, _ => by simp at h
  | v :: vs, d :: ds, h, g => .cons (g 0 v d rfl rfl) (DzAll.of_get (by simpa using h) fun i x y h1 h2 => g (i + 1) x y (by simpa using h1) (by simpa using h2))
theorem DzAll.ints : ∀ {vs : List V} {ns : List Int}, DzAll K H vs (ns.map .int) → vs = ns.map V.int
  | _, [], h => by cases h; rfl
  | _, n :: ns, h => by
    cases h with
    | cons h1 h2 =>
      cases h1
      rw [List.map_cons, DzAll.ints h2]
theorem DzAll.of_ints : ∀ (ns : List Int), DzAll K H (ns.map V.int) (ns.map .int)
  | [] => .nil
  | n :: ns => .cons (.int n) (DzAll.of_ints ns)
theorem DzAll.bools : ∀ {vs : List V} {bs : List Bool}, DzAll K H vs (bs.map .bool) → vs = bs.map V.bl
  | _, [], h => by cases h; rfl
  | _, n :: ns, h => by
    cases h with
    | cons h1 h2 =>
      cases h1
      rw [List.map_cons, DzAll.bools h2]
theorem DzAll.strs : ∀ {vs : List V} {bs : List Str}, DzAll K H vs (bs.map .str) → vs = bs.map V.str
  | _, [], h => by cases h; rfl
  | _, n :: ns, h => by
    cases h with
    | cons h1 h2 =>
      cases h1
      rw [List.map_cons, DzAll.strs h2]
theorem DzAll.of_strs : ∀ (ns : List Str), DzAll K H (ns.map V.str) (ns.map .str)
  | [] => .nil
  | n :: ns => .cons (.str n) (DzAll.of_strs ns)
end

/-! ### environments -/
/-- what a slot holds: data, or a list of its own (b: lent by the caller) -/
inductive EV where
  | d (x : PyData)
  | own (b : Bool) (ds : List PyData)
  | x (v : V)
abbrev En := List (Option EV)
/-- what is under construction -/
inductive PO where
  | l (xs : List V)
  | k (kvs : List (Key × V))
def PO.ho : PO → HO
  | .l xs => .lst xs
  | .k kvs => .dK kvs
theorem PO.ntbl (o : PO) (ps : Array Value) : o.ho ≠ .tbl ps := by cases o <;> exact fun z => by cases z
structure Ct where
  /-- tables of code objects -/
  T : List (Addr × Str)
  /-- the heap at the entry -/
  H0 : Hp
  /-- lists that were lent -/
  bk : Nat → Option Addr
  /-- lists under construction that no slot holds -/
  P : Addr → Option PO
/-- not kept -/
def Nk (H : Hp) (a : Addr) : Prop := ∀ o, H a = some o → ∃ ps, o = .tbl ps
structure Rel (K : PySem.W.Frag) (C : Ct) (H : Hp) (σ : L2.St) (env : En) : Prop where
  len : env.length = σ.length
  dat : ∀ (i : Nat) x, env[i]? = some (some (.d x)) → ∃ v, σ[i]? = some (some v) ∧ Dz K H v x
  own : ∀ (i : Nat) b ds, env[i]? = some (some (.own b ds)) → ∃ a xs, σ[i]? = some (some (.ref a)) ∧ H a = some (.lst xs) ∧ DzAll K H xs ds ∧ (if b then C.bk i = some a else Nk C.H0 a) ∧ C.P a = none
  opq : ∀ (i : Nat) v, env[i]? = some (some (.x v)) → σ[i]? = some (some v)
  bkd : ∀ (i : Nat) a, C.bk i = some a → ∃ ds, env[i]? = some (some (.own true ds))
  dis : ∀ (i j : Nat) b c ds es a, i ≠ j → env[i]? = some (some (.own b ds)) → env[j]? = some (some (.own c es)) → σ[i]? = some (some (.ref a)) → σ[j]? = some (some (.ref a)) → False
  keep : ∀ a o, C.H0 a = some o → (∀ j, C.bk j ≠ some a) → (∀ ps, o ≠ .tbl ps) → H a = some o
  prot : ∀ a o, C.P a = some o → H a = some o.ho
  tab : LamX.Tabs C.T H

/-- errors -/
structure Er where
  cls : Str
  arg : Option (Str × PyData)
inductive R (α : Type) where
  | ok (v : α) (env : En)
  | err (e : Er) (env : En)
  | stuck
abbrev M (α : Type) := En → R α
def M.pure {α : Type} (v : α) : M α := fun env => .ok v env
def M.bind {α β : Type} (m : M α) (k : α → M β) : M β := fun env => match m env with
  | .ok v env' => k v env'
  | .err e env' => .err e env'
  | .stuck => .stuck
def M.stuck {α : Type} : M α := fun _ => .stuck
def M.opt {α : Type} : Option α → M α
  | some v => M.pure v
  | none => M.stuck
instance : Monad M where
  pure := M.pure
  bind := M.bind
/-- an expression's value: data, or the list that slot i owns -/
inductive Vl where
  | d (x : PyData)
  | sl (i : Nat)
def VR (K : PySem.W.Frag) (σ : L2.St) (u : V) (H : Hp) : Vl → Prop
  | .d x => Dz K H u x
  | .sl i => σ[i]? = some (some u)
def ErR (K : PySem.W.Frag) (mg : Str → Option Value) (H : Hp) (e : Er) (cls : Value) (od : Option Addr) : Prop :=
  ∃ C, cls = .ref C ∧ mg e.cls = some (.ref C) ∧ match e.arg with
    | none => od = none
    | some (f, x) => ∃ dd v, od = some dd ∧ H dd = some (.xd [(f, v)]) ∧ Dz K H v x
section
variable (K : PySem.W.Frag) (mg : Str → Option Value) (C : Ct) (W : WX)
def Lf {α β : Type} (σ : L2.St) (H : Hp) (RV : β → Hp → α → En → Prop) (r : R α) (Q : β → Hp → Prop) : Prop := match r with
  | .ok v env' => ∀ u H', Rel K C H' σ env' → RV u H' v env' → Le H H' → Q u H'
  | .err e env' => ∀ cls od H', Rel K C H' σ env' → ErR K mg H' e cls od → Le H H' → W cls od σ H'
  | .stuck => False
end
def VRs (K : PySem.W.Frag) (σ : L2.St) (H : Hp) : List V → List Vl → Prop
  | [], [] => True
  | u :: us, v :: vs => VR K σ u H v ∧ VRs K σ H us vs
  | _, _ => False
/-- a new list, not yet given to a name -/
def OR (K : PySem.W.Frag) (C : Ct) (σ : L2.St) (u : V) (H : Hp) (ds : List PyData) (env : En) : Prop :=
  ∃ p xs, u = .ref p ∧ H p = some (.lst xs) ∧ DzAll K H xs ds ∧ Nk C.H0 p ∧ C.P p = none ∧ ∀ (i : Nat) b es, env[i]? = some (some (.own b es)) → σ[i]? ≠ some (some (.ref p))
section
variable (K : PySem.W.Frag) (mg : Str → Option Value) (C : Ct) (W : WX)
/-- the readings -/
def lift (m : M Vl) : TE := fun σ H Q => ∃ env, Rel K C H σ env ∧ Lf K mg C W σ H (fun u H v _ => VR K σ u H v) (m env) Q
def liftO (m : M (List PyData)) : TE := fun σ H Q => ∃ env, Rel K C H σ env ∧ Lf K mg C W σ H (OR K C σ) (m env) Q
def liftT (m : M Bool) : TT := fun σ H Q => ∃ env, Rel K C H σ env ∧ Lf K mg C W σ H (fun b _ v _ => b = v) (m env) Q
def liftA (m : M (List Vl)) : TA := fun σ H Q => ∃ env, Rel K C H σ env ∧ Lf K mg C W σ H (fun us H vs _ => VRs K σ H us vs) (m env) Q
end
structure DE (X : Cx) (T : List (Addr × Str)) (W : WX) (e : Expr) (m : M Vl) : Prop where
  pe : ∀ C : Ct, C.T = T → PE X e (lift X.K X.mg C W m)
structure DO (X : Cx) (T : List (Addr × Str)) (W : WX) (e : Expr) (m : M (List PyData)) : Prop where
  pe : ∀ C : Ct, C.T = T → PE X e (liftO X.K X.mg C W m)
structure DT (X : Cx) (T : List (Addr × Str)) (W : WX) (e : Expr) (m : M Bool) : Prop where
  pt : ∀ C : Ct, C.T = T → PT X e (liftT X.K X.mg C W m)
structure DW (X : Cx) (T : List (Addr × Str)) (W : WX) (e : Expr) (m : M Bool) : Prop where
  pw : ∀ C : Ct, C.T = T → PW X e (liftT X.K X.mg C W m)
structure DA (X : Cx) (T : List (Addr × Str)) (W : WX) (es : List Expr) (m : M (List Vl)) : Prop where
  pa : ∀ C : Ct, C.T = T → PA X es (liftA X.K X.mg C W m)

section
variable {K : PySem.W.Frag} {mg : Str → Option Value} {C : Ct} {W : WX} {σ : L2.St} {H H' : Hp} {env : En}
theorem VR.le {u : V} {v : Vl} (e : Le H H') (h : VR K σ u H v) : VR K σ u H' v := by
  cases v with
  | d x => exact Dz.le e x h
  | sl i => exact h
theorem VRs.le (e : Le H H') : ∀ {us : List V} {vs : List Vl}, VRs K σ H us vs → VRs K σ H' us vs
  | [], [], _ => trivial
  | u :: us, v :: vs, h => ⟨VR.le e h.1, VRs.le e h.2⟩
  | [], _ :: _, h => h.elim
  | _ :: _, [], h => h.elim
theorem VRs.length : ∀ {us : List V} {vs : List Vl}, VRs K σ H us vs → us.length = vs.length
  | [], [], _ => rfl
  | u :: us, v :: vs, h => congrArg Nat.succ (VRs.length h.2)
  | [], _ :: _, h => h.elim
  | _ :: _, [], h => h.elim
/-- a heap that has grown -/
theorem Rel.grow (r : Rel K C H σ env) (e : Same H H') : Rel K C H' σ env where
  len := r.len
  dat := fun i x h => let ⟨v, h1, h2⟩ := r.dat i x h; ⟨v, h1, Dz.le (.same e) x h2⟩
  own := fun i b ds h => let ⟨a, xs, h1, h2, h3, h4⟩ := r.own i b ds h; ⟨a, xs, h1, e _ _ h2, DzAll.le (.same e) ds h3, h4⟩
  bkd := r.bkd
  dis := r.dis
  keep := fun a o h1 h2 h3 => e _ _ (r.keep a o h1 h2 h3)
  prot := fun a xs h => e _ _ (r.prot a xs h)
  opq := r.opq
  tab := r.tab.ext e
theorem Rel.nk (r : Rel K C H σ env) {a : Addr} (h : Nk H a) : Nk C.H0 a := fun o e => by
  by_cases hk : ∀ j, C.bk j ≠ some a
  · by_cases ht : ∀ ps, o ≠ .tbl ps
    · exact h o (r.keep a o e hk ht)
    · exact Classical.byContradiction fun z => ht fun ps e2 => z ⟨ps, e2⟩
  · have : ∃ j, C.bk j = some a := Classical.byContradiction fun z => hk fun j e2 => z ⟨j, e2⟩
    obtain ⟨j, e2⟩ := this
    obtain ⟨ds, e3⟩ := r.bkd j a e2
    obtain ⟨a', xs, _, q2, _, q4, _⟩ := r.own j true ds e3
    rw [if_pos rfl, e2] at q4
    cases q4
    obtain ⟨ps, e4⟩ := h _ q2
    cases e4
theorem Rel.dom (r : Rel K C H σ env) (a : Addr) (h : H a = none) : Nk C.H0 a := r.nk fun o e => by
  rw [h] at e
  cases e
variable {α β γ δ : Type}
theorem Lf.mono {RV : β → Hp → α → En → Prop} {r : R α} {Q Q' : β → Hp → Prop} (h : Lf K mg C W σ H RV r Q) (e : Le H H') (q : ∀ u H, Q u H → Q' u H) : Lf K mg C W σ H' RV r Q' := by
  cases r with
  | ok v env' => exact fun u H2 r1 r2 l => q _ _ (h u H2 r1 r2 (e.trans l))
  | err x env' => exact fun cls od H2 r1 r2 l => h cls od H2 r1 r2 (e.trans l)
  | stuck => exact h.elim
theorem Lf.bind {RV : β → Hp → α → En → Prop} {RW : δ → Hp → γ → En → Prop} {m : M γ} {k : γ → M α} {Q : β → Hp → Prop} {Q1 : δ → Hp → Prop} (h : Lf K mg C W σ H RV (M.bind m k env) Q)
    (q : ∀ u H1 v env', Rel K C H1 σ env' → RW u H1 v env' → Le H H1 → Lf K mg C W σ H1 RV (k v env') Q → Q1 u H1) : Lf K mg C W σ H RW (m env) Q1 := by
  unfold M.bind at h
  cases e : m env with
  | ok v env' =>
    rw [e] at h
    exact fun u H1 r1 r2 l => q u H1 v env' r1 r2 l (Lf.mono (show Lf K mg C W σ H RV (k v env') Q from h) l fun _ _ z => z)
  | err x env' =>
    rw [e] at h
    exact h
  | stuck =>
    rw [e] at h
    exact h.elim
end

/-! ### reading a value -/
def Vl.get : Vl → M PyData
  | .d x => M.pure x
  | .sl i => fun env => match env[i]? with
    | some (some (.own _ ds)) => .ok (.list ds) env
    | _ => .stuck
/-- data that may be read: frozen, or a list that a slot owns -/
def Rz (K : PySem.W.Frag) (H : Hp) (u : V) (d : PyData) : Prop := Dz K H u d ∨ ∃ a xs ds, u = .ref a ∧ d = .list ds ∧ H a = some (.lst xs) ∧ DzAll K H xs ds
section
variable {K : PySem.W.Frag} {mg : Str → Option Value} {C : Ct} {W : WX} {σ : L2.St} {H H' : Hp} {env : En} {α β : Type}
theorem Rz.dp {u : V} {d : PyData} (h : Rz K H u d) : Dp K H u d := by
  rcases h with h | ⟨a, xs, ds, rfl, rfl, h1, h2⟩
  · exact h.dp
  · exact .lst (SqL.of h1) h2.dp
theorem Rz.list {u : V} {ds : List PyData} (h : Rz K H u (.list ds)) : ∃ a xs, u = .ref a ∧ RdL K H a xs ∧ DzAll K H xs ds := by
  rcases h with h | ⟨a, xs, ds', rfl, e, h1, h2⟩
  · cases h with
    | lst h1 h2 => exact ⟨_, _, rfl, h1.rd, h2⟩
  · cases e
    exact ⟨a, xs, rfl, .inl (.inl h1), h2⟩
theorem Rz.tuple {u : V} {ds : List PyData} (h : Rz K H u (.tuple ds)) : ∃ a xs, u = .ref a ∧ FzT K H a xs ∧ DzAll K H xs ds := by
  rcases h with h | ⟨a, xs, ds', rfl, e, h1, h2⟩
  · cases h with
    | tup h1 h2 => exact ⟨_, _, rfl, h1, h2⟩
  · cases e
theorem Rz.int {u : V} {i : Int} (h : Rz K H u (.int i)) : u = .int i := by
  rcases h with h | ⟨a, xs, ds', rfl, e, h1, h2⟩
  · cases h; rfl
  · cases e
theorem Rz.bool {u : V} {i : Bool} (h : Rz K H u (.bool i)) : u = .bl i := by
  rcases h with h | ⟨a, xs, ds', rfl, e, h1, h2⟩
  · cases h; rfl
  · cases e
theorem Rz.str {u : V} {i : Str} (h : Rz K H u (.str i)) : u = .str i := by
  rcases h with h | ⟨a, xs, ds', rfl, e, h1, h2⟩
  · cases h; rfl
  · cases e
theorem Rz.non {u : V} (h : Rz K H u .none) : u = .non := by
  rcases h with h | ⟨a, xs, ds', rfl, e, h1, h2⟩
  · cases h; rfl
  · cases e
theorem Rz.nodict {u : V} {k : List (PyData × PyData)} (h : Rz K H u (.dict k)) : False := by
  rcases h with h | ⟨a, xs, ds', rfl, e, h1, h2⟩
  · cases h
  · cases e
theorem Lf.get {RV : β → Hp → α → En → Prop} {k : PyData → M α} {Q : β → Hp → Prop} {u : V} {v : Vl} (h : Lf K mg C W σ H RV (M.bind v.get k env) Q) (r : Rel K C H σ env) (hv : VR K σ u H v) :
    ∃ d, Rz K H u d ∧ Lf K mg C W σ H RV (k d env) Q := by
  cases v with
  | d x => exact ⟨x, .inl hv, h⟩
  | sl i =>
    unfold M.bind Vl.get at h
    dsimp only at h
    cases e : env[i]? with
    | none => rw [e] at h; exact h.elim
    | some o =>
      cases o with
      | none => rw [e] at h; exact h.elim
      | some ev =>
        cases ev with
        | d x => rw [e] at h; exact h.elim
        | x v => rw [e] at h; exact h.elim
        | own b ds =>
          rw [e] at h
          obtain ⟨a, xs, h1, h2, h3, _⟩ := r.own i b ds e
          have hv' : σ[i]? = some (some u) := hv
          rw [h1] at hv'
          cases hv'
          exact ⟨.list ds, .inr ⟨a, xs, ds, rfl, rfl, h2, h3⟩, h⟩
theorem Lf.opt {Q : VK} {o : Option PyData} (h : Lf K mg C W σ H (fun u H v _ => VR K σ u H v) (M.opt (o.map Vl.d) env) Q) (r : Rel K C H σ env) : ∃ d, o = some d ∧ ∀ z H', Same H H' → Dz K H' z d → Q z H' := by
  cases o with
  | none => exact h.elim
  | some d => exact ⟨d, rfl, fun z H' e hz => h z H' (r.grow e) hz (.same e)⟩
theorem Lf.optB {RV : β → Hp → α → En → Prop} {Q : β → Hp → Prop} {γ : Type} {o : Option γ} {k : γ → M α} (h : Lf K mg C W σ H RV (M.bind (M.opt o) k env) Q) : ∃ d, o = some d ∧ Lf K mg C W σ H RV (k d env) Q := by
  cases o with
  | none => exact h.elim
  | some d => exact ⟨d, rfl, h⟩
end
end DL
end

/- DL2 -/
section
set_option maxHeartbeats 4000000
namespace DL
open PySem PySem.Spec PyProof.Rows L2

/-! ### names, constants -/
def mVar (i : Nat) : M Vl := fun env => match env[i]? with
  | some (some (.d x)) => .ok (.d x) env
  | some (some (.own _ _)) => .ok (.sl i) env
  | _ => .stuck
def mC (x : PyData) : M Vl := fun env => .ok (.d x) env
section
variable {X : Cx} {C : Ct} {T : List (Addr × Str)} {W : WX} {pos : Pos}
theorem de_var {i : Nat} {x : Str} (hN : X.N[i]? = some x) (hv : Vis X.env.scope x) (hd : (x == ("__debug__" : Str)) = false := by decide) (hcd : (x == ("__classdict__" : Str)) = false := by decide) : DE X T W (.Name x pos) (mVar i) := by
  refine ⟨fun C hC => ⟨fun pins s σ H Q I h => ?_⟩⟩
  obtain ⟨env, r, h⟩ := h
  refine (pe_var (pos := pos) hN hv hd hcd).run pins s σ H Q I ?_
  unfold mVar at h
  cases e : env[i]? with
  | none => rw [e] at h; exact h.elim
  | some o =>
    cases o with
    | none => rw [e] at h; exact h.elim
    | some ev =>
      cases ev with
      | d x =>
        rw [e] at h
        obtain ⟨v, h1, h2⟩ := r.dat i x e
        exact ⟨v, h1, h v H r h2 (.refl H)⟩
      | x v => rw [e] at h; exact h.elim
      | own b ds =>
        rw [e] at h
        obtain ⟨a, xs, h1, h2, h3, _⟩ := r.own i b ds e
        exact ⟨.ref a, h1, h (.ref a) H r h1 (.refl H)⟩
theorem de_c {e : Expr} {x : PyData} {v : V} (he : PE X e (tC v)) (hz : ∀ H, Dz X.K H v x) : DE X T W e (mC x) := by
  refine ⟨fun C hC => ⟨fun pins s σ H Q I h => ?_⟩⟩
  obtain ⟨env, r, h⟩ := h
  exact he.run pins s σ H Q I (h v H r (hz H) (.refl H))
theorem de_int {i : Int} {j} : DE X T W (.Constant (.int i) j pos) (mC (.int i)) := de_c pe_int fun _ => .int i
theorem de_bl {b : Bool} {j} : DE X T W (.Constant (.bool b) j pos) (mC (.bool b)) := de_c pe_bl fun _ => .bl b
theorem de_non {j} : DE X T W (.Constant .none j pos) (mC .none) := de_c pe_non fun _ => .non
theorem de_str {x : Str} {j} : DE X T W (.Constant (.str x) j pos) (mC (.str x)) := de_c pe_str fun _ => .str x
theorem de_globI {x : Str} {i : Int} (hg : Gl X x) (hm : ∃ t, X.mg x = some (.int i t)) (hd : (x == ("__debug__" : Str)) = false := by decide) : DE X T W (.Name x pos) (mC (.int i)) := by
  obtain ⟨t, hm⟩ := hm
  exact de_c (v := .int i) (pe_glob hg hm ⟨t, rfl⟩ hd) fun _ => .int i
theorem de_globS {x z : Str} (hg : Gl X x) (hm : ∃ t, X.mg x = some (.str z t)) (hd : (x == ("__debug__" : Str)) = false := by decide) : DE X T W (.Name x pos) (mC (.str z)) := by
  obtain ⟨t, hm⟩ := hm
  exact de_c (v := .str z) (pe_glob hg hm ⟨t, rfl⟩ hd) fun _ => .str z
end

/-! ### ghost steps -/
def Ghost (X : Cx) (σ : L2.St) (P : Hp → Prop) (H : Hp) : Prop := ∀ pins s, Inv X pins σ H s → ∃ H', Inv X pins σ H' s ∧ P H'
theorem Ghost.now {X : Cx} {σ : L2.St} {P : Hp → Prop} {H : Hp} (h : P H) : Ghost X σ P H := fun _ _ I => ⟨H, I, h⟩
theorem Ghost.bind {X : Cx} {σ : L2.St} {P P' : Hp → Prop} {H : Hp} (h : Ghost X σ P H) (q : ∀ H', P H' → Ghost X σ P' H') : Ghost X σ P' H := fun pins s I =>
  let ⟨H1, I1, p1⟩ := h pins s I
  q H1 p1 pins s I1
theorem Ghost.imp {X : Cx} {σ : L2.St} {P P' : Hp → Prop} {H : Hp} (h : Ghost X σ P H) (q : ∀ H', P H' → P' H') : Ghost X σ P' H := h.bind fun H' p => .now (q H' p)
theorem Ghost.lock {X : Cx} {σ : L2.St} {P : Hp → Prop} {H : Hp} {a : Addr} {xs : List V} (h : H a = some (.lst xs)) (q : ∀ o, P (upd H a (.frz o (.lst xs)))) : Ghost X σ P H := fun pins s I =>
  let ⟨od, I1⟩ := I.lock h trivial
  ⟨_, I1, q od⟩
theorem ep_ghost {X : Cx} {pins : List (Addr × Obj)} {σ : L2.St} {Q : VK} {t : Sem Value} {M' : Model} {A : Around} {E : Value → Shared → Prop} {s : Shared} (h : wpAny M' A t (EP X pins σ fun v H1 => Ghost X σ (Q v) H1) E s) : wpAny M' A t (EP X pins σ Q) E s :=
  thn h fun _ s1 ⟨v, H1, I1, r, q⟩ => let ⟨H2, I2, q2⟩ := q pins s1 I1; ⟨v, H2, I2, r, q2⟩
theorem pe_ghost {X : Cx} {e : Expr} {t : TE} (h : PE X e t) : PE X e (fun σ H Q => t σ H fun v H1 => Ghost X σ (Q v) H1) := ⟨fun pins s σ H Q I hw => ep_ghost (h.run pins s σ H _ I hw)⟩

theorem Tabs.put {T : List (Addr × Str)} {H : Hp} {a : Addr} {xs : List V} {o : HO} (h : H a = some (.lst xs)) (t : LamX.Tabs T H) : LamX.Tabs T (upd H a o) := fun p hp => by
  obtain ⟨ps, h1, h2, h3⟩ := t p hp
  refine ⟨ps, by rw [upd_ne (ne_of h1 h (by intro z; cases z))]; exact h1, h2, fun pos cv hc => ?_⟩
  obtain ⟨c, e1, e2⟩ := h3 pos cv hc
  refine ⟨c, e1, ?_⟩
  rw [upd_ne (ne_of e2 h (by intro z; cases z))]
  exact e2
theorem Le.put {H : Hp} {a : Addr} {xs : List V} {o : HO} (h : H a = some (.lst xs)) : Le H (upd H a o) :=
  ⟨fun b ys e => by rw [upd_ne (ne_of e h (by intro z; cases z))]; exact e, fun b ob u e => by rw [upd_ne (ne_of e h (by intro z; cases z))]; exact e⟩
theorem upd_none {H : Hp} {a b : Addr} {o : HO} (h : upd H a o b = none) : H b = none := by
  unfold upd at h
  split at h
  · cases h
  · exact h
theorem Same.new {H : Hp} {a : Addr} {o : HO} (h : H a = none) : Same H (upd H a o) := fun b u e => by rw [upd_ne (ne_of_none e h)]; exact e

section
variable {K : PySem.W.Frag} {mg : Str → Option Value} {C : Ct} {W : WX} {σ : L2.St} {H H' : Hp} {env : En}
theorem get_set {l : En} {i j : Nat} {x : Option EV} {y : Option EV} (h : (l.set i x)[j]? = some y) : (i = j ∧ y = x) ∨ (i ≠ j ∧ l[j]? = some y) := by
  by_cases e : i = j
  · subst e
    by_cases hi : i < l.length
    · rw [List.getElem?_set_self hi] at h
      exact .inl ⟨rfl, (Option.some.inj h).symm⟩
    · rw [List.getElem?_eq_none (by rw [List.length_set]; omega)] at h
      cases h
  · rw [List.getElem?_set_ne e] at h
    exact .inr ⟨e, h⟩
theorem Rel.domP (r : Rel K C H σ env) {p : Addr} (h : H p = none) : C.P p = none := by
  cases e : C.P p with
  | none => rfl
  | some xs => rw [r.prot p xs e] at h; cases h
/-- slot i's own list is frozen -/
theorem Rel.frz {i : Nat} {ds : List PyData} {a : Addr} {xs : List V} {o : Obj} (r : Rel K C H σ env) (e : env[i]? = some (some (.own false ds))) (h1 : σ[i]? = some (some (.ref a))) (h2 : H a = some (.lst xs)) (h3 : DzAll K H xs ds) (h4 : Nk C.H0 a) (h5 : C.P a = none) :
    Rel K C (upd H a (.frz o (.lst xs))) σ (env.set i (some (.d (.list ds)))) where
  len := by rw [List.length_set]; exact r.len
  dat := fun j x h => by
    have l : Le H (upd H a (.frz o (.lst xs))) := .put h2
    rcases get_set h with ⟨rfl, ex⟩ | ⟨hne, h⟩
    · cases ex
      exact ⟨_, h1, .lst (.inl ⟨o, upd_same⟩) (DzAll.le l ds h3)⟩
    · obtain ⟨v, q1, q2⟩ := r.dat j x h
      exact ⟨v, q1, Dz.le l x q2⟩
  own := fun j b es h => by
    rcases get_set h with ⟨rfl, ex⟩ | ⟨hne, h⟩
    · cases ex
    · obtain ⟨a', ys, q1, q2, q3, q4⟩ := r.own j b es h
      refine ⟨a', ys, q1, ?_, DzAll.le (.put h2) es q3, q4⟩
      rw [upd_ne]
      · exact q2
      · rintro rfl
        exact r.dis i j _ _ _ _ _ hne e h h1 q1
  bkd := fun j b h => by
    obtain ⟨es, q⟩ := r.bkd j b h
    refine ⟨es, ?_⟩
    by_cases hj : i = j
    · subst hj
      rw [e] at q
      cases q
    · rw [List.getElem?_set_ne hj]
      exact q
  dis := fun j k b c es fs a' hjk q1 q2 q3 q4 => by
    rcases get_set q1 with ⟨_, ex⟩ | ⟨_, q1⟩
    · cases ex
    · rcases get_set q2 with ⟨_, ex⟩ | ⟨_, q2⟩
      · cases ex
      · exact r.dis j k b c es fs a' hjk q1 q2 q3 q4
  keep := fun b u q1 q2 q3 => by
    rw [upd_ne]
    · exact r.keep b u q1 q2 q3
    · rintro rfl
      obtain ⟨ps, e⟩ := h4 _ q1
      exact q3 ps e
  prot := fun b zs q => by
    rw [upd_ne]
    · exact r.prot b zs q
    · rintro rfl
      rw [h5] at q
      cases q
  opq := fun j v h => by
    rcases get_set h with ⟨_, ex⟩ | ⟨_, h⟩
    · cases ex
    · exact r.opq j v h
  tab := Tabs.put h2 r.tab
/-- slot i's own list is rewritten -/
theorem Rel.put {i : Nat} {b : Bool} {ds es : List PyData} {a : Addr} {xs ys : List V} (r : Rel K C H σ env) (e : env[i]? = some (some (.own b ds))) (h1 : σ[i]? = some (some (.ref a))) (h2 : H a = some (.lst xs)) (h3 : DzAll K H ys es) (h4 : if b then C.bk i = some a else Nk C.H0 a) (h5 : C.P a = none) :
    Rel K C (upd H a (.lst ys)) σ (env.set i (some (.own b es))) where
  len := by rw [List.length_set]; exact r.len
  dat := fun j x h => by
    rcases get_set h with ⟨rfl, ex⟩ | ⟨hne, h⟩
    · cases ex
    · obtain ⟨v, q1, q2⟩ := r.dat j x h
      exact ⟨v, q1, Dz.le (.put h2) x q2⟩
  own := fun j c fs h => by
    rcases get_set h with ⟨rfl, ex⟩ | ⟨hne, h⟩
    · cases ex
      exact ⟨a, ys, h1, upd_same, DzAll.le (.put h2) _ h3, h4, h5⟩
    · obtain ⟨a', zs, q1, q2, q3, q4⟩ := r.own j c fs h
      refine ⟨a', zs, q1, ?_, DzAll.le (.put h2) fs q3, q4⟩
      rw [upd_ne]
      · exact q2
      · rintro rfl
        exact r.dis i j _ _ _ _ _ hne e h h1 q1
  bkd := fun j c h => by
    obtain ⟨fs, q⟩ := r.bkd j c h
    by_cases hj : i = j
    · subst hj
      rw [e] at q
      cases q
      exact ⟨es, List.getElem?_set_self (List.getElem?_eq_some_iff.mp e).1⟩
    · exact ⟨fs, by rw [List.getElem?_set_ne hj]; exact q⟩
  dis := fun j k c d fs gs a' hjk q1 q2 q3 q4 => by
    have z1 : ∃ c' fs', env[j]? = some (some (.own c' fs')) := by
      rcases get_set q1 with ⟨rfl, ex⟩ | ⟨_, q1⟩
      · exact ⟨_, _, e⟩
      · exact ⟨_, _, q1⟩
    have z2 : ∃ c' fs', env[k]? = some (some (.own c' fs')) := by
      rcases get_set q2 with ⟨rfl, ex⟩ | ⟨_, q2⟩
      · exact ⟨_, _, e⟩
      · exact ⟨_, _, q2⟩
    obtain ⟨_, _, z1⟩ := z1
    obtain ⟨_, _, z2⟩ := z2
    exact r.dis j k _ _ _ _ a' hjk z1 z2 q3 q4
  keep := fun c u q1 q2 q3 => by
    rw [upd_ne]
    · exact r.keep c u q1 q2 q3
    · rintro rfl
      cases b with
      | true => exact q2 i h4
      | false =>
        have h4 : Nk C.H0 c := h4
        obtain ⟨ps, e⟩ := h4 _ q1
        exact q3 ps e
  prot := fun b zs q => by
    rw [upd_ne]
    · exact r.prot b zs q
    · rintro rfl
      rw [h5] at q
      cases q
  opq := fun j v h => by
    rcases get_set h with ⟨_, ex⟩ | ⟨_, h⟩
    · cases ex
    · exact r.opq j v h
  tab := Tabs.put h2 r.tab
end

/-! ### what is handed on: an own list is frozen first -/
def leak : Vl → M PyData
  | .d x => M.pure x
  | .sl i => fun env => match env[i]? with
    | some (some (.own false ds)) => .ok (.list ds) (env.set i (some (.d (.list ds))))
    | _ => .stuck
def leakAll : List Vl → M (List PyData)
  | [] => M.pure []
  | v :: vs => M.bind (leak v) fun d => M.bind (leakAll vs) fun ds => M.pure (d :: ds)
/-- what stands apart from the own lists stays -/
def Off (H H' : Hp) (σ : L2.St) (env : En) : Prop := ∀ a o, H a = some o → (∀ (i : Nat) b ds, env[i]? = some (some (.own b ds)) → σ[i]? ≠ some (some (.ref a))) → H' a = some o
section
variable {X : Cx} {C : Ct} {T : List (Addr × Str)} {W : WX} {σ : L2.St} {H H' : Hp} {env env' : En}
theorem leak_ok {u : V} {v : Vl} {d : PyData} (r : Rel X.K C H σ env) (hv : VR X.K σ u H v) (e : leak v env = .ok d env') :
    Ghost X σ (fun H' => Rel X.K C H' σ env' ∧ Dz X.K H' u d ∧ Le H H' ∧ Off H H' σ env ∧ (∀ (i : Nat) b ds, env'[i]? = some (some (.own b ds)) → env[i]? = some (some (.own b ds)))) H := by
  cases v with
  | d x =>
    cases e
    exact .now ⟨r, hv, .refl H, fun _ _ h _ => h, fun _ _ _ h => h⟩
  | sl i =>
    unfold leak at e
    dsimp only at e
    split at e
    · rename_i ds q
      cases e
      obtain ⟨a, xs, h1, h2, h3, h4, h5⟩ := r.own i false ds q
      have hv' : σ[i]? = some (some u) := hv
      rw [h1] at hv'
      cases hv'
      refine .lock h2 fun o => ⟨r.frz q h1 h2 h3 h4 h5, ?_, .put h2, fun b u hb hn => ?_, fun j c es h => ?_⟩
      · exact .lst (.inl ⟨o, upd_same⟩) (DzAll.le (.put h2) ds h3)
      · rw [upd_ne]
        · exact hb
        · rintro rfl
          exact hn i _ _ q h1
      · rcases get_set h with ⟨_, ex⟩ | ⟨_, h⟩
        · cases ex
        · exact h
    · cases e
theorem leak_noerr {v : Vl} {x : Er} : leak v env ≠ .err x env' := by
  cases v with
  | d x => exact fun z => by cases z
  | sl i =>
    unfold leak
    dsimp only
    split <;> exact fun z => by cases z
theorem leakAll_noerr {x : Er} : ∀ {vs : List Vl} {env env' : En}, leakAll vs env ≠ .err x env'
  | [], _, _ => fun z => by cases z
  | v :: vs, env, env' => fun z => by
    unfold leakAll M.bind at z
    dsimp only at z
    cases e : leak v env with
    | ok d env1 =>
      rw [e] at z
      dsimp only at z
      cases e1 : leakAll vs env1 with
      | ok ds env2 => rw [e1] at z; cases z
      | err y env2 => exact leakAll_noerr e1
      | stuck => rw [e1] at z; cases z
    | err y env1 => exact leak_noerr e
    | stuck => rw [e] at z; cases z
theorem leakAll_ok : ∀ {us : List V} {vs : List Vl} {ds : List PyData} {H : Hp} {env env' : En}, Rel X.K C H σ env → VRs X.K σ H us vs → leakAll vs env = .ok ds env' →
    Ghost X σ (fun H' => Rel X.K C H' σ env' ∧ DzAll X.K H' us ds ∧ Le H H' ∧ Off H H' σ env ∧ (∀ (i : Nat) b es, env'[i]? = some (some (.own b es)) → env[i]? = some (some (.own b es)))) H
  | [], [], _, H, env, env', r, _, e => by
    cases e
    exact .now ⟨r, .nil, .refl H, fun _ _ h _ => h, fun _ _ _ h => h⟩
  | u :: us, v :: vs, ds, H, env, env', r, hv, e => by
    unfold leakAll M.bind at e
    dsimp only at e
    cases e0 : leak v env with
    | ok d env1 =>
      rw [e0] at e
      dsimp only at e
      cases e1 : leakAll vs env1 with
      | ok ds1 env2 =>
        rw [e1] at e
        cases e
        refine (leak_ok r hv.1 e0).bind fun H1 ⟨r1, z1, l1, o1, k1⟩ => ?_
        refine (leakAll_ok r1 (hv.2.le l1) e1).imp fun H2 ⟨r2, z2, l2, o2, k2⟩ => ⟨r2, .cons (Dz.le l2 d z1) z2, l1.trans l2, fun a o h hn => ?_, fun i b es h => k1 i b es (k2 i b es h)⟩
        exact o2 a o (o1 a o h hn) fun i b es h => hn i b es (k1 i b es h)
      | err y env2 => exact absurd e1 leakAll_noerr
      | stuck => rw [e1] at e; cases e
    | err y env1 => exact absurd e0 leak_noerr
    | stuck => rw [e0] at e; cases e
  | [], _ :: _, _, _, _, _, _, h, _ => h.elim
  | _ :: _, [], _, _, _, _, _, h, _ => h.elim
end
section
variable {X : Cx} {C : Ct} {T : List (Addr × Str)} {W : WX} {σ : L2.St} {H : Hp} {env : En} {α β : Type}
theorem Lf.leakAll {RV : β → Hp → α → En → Prop} {k : List PyData → M α} {Q : β → Hp → Prop} {us : List V} {vs : List Vl} (h : Lf X.K X.mg C W σ H RV (M.bind (leakAll vs) k env) Q) (r : Rel X.K C H σ env) (hv : VRs X.K σ H us vs) :
    ∃ ds env', leakAll vs env = .ok ds env' ∧ Lf X.K X.mg C W σ H RV (k ds env') Q := by
  unfold M.bind at h
  cases e : DL.leakAll vs env with
  | ok ds env' =>
    rw [e] at h
    exact ⟨ds, env', rfl, h⟩
  | err x env' => exact absurd e leakAll_noerr
  | stuck => rw [e] at h; exact h.elim
theorem Lf.leak {RV : β → Hp → α → En → Prop} {k : PyData → M α} {Q : β → Hp → Prop} {u : V} {v : Vl} (h : Lf X.K X.mg C W σ H RV (M.bind (leak v) k env) Q) (r : Rel X.K C H σ env) (hv : VR X.K σ u H v) :
    ∃ d env', leak v env = .ok d env' ∧ Lf X.K X.mg C W σ H RV (k d env') Q := by
  unfold M.bind at h
  cases e : DL.leak v env with
  | ok ds env' =>
    rw [e] at h
    exact ⟨ds, env', rfl, h⟩
  | err x env' => exact absurd e leak_noerr
  | stuck => rw [e] at h; exact h.elim
end

/-! ### two-place operations -/
def Op2 (X : Cx) (f : Value → Value → Sem Value) (g : PyData → PyData → Option PyData) : Prop :=
  ∀ (pins : List (Addr × Obj)) (s : Shared) (σ : L2.St) (H : Hp) (x y : V) (v u : Value) (dx dy dz : PyData), Inv X pins σ H s → RelV x v → RelV y u → Rz X.K H x dx → Rz X.K H y dy → g dx dy = some dz →
    ∀ Q : VK, (∀ z H', Same H H' → Dz X.K H' z dz → Q z H') → wpAny (model X.prog X.w) X.A (f v u) (EP X pins σ Q) X.xe s
/-- .. that make a list -/
def Op2L (X : Cx) (f : Value → Value → Sem Value) (g : PyData → PyData → Option (List PyData)) : Prop :=
  ∀ (pins : List (Addr × Obj)) (s : Shared) (σ : L2.St) (H : Hp) (x y : V) (v u : Value) (dx dy : PyData) (ds : List PyData), Inv X pins σ H s → RelV x v → RelV y u → Rz X.K H x dx → Rz X.K H y dy → g dx dy = some ds →
    ∀ Q : VK, (∀ p xs, H p = none → DzAll X.K H xs ds → Q (.ref p) (upd H p (.lst xs))) → wpAny (model X.prog X.w) X.A (f v u) (EP X pins σ Q) X.xe s
def r2 (K : PySem.W.Frag) (g : PyData → PyData → Option PyData) : R2 := fun x y H Q => ∃ dx dy dz, Rz K H x dx ∧ Rz K H y dy ∧ g dx dy = some dz ∧ ∀ z H', Same H H' → Dz K H' z dz → Q z H'
def r2L (K : PySem.W.Frag) (g : PyData → PyData → Option (List PyData)) : R2 := fun x y H Q => ∃ dx dy ds, Rz K H x dx ∧ Rz K H y dy ∧ g dx dy = some ds ∧ ∀ p xs, H p = none → DzAll K H xs ds → Q (.ref p) (upd H p (.lst xs))
def mBin (g : PyData → PyData → Option PyData) (ma mb : M Vl) : M Vl := M.bind ma fun va => M.bind mb fun vb => M.bind va.get fun x => M.bind vb.get fun y => M.opt ((g x y).map Vl.d)
def mBinL (g : PyData → PyData → Option (List PyData)) (ma mb : M Vl) : M (List PyData) := M.bind ma fun va => M.bind mb fun vb => M.bind va.get fun x => M.bind vb.get fun y => M.opt (g x y)
def mFrz (m : M (List PyData)) : M Vl := M.bind m fun ds => mC (.list ds)
section
variable {X : Cx} {C : Ct} {T : List (Addr × Str)} {W : WX} {a b c : Expr} {ma mb mc : M Vl} {pos : Pos} {g g' : PyData → PyData → Option PyData} {f f' : Value → Value → Sem Value}
theorem Op2.opR (h : Op2 X f g) : OpR X f (r2 X.K g) := fun pins s σ H x y v u Q I rx ry ⟨dx, dy, dz, h1, h2, h3, q⟩ => h pins s σ H x y v u dx dy dz I rx ry h1 h2 h3 Q q
theorem Op2L.opR {g : PyData → PyData → Option (List PyData)} (h : Op2L X f g) : OpR X f (r2L X.K g) := fun pins s σ H x y v u Q I rx ry ⟨dx, dy, dz, h1, h2, h3, q⟩ => h pins s σ H x y v u dx dy dz I rx ry h1 h2 h3 Q q
theorem lift_bin {σ : L2.St} {H : Hp} {Q : VK} (h : lift X.K X.mg C W (mBin g ma mb) σ H Q) : lift X.K X.mg C W ma σ H fun x H1 => lift X.K X.mg C W mb σ H1 fun y H2 => r2 X.K g x y H2 Q := by
  obtain ⟨env, r, h⟩ := h
  refine ⟨env, r, Lf.bind h fun u H1 va env1 r1 hv1 l1 h1 => ⟨env1, r1, Lf.bind h1 fun y H2 vb env2 r2 hv2 l2 h2 => ?_⟩⟩
  obtain ⟨dx, zx, h3⟩ := Lf.get h2 r2 (hv1.le l2)
  obtain ⟨dy, zy, h4⟩ := Lf.get h3 r2 hv2
  obtain ⟨dz, e, h5⟩ := Lf.opt h4 r2
  exact ⟨dx, dy, dz, zx, zy, e, h5⟩
theorem de_bin {op : Operator} (ho : Op2 X (binaryOp op) g) (ha : DE X T W a ma) (hb : DE X T W b mb) : DE X T W (.BinOp a op b pos) (mBin g ma mb) :=
  ⟨fun C hC => ⟨fun pins s σ H Q I h => (pe_op ho.opR (ha.pe C hC) (hb.pe C hC)).run pins s σ H Q I (lift_bin h)⟩⟩
theorem de_cmp {op : CmpOp} (ho : Op2 X (compareOp op) g) (ha : DE X T W a ma) (hb : DE X T W b mb) (hm : behindInMarks op b = false) : DE X T W (.Compare a [op] [b] pos) (mBin g ma mb) :=
  ⟨fun C hC => ⟨fun pins s σ H Q I h => (pe_cmpR ho.opR (ha.pe C hC) (hb.pe C hC) hm).run pins s σ H Q I (lift_bin h)⟩⟩
theorem do_bin {op : Operator} {g : PyData → PyData → Option (List PyData)} (ho : Op2L X (binaryOp op) g) (ha : DE X T W a ma) (hb : DE X T W b mb) : DO X T W (.BinOp a op b pos) (mBinL g ma mb) := by
  refine ⟨fun C hC => ⟨fun pins s σ H Q I h => (pe_op ho.opR (ha.pe C hC) (hb.pe C hC)).run pins s σ H Q I ?_⟩⟩
  obtain ⟨env, r, h⟩ := h
  refine ⟨env, r, Lf.bind h fun u H1 va env1 r1 hv1 l1 h1 => ⟨env1, r1, Lf.bind h1 fun y H2 vb env2 r2 hv2 l2 h2 => ?_⟩⟩
  obtain ⟨dx, zx, h3⟩ := Lf.get h2 r2 (hv1.le l2)
  obtain ⟨dy, zy, h4⟩ := Lf.get h3 r2 hv2
  cases e : g dx dy with
  | none => rw [e] at h4; exact h4.elim
  | some ds =>
    rw [e] at h4
    refine ⟨dx, dy, ds, zx, zy, e, fun p xs hp hz => ?_⟩
    have sm : Same H2 (upd H2 p (.lst xs)) := Same.new hp
    refine h4 (.ref p) _ (r2.grow sm) ⟨p, xs, rfl, upd_same, DzAll.le (.same sm) ds hz, r2.dom p hp, r2.domP hp, fun i b es q z => ?_⟩ (.same sm)
    obtain ⟨a', ys, q1, q2, _, _⟩ := r2.own i b es q
    rw [q1] at z
    cases z
    rw [hp] at q2
    cases q2
/-- an own list that is handed on at once -/
theorem de_frz {e : Expr} {m : M (List PyData)} (h : DO X T W e m) : DE X T W e (mFrz m) := by
  refine ⟨fun C hC => ⟨fun pins s σ H Q I hq => (pe_ghost (h.pe C hC)).run pins s σ H Q I ?_⟩⟩
  obtain ⟨env, r, hq⟩ := hq
  refine ⟨env, r, Lf.bind hq fun u H1 ds env1 r1 hv1 l1 h1 => ?_⟩
  obtain ⟨p, xs, rfl, h2, h3, h4, h6, h5⟩ := hv1
  refine .lock h2 fun o => ?_
  have l2 : Le H1 (upd H1 p (.frz o (.lst xs))) := .put h2
  refine h1 (.ref p) _ ?_ (.lst (.inl ⟨o, upd_same⟩) (DzAll.le l2 ds h3)) l2
  exact {
    len := r1.len
    dat := fun j x h => let ⟨v, q1, q2⟩ := r1.dat j x h; ⟨v, q1, Dz.le l2 x q2⟩
    own := fun j b es h => by
      obtain ⟨a', ys, q1, q2, q3, q4⟩ := r1.own j b es h
      refine ⟨a', ys, q1, ?_, DzAll.le l2 es q3, q4⟩
      rw [upd_ne]
      · exact q2
      · rintro rfl
        exact h5 j b es h q1
    bkd := r1.bkd
    dis := r1.dis
    keep := fun b u q1 q2 q3 => by
      rw [upd_ne]
      · exact r1.keep b u q1 q2 q3
      · rintro rfl
        obtain ⟨ps, e⟩ := h4 _ q1
        exact q3 ps e
    prot := fun b zs q => by
      rw [upd_ne]
      · exact r1.prot b zs q
      · rintro rfl
        rw [h6] at q
        cases q
    opq := r1.opq
    tab := Tabs.put h2 r1.tab }
end

/-! ### the operations' data -/
def gAdd : PyData → PyData → Option PyData
  | .int i, .int j => some (.int (i + j))
  | .str x, .str y => if x.length + y.length ≤ sizeLine then some (.str (x ++ y)) else none
  | .tuple xs, .tuple ys => if xs.length + ys.length ≤ sizeLine then some (.tuple (xs ++ ys)) else none
  | _, _ => none
def gCat : PyData → PyData → Option (List PyData)
  | .list xs, .list ys => if xs.length + ys.length ≤ sizeLine then some (xs ++ ys) else none
  | _, _ => none
def gSub : PyData → PyData → Option PyData
  | .int i, .int j => some (.int (i - j))
  | _, _ => none
def small64 (i : Int) : Bool := decide (-(2 ^ 64) < i) && decide (i < 2 ^ 64)
def gMul : PyData → PyData → Option PyData
  | .int i, .int j => if small64 i || small64 j then some (.int (i * j)) else none
  | .tuple xs, .int k => if !xs.isEmpty && decide (2 ≤ k) && decide (k ≤ 1000) && decide (xs.length ≤ 1000) then some (.tuple (List.replicate k.toNat xs).flatten) else none
  | _, _ => none
def gRep : PyData → PyData → Option (List PyData)
  | .list xs, .int k => if decide (-(2 ^ 63) ≤ k) && decide (k < 2 ^ 63) && decide (xs.length * k.toNat ≤ sizeLine) then some (List.replicate k.toNat xs).flatten else none
  | _, _ => none
def gDiv : PyData → PyData → Option PyData
  | .int i, .int j => if decide (0 < j) && decide (j < 1073741824) then some (.int (i / j)) else none
  | _, _ => none
def gMod : PyData → PyData → Option PyData
  | .int i, .int j => if 0 < j then some (.int (i % j)) else none
  | _, _ => none
def gPow : PyData → PyData → Option PyData
  | .int i, .int j => if decide (0 ≤ j) && decide (j ≤ 1000000) && decide (i.natAbs < 2 ^ 64) then some (.int (i ^ j.toNat)) else none
  | _, _ => none
def gEq : PyData → PyData → Option PyData := fun x y => if SeqAt.shaped x && SeqAt.shaped y then some (.bool (PyData.eqv x y)) else none
def gNe : PyData → PyData → Option PyData := fun x y => if SeqAt.shaped x && SeqAt.shaped y then some (.bool (!PyData.eqv x y)) else none
def gLt : PyData → PyData → Option PyData
  | .int i, .int j => some (.bool (decide (i < j)))
  | .str i, .str j => some (.bool (decide (i.cps.toList < j.cps.toList)))
  | _, _ => none
def gGt : PyData → PyData → Option PyData
  | .int i, .int j => some (.bool (decide (j < i)))
  | _, _ => none
def gLe : PyData → PyData → Option PyData
  | .int i, .int j => some (.bool (decide (i ≤ j)))
  | _, _ => none
def gGe : PyData → PyData → Option PyData
  | .int i, .int j => some (.bool (decide (j ≤ i)))
  | _, _ => none
def gIs : PyData → PyData → Option PyData
  | .bool i, .bool j => some (.bool (decide (i = j)))
  | .none, .none => some (.bool true)
  | .int _, .none => some (.bool false)
  | .bool _, .none => some (.bool false)
  | .str _, .none => some (.bool false)
  | .tuple _, .none => some (.bool false)
  | .list _, .none => some (.bool false)
  | _, _ => none
def gIsNot : PyData → PyData → Option PyData
  | .bool i, .bool j => some (.bool (!decide (i = j)))
  | .none, .none => some (.bool false)
  | .int _, .none => some (.bool true)
  | .bool _, .none => some (.bool true)
  | .str _, .none => some (.bool true)
  | .tuple _, .none => some (.bool true)
  | .list _, .none => some (.bool true)
  | _, _ => none
section
variable {X : Cx}
theorem gAdd_inv {dx dy dz : PyData} (e : gAdd dx dy = some dz) : (∃ i j, dx = .int i ∧ dy = .int j ∧ dz = .int (i + j)) ∨ (∃ x y, dx = .str x ∧ dy = .str y ∧ x.length + y.length ≤ sizeLine ∧ dz = .str (x ++ y)) ∨
    (∃ xs ys, dx = .tuple xs ∧ dy = .tuple ys ∧ xs.length + ys.length ≤ sizeLine ∧ dz = .tuple (xs ++ ys)) := by
  cases dx <;> cases dy <;> first
    | (exfalso; cases e; done)
    | (cases e; exact .inl ⟨_, _, rfl, rfl, rfl⟩)
    | (rename_i x y
       by_cases h : x.length + y.length ≤ sizeLine
       · simp only [gAdd, if_pos h, Option.some.injEq] at e
         first
           | exact .inr (.inl ⟨_, _, rfl, rfl, h, e.symm⟩)
           | exact .inr (.inr ⟨_, _, rfl, rfl, h, e.symm⟩)
       · simp only [gAdd, if_neg h] at e
         exact absurd e (by simp))
theorem o_add : Op2 X (binaryOp .Add) gAdd := by
  intro pins s σ H x y v u dx dy dz I rx ry hx hy e Q q
  rcases gAdd_inv e with ⟨i, j, rfl, rfl, rfl⟩ | ⟨i, j, rfl, rfl, hz, rfl⟩ | ⟨ds, es, rfl, rfl, hz, rfl⟩
  · cases hx.int; cases hy.int
    exact op_add pins s σ H _ _ v u Q I rx ry ⟨_, _, rfl, rfl, q _ H (.refl H) (.int _)⟩
  · cases hx.str; cases hy.str
    exact op_add_str pins s σ H _ _ v u Q I rx ry ⟨_, _, rfl, rfl, hz, q _ H (.refl H) (.str _)⟩
  · obtain ⟨a, xs, rfl, h1, h2⟩ := hx.tuple
    obtain ⟨b, ys, rfl, h3, h4⟩ := hy.tuple
    have e1 := h2.length
    have e2 := h4.length
    refine op_catA pins s σ H _ _ v u Q I rx ry ⟨a, b, xs, ys, rfl, rfl, h1.sq, h3.sq, by omega, fun hx => ?_, fun hx hy => ?_, fun hx hy p hp => ?_⟩
    · subst hx
      cases h2
      exact q _ H (.refl H) (.tup h3 h4)
    · subst hy
      cases h4
      rw [List.append_nil] at q
      exact q _ H (.refl H) (.tup h1 h2)
    · exact q _ _ (Same.new hp) (.tup (.inl upd_same) ((DzAll.le (.same (Same.new hp)) _ h2).append (DzAll.le (.same (Same.new hp)) _ h4)))
theorem Inv.rdL {pins : List (Addr × Obj)} {σ : L2.St} {H : Hp} {s : Shared} {l : Addr} {xs : List V} (I : Inv X pins σ H s) (hH : RdL X.K H l xs) : xs.length ≤ sizeLine ∧ ∃ (its : List Value) (n : Nat), Vals xs its ∧ xs.length = its.length ∧ s.heap.get? l = some { cls := .type "list", data := .seq its.toArray n } := by
  rcases hH with hH | ⟨its, n, h1, h2, h3⟩
  · obtain ⟨z, its, n, r, e⟩ := hH.ok I.hok
    exact ⟨z, its, n, r, r.length, e⟩
  · have e := h3.length
    refine ⟨?_, its.toList, n, h3, e, ?_⟩
    · rw [e, Array.length_toList]; exact h2
    · rw [Array.toArray_toList]; exact I.kIn _ _ h1
theorem o_cat : Op2L X (binaryOp .Add) gCat := by
  intro pins s σ H x y v u dx dy ds I rx ry hx hy e Q q
  unfold gCat at e
  split at e
  · rename_i ds es
    split at e
    · rename_i hz
      cases e
      obtain ⟨a, xs, rfl, h1, h2⟩ := hx.list
      obtain ⟨b, ys, rfl, h3, h4⟩ := hy.list
      have e1 := h2.length
      have e2 := h4.length
      cases rx
      cases ry
      obtain ⟨z, its, n, r, hl, e⟩ := Inv.rdL I h1
      obtain ⟨z2, its2, n2, r2, hl2, e2'⟩ := Inv.rdL I h3
      refine PySem.P.add_list e e2' ?_ (by rw [List.size_toArray, List.size_toArray]; omega)
      have ea : its.toArray ++ its2.toArray = (its ++ its2).toArray := by simp
      rw [ea]
      exact ⟨.ref _, _, I.lnew (t' := s.toks) (r.append r2) (by rw [List.length_append]; omega), rfl, q _ _ I.fresh (h2.append h4)⟩
    · cases e
  · cases e
theorem o_sub : Op2 X (binaryOp .Sub) gSub := by
  intro pins s σ H x y v u dx dy dz I rx ry hx hy e Q q
  unfold gSub at e
  split at e
  · cases e
    cases hx.int; cases hy.int
    exact op_sub pins s σ H _ _ v u Q I rx ry ⟨_, _, rfl, rfl, q _ H (.refl H) (.int _)⟩
  · cases e
theorem small64_iff {i : Int} (h : small64 i = true) : -(2 ^ 64) < i ∧ i < 2 ^ 64 := by
  unfold small64 at h
  rw [Bool.and_eq_true, decide_eq_true_eq, decide_eq_true_eq] at h
  exact h
theorem o_mul : Op2 X (binaryOp .Mult) gMul := by
  intro pins s σ H x y v u dx dy dz I rx ry hx hy e Q q
  unfold gMul at e
  split at e
  · split at e
    · rename_i hz
      cases e
      cases hx.int; cases hy.int
      refine op_mul pins s σ H _ _ v u Q I rx ry ⟨_, _, rfl, rfl, ?_, q _ H (.refl H) (.int _)⟩
      rw [Bool.or_eq_true] at hz
      exact hz.imp small64_iff small64_iff
    · cases e
  · rename_i ds k
    split at e
    · rename_i hz
      cases e
      rw [Bool.and_eq_true, Bool.and_eq_true, Bool.and_eq_true, decide_eq_true_eq, decide_eq_true_eq, decide_eq_true_eq] at hz
      obtain ⟨⟨⟨z1, z2⟩, z3⟩, z4⟩ := hz
      obtain ⟨a, xs, rfl, h1, h2⟩ := hx.tuple
      cases hy.int
      have e1 := h2.length
      refine op_repT pins s σ H _ _ v u Q I rx ry ⟨a, k, xs, rfl, rfl, h1.sq, ?_, z2, z3, by omega, fun p hp => ?_⟩
      · rintro rfl
        cases h2
        simp at z1
      · exact q _ _ (Same.new hp) (.tup (.inl upd_same) ((DzAll.le (.same (Same.new hp)) _ h2).rep _))
    · cases e
  · cases e
theorem o_rep : Op2L X (binaryOp .Mult) gRep := by
  intro pins s σ H x y v u dx dy ds I rx ry hx hy e Q q
  unfold gRep at e
  split at e
  · rename_i ds k
    split at e
    · rename_i hz
      cases e
      rw [Bool.and_eq_true, Bool.and_eq_true, decide_eq_true_eq, decide_eq_true_eq, decide_eq_true_eq] at hz
      obtain ⟨⟨h1, h2⟩, hz⟩ := hz
      obtain ⟨l, xs, rfl, h3, h4⟩ := hx.list
      cases hy.int
      have el := h4.length
      cases rx
      obtain ⟨t, rfl⟩ := ry
      obtain ⟨z, its, n, r, hl, e⟩ := Inv.rdL I h3
      have hlen : its.toArray.size * k.toNat ≤ sizeLine := by rw [List.size_toArray, ← hl, el]; exact hz
      have hcap : ¬ its.toArray.size * k.toNat > (2 ^ 63 - 1) / 8 := by
        have : (sizeLine : Nat) ≤ (2 ^ 63 - 1) / 8 := by decide
        omega
      have hfit : ¬ (!Builtin.List.listFitsIndex k) = true := by
        rw [fitsIndex_both h1 h2]
        exact Bool.false_ne_true
      have hlong : ¬ Builtin.List.listTooLong (its.toArray.size * k.toNat) = true := by
        rw [notLongL hlen]
        exact Bool.false_ne_true
      have hnew : List.foldl (fun x1 x2 => x1 ++ x2) #[] (List.replicate (if its.toArray.isEmpty = true then 0 else k.toNat) its.toArray) = (List.replicate k.toNat its).flatten.toArray := by
        have f0 : ∀ m : Nat, List.foldl (fun x1 x2 => x1 ++ x2) #[] (List.replicate m its.toArray) = (List.replicate m its).flatten.toArray := fun m => by
          have := foldl_rep its m []
          rw [List.nil_append] at this
          exact this
        rw [f0]
        cases its with
        | nil => simp
        | cons a r' => rw [if_neg (by simp)]
      refine wpAny_binaryOp_repeat_ref (T := "list") (U := "int") (by decide) ⟨_, e, rfl⟩ (fun s' => typeIs_int s' k t) noFill_list_mul F.fills_int_mul F.slot_int_rmul repeat_list F.slot_int_index.lookup
        (call_meets F.slot_int_rmul (typeIs_int s k t) F.entry_int_rmul (F.args_int_rmul_2 _ _) (int___rmul___int_list k t l its.toArray n)
          ⟨e, rfl, ⟨_, e, rfl⟩, call_meets F.slot_list_mul ⟨_, e, rfl⟩ F.entry_list_mul (F.args_list_mul_2 _ _) (AutoListH.list___mul___list_int_3 l its.toArray n k t hfit hcap hlong) ⟨e, ?_⟩⟩)
      rw [hnew]
      exact ⟨.ref _, _, I.lnew (t' := s.toks) (r.rep k.toNat) (by rw [PyProof.Rows.lm_len_rep_flat, Nat.mul_comm, el]; exact hz), rfl, q _ _ I.fresh (h4.rep _)⟩
    · cases e
  · cases e
theorem o_div : Op2 X (binaryOp .FloorDiv) gDiv := by
  intro pins s σ H x y v u dx dy dz I rx ry hx hy e Q q
  unfold gDiv at e
  split at e
  · split at e
    · rename_i hz
      cases e
      rw [Bool.and_eq_true, decide_eq_true_eq, decide_eq_true_eq] at hz
      cases hx.int; cases hy.int
      exact op_fdiv pins s σ H _ _ v u Q I rx ry ⟨_, _, rfl, rfl, hz, q _ H (.refl H) (.int _)⟩
    · cases e
  · cases e
theorem o_mod : Op2 X (binaryOp .Mod) gMod := by
  intro pins s σ H x y v u dx dy dz I rx ry hx hy e Q q
  unfold gMod at e
  split at e
  · split at e
    · rename_i hz
      cases e
      cases hx.int; cases hy.int
      exact op_mod pins s σ H _ _ v u Q I rx ry ⟨_, _, rfl, rfl, hz, q _ H (.refl H) (.int _)⟩
    · cases e
  · cases e
theorem o_pow : Op2 X (binaryOp .Pow) gPow := by
  intro pins s σ H x y v u dx dy dz I rx ry hx hy e Q q
  unfold gPow at e
  split at e
  · split at e
    · rename_i hz
      cases e
      rw [Bool.and_eq_true, Bool.and_eq_true, decide_eq_true_eq, decide_eq_true_eq, decide_eq_true_eq] at hz
      cases hx.int; cases hy.int
      exact op_pow pins s σ H _ _ v u Q I rx ry ⟨_, _, rfl, rfl, ⟨hz.1.1, hz.1.2, hz.2⟩, q _ H (.refl H) (.int _)⟩
    · cases e
  · cases e
theorem o_eq (hu : X.A.units + 64 < cLine) : Op2 X (compareOp .Eq) gEq := by
  intro pins s σ H x y v u dx dy dz I rx ry hx hy e Q q
  unfold gEq at e
  split at e
  · rename_i hz
    rw [Bool.and_eq_true] at hz
    cases e
    exact op_eqD hu pins s σ H _ _ v u Q I rx ry ⟨_, _, hx.dp, hy.dp, hz.1, hz.2, q _ H (.refl H) (.bl _)⟩
  · cases e
theorem o_ne (hu : X.A.units + 64 < cLine) : Op2 X (compareOp .NotEq) gNe := by
  intro pins s σ H x y v u dx dy dz I rx ry hx hy e Q q
  unfold gNe at e
  split at e
  · rename_i hz
    rw [Bool.and_eq_true] at hz
    cases e
    exact op_neD hu pins s σ H _ _ v u Q I rx ry ⟨_, _, hx.dp, hy.dp, hz.1, hz.2, q _ H (.refl H) (.bl _)⟩
  · cases e
theorem o_lt : Op2 X (compareOp .Lt) gLt := by
  intro pins s σ H x y v u dx dy dz I rx ry hx hy e Q q
  unfold gLt at e
  split at e
  · cases e
    cases hx.int; cases hy.int
    exact op_lt pins s σ H _ _ v u Q I rx ry ⟨_, _, rfl, rfl, q _ H (.refl H) (.bl _)⟩
  · cases e
    cases hx.str; cases hy.str
    exact op_lt_str pins s σ H _ _ v u Q I rx ry ⟨_, _, rfl, rfl, q _ H (.refl H) (.bl _)⟩
  · cases e
theorem o_gt : Op2 X (compareOp .Gt) gGt := by
  intro pins s σ H x y v u dx dy dz I rx ry hx hy e Q q
  unfold gGt at e
  split at e
  · cases e
    cases hx.int; cases hy.int
    exact op_gt pins s σ H _ _ v u Q I rx ry ⟨_, _, rfl, rfl, q _ H (.refl H) (.bl _)⟩
  · cases e
theorem o_le : Op2 X (compareOp .LtE) gLe := by
  intro pins s σ H x y v u dx dy dz I rx ry hx hy e Q q
  unfold gLe at e
  split at e
  · cases e
    cases hx.int; cases hy.int
    exact op_le pins s σ H _ _ v u Q I rx ry ⟨_, _, rfl, rfl, q _ H (.refl H) (.bl _)⟩
  · cases e
theorem o_ge : Op2 X (compareOp .GtE) gGe := by
  intro pins s σ H x y v u dx dy dz I rx ry hx hy e Q q
  unfold gGe at e
  split at e
  · cases e
    cases hx.int; cases hy.int
    exact op_ge pins s σ H _ _ v u Q I rx ry ⟨_, _, rfl, rfl, q _ H (.refl H) (.bl _)⟩
  · cases e
theorem o_is : Op2 X (compareOp .Is) gIs := by
  intro pins s σ H x y v u dx dy dz I rx ry hx hy e Q q
  unfold gIs at e
  split at e
  · cases e
    cases hx.bool; cases hy.bool
    exact op_isBl pins s σ H _ _ v u Q I rx ry ⟨_, _, rfl, rfl, q _ H (.refl H) (.bl _)⟩
  · cases e
    cases hx.non; cases hy.non
    exact op_isN pins s σ H _ _ v u Q I rx ry ⟨rfl, q _ H (.refl H) (.bl _)⟩
  · cases e
    cases hx.int; cases hy.non
    exact op_isN pins s σ H _ _ v u Q I rx ry ⟨rfl, q _ H (.refl H) (.bl _)⟩
  · cases e
    cases hx.bool; cases hy.non
    exact op_isN pins s σ H _ _ v u Q I rx ry ⟨rfl, q _ H (.refl H) (.bl _)⟩
  · cases e
    cases hx.str; cases hy.non
    exact op_isN pins s σ H _ _ v u Q I rx ry ⟨rfl, q _ H (.refl H) (.bl _)⟩
  · cases e
    obtain ⟨a, xs, rfl, h1, h2⟩ := hx.tuple
    cases hy.non
    exact op_isN pins s σ H _ _ v u Q I rx ry ⟨rfl, q _ H (.refl H) (.bl _)⟩
  · cases e
    obtain ⟨a, xs, rfl, h1, h2⟩ := hx.list
    cases hy.non
    exact op_isN pins s σ H _ _ v u Q I rx ry ⟨rfl, q _ H (.refl H) (.bl _)⟩
  · cases e
theorem o_isnot : Op2 X (compareOp .IsNot) gIsNot := by
  intro pins s σ H x y v u dx dy dz I rx ry hx hy e Q q
  unfold gIsNot at e
  split at e
  · cases e
    cases hx.bool; cases hy.bool
    exact op_notBl pins s σ H _ _ v u Q I rx ry ⟨_, _, rfl, rfl, q _ H (.refl H) (.bl _)⟩
  · cases e
    cases hx.non; cases hy.non
    exact op_notN pins s σ H _ _ v u Q I rx ry ⟨rfl, q _ H (.refl H) (.bl _)⟩
  · cases e
    cases hx.int; cases hy.non
    exact op_notN pins s σ H _ _ v u Q I rx ry ⟨rfl, q _ H (.refl H) (.bl _)⟩
  · cases e
    cases hx.bool; cases hy.non
    exact op_notN pins s σ H _ _ v u Q I rx ry ⟨rfl, q _ H (.refl H) (.bl _)⟩
  · cases e
    cases hx.str; cases hy.non
    exact op_notN pins s σ H _ _ v u Q I rx ry ⟨rfl, q _ H (.refl H) (.bl _)⟩
  · cases e
    obtain ⟨a, xs, rfl, h1, h2⟩ := hx.tuple
    cases hy.non
    exact op_notN pins s σ H _ _ v u Q I rx ry ⟨rfl, q _ H (.refl H) (.bl _)⟩
  · cases e
    obtain ⟨a, xs, rfl, h1, h2⟩ := hx.list
    cases hy.non
    exact op_notN pins s σ H _ _ v u Q I rx ry ⟨rfl, q _ H (.refl H) (.bl _)⟩
  · cases e
end
end DL
end

/- DL3 -/
section
set_option maxHeartbeats 4000000
namespace DL
open PySem PySem.Spec PyProof.Rows L2

/-! ### truth, tests -/
def truD : PyData → Option Bool
  | .none => some false
  | .bool b => some b
  | .int i => some (i != 0)
  | .str y => if y.length ≤ sizeLine then some ((y.length : Int) != 0) else none
  | .list xs => some (!xs.isEmpty)
  | .tuple xs => some (!xs.isEmpty)
  | .dict _ => none
def mTru (v : Vl) : M Bool := M.bind v.get fun d => M.opt (truD d)
def mTst (m : M Vl) : M Bool := M.bind m mTru
def mBoo (v : Vl) : M Bool := match v with
  | .d (.bool b) => M.pure b
  | _ => M.stuck
def mTB (m : M Vl) : M Bool := M.bind m mBoo
def mAnd (a b : M Bool) : M Bool := M.bind a fun c => if c = true then b else M.pure false
def mOr (a b : M Bool) : M Bool := M.bind a fun c => if c = true then M.pure true else b
def mNot (a : M Bool) : M Bool := M.bind a fun c => M.pure (!c)
def mIf {α : Type} (c : M Bool) (a b : M α) : M α := M.bind c fun k => if k = true then a else b
def mAndV (a b : M Vl) : M Vl := M.bind a fun v => M.bind (mTru v) fun k => if k = true then b else M.pure v
def mOrV (a b : M Vl) : M Vl := M.bind a fun v => M.bind (mTru v) fun k => if k = true then M.pure v else b
def mNotV (a : M Vl) : M Vl := M.bind a fun v => M.bind (mTru v) fun k => mC (.bool (!k))
def mChn (g g' : PyData → PyData → Option PyData) (ma mb mc : M Vl) : M Vl := M.bind ma fun va => M.bind mb fun vb => M.bind va.get fun x => M.bind vb.get fun y => M.bind (M.opt (g x y)) fun r => match r with
  | .bool true => M.bind mc fun vc => M.bind vb.get fun y => M.bind vc.get fun z => M.opt ((g' y z).map Vl.d)
  | .bool false => mC (.bool false)
  | _ => M.stuck
section
variable {X : Cx} {C : Ct} {T : List (Addr × Str)} {W : WX} {σ : L2.St} {H : Hp} {env : En}
theorem isEmpty_dz {K : PySem.W.Frag} {xs : List V} {ds : List PyData} (h : DzAll K H xs ds) : (!ds.isEmpty) = !xs.isEmpty := by cases h <;> rfl
theorem truV_of {u : V} {d : PyData} {k : Bool} (h : Rz X.K H u d) (e : truD d = some k) : TruV X.K u H k := by
  cases d with
  | none => cases h.non; cases e; rfl
  | bool b => cases h.bool; cases e; rfl
  | int i => cases h.int; cases e; rfl
  | str y =>
    cases h.str
    unfold truD at e
    dsimp only at e
    split at e
    · rename_i hz
      cases e
      exact ⟨hz, rfl⟩
    · cases e
  | list ds =>
    obtain ⟨a, xs, rfl, h1, h2⟩ := h.list
    cases e
    exact .inl ⟨xs, h1.sq, isEmpty_dz h2⟩
  | tuple ds =>
    obtain ⟨a, xs, rfl, h1, h2⟩ := h.tuple
    cases e
    exact .inr (.inl ⟨xs, h1.sq, isEmpty_dz h2⟩)
  | dict k => exact h.nodict.elim
theorem Lf.tru {α β : Type} {RV : β → Hp → α → En → Prop} {k : Bool → M α} {Q : β → Hp → Prop} {u : V} {v : Vl} (h : Lf X.K X.mg C W σ H RV (M.bind (mTru v) k env) Q) (r : Rel X.K C H σ env) (hv : VR X.K σ u H v) :
    ∃ b, TruV X.K u H b ∧ Lf X.K X.mg C W σ H RV (k b env) Q := by
  have h' : Lf X.K X.mg C W σ H RV (M.bind v.get (fun d => M.bind (M.opt (truD d)) k) env) Q := by
    have e : M.bind (mTru v) k env = M.bind v.get (fun d => M.bind (M.opt (truD d)) k) env := by
      unfold mTru M.bind
      dsimp only
      cases v.get env <;> rfl
    rw [← e]
    exact h
  obtain ⟨d, z, h1⟩ := Lf.get h' r hv
  obtain ⟨b, e, h2⟩ := Lf.optB h1
  exact ⟨b, truV_of z e, h2⟩
theorem M.bind_pure {α : Type} (m : M α) : M.bind m M.pure = m := by
  funext env
  unfold M.bind M.pure
  cases m env <;> rfl
theorem M.bind_assoc {α β γ : Type} (m : M α) (k : α → M β) (l : β → M γ) : M.bind (M.bind m k) l = M.bind m fun a => M.bind (k a) l := by
  funext env
  unfold M.bind
  cases m env <;> rfl
end
section
variable {X : Cx} {C : Ct} {T : List (Addr × Str)} {W : WX} {a b c : Expr} {rest : List Expr} {ma mb mc : M Vl} {ta tb : M Bool} {pos : Pos}
theorem dt_tru (ha : DE X T W a ma) (he : ∀ whole, isTrue a X.env whole = (do let v ← whole; standAt a.pos; holding [v] (truthy v)) := by intro _; rfl) : DT X T W a (mTst ma) := by
  refine ⟨fun C hC => ⟨fun pins s σ H Q I h => (pt_truth (ha.pe C hC) he).run pins s σ H Q I ?_⟩⟩
  obtain ⟨env, r, h⟩ := h
  refine ⟨env, r, Lf.bind h fun u H1 v env1 r1 hv l1 h1 => ?_⟩
  rw [← M.bind_pure (mTru v)] at h1
  obtain ⟨b, z, h2⟩ := Lf.tru h1 r1 hv
  exact ⟨b, z, h2 b H1 r1 rfl (.refl H1)⟩
theorem Lf.boo {K : PySem.W.Frag} {mg : Str → Option Value} {σ : L2.St} {H : Hp} {env : En} {Q : Bool → Hp → Prop} {u : V} {v : Vl} (h : Lf K mg C W σ H (fun b _ v _ => b = v) (mBoo v env) Q) (r : Rel K C H σ env) (hv : VR K σ u H v) : ∃ k, u = .bl k ∧ Q k H := by
  cases v with
  | sl i => exact h.elim
  | d x =>
    cases x with
    | bool b =>
      cases hv
      exact ⟨b, rfl, h b H r rfl (.refl H)⟩
    | _ => exact h.elim
theorem dt_cmp {op : CmpOp} {g : PyData → PyData → Option PyData} (ho : Op2 X (compareOp op) g) (ha : DE X T W a ma) (hb : DE X T W b mb) (hm : behindInMarks op b = false) : DT X T W (.Compare a [op] [b] pos) (mTB (mBin g ma mb)) := by
  refine ⟨fun C hC => ⟨fun pins s σ H Q I h => (pt_cmpR ho.opR (ha.pe C hC) (hb.pe C hC) hm).run pins s σ H Q I ?_⟩⟩
  obtain ⟨env, r, h⟩ := h
  have h2 : lift X.K X.mg C W (mBin g ma mb) σ H fun u H1 => ∃ k, u = .bl k ∧ Q k H1 := ⟨env, r, Lf.bind h fun u H1 v env1 r1 hv l1 h1 => Lf.boo h1 r1 hv⟩
  exact lift_bin h2
theorem lift_chn {g g' : PyData → PyData → Option PyData} {σ : L2.St} {H : Hp} {Q : VK} (h : lift X.K X.mg C W (mChn g g' ma mb mc) σ H Q) :
    tChain (r2 X.K g) (r2 X.K g') (lift X.K X.mg C W ma) (lift X.K X.mg C W mb) (lift X.K X.mg C W mc) σ H Q := by
  obtain ⟨env, r, h⟩ := h
  refine ⟨env, r, Lf.bind h fun u H1 va env1 r1 hv1 l1 h1 => ⟨env1, r1, Lf.bind h1 fun y H2 vb env2 r2' hv2 l2 h2 => ?_⟩⟩
  obtain ⟨dx, zx, h3⟩ := Lf.get h2 r2' (hv1.le l2)
  obtain ⟨dy, zy, h4⟩ := Lf.get h3 r2' hv2
  obtain ⟨dz, e, h5⟩ := Lf.optB h4
  refine ⟨dx, dy, dz, zx, zy, e, fun z H3 sm hz => ?_⟩
  have r3 := r2'.grow sm
  cases dz with
  | bool k =>
    cases hz
    refine ⟨k, rfl, ?_⟩
    cases k with
    | true =>
      rw [if_pos rfl]
      have h5 := Lf.mono h5 (.same sm) fun _ _ z => z
      refine ⟨env2, r3, Lf.bind h5 fun w H4 vc env4 r4 hv4 l4 h6 => ?_⟩
      obtain ⟨dy', zy', h7⟩ := Lf.get h6 r4 (hv2.le ((Le.same sm).trans l4))
      obtain ⟨dw, zw, h8⟩ := Lf.get h7 r4 hv4
      obtain ⟨dv, e2, h9⟩ := Lf.opt h8 r4
      exact ⟨dy', dw, dv, zy', zw, e2, h9⟩
    | false =>
      rw [if_neg (by decide)]
      exact h5 (.bl false) H3 r3 (.bl false) (.same sm)
  | _ => exact h5.elim
theorem de_chn {op op' : CmpOp} {g g' : PyData → PyData → Option PyData} (ho : Op2 X (compareOp op) g) (ho' : Op2 X (compareOp op') g') (ha : DE X T W a ma) (hb : DE X T W b mb) (hc : DE X T W c mc)
    (hm : lastMarks [op, op'] [b, c] = false := by with_unfolding_all rfl) : DE X T W (.Compare a [op, op'] [b, c] pos) (mChn g g' ma mb mc) :=
  ⟨fun C hC => ⟨fun pins s σ H Q I h => (pe_chain ho.opR ho'.opR (ha.pe C hC) (hb.pe C hC) (hc.pe C hC) hm).run pins s σ H Q I (lift_chn h)⟩⟩
theorem dt_chn {op op' : CmpOp} {g g' : PyData → PyData → Option PyData} (ho : Op2 X (compareOp op) g) (ho' : Op2 X (compareOp op') g') (ha : DE X T W a ma) (hb : DE X T W b mb) (hc : DE X T W c mc)
    (hm : lastMarks [op, op'] [b, c] = false := by with_unfolding_all rfl) : DT X T W (.Compare a [op, op'] [b, c] pos) (mTB (mChn g g' ma mb mc)) := by
  refine ⟨fun C hC => ⟨fun pins s σ H Q I h => (pt_chain ho.opR ho'.opR (ha.pe C hC) (hb.pe C hC) (hc.pe C hC) hm).run pins s σ H Q I ?_⟩⟩
  obtain ⟨env, r, h⟩ := h
  have h2 : lift X.K X.mg C W (mChn g g' ma mb mc) σ H fun u H1 => ∃ k, u = .bl k ∧ Q k H1 := ⟨env, r, Lf.bind h fun u H1 v env1 r1 hv l1 h1 => Lf.boo h1 r1 hv⟩
  exact lift_chn h2
theorem dt_w {e : Expr} {m : M Bool} (h : DW X T W e m) : DT X T W e m := ⟨fun C hC => (h.pw C hC).pt⟩
theorem dw_and1 (ha : DT X T W a ta) : DW X T W (.BoolOp .And [a] pos) ta := ⟨fun C hC => pw_and1 (ha.pt C hC)⟩
theorem dw_or1 (ha : DT X T W a ta) : DW X T W (.BoolOp .Or [a] pos) ta := ⟨fun C hC => pw_or1 (ha.pt C hC)⟩
theorem dw_and (ha : DT X T W a ta) (hb : DW X T W (.BoolOp .And (b :: rest) pos) tb) : DW X T W (.BoolOp .And (a :: b :: rest) pos) (mAnd ta tb) := by
  refine ⟨fun C hC => ⟨fun whole pins s σ H Q I h => (pw_and (ha.pt C hC) (hb.pw C hC)).run whole pins s σ H Q I ?_⟩⟩
  obtain ⟨env, r, h⟩ := h
  refine ⟨env, r, Lf.bind h fun c H1 v env1 r1 hv l1 h1 => ?_⟩
  subst hv
  cases c with
  | true => exact ⟨env1, r1, h1⟩
  | false => exact h1 false H1 r1 rfl (.refl H1)
theorem dw_or (ha : DT X T W a ta) (hb : DW X T W (.BoolOp .Or (b :: rest) pos) tb) : DW X T W (.BoolOp .Or (a :: b :: rest) pos) (mOr ta tb) := by
  refine ⟨fun C hC => ⟨fun whole pins s σ H Q I h => (pw_or (ha.pt C hC) (hb.pw C hC)).run whole pins s σ H Q I ?_⟩⟩
  obtain ⟨env, r, h⟩ := h
  refine ⟨env, r, Lf.bind h fun c H1 v env1 r1 hv l1 h1 => ?_⟩
  subst hv
  cases c with
  | true => exact h1 true H1 r1 rfl (.refl H1)
  | false => exact ⟨env1, r1, h1⟩
theorem dt_not (ha : DT X T W a ta) : DT X T W (.UnaryOp .Not a pos) (mNot ta) := by
  refine ⟨fun C hC => ⟨fun pins s σ H Q I h => (pt_not (ha.pt C hC)).run pins s σ H Q I ?_⟩⟩
  obtain ⟨env, r, h⟩ := h
  refine ⟨env, r, Lf.bind h fun c H1 v env1 r1 hv l1 h1 => ?_⟩
  subst hv
  exact h1 (!c) H1 r1 rfl (.refl H1)
theorem de_one {op} (h : DE X T W a ma) : DE X T W (.BoolOp op [a] pos) ma := ⟨fun C hC => pe_one (h.pe C hC)⟩
theorem de_and (ha : DE X T W a ma) (hb : DE X T W (.BoolOp .And (b :: rest) pos) mb) : DE X T W (.BoolOp .And (a :: b :: rest) pos) (mAndV ma mb) := by
  refine ⟨fun C hC => ⟨fun pins s σ H Q I h => (pe_andT (ha.pe C hC) (hb.pe C hC)).run pins s σ H Q I ?_⟩⟩
  obtain ⟨env, r, h⟩ := h
  refine ⟨env, r, Lf.bind h fun u H1 v env1 r1 hv l1 h1 => ?_⟩
  obtain ⟨k, z, h2⟩ := Lf.tru h1 r1 hv
  refine ⟨k, z, ?_⟩
  cases k with
  | true => exact ⟨env1, r1, h2⟩
  | false => exact h2 u H1 r1 hv (.refl H1)
theorem de_or (ha : DE X T W a ma) (hb : DE X T W (.BoolOp .Or (b :: rest) pos) mb) : DE X T W (.BoolOp .Or (a :: b :: rest) pos) (mOrV ma mb) := by
  refine ⟨fun C hC => ⟨fun pins s σ H Q I h => (pe_orT (ha.pe C hC) (hb.pe C hC)).run pins s σ H Q I ?_⟩⟩
  obtain ⟨env, r, h⟩ := h
  refine ⟨env, r, Lf.bind h fun u H1 v env1 r1 hv l1 h1 => ?_⟩
  obtain ⟨k, z, h2⟩ := Lf.tru h1 r1 hv
  refine ⟨k, z, ?_⟩
  cases k with
  | true => exact h2 u H1 r1 hv (.refl H1)
  | false => exact ⟨env1, r1, h2⟩
theorem de_not (ha : DE X T W a ma) : DE X T W (.UnaryOp .Not a pos) (mNotV ma) := by
  refine ⟨fun C hC => ⟨fun pins s σ H Q I h => (pe_notT (ha.pe C hC)).run pins s σ H Q I ?_⟩⟩
  obtain ⟨env, r, h⟩ := h
  refine ⟨env, r, Lf.bind h fun u H1 v env1 r1 hv l1 h1 => ?_⟩
  obtain ⟨k, z, h2⟩ := Lf.tru h1 r1 hv
  exact ⟨k, z, h2 (.bl (!k)) H1 r1 (.bl _) (.refl H1)⟩
theorem de_if (hc : DT X T W c ta) (ha : DE X T W a ma) (hb : DE X T W b mb) : DE X T W (.IfExp c a b pos) (mIf ta ma mb) := by
  refine ⟨fun C hC => ⟨fun pins s σ H Q I h => (pe_ifExp (hc.pt C hC) (ha.pe C hC) (hb.pe C hC)).run pins s σ H Q I ?_⟩⟩
  obtain ⟨env, r, h⟩ := h
  refine ⟨env, r, Lf.bind h fun k H1 v env1 r1 hv l1 h1 => ?_⟩
  subst hv
  cases k with
  | true => exact ⟨env1, r1, h1⟩
  | false => exact ⟨env1, r1, h1⟩
end

/-! ### arguments, displays -/
def mNil : M (List Vl) := M.pure []
def mCons (m : M Vl) (ms : M (List Vl)) : M (List Vl) := M.bind m fun v => M.bind ms fun vs => M.pure (v :: vs)
def mTup (m : M (List Vl)) : M Vl := M.bind m fun vs => M.bind (leakAll vs) fun ds => if ds.length ≤ sizeLine then mC (.tuple ds) else M.stuck
def mLst (m : M (List Vl)) : M (List PyData) := M.bind m fun vs => M.bind (leakAll vs) fun ds => if ds.length ≤ sizeLine then M.pure ds else M.stuck
section
variable {X : Cx} {C : Ct} {T : List (Addr × Str)} {W : WX} {e : Expr} {es : List Expr} {m : M Vl} {ms : M (List Vl)} {pos : Pos}
theorem da_nil : DA X T W [] mNil := by
  refine ⟨fun C hC => ⟨fun pos pins s σ H Q I h => pa_nil.run pos pins s σ H Q I ?_⟩⟩
  obtain ⟨env, r, h⟩ := h
  exact h [] H r trivial (.refl H)
theorem da_cons (he : DE X T W e m) (hs : DA X T W es ms) (hst : starEach (e :: es) X.env = (false, eval e X.env) :: starEach es X.env := by rfl) : DA X T W (e :: es) (mCons m ms) := by
  refine ⟨fun C hC => ⟨fun pos pins s σ H Q I h => (pa_cons (he.pe C hC) (hs.pa C hC) hst).run pos pins s σ H Q I ?_⟩⟩
  obtain ⟨env, r, h⟩ := h
  refine ⟨env, r, Lf.bind h fun u H1 v env1 r1 hv l1 h1 => ⟨env1, r1, Lf.bind h1 fun us H2 vs env2 r2' hvs l2 h2 => ?_⟩⟩
  exact h2 (u :: us) H2 r2' ⟨hv.le l2, hvs⟩ (.refl H2)
theorem leakAll_len : ∀ {vs : List Vl} {ds : List PyData} {env env' : En}, leakAll vs env = .ok ds env' → vs.length = ds.length
  | [], ds, env, env', e => by cases e; rfl
  | v :: vs, ds, env, env', e => by
    unfold leakAll M.bind at e
    dsimp only at e
    cases q : leak v env with
    | ok d env3 =>
      rw [q] at e
      dsimp only at e
      cases q2 : leakAll vs env3 with
      | ok ds' env4 =>
        rw [q2] at e
        cases e
        have := leakAll_len q2
        simp [this]
      | err y env4 => rw [q2] at e; cases e
      | stuck => rw [q2] at e; cases e
    | err y env3 => rw [q] at e; cases e
    | stuck => rw [q] at e; cases e
theorem de_tup {k} (h : DA X T W es ms) : DE X T W (.Tuple es k pos) (mTup ms) := by
  refine ⟨fun C hC => ⟨fun pins s σ H Q I hq => (pe_ghost (pe_tup (h.pa C hC))).run pins s σ H Q I ?_⟩⟩
  obtain ⟨env, r, hq⟩ := hq
  refine ⟨env, r, Lf.bind hq fun us H1 vs env1 r1 hv l1 h1 => ?_⟩
  obtain ⟨ds, env2, e1, h2⟩ := Lf.leakAll h1 r1 hv
  by_cases hz : ds.length ≤ sizeLine
  · rw [if_pos hz] at h2
    have el : us.length ≤ sizeLine := by
      have e2 := hv.length
      have e3 := leakAll_len e1
      omega
    refine ⟨el, fun p hp => ?_⟩
    have sm : Same H1 (upd H1 p (.tup us)) := Same.new hp
    refine (leakAll_ok (r1.grow sm) (hv.le (.same sm)) e1).imp fun H3 ⟨r3, z3, l3, _, _⟩ => ?_
    exact h2 (.ref p) H3 r3 (.tup (.inl (l3.t _ _ upd_same)) z3) ((Le.same sm).trans l3)
  · rw [if_neg hz] at h2
    exact h2.elim
theorem do_lst (h : DA X T W es ms) : DO X T W (.List es pos) (mLst ms) := by
  refine ⟨fun C hC => ⟨fun pins s σ H Q I hq => (pe_ghost (pe_lst (h.pa C hC))).run pins s σ H Q I ?_⟩⟩
  obtain ⟨env, r, hq⟩ := hq
  refine ⟨env, r, Lf.bind hq fun us H1 vs env1 r1 hv l1 h1 => ?_⟩
  obtain ⟨ds, env2, e1, h2⟩ := Lf.leakAll h1 r1 hv
  by_cases hz : ds.length ≤ sizeLine
  · rw [if_pos hz] at h2
    have el : us.length ≤ sizeLine := by
      have e2 := hv.length
      have e3 := leakAll_len e1
      omega
    refine ⟨el, fun p hp => ?_⟩
    have sm : Same H1 (upd H1 p (.lst us)) := Same.new hp
    refine (leakAll_ok (r1.grow sm) (hv.le (.same sm)) e1).imp fun H3 ⟨r3, z3, l3, o3, k3⟩ => ?_
    have np : ∀ (i : Nat) b es, env1[i]? = some (some (.own b es)) → σ[i]? ≠ some (some (.ref p)) := fun i b es q z => by
      obtain ⟨a', ys, q1, q2, _, _⟩ := r1.own i b es q
      rw [q1] at z
      cases z
      rw [hp] at q2
      cases q2
    exact h2 (.ref p) H3 r3 ⟨p, us, rfl, o3 p _ upd_same np, z3, r1.dom p hp, r1.domP hp, fun i b es q => np i b es (k3 i b es q)⟩ ((Le.same sm).trans l3)
  · rw [if_neg hz] at h2
    exact h2.elim
end

/-! ### subscripts -/
def gIx : PyData → PyData → Option PyData
  | .list xs, .int i => atI xs i
  | .tuple xs, .int i => atI xs i
  | .str z, .int i => if z.length ≤ sizeLine then (atI z.cps.toList i).map fun c => .str ⟨#[c]⟩ else none
  | _, _ => none
theorem atI_dz {K : PySem.W.Frag} {H : Hp} {xs : List V} {ds : List PyData} {i : Int} {d : PyData} (h : DzAll K H xs ds) (e : atI ds i = some d) : ∃ v, atI xs i = some v ∧ Dz K H v d := by
  unfold atI at e ⊢
  rw [h.length]
  cases q : ixN ds.length i with
  | none => rw [q] at e; cases e
  | some j =>
    rw [q] at e
    obtain ⟨v, h1, h2⟩ := h.get (show ds[j]? = some d from e)
    exact ⟨v, h1, h2⟩
theorem ix_d {X : Cx} : IxR X (r2 X.K gIx) := by
  intro value slice pins s σ H x y v u Q I rx ry h hs
  obtain ⟨dx, dy, dz, hx, hy, e, q⟩ := h
  refine ix_seq value slice pins s σ H x y v u Q I rx ry ?_ hs
  unfold gIx at e
  split at e
  · obtain ⟨a, xs, rfl, h1, h2⟩ := hx.list
    cases hy.int
    obtain ⟨w, e1, e2⟩ := atI_dz h2 e
    exact .inl ⟨a, xs, _, w, rfl, rfl, h1.sq, e1, q w H (.refl H) e2⟩
  · obtain ⟨a, xs, rfl, h1, h2⟩ := hx.tuple
    cases hy.int
    obtain ⟨w, e1, e2⟩ := atI_dz h2 e
    exact .inr (.inl ⟨a, xs, _, w, rfl, rfl, h1.sq, e1, q w H (.refl H) e2⟩)
  · rename_i z i
    split at e
    · rename_i hz
      cases hx.str
      cases hy.int
      cases q2 : atI z.cps.toList i with
      | none => rw [q2] at e; cases e
      | some c =>
        rw [q2] at e
        cases e
        exact .inr (.inr ⟨z, i, c, rfl, rfl, hz, q2, q _ H (.refl H) (.str _)⟩)
    · cases e
  · cases e
theorem de_ix {X : Cx} {W : WX} {a b : Expr} {ma mb : M Vl} {pos : Pos} (ha : DE X T W a ma) (hb : DE X T W b mb) (hs : PlainIx b := by intro _ _; rfl) : DE X T W (.Subscript a b pos) (mBin gIx ma mb) :=
  ⟨fun C hC => ⟨fun pins s σ H Q I h => (pe_ix ix_d (ha.pe C hC) (hb.pe C hC) hs).run pins s σ H Q I (lift_bin h)⟩⟩
end DL
end

/- DL4 -/
section
set_option maxHeartbeats 4000000
namespace DL
open PySem PySem.Spec PyProof.Rows L2

/-! ### calls of built-ins by values -/
def getAll : List Vl → M (List PyData)
  | [] => M.pure []
  | v :: vs => M.bind v.get fun d => M.bind (getAll vs) fun ds => M.pure (d :: ds)
def RzAll (K : PySem.W.Frag) (H : Hp) : List V → List PyData → Prop
  | [], [] => True
  | u :: us, d :: ds => Rz K H u d ∧ RzAll K H us ds
  | _, _ => False
def mCall (g : List PyData → Option PyData) (m : M (List Vl)) : M Vl := M.bind m fun vs => M.bind (getAll vs) fun ds => M.opt ((g ds).map Vl.d)
def mCallL (g : List PyData → Option (List PyData)) (m : M (List Vl)) : M (List PyData) := M.bind m fun vs => M.bind (getAll vs) fun ds => M.opt (g ds)
theorem Lf.getAll {K : PySem.W.Frag} {mg : Str → Option Value} {C : Ct} {W : WX} {σ : L2.St} {H : Hp} {env : En} {α β : Type} {RV : β → Hp → α → En → Prop} {Q : β → Hp → Prop} : ∀ {us : List V} {vs : List Vl} {k : List PyData → M α},
    Lf K mg C W σ H RV (M.bind (getAll vs) k env) Q → Rel K C H σ env → VRs K σ H us vs → ∃ ds, RzAll K H us ds ∧ Lf K mg C W σ H RV (k ds env) Q
  | [], [], k, h, r, hv => ⟨[], trivial, h⟩
  | u :: us, v :: vs, k, h, r, hv => by
    unfold DL.getAll at h
    rw [M.bind_assoc] at h
    obtain ⟨d, z, h1⟩ := Lf.get h r hv.1
    rw [M.bind_assoc] at h1
    obtain ⟨ds, zs, h2⟩ := Lf.getAll h1 r hv.2
    exact ⟨d :: ds, ⟨z, zs⟩, h2⟩
  | [], _ :: _, _, _, _, hv => hv.elim
  | _ :: _, [], _, _, _, hv => hv.elim
def CallD (X : Cx) (f : Value) (g : List PyData → Option PyData) : Prop :=
  ∀ (pins : List (Addr × Obj)) (s : Shared) (σ : L2.St) (H : Hp) (xs : List V) (us : List Value) (ds : List PyData) (d : PyData), Inv X pins σ H s → Vals xs us → RzAll X.K H xs ds → g ds = some d →
    ∀ Q : VK, (∀ z H', Same H H' → Dz X.K H' z d → Q z H') → wpAny (model X.prog X.w) X.A (call f us) (EP X pins σ Q) X.xe s
def CallDL (X : Cx) (f : Value) (g : List PyData → Option (List PyData)) : Prop :=
  ∀ (pins : List (Addr × Obj)) (s : Shared) (σ : L2.St) (H : Hp) (xs : List V) (us : List Value) (ds es : List PyData), Inv X pins σ H s → Vals xs us → RzAll X.K H xs ds → g ds = some es →
    ∀ Q : VK, (∀ p ys, H p = none → DzAll X.K H ys es → Q (.ref p) (upd H p (.lst ys))) → wpAny (model X.prog X.w) X.A (call f us) (EP X pins σ Q) X.xe s
def rD (K : PySem.W.Frag) (g : List PyData → Option PyData) : List V → Hp → VK → Prop := fun xs H Q => ∃ ds d, RzAll K H xs ds ∧ g ds = some d ∧ ∀ z H', Same H H' → Dz K H' z d → Q z H'
def rDL (K : PySem.W.Frag) (g : List PyData → Option (List PyData)) : List V → Hp → VK → Prop := fun xs H Q => ∃ ds es, RzAll K H xs ds ∧ g ds = some es ∧ ∀ p ys, H p = none → DzAll K H ys es → Q (.ref p) (upd H p (.lst ys))
theorem new_OR {K : PySem.W.Frag} {C : Ct} {σ : L2.St} {H : Hp} {env : En} {p : Addr} {xs : List V} {ds : List PyData} (r : Rel K C H σ env) (hp : H p = none) (hz : DzAll K H xs ds) : OR K C σ (.ref p) (upd H p (.lst xs)) ds env := by
  have sm : Same H (upd H p (.lst xs)) := Same.new hp
  refine ⟨p, xs, rfl, upd_same, DzAll.le (.same sm) ds hz, r.dom p hp, r.domP hp, fun i b es q z => ?_⟩
  obtain ⟨a', ys, q1, q2, _, _⟩ := r.own i b es q
  rw [q1] at z
  cases z
  rw [hp] at q2
  cases q2
section
variable {X : Cx} {C : Ct} {T : List (Addr × Str)} {W : WX} {e : Expr} {es : List Expr} {m : M (List Vl)} {p pos : Pos} {x : Str} {id : String}
theorem CallD.r {f : Value} {g : List PyData → Option PyData} (h : CallD X f g) : CallR X f (rD X.K g) := fun pins s σ H xs us Q I r ⟨ds, d, h1, h2, q⟩ => h pins s σ H xs us ds d I r h1 h2 Q q
theorem CallDL.r {f : Value} {g : List PyData → Option (List PyData)} (h : CallDL X f g) : CallR X f (rDL X.K g) := fun pins s σ H xs us Q I r ⟨ds, d, h1, h2, q⟩ => h pins s σ H xs us ds d I r h1 h2 Q q
theorem lift_call {g : List PyData → Option PyData} {σ : L2.St} {H : Hp} {Q : VK} (h : lift X.K X.mg C W (mCall g m) σ H Q) : tCB (rD X.K g) (liftA X.K X.mg C W m) σ H Q := by
  obtain ⟨env, r, h⟩ := h
  refine ⟨env, r, Lf.bind h fun us H1 vs env1 r1 hv l1 h1 => ?_⟩
  obtain ⟨ds, z, h2⟩ := Lf.getAll h1 r1 hv
  obtain ⟨d, e, h3⟩ := Lf.opt h2 r1
  exact ⟨ds, d, z, e, h3⟩
theorem lift_callL {g : List PyData → Option (List PyData)} {σ : L2.St} {H : Hp} {Q : VK} (h : liftO X.K X.mg C W (mCallL g m) σ H Q) : tCB (rDL X.K g) (liftA X.K X.mg C W m) σ H Q := by
  obtain ⟨env, r, h⟩ := h
  refine ⟨env, r, Lf.bind h fun us H1 vs env1 r1 hv l1 h1 => ?_⟩
  obtain ⟨ds, z, h2⟩ := Lf.getAll h1 r1 hv
  cases e : g ds with
  | none => rw [e] at h2; exact h2.elim
  | some es =>
    rw [e] at h2
    refine ⟨ds, es, z, e, fun p ys hp hz => ?_⟩
    exact h2 (.ref p) _ (r1.grow (Same.new hp)) (new_OR r1 hp hz) (.same (Same.new hp))
theorem de_callB {g : List PyData → Option PyData} (hc : CallD X (.builtin id) g) (hg : Gl X x) (hm : X.mg x = none) (hv : bootBuiltins x = some (.builtin id)) (ha : DA X T W (e :: es) m) (hn : x ≠ "__name__" := by decide) (hdb : (x == ("__debug__" : Str)) = false := by decide)
    (he : starEach (e :: es) X.env = (false, eval e X.env) :: starEach es X.env := by rfl) (hpl : (backTo pos (starEach es X.env)).any (·.1) = false := by rfl) : DE X T W (.Call (.Name x p) (e :: es) [] pos) (mCall g m) :=
  ⟨fun C hC => ⟨fun pins s σ H Q I h => (pe_callB hc.r hg hm hv (ha.pa C hC) hn hdb he hpl).run pins s σ H Q I (lift_call h)⟩⟩
theorem de_callTy {g : List PyData → Option PyData} (hc : CallD X (.type id) g) (hg : Gl X x) (hm : X.mg x = none) (hv : bootBuiltins x = some (.type id)) (ha : DA X T W (e :: es) m) (hn : x ≠ "__name__" := by decide) (hdb : (x == ("__debug__" : Str)) = false := by decide)
    (he : starEach (e :: es) X.env = (false, eval e X.env) :: starEach es X.env := by rfl) (hpl : (backTo pos (starEach es X.env)).any (·.1) = false := by rfl) : DE X T W (.Call (.Name x p) (e :: es) [] pos) (mCall g m) :=
  ⟨fun C hC => ⟨fun pins s σ H Q I h => (pe_callTy hc.r hg hm hv (ha.pa C hC) hn hdb he hpl).run pins s σ H Q I (lift_call h)⟩⟩
theorem do_callB {g : List PyData → Option (List PyData)} (hc : CallDL X (.builtin id) g) (hg : Gl X x) (hm : X.mg x = none) (hv : bootBuiltins x = some (.builtin id)) (ha : DA X T W (e :: es) m) (hn : x ≠ "__name__" := by decide) (hdb : (x == ("__debug__" : Str)) = false := by decide)
    (he : starEach (e :: es) X.env = (false, eval e X.env) :: starEach es X.env := by rfl) (hpl : (backTo pos (starEach es X.env)).any (·.1) = false := by rfl) : DO X T W (.Call (.Name x p) (e :: es) [] pos) (mCallL g m) :=
  ⟨fun C hC => ⟨fun pins s σ H Q I h => (pe_callB hc.r hg hm hv (ha.pa C hC) hn hdb he hpl).run pins s σ H Q I (lift_callL h)⟩⟩
theorem do_callTy {g : List PyData → Option (List PyData)} (hc : CallDL X (.type id) g) (hg : Gl X x) (hm : X.mg x = none) (hv : bootBuiltins x = some (.type id)) (ha : DA X T W (e :: es) m) (hn : x ≠ "__name__" := by decide) (hdb : (x == ("__debug__" : Str)) = false := by decide)
    (he : starEach (e :: es) X.env = (false, eval e X.env) :: starEach es X.env := by rfl) (hpl : (backTo pos (starEach es X.env)).any (·.1) = false := by rfl) : DO X T W (.Call (.Name x p) (e :: es) [] pos) (mCallL g m) :=
  ⟨fun C hC => ⟨fun pins s σ H Q I h => (pe_callTy hc.r hg hm hv (ha.pa C hC) hn hdb he hpl).run pins s σ H Q I (lift_callL h)⟩⟩
end

/-! ### the built-ins' data -/
def toInts : List PyData → Option (List Int)
  | [] => some []
  | .int i :: ds => (toInts ds).map (i :: ·)
  | _ :: _ => none
theorem toInts_eq : ∀ {ds : List PyData} {ns : List Int}, toInts ds = some ns → ds = ns.map .int
  | [], ns, e => by cases e; rfl
  | d :: ds, ns, e => by
    cases d with
    | int i =>
      unfold toInts at e
      cases q : toInts ds with
      | none => rw [q] at e; cases e
      | some ms =>
        rw [q] at e
        cases e
        rw [List.map_cons, toInts_eq q]
    | _ => cases e
@[simp] theorem toInts_map : ∀ ns : List Int, toInts (ns.map .int) = some ns
  | [] => rfl
  | n :: ns => by
    rw [List.map_cons]
    show (toInts (ns.map .int)).map (n :: ·) = _
    rw [toInts_map ns] <;> rfl
def toBools : List PyData → Option (List Bool)
  | [] => some []
  | .bool i :: ds => (toBools ds).map (i :: ·)
  | _ :: _ => none
theorem toBools_eq : ∀ {ds : List PyData} {ns : List Bool}, toBools ds = some ns → ds = ns.map .bool
  | [], ns, e => by cases e; rfl
  | d :: ds, ns, e => by
    cases d with
    | bool i =>
      unfold toBools at e
      cases q : toBools ds with
      | none => rw [q] at e; cases e
      | some ms =>
        rw [q] at e
        cases e
        rw [List.map_cons, toBools_eq q]
    | _ => cases e
@[simp] theorem toBools_map : ∀ ns : List Bool, toBools (ns.map .bool) = some ns
  | [] => rfl
  | n :: ns => by
    rw [List.map_cons]
    show (toBools (ns.map .bool)).map (n :: ·) = _
    rw [toBools_map ns] <;> rfl
def gLen : List PyData → Option PyData
  | [.list xs] => some (.int xs.length)
  | [.tuple xs] => some (.int xs.length)
  | [.str z] => if z.length ≤ sizeLine then some (.int z.length) else none
  | _ => none
def gAbs : List PyData → Option PyData
  | [.int i] => some (.int (if i < 0 then -i else i))
  | _ => none
def gInt : List PyData → Option PyData
  | [.int i] => some (.int i)
  | [.bool k] => some (.int (if k then 1 else 0))
  | [.str z] => if z.length ≤ 640 then (PySem.intText? z).map .int else none
  | _ => none
def gStr : List PyData → Option PyData
  | [.int i] => if i.natAbs.log2 < 1920 then some (.str (toString i)) else none
  | _ => none
def gTup : List PyData → Option PyData
  | [.list xs] => some (.tuple xs)
  | [.tuple xs] => some (.tuple xs)
  | _ => none
def gLst : List PyData → Option (List PyData)
  | [.list xs] => some xs
  | [.tuple xs] => some xs
  | _ => none
def gSum : List PyData → Option PyData
  | [.list xs] => (toInts xs).map fun ns => .int ns.sum
  | _ => none
def gAny : List PyData → Option PyData
  | [.list xs] => (toBools xs).map fun bs => .bool (bs.any id)
  | _ => none
def gAll : List PyData → Option PyData
  | [.list xs] => (toBools xs).map fun bs => .bool (bs.all id)
  | _ => none
def maxI : List Int → Option Int
  | [] => none
  | n :: ns => some (ns.foldl max n)
def minI : List Int → Option Int
  | [] => none
  | n :: ns => some (ns.foldl min n)
def gMax : List PyData → Option PyData
  | [.list xs] => (toInts xs).bind fun ns => (maxI ns).map .int
  | [.int i, .int j] => some (.int (if j > i then j else i))
  | _ => none
def gMin : List PyData → Option PyData
  | [.list xs] => (toInts xs).bind fun ns => (minI ns).map .int
  | [.int i, .int j] => some (.int (if j < i then j else i))
  | _ => none
def sortI (ns : List Int) : List Int := ns.mergeSort fun a b => decide (a ≤ b)
def gSorted : List PyData → Option (List PyData)
  | [.list xs] => (toInts xs).map fun ns => (sortI ns).map .int
  | _ => none
theorem foldl_max : ∀ (ns : List Int) (n : Int), ns.foldl max n ∈ n :: ns ∧ ∀ y ∈ n :: ns, y ≤ ns.foldl max n
  | [], n => ⟨List.mem_cons_self, fun y hy => by simp at hy; subst hy; exact Int.le_refl _⟩
  | m :: ns, n => by
    obtain ⟨h1, h2⟩ := foldl_max ns (max n m)
    refine ⟨?_, fun y hy => ?_⟩
    · rcases List.mem_cons.mp h1 with e | e
      · rw [List.foldl_cons, e]
        by_cases h : n ≤ m
        · rw [Int.max_eq_right h]; simp
        · rw [Int.max_eq_left (by omega)]; simp
      · exact List.mem_cons_of_mem _ (List.mem_cons_of_mem _ e)
    · have h3 := h2 (max n m) List.mem_cons_self
      rcases List.mem_cons.mp hy with e | hy
      · subst e; rw [List.foldl_cons]; omega
      · rcases List.mem_cons.mp hy with e | hy
        · subst e; rw [List.foldl_cons]; omega
        · exact h2 y (List.mem_cons_of_mem _ hy)
theorem foldl_min : ∀ (ns : List Int) (n : Int), ns.foldl min n ∈ n :: ns ∧ ∀ y ∈ n :: ns, ns.foldl min n ≤ y
  | [], n => ⟨List.mem_cons_self, fun y hy => by simp at hy; subst hy; exact Int.le_refl _⟩
  | m :: ns, n => by
    obtain ⟨h1, h2⟩ := foldl_min ns (min n m)
    refine ⟨?_, fun y hy => ?_⟩
    · rcases List.mem_cons.mp h1 with e | e
      · rw [List.foldl_cons, e]
        by_cases h : n ≤ m
        · rw [Int.min_eq_left h]; simp
        · rw [Int.min_eq_right (by omega)]; simp
      · exact List.mem_cons_of_mem _ (List.mem_cons_of_mem _ e)
    · have h3 := h2 (min n m) List.mem_cons_self
      rcases List.mem_cons.mp hy with e | hy
      · subst e; rw [List.foldl_cons]; omega
      · rcases List.mem_cons.mp hy with e | hy
        · subst e; rw [List.foldl_cons]; omega
        · exact h2 y (List.mem_cons_of_mem _ hy)
theorem sortI_perm (ns : List Int) : (sortI ns).Perm ns := List.mergeSort_perm _ _
theorem sortI_le (ns : List Int) : (sortI ns).Pairwise (· ≤ ·) := by
  have h := List.pairwise_mergeSort (le := fun a b : Int => decide (a ≤ b)) (fun a b c h1 h2 => by simp at *; omega) (fun a b => by simp; omega) ns
  exact h.imp fun h => by simpa using h
theorem sorted_one : ∀ {l m : List Int}, l.Perm m → l.Pairwise (· ≤ ·) → m.Pairwise (· ≤ ·) → l = m
  | [], m, h, _, _ => (List.nil_perm.mp h).symm
  | a :: l, [], h, _, _ => absurd h.length_eq (by simp)
  | a :: l, b :: m, h, hl, hm => by
    have h1 : a ∈ b :: m := h.subset List.mem_cons_self
    have h2 : b ∈ a :: l := h.symm.subset List.mem_cons_self
    have e : a = b := by
      rcases List.mem_cons.mp h1 with e | h1
      · exact e
      · rcases List.mem_cons.mp h2 with e | h2
        · exact e.symm
        · have := List.rel_of_pairwise_cons hl h2
          have := List.rel_of_pairwise_cons hm h1
          omega
    subst e
    rw [sorted_one (List.Perm.cons_inv h) (List.Pairwise.of_cons hl) (List.Pairwise.of_cons hm)]
section
variable {X : Cx}
theorem RzAll.one {K : PySem.W.Frag} {H : Hp} {xs : List V} {d : PyData} (h : RzAll K H xs [d]) : ∃ x, xs = [x] ∧ Rz K H x d := by
  match xs, h with
  | [x], h => exact ⟨x, rfl, h.1⟩
theorem RzAll.two {K : PySem.W.Frag} {H : Hp} {xs : List V} {d e : PyData} (h : RzAll K H xs [d, e]) : ∃ x y, xs = [x, y] ∧ Rz K H x d ∧ Rz K H y e := by
  match xs, h with
  | [x, y], h => exact ⟨x, y, rfl, h.1, h.2.1⟩
theorem c_len : CallD X (.builtin "len") gLen := by
  intro pins s σ H xs us ds d I r hz e Q q
  unfold gLen at e
  split at e
  · cases e
    obtain ⟨x, rfl, h⟩ := hz.one
    obtain ⟨a, ys, rfl, h1, h2⟩ := h.list
    refine call_len_seq pins s σ H _ us Q I r ⟨a, ys, rfl, .inl h1.sq, ?_⟩
    rw [h2.length]
    exact q _ H (.refl H) (.int _)
  · cases e
    obtain ⟨x, rfl, h⟩ := hz.one
    obtain ⟨a, ys, rfl, h1, h2⟩ := h.tuple
    refine call_len_seq pins s σ H _ us Q I r ⟨a, ys, rfl, .inr h1.sq, ?_⟩
    rw [h2.length]
    exact q _ H (.refl H) (.int _)
  · split at e
    · rename_i hs
      cases e
      obtain ⟨x, rfl, h⟩ := hz.one
      cases h.str
      exact call_len_str pins s σ H _ us Q I r ⟨_, rfl, hs, q _ H (.refl H) (.int _)⟩
    · cases e
  · cases e
theorem c_abs : CallD X (.builtin "abs") gAbs := by
  intro pins s σ H xs us ds d I r hz e Q q
  unfold gAbs at e
  split at e
  · cases e
    obtain ⟨x, rfl, h⟩ := hz.one
    cases h.int
    exact call_abs pins s σ H _ us Q I r ⟨_, rfl, q _ H (.refl H) (.int _)⟩
  · cases e
theorem c_int : CallD X (.type "int") gInt := by
  intro pins s σ H xs us ds d I r hz e Q q
  unfold gInt at e
  split at e
  · cases e
    obtain ⟨x, rfl, h⟩ := hz.one
    cases h.int
    exact call_int1 pins s σ H _ us Q I r (.inl ⟨_, rfl, q _ H (.refl H) (.int _)⟩)
  · cases e
    obtain ⟨x, rfl, h⟩ := hz.one
    cases h.bool
    exact call_int1 pins s σ H _ us Q I r (.inr ⟨_, rfl, q _ H (.refl H) (.int _)⟩)
  · rename_i z
    split at e
    · rename_i hs
      obtain ⟨x, rfl, h⟩ := hz.one
      cases h.str
      cases q2 : PySem.intText? z with
      | none => rw [q2] at e; cases e
      | some n =>
        rw [q2] at e
        cases e
        exact call_int_str pins s σ H _ us Q I r ⟨_, _, rfl, q2, hs, q _ H (.refl H) (.int _)⟩
    · cases e
  · cases e
theorem c_str : CallD X (.type "str") gStr := by
  intro pins s σ H xs us ds d I r hz e Q q
  unfold gStr at e
  split at e
  · split at e
    · rename_i hs
      cases e
      obtain ⟨x, rfl, h⟩ := hz.one
      cases h.int
      exact call_str_int pins s σ H _ us Q I r ⟨_, rfl, hs, q _ H (.refl H) (.str _)⟩
    · cases e
  · cases e
theorem c_tup : CallD X (.type "tuple") gTup := by
  intro pins s σ H xs us ds d I r hz e Q q
  unfold gTup at e
  split at e
  · cases e
    obtain ⟨x, rfl, h⟩ := hz.one
    obtain ⟨a, ys, rfl, h1, h2⟩ := h.list
    refine call_tuple_of pins s σ H _ us Q I r ⟨a, ys, rfl, .inl ⟨h1.sq, fun l hl => ?_⟩⟩
    exact q _ _ (Same.new hl) (.tup (.inl upd_same) (DzAll.le (.same (Same.new hl)) _ h2))
  · cases e
    obtain ⟨x, rfl, h⟩ := hz.one
    obtain ⟨a, ys, rfl, h1, h2⟩ := h.tuple
    exact call_tuple_of pins s σ H _ us Q I r ⟨a, ys, rfl, .inr ⟨h1.sq, q _ H (.refl H) (.tup h1 h2)⟩⟩
  · cases e
theorem c_lst : CallDL X (.type "list") gLst := by
  intro pins s σ H xs us ds d I r hz e Q q
  unfold gLst at e
  split at e
  · cases e
    obtain ⟨x, rfl, h⟩ := hz.one
    obtain ⟨a, ys, rfl, h1, h2⟩ := h.list
    exact call_list_of pins s σ H _ us Q I r ⟨a, ys, rfl, .inl h1.sq, fun l hl => q l ys hl h2⟩
  · cases e
    obtain ⟨x, rfl, h⟩ := hz.one
    obtain ⟨a, ys, rfl, h1, h2⟩ := h.tuple
    exact call_list_of pins s σ H _ us Q I r ⟨a, ys, rfl, .inr h1.sq, fun l hl => q l ys hl h2⟩
  · cases e
theorem Rz.ints {K : PySem.W.Frag} {H : Hp} {u : V} {ds : List PyData} {ns : List Int} (h : Rz K H u (.list ds)) (e : toInts ds = some ns) : ∃ a, u = .ref a ∧ SqL K H a (ns.map V.int) := by
  obtain ⟨a, ys, rfl, h1, h2⟩ := h.list
  rw [toInts_eq e] at h2
  rw [DzAll.ints h2] at h1
  exact ⟨a, rfl, h1.sq⟩
theorem Rz.bools {K : PySem.W.Frag} {H : Hp} {u : V} {ds : List PyData} {ns : List Bool} (h : Rz K H u (.list ds)) (e : toBools ds = some ns) : ∃ a, u = .ref a ∧ SqL K H a (ns.map V.bl) := by
  obtain ⟨a, ys, rfl, h1, h2⟩ := h.list
  rw [toBools_eq e] at h2
  rw [DzAll.bools h2] at h1
  exact ⟨a, rfl, h1.sq⟩
theorem c_sum (hc : X.calm = true) : CallD X (.builtin "sum") gSum := by
  intro pins s σ H xs us ds d I r hz e Q q
  unfold gSum at e
  split at e
  · rename_i es
    obtain ⟨x, rfl, h⟩ := hz.one
    cases q2 : toInts es with
    | none => rw [q2] at e; cases e
    | some ns =>
      rw [q2] at e
      cases e
      obtain ⟨a, rfl, h1⟩ := h.ints q2
      exact cr_sum hc pins s σ H _ us Q I r ⟨a, ns, rfl, h1, q _ H (.refl H) (.int _)⟩
  · cases e
theorem c_any (hc : X.calm = true) : CallD X (.builtin "any") gAny := by
  intro pins s σ H xs us ds d I r hz e Q q
  unfold gAny at e
  split at e
  · rename_i es
    obtain ⟨x, rfl, h⟩ := hz.one
    cases q2 : toBools es with
    | none => rw [q2] at e; cases e
    | some ns =>
      rw [q2] at e
      cases e
      obtain ⟨a, rfl, h1⟩ := h.bools q2
      exact cr_any hc pins s σ H _ us Q I r ⟨a, ns, rfl, h1, q _ H (.refl H) (.bl _)⟩
  · cases e
theorem c_all (hc : X.calm = true) : CallD X (.builtin "all") gAll := by
  intro pins s σ H xs us ds d I r hz e Q q
  unfold gAll at e
  split at e
  · rename_i es
    obtain ⟨x, rfl, h⟩ := hz.one
    cases q2 : toBools es with
    | none => rw [q2] at e; cases e
    | some ns =>
      rw [q2] at e
      cases e
      obtain ⟨a, rfl, h1⟩ := h.bools q2
      exact cr_all hc pins s σ H _ us Q I r ⟨a, ns, rfl, h1, q _ H (.refl H) (.bl _)⟩
  · cases e
theorem c_max (hc : X.calm = true) : CallD X (.builtin "max") gMax := by
  intro pins s σ H xs us ds d I r hz e Q q
  unfold gMax at e
  split at e
  · rename_i es
    obtain ⟨x, rfl, h⟩ := hz.one
    cases q2 : toInts es with
    | none => rw [q2] at e; cases e
    | some ns =>
      rw [q2] at e
      cases ns with
      | nil => cases e
      | cons n ns =>
        cases e
        obtain ⟨a, rfl, h1⟩ := h.ints q2
        refine cr_max hc pins s σ H _ us Q I r ⟨a, n :: ns, rfl, h1, by simp, fun m hm hy => ?_⟩
        obtain ⟨z1, z2⟩ := foldl_max ns n
        have e1 := hy _ z1
        have e2 := z2 m hm
        rw [show m = ns.foldl max n by omega]
        exact q _ H (.refl H) (.int _)
  · cases e
    obtain ⟨x, y, rfl, h, h'⟩ := hz.two
    cases h.int; cases h'.int
    exact call_max2 hc pins s σ H _ us Q I r ⟨_, _, rfl, q _ H (.refl H) (.int _)⟩
  · cases e
theorem c_min (hc : X.calm = true) : CallD X (.builtin "min") gMin := by
  intro pins s σ H xs us ds d I r hz e Q q
  unfold gMin at e
  split at e
  · rename_i es
    obtain ⟨x, rfl, h⟩ := hz.one
    cases q2 : toInts es with
    | none => rw [q2] at e; cases e
    | some ns =>
      rw [q2] at e
      cases ns with
      | nil => cases e
      | cons n ns =>
        cases e
        obtain ⟨a, rfl, h1⟩ := h.ints q2
        refine cr_min hc pins s σ H _ us Q I r ⟨a, n :: ns, rfl, h1, by simp, fun m hm hy => ?_⟩
        obtain ⟨z1, z2⟩ := foldl_min ns n
        have e1 := hy _ z1
        have e2 := z2 m hm
        rw [show m = ns.foldl min n by omega]
        exact q _ H (.refl H) (.int _)
  · cases e
    obtain ⟨x, y, rfl, h, h'⟩ := hz.two
    cases h.int; cases h'.int
    exact call_min2 hc pins s σ H _ us Q I r ⟨_, _, rfl, q _ H (.refl H) (.int _)⟩
  · cases e
theorem c_sorted : CallDL X (.builtin "sorted") gSorted := by
  intro pins s σ H xs us ds d I r hz e Q q
  unfold gSorted at e
  split at e
  · rename_i es
    obtain ⟨x, rfl, h⟩ := hz.one
    cases q2 : toInts es with
    | none => rw [q2] at e; cases e
    | some ns =>
      rw [q2] at e
      cases e
      obtain ⟨a, rfl, h1⟩ := h.ints q2
      refine cr_sortedI pins s σ H _ us Q I r ⟨a, ns, rfl, h1, fun ns' p hp hs hn => ?_⟩
      rw [sorted_one (hp.trans (sortI_perm ns).symm) hs (sortI_le ns)]
      exact q p _ hn (DzAll.of_ints _)
  · cases e
end

/-! ### isinstance -/
def tyName : PyData → String
  | .none => "NoneType"
  | .bool _ => "bool"
  | .int _ => "int"
  | .str _ => "str"
  | .list _ => "list"
  | .tuple _ => "tuple"
  | .dict _ => "dict"
def isInt : PyData → Bool
  | .int _ => true
  | .bool _ => true
  | _ => false
def isBool : PyData → Bool
  | .bool _ => true
  | _ => false
def isStr : PyData → Bool
  | .str _ => true
  | _ => false
def isTup : PyData → Bool
  | .tuple _ => true
  | _ => false
def isLst : PyData → Bool
  | .list _ => true
  | _ => false
def mIsi (g : PyData → Bool) (m : M Vl) : M Vl := M.bind m fun v => M.bind v.get fun d => mC (.bool (g d))
theorem tyX_of {K : PySem.W.Frag} {H : Hp} {u : V} {d : PyData} (h : Rz K H u d) : TyX K H u (.type (tyName d)) := by
  cases d with
  | none => cases h.non; exact .base .non
  | bool b => cases h.bool; exact .base (.bl b)
  | int i => cases h.int; exact .base (.int i)
  | str y => cases h.str; exact .base (.str y)
  | list ds =>
    obtain ⟨a, xs, rfl, h1, h2⟩ := h.list
    rcases h1 with (h1 | ⟨o, h1⟩) | ⟨its, n, h1, _⟩
    · exact .base (.lst h1)
    · exact .base (.frz h1)
    · exact .kList h1 rfl
  | tuple ds =>
    obtain ⟨a, xs, rfl, h1, h2⟩ := h.tuple
    rcases h1 with h1 | ⟨o, its, n, h1, h3, _⟩
    · exact .base (.tup h1)
    · exact .kTuple h1 h3
  | dict k => exact h.nodict.elim
theorem kit_int : ∀ (d : PyData), (∀ k, d ≠ .dict k) → kitB (tyName d) "int" = some (isInt d)
  | .none, _ => (by decide +kernel : kitB "NoneType" "int" = some false)
  | .bool _, _ => (by decide +kernel : kitB "bool" "int" = some true)
  | .int _, _ => (by decide +kernel : kitB "int" "int" = some true)
  | .str _, _ => (by decide +kernel : kitB "str" "int" = some false)
  | .list _, _ => (by decide +kernel : kitB "list" "int" = some false)
  | .tuple _, _ => (by decide +kernel : kitB "tuple" "int" = some false)
  | .dict k, h => absurd rfl (h k)
theorem kit_bool : ∀ (d : PyData), (∀ k, d ≠ .dict k) → kitB (tyName d) "bool" = some (isBool d)
  | .none, _ => (by decide +kernel : kitB "NoneType" "bool" = some false)
  | .bool _, _ => (by decide +kernel : kitB "bool" "bool" = some true)
  | .int _, _ => (by decide +kernel : kitB "int" "bool" = some false)
  | .str _, _ => (by decide +kernel : kitB "str" "bool" = some false)
  | .list _, _ => (by decide +kernel : kitB "list" "bool" = some false)
  | .tuple _, _ => (by decide +kernel : kitB "tuple" "bool" = some false)
  | .dict k, h => absurd rfl (h k)
theorem kit_str : ∀ (d : PyData), (∀ k, d ≠ .dict k) → kitB (tyName d) "str" = some (isStr d)
  | .none, _ => (by decide +kernel : kitB "NoneType" "str" = some false)
  | .bool _, _ => (by decide +kernel : kitB "bool" "str" = some false)
  | .int _, _ => (by decide +kernel : kitB "int" "str" = some false)
  | .str _, _ => (by decide +kernel : kitB "str" "str" = some true)
  | .list _, _ => (by decide +kernel : kitB "list" "str" = some false)
  | .tuple _, _ => (by decide +kernel : kitB "tuple" "str" = some false)
  | .dict k, h => absurd rfl (h k)
theorem kit_tuple : ∀ (d : PyData), (∀ k, d ≠ .dict k) → kitB (tyName d) "tuple" = some (isTup d)
  | .none, _ => (by decide +kernel : kitB "NoneType" "tuple" = some false)
  | .bool _, _ => (by decide +kernel : kitB "bool" "tuple" = some false)
  | .int _, _ => (by decide +kernel : kitB "int" "tuple" = some false)
  | .str _, _ => (by decide +kernel : kitB "str" "tuple" = some false)
  | .list _, _ => (by decide +kernel : kitB "list" "tuple" = some false)
  | .tuple _, _ => (by decide +kernel : kitB "tuple" "tuple" = some true)
  | .dict k, h => absurd rfl (h k)
theorem kit_list : ∀ (d : PyData), (∀ k, d ≠ .dict k) → kitB (tyName d) "list" = some (isLst d)
  | .none, _ => (by decide +kernel : kitB "NoneType" "list" = some false)
  | .bool _, _ => (by decide +kernel : kitB "bool" "list" = some false)
  | .int _, _ => (by decide +kernel : kitB "int" "list" = some false)
  | .str _, _ => (by decide +kernel : kitB "str" "list" = some false)
  | .list _, _ => (by decide +kernel : kitB "list" "list" = some true)
  | .tuple _, _ => (by decide +kernel : kitB "tuple" "list" = some false)
  | .dict k, h => absurd rfl (h k)
section
variable {X : Cx} {C : Ct} {T : List (Addr × Str)} {W : WX} {e : Expr} {m : M Vl} {p p2 pos : Pos} {Ty : String}
theorem de_isi {g : PyData → Bool} (hT : ∀ d, (∀ k, d ≠ PyData.dict k) → kitB (tyName d) Ty = some (g d)) (he : DE X T W e m) (hg : Gl X "isinstance") (hm : X.mg "isinstance" = none) (hg2 : Gl X Ty) (hm2 : X.mg Ty = none) (hv : bootBuiltins Ty = some (.type Ty)) (hn : (Ty : Str) ≠ "__name__" := by decide) (hdb : ((Ty : Str) == ("__debug__" : Str)) = false := by decide)
    (hs : starEach [e, .Name Ty p2] X.env = (false, eval e X.env) :: starEach [.Name Ty p2] X.env := by rfl) : DE X T W (.Call (.Name "isinstance" p) [e, .Name Ty p2] [] pos) (mIsi g m) := by
  refine ⟨fun C hC => ⟨fun pins s σ H Q I h => (pe_callB call_isi hg hm boot_isinstance (pa_cons (he.pe C hC) (pa_cons (pe_bltn (v := .ty Ty) hg2 hm2 hv rfl hn hdb) pa_nil) hs) (he := hs)).run pins s σ H Q I ?_⟩⟩
  obtain ⟨env, r, h⟩ := h
  refine ⟨env, r, Lf.bind h fun u H1 v env1 r1 hv l1 h1 => ?_⟩
  obtain ⟨d, z, h2⟩ := Lf.get h1 r1 hv
  have hk := hT d fun k e => by subst e; exact z.nodict
  exact ⟨u, .ty Ty, .type (tyName d), .type Ty, g d, rfl, .ty Ty, tyX_of z, kit_ty hk, h2 (.bl (g d)) H1 r1 (.bl _) (.refl H1)⟩
end
end DL
end

/- DL5 -/
section
set_option maxHeartbeats 4000000
namespace DL
open PySem PySem.Spec PyProof.Rows L2

/-! ### lists and tuples as sources -/
def IterOf (b : Bool) (h : Heap) (it a : Addr) (i : Nat) : Prop := match b with
  | true => h.IsTupleIter it a i
  | false => h.IsListIter it a i
def SeqOf (b : Bool) (h : Heap) (a : Addr) (items : Array Value) : Prop := match b with
  | true => h.IsTuple a items
  | false => h.IsList a items
def Sqb (b : Bool) (K : PySem.W.Frag) (H : Hp) (a : Addr) (xs : List V) : Prop := match b with
  | true => SqT K H a xs
  | false => SqL K H a xs
def seqItObj (b : Bool) (a : Addr) : Obj := match b with
  | true => { cls := .type "tuple_iterator", data := .fields #[.ref a, .int 0 0] }
  | false => { cls := .type "list_iterator", data := .fields #[.ref a, .int 0 0] }
theorem begins_seq (b : Bool) (a : Addr) (items : Array Value) : Begins (.ref a) (seqItObj b a) fun h => SeqOf b h a items := by
  cases b with
  | true => exact begins_tuple a items
  | false => exact begins_list a items
theorem draws_seq (b : Bool) {prog : Program} {w : World} {A : Around} (hh : A.handled = none) (it l : Addr) (hne : l ≠ it) (items : Array Value) :
    Draws prog w A it [it, l] items.size (fun i v => items[i]? = some v) (fun i h => IterOf b h it l i ∧ SeqOf b h l items) := by
  cases b with
  | true => exact Draws.tuple hh it l hne items
  | false => exact Draws.list hh it l hne items
theorem iterOf_begin (b : Bool) {h : Heap} {it a : Addr} (e : h.get? it = some (seqItObj b a)) : IterOf b h it a 0 := by
  cases b with
  | true => exact ⟨_, e, rfl, rfl⟩
  | false => exact ⟨_, e, rfl, rfl⟩
theorem IterOf.ob {b : Bool} {h : Heap} {it a : Addr} {i : Nat} (x : IterOf b h it a i) : ∃ o, h.get? it = some o ∧ ∀ v, o.data ≠ .cell v := by
  cases b with
  | true =>
    obtain ⟨o, e, _, d⟩ := x
    exact ⟨o, e, fun v q => by rw [d] at q; cases q⟩
  | false =>
    obtain ⟨o, e, _, d⟩ := x
    exact ⟨o, e, fun v q => by rw [d] at q; cases q⟩
theorem IterOf.at {b : Bool} {h h' : Heap} {it a : Addr} {i : Nat} (x : IterOf b h it a i) (k : ∀ o, h.get? it = some o → h'.get? it = some o) : IterOf b h' it a i := by
  cases b with
  | true =>
    obtain ⟨o, e, r⟩ := x
    exact ⟨o, k o e, r⟩
  | false =>
    obtain ⟨o, e, r⟩ := x
    exact ⟨o, k o e, r⟩
section
variable {X : Cx} {pins : List (Addr × Obj)} {σ : L2.St} {H : Hp} {s : Shared} {a : Addr} {xs ys : List V} {b : Bool}
theorem Inv.sqb (I : Inv X pins σ H s) (h : Sqb b X.K H a xs) : ∃ its : List Value, Vals xs its ∧ SeqOf b s.heap a its.toArray ∧ xs.length ≤ sizeLine := by
  cases b with
  | true =>
    obtain ⟨its, r, p, z⟩ := I.tuple h
    exact ⟨its, r, p, z⟩
  | false =>
    obtain ⟨its, r, p, z⟩ := I.list h
    exact ⟨its, r, p.isList, z⟩
theorem Inv.sqb_inj (I : Inv X pins σ H s) (h : Sqb b X.K H a xs) (h' : Sqb b X.K H a ys) : xs = ys := by
  cases b with
  | true => exact I.tuple_inj h h'
  | false => exact I.list_inj h h'
theorem SeqOf.lt {b : Bool} {h : Heap} {a : Addr} {items : Array Value} (x : SeqOf b h a items) : a < h.objs.size := by
  cases b with
  | true => obtain ⟨o, e, _⟩ := x; exact Heap.lt_size e
  | false => obtain ⟨o, e, _⟩ := x; exact Heap.lt_size e
end
/-- for v in a list or tuple -/
def ItS (b : Bool) (K : PySem.W.Frag) (a : Addr) : It := match b with
  | true => Itt K a
  | false => Itl K a
def ItzS (K : PySem.W.Frag) (b1 : Bool) (a : Addr) (b2 : Bool) (b : Addr) : It :=
  ⟨fun i H => ∃ (xs ys : List V) (x y : V), Sqb b1 K H a xs ∧ Sqb b2 K H b ys ∧ xs[i]? = some x ∧ ys[i]? = some y,
    fun i H v H' => ∃ T x y, v = .ref T ∧ H T = none ∧ H' = upd H T (.tup [x, y]) ∧ (∀ xs, Sqb b1 K H a xs → xs[i]? = some x) ∧ ∀ ys, Sqb b2 K H b ys → ys[i]? = some y,
    fun i H => ∃ xs ys : List V, Sqb b1 K H a xs ∧ Sqb b2 K H b ys ∧ (i = xs.length ∧ xs.length ≤ ys.length ∨ i = ys.length ∧ ys.length ≤ xs.length)⟩
def IteS (K : PySem.W.Frag) (k : Int) (b1 : Bool) (a : Addr) : It :=
  ⟨fun i H => ∃ (xs : List V) (x : V), Sqb b1 K H a xs ∧ xs[i]? = some x,
    fun i H v H' => ∃ T x, v = .ref T ∧ H T = none ∧ H' = upd H T (.tup [.int (k + (i : Nat)), x]) ∧ ∀ xs, Sqb b1 K H a xs → xs[i]? = some x,
    fun i H => ∃ xs : List V, Sqb b1 K H a xs ∧ i = xs.length⟩
theorem in1_hd {A : Around} (h : A.handled = none) : A.in1.handled = none := h
theorem turn_zipS {P : Program} {w : World} {K : PySem.W.Frag} {elts : List Expr} {kk : Nat} {tpos : Pos} {b1 b2 : Bool} {a b z TI TO i1 i2 : Addr} (D : ZipSep2 z TI TO i1 i2 [i1, a] [i2, b]) (n1 : a ≠ i1) (n2 : b ≠ i2) :
    Turn P w K (.Tuple elts kk tpos) (ItzS K b1 a b2 b) [z, TI, TO, i1, i2] z (fun i h => IsZip h z TI TO .none ∧ IsTupOf2 h TI (.ref i1) (.ref i2) ∧ (∃ x y, IsTupOf2 h TO x y) ∧ IterOf b1 h i1 a i ∧ IterOf b2 h i2 b i) where
  mem := by simp
  obj := fun i h st c hc => by
    obtain ⟨hz, hTI, ⟨x, y, hTO⟩, h1, h2⟩ := st
    have e' : c = z ∨ c = TI ∨ c = TO ∨ c = i1 ∨ c = i2 := by simpa using hc
    rcases e' with q | q | q | q | q
    · rw [q]; exact ⟨_, hz, fun v q => nomatch q⟩
    · rw [q]; exact ⟨_, hTI, fun v q => nomatch q⟩
    · rw [q]; exact ⟨_, hTO, fun v q => nomatch q⟩
    · rw [q]; exact h1.ob
    · rw [q]; exact h2.ob
  keep := fun i h h' st k => by
    obtain ⟨hz, hTI, ⟨x, y, hTO⟩, h1, h2⟩ := st
    exact ⟨k z (by simp) _ hz, k TI (by simp) _ hTI, ⟨x, y, k TO (by simp) _ hTO⟩, h1.at fun o q => k i1 (by simp) o q, h2.at fun o q => k i2 (by simp) o q⟩
  item := by
    intro X hP hw hK hc i pins s σ H E I hf st hg
    subst hP hw hK
    obtain ⟨hz, hTI, hTO, h1, h2⟩ := st
    obtain ⟨xs, ys, x, y, hqx, hqy, hx, hy⟩ := hg
    obtain ⟨its, rv, p, _⟩ := Inv.sqb I hqx
    obtain ⟨its2, rv2, p2, _⟩ := Inv.sqb I hqy
    obtain ⟨u, hu, ru⟩ := rv.get hx
    obtain ⟨u2, hu2, ru2⟩ := rv2.get hy
    have hh : X.A.in1.handled = none := in1_hd (I.ok.hd hc)
    have G := GoesN.zip2 (elts := elts) (x1 := kk) (pos := tpos) (prog := X.prog) (w := X.w) D (draws_seq b1 hh i1 a n1 its.toArray) (draws_seq b2 hh i2 b n2 its2.toArray)
    refine G.goes i s _ E ?_ ⟨hz, hTI, hTO, ⟨h1, p⟩, ⟨h2, p2⟩⟩ fun v h' tk hY st' hk htk => ?_
    · have e1 := (List.getElem?_eq_some_iff.mp hu).1
      have e2 := (List.getElem?_eq_some_iff.mp hu2).1
      simp only [List.size_toArray]
      omega
    · obtain ⟨T, v1, v2, rfl, hTn, e1, e2, hT⟩ := hY
      obtain ⟨z', TI', TO', ⟨h1', _⟩, ⟨h2', _⟩⟩ := st'
      have e1' : u = v1 := by
        have q : its[i]? = some v1 := by simpa using e1
        rw [hu] at q; exact Option.some.inj q
      have e2' : u2 = v2 := by
        have q : its2[i]? = some v2 := by simpa using e2
        rw [hu2] at q; exact Option.some.inj q
      subst e1' e2'
      have new : ObjOk X.prog X.w (upd H T (.tup [x, y])) h' T (.tup [x, y]) :=
        ⟨by show 2 ≤ sizeLine; decide, [u, u2], .cons ru (.cons ru2 .nil), hT⟩
      have I1 : Inv X pins σ (upd H T (.tup [x, y])) { s with heap := h', toks := tk } :=
        I.turnedNew (t' := tk) (ch := [z, TI, TO, i1, i2]) (fun c o hb q => hk c o (fun m => hb (by
          have e' : c = z ∨ c = TO ∨ c = i1 ∨ c = i2 := by simpa using m
          rcases e' with q | q | q | q <;> simp [q])) q) hf hTn new
      refine ⟨.ref T, _, I1, rfl, ⟨T, x, y, rfl, I.hok.fresh hTn, rfl, fun l hl => by rw [Inv.sqb_inj I hl hqx]; exact hx, fun l hl => by rw [Inv.sqb_inj I hl hqy]; exact hy⟩, ⟨z', TI', TO', h1', h2'⟩, fun c hcm => ?_⟩
      have hlt : c < s.heap.objs.size := by
        have e' : c = z ∨ c = TI ∨ c = TO ∨ c = i1 ∨ c = i2 := by simpa using hcm
        obtain ⟨_, _, hTO⟩ := hTO
        rcases e' with q | q | q | q | q
        · rw [q]; exact Heap.lt_size hz
        · rw [q]; exact Heap.lt_size hTI
        · rw [q]; exact Heap.lt_size hTO
        · rw [q]; obtain ⟨_, e1, _⟩ := h1.ob; exact Heap.lt_size e1
        · rw [q]; obtain ⟨_, e1, _⟩ := h2.ob; exact Heap.lt_size e1
      rw [upd_ne (Nat.ne_of_lt (Nat.lt_of_lt_of_le hlt hTn))]
      exact (hf c hcm).1
  done := by
    intro X hP hw hK hc i pins s σ H E I hf st hg
    subst hP hw hK
    obtain ⟨hz, hTI, hTO, h1, h2⟩ := st
    obtain ⟨xs, ys, hqx, hqy, hend⟩ := hg
    obtain ⟨its, rv, p, _⟩ := Inv.sqb I hqx
    obtain ⟨its2, rv2, p2, _⟩ := Inv.sqb I hqy
    have l1 := rv.length
    have l2 := rv2.length
    have hh : X.A.in1.handled = none := in1_hd (I.ok.hd hc)
    have G := GoesN.zip2 (elts := elts) (x1 := kk) (pos := tpos) (prog := X.prog) (w := X.w) D (draws_seq b1 hh i1 a n1 its.toArray) (draws_seq b2 hh i2 b n2 its2.toArray)
    have ei : i = min its.toArray.size its2.toArray.size := by
      simp only [List.size_toArray]
      omega
    refine G.stops s _ E (by rw [← ei]; exact ⟨hz, hTI, hTO, ⟨h1, p⟩, ⟨h2, p2⟩⟩) fun h' tk hk htk => ?_
    exact I.turnedL (t' := tk) (ch := [z, TI, TO, i1, i2]) (fun c o hb q => hk c o (fun m => hb (by
          have e' : c = z ∨ c = TO ∨ c = i1 ∨ c = i2 := by simpa using m
          rcases e' with q | q | q | q <;> simp [q])) q) hf
  self := fun A i s Q E st h => wpAny_pyIter_zip st.1 h
theorem turn_enumS {P : Program} {w : World} {K : PySem.W.Frag} {elts : List Expr} {kk : Nat} {tpos : Pos} {k : Int} {b1 : Bool} {a e it : Addr} (hei : e ≠ it) (hea : e ≠ a) (n1 : a ≠ it) :
    Turn P w K (.Tuple elts kk tpos) (IteS K k b1 a) [e, it] e (fun i h => (∃ old, IsEnum h e it (k + (i : Int)) old) ∧ IterOf b1 h it a i) where
  mem := by simp
  obj := fun i h st c hc => by
    obtain ⟨⟨old, he⟩, h1⟩ := st
    have e' : c = e ∨ c = it := by simpa using hc
    rcases e' with q | q
    · rw [q]; exact ⟨_, he, fun v q => nomatch q⟩
    · rw [q]; exact h1.ob
  keep := fun i h h' st kp => by
    obtain ⟨⟨old, he⟩, h1⟩ := st
    exact ⟨⟨old, kp e (by simp) _ he⟩, h1.at fun o q => kp it (by simp) o q⟩
  item := by
    intro X hP hw hK hc i pins s σ H E I hf st hg
    subst hP hw hK
    obtain ⟨he, h1⟩ := st
    obtain ⟨xs, x, hqx, hx⟩ := hg
    obtain ⟨its, rv, p, _⟩ := Inv.sqb I hqx
    obtain ⟨u, hu, ru⟩ := rv.get hx
    have hh : X.A.in1.handled = none := in1_hd (I.ok.hd hc)
    have G := GoesN.enumFrom (elts := elts) (x1 := kk) (pos := tpos) (prog := X.prog) (w := X.w) k (draws_seq b1 hh it a n1 its.toArray) e hei (by simp [hei, hea]) (by simp)
    refine G.goes i s _ E ?_ ⟨he, h1, p⟩ fun v h' tk hY st' hk htk => ?_
    · have e1 := (List.getElem?_eq_some_iff.mp hu).1
      simpa using e1
    · obtain ⟨T, t, v1, rfl, hTn, e1, hT⟩ := hY
      obtain ⟨he', h1', _⟩ := st'
      have e1' : u = v1 := by
        have q : its[i]? = some v1 := by simpa using e1
        rw [hu] at q; exact Option.some.inj q
      subst e1'
      have new : ObjOk X.prog X.w (upd H T (.tup [.int (k + (i : Nat)), x])) h' T (.tup [.int (k + (i : Nat)), x]) :=
        ⟨by show 2 ≤ sizeLine; decide, [.int (k + (i : Nat)) t, u], .cons ⟨_, rfl⟩ (.cons ru .nil), hT⟩
      have I1 : Inv X pins σ (upd H T (.tup [.int (k + (i : Nat)), x])) { s with heap := h', toks := tk } :=
        I.turnedNew (t' := tk) (ch := [e, it]) (fun c o hb q => hk c o hb q) hf hTn new
      refine ⟨.ref T, _, I1, rfl, ⟨T, x, rfl, I.hok.fresh hTn, rfl, fun l hl => by rw [Inv.sqb_inj I hl hqx]; exact hx⟩, ⟨he', h1'⟩, fun c hcm => ?_⟩
      have hlt : c < s.heap.objs.size := by
        have e' : c = e ∨ c = it := by simpa using hcm
        obtain ⟨_, he⟩ := he
        rcases e' with q | q
        · rw [q]; exact Heap.lt_size he
        · rw [q]; obtain ⟨_, e1, _⟩ := h1.ob; exact Heap.lt_size e1
      rw [upd_ne (Nat.ne_of_lt (Nat.lt_of_lt_of_le hlt hTn))]
      exact (hf c hcm).1
  done := by
    intro X hP hw hK hc i pins s σ H E I hf st hg
    subst hP hw hK
    obtain ⟨he, h1⟩ := st
    obtain ⟨xs, hqx, hend⟩ := hg
    obtain ⟨its, rv, p, _⟩ := Inv.sqb I hqx
    have l1 := rv.length
    have hh : X.A.in1.handled = none := in1_hd (I.ok.hd hc)
    have G := GoesN.enumFrom (elts := elts) (x1 := kk) (pos := tpos) (prog := X.prog) (w := X.w) k (draws_seq b1 hh it a n1 its.toArray) e hei (by simp [hei, hea]) (by simp)
    have ei : i = its.toArray.size := by
      simp only [List.size_toArray]
      omega
    refine G.stops s _ E (by rw [← ei]; exact ⟨he, h1, p⟩) fun h' tk hk htk => ?_
    exact I.turnedL (t' := tk) (ch := [e, it]) (fun c o hb q => hk c o hb q) hf
  self := fun A i s Q E st h => let ⟨⟨_, he⟩, _⟩ := st; wpAny_pyIter_enum he h
end DL
end

/- DL6 -/
section
set_option maxHeartbeats 4000000
namespace DL
open PySem PySem.Spec PyProof.Rows L2

/-! ### what is walked -/
inductive Src where
  | fix (items : List PyData)
  | own (j : Nat)
structure Fix (K : PySem.W.Frag) (J : It) (H1 : Hp) (items : List PyData) : Prop where
  go : ∀ (i : Nat) H, Le H1 H → i < items.length → J.go i H
  yld : ∀ (i : Nat) H x H' d, Le H1 H → J.yld i H x H' → items[i]? = some d → Same H H' ∧ Dz K H' x d
  stop : ∀ H, Le H1 H → J.stop items.length H
def SrcR (K : PySem.W.Frag) (σ : L2.St) (J : It) (H : Hp) : Src → Prop
  | .fix items => Fix K J H items
  | .own j => ∃ a, σ[j]? = some (some (.ref a)) ∧ ∀ (i : Nat) H xs, H a = some (.lst xs) → (i < xs.length → J.go i H) ∧ (∀ x H', J.yld i H x H' → H' = H ∧ xs[i]? = some x) ∧ (xs.length ≤ i → J.stop i H)
def liftI (K : PySem.W.Frag) (mg : Str → Option Value) (C : Ct) (W : WX) (m : M Src) : TI := fun σ H R => ∃ env, Rel K C H σ env ∧ Lf K mg C W σ H (fun J H s _ => SrcR K σ J H s) (m env) R
structure DI (X : Cx) (T : List (Addr × Str)) (W : WX) (tg iter : Expr) (m : M Src) : Prop where
  pi : ∀ C : Ct, C.T = T → PI X tg iter (liftI X.K X.mg C W m)

theorem pa_ghost {X : Cx} {es : List Expr} {t : TA} (h : PA X es t) : PA X es (fun σ H Q => t σ H fun v H1 => Ghost X σ (Q v) H1) := ⟨fun pos pins s σ H Q I hw =>
  thn (h.run pos pins s σ H _ I hw) fun _ s1 ⟨v, H1, I1, r, q⟩ => let ⟨H2, I2, q2⟩ := q pins s1 I1; ⟨v, H2, I2, r, q2⟩⟩
/-- a frozen list or tuple -/
def Sqf (b : Bool) (K : PySem.W.Frag) (H : Hp) (a : Addr) (xs : List V) : Prop := match b with
  | true => FzT K H a xs
  | false => FzL K H a xs
theorem Sqf.sq {b : Bool} {K : PySem.W.Frag} {H : Hp} {a : Addr} {xs : List V} (h : Sqf b K H a xs) : Sqb b K H a xs := by
  cases b with
  | true => exact FzT.sq h
  | false => exact FzL.sq h
theorem Sqf.le {b : Bool} {K : PySem.W.Frag} {H H' : Hp} {a : Addr} {xs : List V} (e : Le H H') (h : Sqf b K H a xs) : Sqf b K H' a xs := by
  cases b with
  | true => exact FzT.le e h
  | false => exact FzL.le e h
def seqB : PyData → Option (Bool × List PyData)
  | .list xs => some (false, xs)
  | .tuple xs => some (true, xs)
  | _ => none
theorem seqB_dz {K : PySem.W.Frag} {H : Hp} {v : V} {d : PyData} {b : Bool} {ds : List PyData} (h : Dz K H v d) (e : seqB d = some (b, ds)) : ∃ a xs, v = .ref a ∧ Sqf b K H a xs ∧ DzAll K H xs ds := by
  cases d with
  | list es =>
    cases e
    cases h with
    | lst h1 h2 => exact ⟨_, _, rfl, h1, h2⟩
  | tuple es =>
    cases e
    cases h with
    | tup h1 h2 => exact ⟨_, _, rfl, h1, h2⟩
  | _ => cases e
section
variable {K : PySem.W.Frag} {H1 : Hp} {a b : Addr} {xs ys : List V} {ds es : List PyData} {b1 b2 : Bool}
theorem fix_list (h : FzL K H1 a xs) (hz : DzAll K H1 xs ds) : Fix K (Itl K a) H1 ds where
  go := fun i H l hi => by
    obtain ⟨v, e, _⟩ := hz.get (List.getElem?_eq_getElem hi)
    exact ⟨xs, v, (h.le l).sq, e⟩
  yld := fun i H x H' d l y hd => by
    obtain ⟨e, hx⟩ := y
    subst e
    obtain ⟨d', e, z⟩ := hz.getV (hx xs (h.le l).sq)
    rw [hd] at e
    cases e
    exact ⟨.refl _, Dz.le l _ z⟩
  stop := fun H l => ⟨xs, (h.le l).sq, Nat.le_of_eq hz.length⟩
theorem fix_tup (h : FzT K H1 a xs) (hz : DzAll K H1 xs ds) : Fix K (Itt K a) H1 ds where
  go := fun i H l hi => by
    obtain ⟨v, e, _⟩ := hz.get (List.getElem?_eq_getElem hi)
    exact ⟨xs, v, (h.le l).sq, e⟩
  yld := fun i H x H' d l y hd => by
    obtain ⟨e, hx⟩ := y
    subst e
    obtain ⟨d', e, z⟩ := hz.getV (hx xs (h.le l).sq)
    rw [hd] at e
    cases e
    exact ⟨.refl _, Dz.le l _ z⟩
  stop := fun H l => ⟨xs, (h.le l).sq, Nat.le_of_eq hz.length⟩
theorem fix_str {x : Str} : Fix K (Its x) H1 (x.cps.toList.map fun c => .str ⟨#[c]⟩) where
  go := fun i H l hi => by
    show i < x.cps.size
    simpa using hi
  yld := fun i H v H' d l y hd => by
    obtain ⟨e, c, hc, hv⟩ := y
    subst e
    subst hv
    have e2 : x.cps.toList[i]? = some c := by simpa using hc
    rw [List.getElem?_map, e2] at hd
    cases hd
    exact ⟨.refl _, .str _⟩
  stop := fun H l => by
    show x.cps.size ≤ _
    simp
theorem fix_range {lo : Int} {n : Nat} : Fix K (Itr lo n) H1 ((List.range n).map fun i => .int (lo + (i : Nat))) where
  go := fun i H l hi => by
    show i < n
    simpa using hi
  yld := fun i H v H' d l y hd => by
    obtain ⟨e, hv⟩ := y
    subst e
    subst hv
    rw [List.getElem?_map] at hd
    cases q : (List.range n)[i]? with
    | none => rw [q] at hd; cases hd
    | some k =>
      rw [q] at hd
      cases hd
      have hk : k = i := by
        have := List.getElem?_eq_some_iff.mp q
        obtain ⟨h1, h2⟩ := this
        simpa using h2.symm
      subst hk
      exact ⟨.refl _, .int _⟩
  stop := fun H l => by
    show n ≤ _
    simp
def zipD (ds es : List PyData) : List PyData := List.zipWith (fun x y => .tuple [x, y]) ds es
def enumD (k : Int) (ds : List PyData) : List PyData := ds.mapIdx fun i x => .tuple [.int (k + (i : Nat)), x]
theorem fix_zip (h1 : Sqf b1 K H1 a xs) (h2 : Sqf b2 K H1 b ys) (z1 : DzAll K H1 xs ds) (z2 : DzAll K H1 ys es) : Fix K (ItzS K b1 a b2 b) H1 (zipD ds es) where
  go := fun i H l hi => by
    have hi' : i < ds.length ∧ i < es.length := by
      unfold zipD at hi
      rw [List.length_zipWith] at hi
      omega
    obtain ⟨x, e1, _⟩ := z1.get (List.getElem?_eq_getElem hi'.1)
    obtain ⟨y, e2, _⟩ := z2.get (List.getElem?_eq_getElem hi'.2)
    exact ⟨xs, ys, x, y, (h1.le l).sq, (h2.le l).sq, e1, e2⟩
  yld := fun i H v H' d l y hd => by
    obtain ⟨T, x, y, rfl, hT, rfl, q1, q2⟩ := y
    obtain ⟨dx, e1, zx⟩ := z1.getV (q1 xs (h1.le l).sq)
    obtain ⟨dy, e2, zy⟩ := z2.getV (q2 ys (h2.le l).sq)
    unfold zipD at hd
    rw [List.getElem?_zipWith, e1, e2] at hd
    cases hd
    have sm : Same H (upd H T (.tup [x, y])) := Same.new hT
    have l2 := l.trans (Le.same sm)
    exact ⟨sm, .tup (.inl upd_same) (.cons (Dz.le l2 _ zx) (.cons (Dz.le l2 _ zy) .nil))⟩
  stop := fun H l => by
    refine ⟨xs, ys, (h1.le l).sq, (h2.le l).sq, ?_⟩
    have e1 := z1.length
    have e2 := z2.length
    unfold zipD
    rw [List.length_zipWith]
    omega
theorem fix_enum {k : Int} (h1 : Sqf b1 K H1 a xs) (z1 : DzAll K H1 xs ds) : Fix K (IteS K k b1 a) H1 (enumD k ds) where
  go := fun i H l hi => by
    have hi' : i < ds.length := by
      unfold enumD at hi
      rw [List.length_mapIdx] at hi
      exact hi
    obtain ⟨x, e1, _⟩ := z1.get (List.getElem?_eq_getElem hi')
    exact ⟨xs, x, (h1.le l).sq, e1⟩
  yld := fun i H v H' d l y hd => by
    obtain ⟨T, x, rfl, hT, rfl, q1⟩ := y
    obtain ⟨dx, e1, zx⟩ := z1.getV (q1 xs (h1.le l).sq)
    unfold enumD at hd
    rw [List.getElem?_mapIdx, e1] at hd
    cases hd
    have sm : Same H (upd H T (.tup [.int (k + (i : Nat)), x])) := Same.new hT
    have l2 := l.trans (Le.same sm)
    exact ⟨sm, .tup (.inl upd_same) (.cons (.int _) (.cons (Dz.le l2 _ zx) .nil))⟩
  stop := fun H l => by
    refine ⟨xs, (h1.le l).sq, ?_⟩
    unfold enumD
    rw [List.length_mapIdx]
    exact z1.length.symm
end
def seqI : PyData → Option (List PyData)
  | .list xs => some xs
  | .tuple xs => some xs
  | .str x => some (x.cps.toList.map fun c => .str ⟨#[c]⟩)
  | _ => none
def mItems (m : M Vl) : M Src := M.bind m fun v => M.bind (leak v) fun d => M.opt ((seqI d).map Src.fix)
def mOwn (j : Nat) : M Src := fun env => match env[j]? with
  | some (some (.own _ _)) => .ok (.own j) env
  | _ => .stuck
def mRange1 (m : M (List Vl)) : M Src := M.bind m fun vs => M.bind (getAll vs) fun ds => match ds with
  | [.int j] => if -(2 ^ 62) ≤ j ∧ j < 2 ^ 62 then M.pure (.fix ((List.range j.toNat).map fun i => .int (0 + (i : Nat)))) else M.stuck
  | _ => M.stuck
def mRange2 (m : M (List Vl)) : M Src := M.bind m fun vs => M.bind (getAll vs) fun ds => match ds with
  | [.int i, .int j] => if -(2 ^ 62) ≤ i ∧ i < 2 ^ 62 ∧ -(2 ^ 62) ≤ j ∧ j < 2 ^ 62 then M.pure (.fix ((List.range (j - i).toNat).map fun k => .int (i + (k : Nat)))) else M.stuck
  | _ => M.stuck
def zipS : List PyData → Option Src
  | [d, e] => match seqB d, seqB e with
    | some (_, ds), some (_, es) => some (.fix (zipD ds es))
    | _, _ => none
  | _ => none
theorem zipS_inv {dd : List PyData} {src : Src} (e : zipS dd = some src) : ∃ d1 d2 b1 b2 ds es, dd = [d1, d2] ∧ seqB d1 = some (b1, ds) ∧ seqB d2 = some (b2, es) ∧ src = .fix (zipD ds es) := by
  match dd, e with
  | [d1, d2], e =>
    cases q1 : seqB d1 with
    | none => simp [zipS, q1] at e
    | some p =>
      cases q2 : seqB d2 with
      | none => simp [zipS, q1, q2] at e
      | some p2 =>
        obtain ⟨b1, ds⟩ := p
        obtain ⟨b2, es⟩ := p2
        simp only [zipS, q1, q2, Option.some.injEq] at e
        exact ⟨d1, d2, b1, b2, ds, es, rfl, rfl.trans q1, q2, e.symm⟩
def mZip (m : M (List Vl)) : M Src := M.bind m fun vs => M.bind (leakAll vs) fun ds => M.opt (zipS ds)
def enumS (k : Int) : List PyData → Option Src
  | [d] => match seqB d with
    | some (_, ds) => some (.fix (enumD k ds))
    | _ => none
  | _ => none
theorem enumS_inv {k : Int} {dd : List PyData} {src : Src} (e : enumS k dd = some src) : ∃ d1 b1 ds, dd = [d1] ∧ seqB d1 = some (b1, ds) ∧ src = .fix (enumD k ds) := by
  match dd, e with
  | [d1], e =>
    cases q1 : seqB d1 with
    | none => simp [enumS, q1] at e
    | some p =>
      obtain ⟨b1, ds⟩ := p
      simp only [enumS, q1, Option.some.injEq] at e
      exact ⟨d1, b1, ds, rfl, q1, e.symm⟩
def enumK : List PyData → Option Src
  | [d, .int k] => if -(2 ^ 63) ≤ k ∧ k < 2 ^ 63 then enumS k [d] else none
  | _ => none
theorem enumK_inv {dd : List PyData} {src : Src} (e : enumK dd = some src) : ∃ d1 b1 ds k, dd = [d1, .int k] ∧ -(2 ^ 63) ≤ k ∧ k < 2 ^ 63 ∧ seqB d1 = some (b1, ds) ∧ src = .fix (enumD k ds) := by
  match dd, e with
  | [d1, .int k], e =>
    by_cases h : -(2 ^ 63) ≤ k ∧ k < 2 ^ 63
    · simp only [enumK, if_pos h] at e
      obtain ⟨d2, b1, ds, e1, q1, e2⟩ := enumS_inv e
      cases e1
      exact ⟨d1, b1, ds, k, rfl, h.1, h.2, q1, e2⟩
    · simp only [enumK, if_neg h] at e
      cases e
def mEnumK (m : M (List Vl)) : M Src := M.bind m fun vs => M.bind (leakAll vs) fun ds => M.opt (enumK ds)
def mEnum (m : M (List Vl)) : M Src := M.bind m fun vs => M.bind (leakAll vs) fun ds => M.opt (enumS 0 ds)
set_option maxHeartbeats 1000000 in
theorem meets_enumerate_newB1 {v : Value} {o : Obj} {H : Heap → Prop} (B : Begins v o H) :
    Meets (Builtin.«enumerate.__new__» ⟨[.type "enumerate", v], []⟩) (fun _ R s => H s.heap ∧
      R (.ok (.ret (.ref (s.heap.push o).objs.size))) { s with heap := (s.heap.push o).push { cls := .type "enumerate", data := .fields #[.none, .bool false, .ref s.heap.objs.size, rawInt 0, .none, .none] } }) :=
  .of_wp fun prog w A R s h => by
    obtain ⟨hp, g, d, tk, os⟩ := s; obtain ⟨h1, h⟩ := h
    have hsub := sub_enumerate
    have q1 : ∀ {A' : Around} {E : Value → Shared → Prop} {Q : Value → Shared → Prop}, Q (.ref hp.objs.size) ⟨hp.push o, g, d, tk, os⟩ → wpAny (model prog w) A' (pyIter v) Q E ⟨hp, g, d, tk, os⟩ :=
      fun q => B.iter prog w _ _ ⟨hp, g, d, tk, os⟩ _ h1 q
    wp_walk using q1
    refine wpAny_stack_any fun st => wpAny_pure ?_
    split
    · rename_i c _ _ _ _ _
      cases (c == Value.type "enumerate")
      · wp_walk using q1
        exact ⟨_, rfl, h⟩
      · wp_walk using q1
        exact ⟨_, rfl, h⟩
    · wp_walk using q1
      exact ⟨_, rfl, h⟩
theorem enum_begins1 {prog : Program} {w : World} {A : Around} {E : Value → Shared → Prop} {s : Shared} {v : Value} {o : Obj} {H : Heap → Prop} {Q : Value → Shared → Prop} (B : Begins v o H) (h1 : H s.heap)
    (h : ∀ h', IsEnum h' (s.heap.objs.size + 1) s.heap.objs.size 0 .none → h'.get? s.heap.objs.size = some o → h'.objs.size = s.heap.objs.size + 2 →
      (∀ b o, s.heap.get? b = some o → h'.get? b = some o) → Q (.ref (s.heap.objs.size + 1)) { s with heap := h' }) :
    wpAny (model prog w) A (call (.type "enumerate") [v]) Q E s := by
  refine callType_new F.called_enumerate (by decide) (F.typeCall_enumerate_1 _) (F.newCall_enumerate_1 _) (fun obj => F.args_object_init_2 obj _) F.entry_enumerate_new
    (meets_enumerate_newB1 B) ⟨h1, ?_⟩
  have hz : (s.heap.push o).objs.size = s.heap.objs.size + 1 := Heap.size_push ..
  show _ ∧ _
  rw [hz]
  have he : IsEnum ((s.heap.push o).push { cls := .type "enumerate", data := .fields #[.none, .bool false, .ref s.heap.objs.size, rawInt 0, .none, .none] }) (s.heap.objs.size + 1) s.heap.objs.size 0 .none := by
    have := Heap.get?_push_size (s.heap.push o) (o := { cls := .type "enumerate", data := .fields #[.none, .bool false, .ref s.heap.objs.size, rawInt 0, .none, .none] }) rfl
    rw [hz] at this; exact this
  refine ⟨⟨_, he, rfl⟩, h _ he (Heap.get?_push_of_some _ (Heap.get?_push_size _ B.free)) (by rw [Heap.size_push, hz]) fun b o x => Heap.get?_push_of_some _ (Heap.get?_push_of_some _ x)⟩
theorem enum_fin {X : Cx} {elts : List Expr} {kk : Nat} {tpos : Pos} {pins : List (Addr × Obj)} {σ : L2.St} {H1 : Hp} {s1 : Shared} {R : It → Hp → Prop} {a : Addr} {xs : List V} {ds : List PyData} {b1 : Bool} {k : Int} {h' : Heap} (I1 : Inv X pins σ H1 s1) (f1 : Sqf b1 X.K H1 a xs) (z1 : DzAll X.K H1 xs ds) (la : a < s1.heap.objs.size)
    (he : IsEnum h' (s1.heap.objs.size + 1) s1.heap.objs.size k .none) (hit : IterOf b1 h' s1.heap.objs.size a 0) (hk : ∀ b o, s1.heap.get? b = some o → h'.get? b = some o) (q : ∀ J, Fix X.K J H1 (enumD k ds) → R J H1) :
    PIE X pins σ (.Tuple elts kk tpos) R (.ref (s1.heap.objs.size + 1)) { s1 with heap := h' } := by
  have I2 : Inv X pins σ H1 { s1 with heap := h' } := I1.kept (t' := s1.toks) hk
  refine ⟨s1.heap.objs.size + 1, _, _, _, H1, rfl, I2, turn_enumS (k := k) (b1 := b1) (a := a) (e := s1.heap.objs.size + 1) (it := s1.heap.objs.size) (Nat.succ_ne_self _) (Nat.ne_of_gt (Nat.lt_succ_of_lt la)) (Nat.ne_of_lt la), ⟨⟨.none, ?_⟩, hit⟩, fun c hc => ?_, q _ (fix_enum f1 z1)⟩
  · have e1 : k + ((0 : Nat) : Int) = k := by omega
    rw [e1]
    exact he
  · have hle : s1.heap.objs.size ≤ c := by
      have e' : c = s1.heap.objs.size + 1 ∨ c = s1.heap.objs.size := by simpa using hc
      rcases e' with z | z
      · rw [z]; exact Nat.le_add_right _ _
      · rw [z]; exact Nat.le_refl _
    exact I1.fpOk hle (I1.hok.fresh hle)
section
variable {X : Cx} {T : List (Addr × Str)} {W : WX} {tg e e2 : Expr} {m : M Vl} {ms : M (List Vl)} {p pos tpos : Pos} {elts : List Expr} {kk : Nat}
theorem di_seq (he : DE X T W e m) : DI X T W tg e (mItems m) := by
  refine ⟨fun C hC => ⟨fun pins s σ H R I h => ?_⟩⟩
  obtain ⟨env, r, h⟩ := h
  have h0 := (pe_ghost (he.pe C hC)).run pins s σ H (fun v H1 => ∃ d items, Dz X.K H1 v d ∧ seqI d = some items ∧ ∀ J, Fix X.K J H1 items → R J H1) I ⟨env, r, Lf.bind h fun u H1 v env1 r1 hv l1 h1 => by
    obtain ⟨d, env2, e1, h2⟩ := Lf.leak h1 r1 hv
    refine (leak_ok r1 hv e1).imp fun H2 ⟨r2', z2, l2, _, _⟩ => ?_
    cases e : seqI d with
    | none => rw [e] at h2; exact h2.elim
    | some items =>
      rw [e] at h2
      exact ⟨d, items, z2, e, fun J f => h2 J H2 r2' f l2⟩⟩
  refine thn h0 fun v s1 ⟨x, H1, I1, r1, d, items, z, e, q⟩ => ?_
  cases d with
  | list ds =>
    cases e
    cases z with
    | lst h1 h2 =>
      cases r1
      obtain ⟨its, rv, p, hz⟩ := I1.list h1.sq
      refine wpAny_pyIter_list p.isList ?_
      refine ⟨s1.heap.objs.size, [s1.heap.objs.size], _, _, H1, rfl, I1.kept (t' := s1.toks) fun b o e => Heap.get?_push_of_some _ e, turn_list _ _, ⟨_, Heap.get?_push_size _ rfl, rfl, rfl⟩, fun b hb => ?_, q _ (fix_list h1 h2)⟩
      have e : b = s1.heap.objs.size := by simpa using hb
      subst e
      exact I1.fpOk (Nat.le_refl _) (I1.hok.fresh (Nat.le_refl _))
  | tuple ds =>
    cases e
    cases z with
    | tup h1 h2 =>
      cases r1
      obtain ⟨its, rv, p, hz⟩ := I1.tuple h1.sq
      refine wpAny_pyIter_tuple (show s1.heap.IsTuple _ its.toArray from p) ?_
      refine ⟨s1.heap.objs.size, [s1.heap.objs.size], _, _, H1, rfl, I1.kept (t' := s1.toks) fun b o e => Heap.get?_push_of_some _ e, turn_tuple _ _, ⟨_, Heap.get?_push_size _ rfl, rfl, rfl⟩, fun b hb => ?_, q _ (fix_tup h1 h2)⟩
      have e : b = s1.heap.objs.size := by simpa using hb
      subst e
      exact I1.fpOk (Nat.le_refl _) (I1.hok.fresh (Nat.le_refl _))
  | str y =>
    cases e
    cases z
    obtain ⟨t, rfl⟩ := r1
    refine wpAny_pyIter_strU ?_
    refine ⟨s1.heap.objs.size, [s1.heap.objs.size], _, _, H1, rfl, I1.kept (t' := s1.toks) fun b o e => Heap.get?_push_of_some _ e, turn_str _ y t (PySem.strIterType y) ?_, ⟨_, Heap.get?_push_size _ rfl, rfl, rfl⟩, fun b hb => ?_, q _ fix_str⟩
    · unfold PySem.strIterType
      split <;> simp
    have e : b = s1.heap.objs.size := by simpa using hb
    subst e
    exact I1.fpOk (Nat.le_refl _) (I1.hok.fresh (Nat.le_refl _))
  | _ => cases e
theorem di_own {j : Nat} {x : Str} (hN : X.N[j]? = some x) (hv : Vis X.env.scope x) (hd : (x == ("__debug__" : Str)) = false := by decide) (hcd : (x == ("__classdict__" : Str)) = false := by decide) : DI X T W tg (.Name x pos) (mOwn j) := by
  refine ⟨fun C hC => ⟨fun pins s σ H R I h => ?_⟩⟩
  obtain ⟨env, r, h⟩ := h
  unfold mOwn at h
  cases e : env[j]? with
  | none => rw [e] at h; exact h.elim
  | some o =>
    cases o with
    | none => rw [e] at h; exact h.elim
    | some ev =>
      cases ev with
      | d x => rw [e] at h; exact h.elim
      | x v => rw [e] at h; exact h.elim
      | own b ds =>
        rw [e] at h
        obtain ⟨a, xs, h1, h2, h3, _⟩ := r.own j b ds e
        refine (pi_list (pe_var (pos := pos) hN hv hd hcd)).run pins s σ H R I ⟨.ref a, h1, a, rfl, ⟨xs, SqL.of h2⟩, ?_⟩
        refine h (Itl X.K a) H r ⟨a, h1, fun i H' ys hy => ⟨fun hi => ?_, fun x H'' y => ?_, fun hi => ⟨ys, SqL.of hy, hi⟩⟩⟩ (.refl H)
        · exact ⟨ys, ys[i], SqL.of hy, List.getElem?_eq_getElem hi⟩
        · obtain ⟨e, hx⟩ := y
          exact ⟨e, hx ys (SqL.of hy)⟩
theorem di_range1 (hg : Gl X "range") (hm : X.mg "range" = none) (ha : DA X T W [e] ms) (hs : starEach [e] X.env = [(false, eval e X.env)] := by rfl) : DI X T W tg (.Call (.Name "range" p) [e] [] pos) (mRange1 ms) := by
  refine ⟨fun C hC => ⟨fun pins s σ H R I h => (pi_range1 hg hm (ha.pa C hC) hs).run pins s σ H R I ?_⟩⟩
  obtain ⟨env, r, h⟩ := h
  refine ⟨env, r, Lf.bind h fun us H1 vs env1 r1 hv l1 h1 => ?_⟩
  obtain ⟨ds, z, h2⟩ := Lf.getAll h1 r1 hv
  split at h2
  · rename_i j
    split at h2
    · rename_i hj
      obtain ⟨u, rfl, zu⟩ := z.one
      cases zu.int
      exact ⟨j, rfl, hj.1, hj.2, h2 _ H1 r1 fix_range (.refl H1)⟩
    · exact h2.elim
  · exact h2.elim
theorem di_range2 (hg : Gl X "range") (hm : X.mg "range" = none) (ha : DA X T W [e, e2] ms) (hs : starEach [e, e2] X.env = [(false, eval e X.env), (false, eval e2 X.env)] := by rfl) (hs2 : starEach [e2] X.env = [(false, eval e2 X.env)] := by rfl) : DI X T W tg (.Call (.Name "range" p) [e, e2] [] pos) (mRange2 ms) := by
  refine ⟨fun C hC => ⟨fun pins s σ H R I h => (pi_range2 hg hm (ha.pa C hC) hs hs2).run pins s σ H R I ?_⟩⟩
  obtain ⟨env, r, h⟩ := h
  refine ⟨env, r, Lf.bind h fun us H1 vs env1 r1 hv l1 h1 => ?_⟩
  obtain ⟨ds, z, h2⟩ := Lf.getAll h1 r1 hv
  split at h2
  · rename_i i j
    split at h2
    · rename_i hj
      obtain ⟨u, u', rfl, zu, zu'⟩ := z.two
      cases zu.int; cases zu'.int
      exact ⟨i, j, rfl, hj, h2 _ H1 r1 fix_range (.refl H1)⟩
    · exact h2.elim
  · exact h2.elim
theorem di_zip (hg : Gl X "zip") (hm : X.mg "zip" = none) (ha : DA X T W [e, e2] ms) (hs : starEach [e, e2] X.env = (false, eval e X.env) :: starEach [e2] X.env := by rfl) (hpl : (backTo pos (starEach [e2] X.env)).any (·.1) = false := by rfl) :
    DI X T W (.Tuple elts kk tpos) (.Call (.Name "zip" p) [e, e2] [] pos) (mZip ms) := by
  refine ⟨fun C hC => ⟨fun pins s σ H R I h => ?_⟩⟩
  obtain ⟨env, r, h⟩ := h
  have h0 := (pa_ghost (ha.pa C hC)).run pos pins s σ H (fun us H1 => ∃ d1 d2 b1 b2 ds es, DzAll X.K H1 us [d1, d2] ∧ seqB d1 = some (b1, ds) ∧ seqB d2 = some (b2, es) ∧ ∀ J, Fix X.K J H1 (zipD ds es) → R J H1) I ⟨env, r, Lf.bind h fun us H1 vs env1 r1 hv l1 h1 => by
    obtain ⟨dd, env2, e1, h2⟩ := Lf.leakAll h1 r1 hv
    refine (leakAll_ok r1 hv e1).imp fun H2 ⟨r2', z2, l2, _, _⟩ => ?_
    cases q : zipS dd with
    | none => rw [q] at h2; exact h2.elim
    | some src =>
      rw [q] at h2
      obtain ⟨d1, d2, b1, b2, ds, es, rfl, q1, q2, rfl⟩ := zipS_inv q
      exact ⟨d1, d2, b1, b2, ds, es, z2, q1, q2, fun J f => h2 J H2 r2' f l2⟩⟩
  refine Call_ (ld_blt I hg hm PyProof.Rows.boot_zip (PyProof.Rows.callWith_type1 (thn h0 fun us s1 hh => ?_) hs hpl))
  obtain ⟨vs, H1, I1, r1, d1, d2, b1, b2, ds, es, zz, q1, q2, q⟩ := hh
  cases zz with
  | cons za zr =>
    cases zr with
    | cons zb zn =>
      cases zn
      obtain ⟨a, xs, rfl, f1, z1⟩ := seqB_dz za q1
      obtain ⟨b, ys, rfl, f2, z2⟩ := seqB_dz zb q2
      cases r1 with
      | cons r rr =>
        cases rr with
        | cons r' rr =>
          cases rr
          cases r
          cases r'
          obtain ⟨its, rv, p1, _⟩ := Inv.sqb I1 f1.sq
          obtain ⟨its2, rv2, p2, _⟩ := Inv.sqb I1 f2.sq
          refine zip_begins2 (begins_seq b1 a its.toArray) (begins_seq b2 b its2.toArray) p1 p2 fun h' hz hTI hTO e1 e2 hsz hk => wpAny_pyIter_zip hz ?_
          have la := p1.lt
          have lb := p2.lt
          have S : ZipSep2 (s1.heap.objs.size + 4) (s1.heap.objs.size + 2) (s1.heap.objs.size + 3) s1.heap.objs.size (s1.heap.objs.size + 1) [s1.heap.objs.size, a] [s1.heap.objs.size + 1, b] :=
            zip_sep2 (fp1 := [a]) (fp2 := [b]) (fun c hc => by simp at hc; subst hc; exact la) (fun c hc => by simp at hc; subst hc; exact lb)
          have I2 : Inv X pins σ H1 { s1 with heap := h' } := I1.kept (t' := s1.toks) hk
          refine ⟨s1.heap.objs.size + 4, _, _, _, H1, rfl, I2, turn_zipS (b1 := b1) (b2 := b2) S (Nat.ne_of_lt la) (Nat.ne_of_lt (Nat.lt_succ_of_lt lb)), ⟨hz, hTI, ⟨_, _, hTO⟩, iterOf_begin b1 e1, iterOf_begin b2 e2⟩, fun c hc => ?_, q _ (fix_zip f1 f2 z1 z2)⟩
          have hle : s1.heap.objs.size ≤ c := by
            have e' : c = s1.heap.objs.size + 4 ∨ c = s1.heap.objs.size + 2 ∨ c = s1.heap.objs.size + 3 ∨ c = s1.heap.objs.size ∨ c = s1.heap.objs.size + 1 := by simpa using hc
            have off : ∀ k : Nat, s1.heap.objs.size ≤ s1.heap.objs.size + k := fun k => Nat.le_add_right _ _
            rcases e' with z | z | z | z | z
            · rw [z]; exact off 4
            · rw [z]; exact off 2
            · rw [z]; exact off 3
            · rw [z]; exact off 0
            · rw [z]; exact off 1
          exact I1.fpOk hle (I1.hok.fresh hle)
theorem di_enum (hg : Gl X "enumerate") (hm : X.mg "enumerate" = none) (ha : DA X T W [e] ms) (hs : starEach [e] X.env = [(false, eval e X.env)] := by rfl) :
    DI X T W (.Tuple elts kk tpos) (.Call (.Name "enumerate" p) [e] [] pos) (mEnum ms) := by
  refine ⟨fun C hC => ⟨fun pins s σ H R I h => ?_⟩⟩
  obtain ⟨env, r, h⟩ := h
  have h0 := (pa_ghost (ha.pa C hC)).run pos pins s σ H (fun us H1 => ∃ d1 b1 ds, DzAll X.K H1 us [d1] ∧ seqB d1 = some (b1, ds) ∧ ∀ J, Fix X.K J H1 (enumD 0 ds) → R J H1) I ⟨env, r, Lf.bind h fun us H1 vs env1 r1 hv l1 h1 => by
    obtain ⟨dd, env2, e1, h2⟩ := Lf.leakAll h1 r1 hv
    refine (leakAll_ok r1 hv e1).imp fun H2 ⟨r2', z2, l2, _, _⟩ => ?_
    cases q : enumS 0 dd with
    | none => rw [q] at h2; exact h2.elim
    | some src =>
      rw [q] at h2
      obtain ⟨d1, b1, ds, rfl, q1, rfl⟩ := enumS_inv q
      exact ⟨d1, b1, ds, z2, q1, fun J f => h2 J H2 r2' f l2⟩⟩
  refine Call_ (ld_blt I hg hm boot_enumerate (PyProof.Rows.callWith_type1 (thn h0 fun us s1 hh => ?_) hs rfl))
  obtain ⟨vs, H1, I1, r1, d1, b1, ds, zz, q1, q⟩ := hh
  cases zz with
  | cons za zn =>
    cases zn
    obtain ⟨a, xs, rfl, f1, z1⟩ := seqB_dz za q1
    cases r1 with
    | cons r rr =>
      cases rr
      cases r
      obtain ⟨its, rv, p1, _⟩ := Inv.sqb I1 f1.sq
      have la := p1.lt
      exact enum_begins1 (begins_seq b1 a its.toArray) p1 fun h' he e1 hsz hk => wpAny_pyIter_enum he (enum_fin I1 f1 z1 la he (iterOf_begin b1 e1) hk q)
theorem di_enumK (hg : Gl X "enumerate") (hm : X.mg "enumerate" = none) (ha : DA X T W [e, e2] ms) (hs : starEach [e, e2] X.env = (false, eval e X.env) :: starEach [e2] X.env := by rfl) (hpl : (backTo pos (starEach [e2] X.env)).any (·.1) = false := by rfl) :
    DI X T W (.Tuple elts kk tpos) (.Call (.Name "enumerate" p) [e, e2] [] pos) (mEnumK ms) := by
  refine ⟨fun C hC => ⟨fun pins s σ H R I h => ?_⟩⟩
  obtain ⟨env, r, h⟩ := h
  have h0 := (pa_ghost (ha.pa C hC)).run pos pins s σ H (fun us H1 => ∃ d1 b1 ds k, DzAll X.K H1 us [d1, .int k] ∧ -(2 ^ 63) ≤ k ∧ k < 2 ^ 63 ∧ seqB d1 = some (b1, ds) ∧ ∀ J, Fix X.K J H1 (enumD k ds) → R J H1) I ⟨env, r, Lf.bind h fun us H1 vs env1 r1 hv l1 h1 => by
    obtain ⟨dd, env2, e1, h2⟩ := Lf.leakAll h1 r1 hv
    refine (leakAll_ok r1 hv e1).imp fun H2 ⟨r2', z2, l2, _, _⟩ => ?_
    cases q : enumK dd with
    | none => rw [q] at h2; exact h2.elim
    | some src =>
      rw [q] at h2
      obtain ⟨d1, b1, ds, k, rfl, k1, k2, q1, rfl⟩ := enumK_inv q
      exact ⟨d1, b1, ds, k, z2, k1, k2, q1, fun J f => h2 J H2 r2' f l2⟩⟩
  refine Call_ (ld_blt I hg hm boot_enumerate (PyProof.Rows.callWith_type1 (thn h0 fun us s1 hh => ?_) hs hpl))
  obtain ⟨vs, H1, I1, r1, d1, b1, ds, k, zz, k1, k2, q1, q⟩ := hh
  cases zz with
  | cons za zr =>
    cases zr with
    | cons zk zn =>
      cases zn
      cases zk
      obtain ⟨a, xs, rfl, f1, z1⟩ := seqB_dz za q1
      cases r1 with
      | cons r rr =>
        cases rr with
        | cons r' rr =>
          cases rr
          cases r
          obtain ⟨t, rfl⟩ := r'
          obtain ⟨its, rv, p1, _⟩ := Inv.sqb I1 f1.sq
          exact enum_begins (begins_seq b1 a its.toArray) p1 k1 k2 fun h' he e1 hsz hk => wpAny_pyIter_enum he (enum_fin I1 f1 z1 p1.lt he (iterOf_begin b1 e1) hk q)
end
end DL
end

/- DL7 -/
section
set_option maxHeartbeats 4000000
namespace DL
open PySem PySem.Spec PyProof.Rows L2

/-! ### storing -/
def sto (i : Nat) (ev : EV) : M Unit := fun env => match env[i]? with
  | some (some (.own true _)) => .stuck
  | _ => .ok () (env.set i (some ev))
section
variable {K : PySem.W.Frag} {C : Ct} {σ : L2.St} {H : Hp} {env : En} {i : Nat} {u : V} {d : PyData} {ds : List PyData}
theorem get_setV {l : L2.St} {i j : Nat} {x : Option V} {y : Option V} (h : (l.set i x)[j]? = some y) : (i = j ∧ y = x) ∨ (i ≠ j ∧ l[j]? = some y) := by
  by_cases e : i = j
  · subst e
    by_cases hi : i < l.length
    · rw [List.getElem?_set_self hi] at h
      exact .inl ⟨rfl, (Option.some.inj h).symm⟩
    · rw [List.getElem?_eq_none (by rw [List.length_set]; omega)] at h
      cases h
  · rw [List.getElem?_set_ne e] at h
    exact .inr ⟨e, h⟩
theorem Rel.bkn (r : Rel K C H σ env) (hn : ∀ ds, env[i]? ≠ some (some (.own true ds))) : C.bk i = none := by
  cases e : C.bk i with
  | none => rfl
  | some a =>
    obtain ⟨es, q⟩ := r.bkd i a e
    exact absurd q (hn es)
theorem Rel.stoD (r : Rel K C H σ env) (hz : Dz K H u d) (hn : ∀ ds, env[i]? ≠ some (some (.own true ds))) : Rel K C H (σ.set i (some u)) (env.set i (some (.d d))) where
  len := by rw [List.length_set, List.length_set]; exact r.len
  dat := fun j x h => by
    rcases get_set h with ⟨rfl, ex⟩ | ⟨hne, h⟩
    · cases ex
      have hi : i < σ.length := by
        have := (List.getElem?_eq_some_iff.mp h).1
        rw [List.length_set, r.len] at this
        exact this
      exact ⟨u, List.getElem?_set_self hi, hz⟩
    · obtain ⟨v, q1, q2⟩ := r.dat j x h
      exact ⟨v, by rw [List.getElem?_set_ne hne]; exact q1, q2⟩
  own := fun j b es h => by
    rcases get_set h with ⟨rfl, ex⟩ | ⟨hne, h⟩
    · cases ex
    · obtain ⟨a, ys, q1, q2⟩ := r.own j b es h
      exact ⟨a, ys, by rw [List.getElem?_set_ne hne]; exact q1, q2⟩
  bkd := fun j a h => by
    have hne : i ≠ j := by
      rintro rfl
      rw [r.bkn hn] at h
      cases h
    obtain ⟨es, q⟩ := r.bkd j a h
    exact ⟨es, by rw [List.getElem?_set_ne hne]; exact q⟩
  dis := fun j k b c es fs a hjk q1 q2 q3 q4 => by
    rcases get_set q1 with ⟨_, ex⟩ | ⟨n1, q1⟩
    · cases ex
    · rcases get_set q2 with ⟨_, ex⟩ | ⟨n2, q2⟩
      · cases ex
      · rw [List.getElem?_set_ne n1] at q3
        rw [List.getElem?_set_ne n2] at q4
        exact r.dis j k b c es fs a hjk q1 q2 q3 q4
  keep := r.keep
  prot := r.prot
  opq := fun j v h => by
    rcases get_set h with ⟨_, ex⟩ | ⟨hne, h⟩
    · cases ex
    · rw [List.getElem?_set_ne hne]
      exact r.opq j v h
  tab := r.tab
theorem Rel.stoO (r : Rel K C H σ env) (ho : OR K C σ u H ds env) (hn : ∀ ds, env[i]? ≠ some (some (.own true ds))) : Rel K C H (σ.set i (some u)) (env.set i (some (.own false ds))) := by
  obtain ⟨p, xs, rfl, h1, h2, h3, h4, h5⟩ := ho
  exact {
    len := by rw [List.length_set, List.length_set]; exact r.len
    dat := fun j x h => by
      rcases get_set h with ⟨rfl, ex⟩ | ⟨hne, h⟩
      · cases ex
      · obtain ⟨v, q1, q2⟩ := r.dat j x h
        exact ⟨v, by rw [List.getElem?_set_ne hne]; exact q1, q2⟩
    own := fun j b es h => by
      rcases get_set h with ⟨rfl, ex⟩ | ⟨hne, h⟩
      · cases ex
        have hi : i < σ.length := by
          have := (List.getElem?_eq_some_iff.mp h).1
          rw [List.length_set, r.len] at this
          exact this
        exact ⟨p, xs, List.getElem?_set_self hi, h1, h2, h3, h4⟩
      · obtain ⟨a, ys, q1, q2⟩ := r.own j b es h
        exact ⟨a, ys, by rw [List.getElem?_set_ne hne]; exact q1, q2⟩
    bkd := fun j a h => by
      have hne : i ≠ j := by
        rintro rfl
        rw [r.bkn hn] at h
        cases h
      obtain ⟨es, q⟩ := r.bkd j a h
      exact ⟨es, by rw [List.getElem?_set_ne hne]; exact q⟩
    dis := fun j k b c es fs a hjk q1 q2 q3 q4 => by
      rcases get_set q1 with ⟨rfl, ex⟩ | ⟨n1, q1⟩
      · have hi : i < σ.length := by
          have := (List.getElem?_eq_some_iff.mp q3).1
          rw [List.length_set] at this
          exact this
        rw [List.getElem?_set_self hi] at q3
        cases q3
        rcases get_set q2 with ⟨e, _⟩ | ⟨n2, q2⟩
        · exact hjk e
        · rw [List.getElem?_set_ne n2] at q4
          exact h5 k c fs q2 q4
      · rcases get_set q2 with ⟨rfl, ex⟩ | ⟨n2, q2⟩
        · have hi : i < σ.length := by
            have := (List.getElem?_eq_some_iff.mp q4).1
            rw [List.length_set] at this
            exact this
          rw [List.getElem?_set_self hi] at q4
          cases q4
          rw [List.getElem?_set_ne n1] at q3
          exact h5 j b es q1 q3
        · rw [List.getElem?_set_ne n1] at q3
          rw [List.getElem?_set_ne n2] at q4
          exact r.dis j k b c es fs a hjk q1 q2 q3 q4
    keep := r.keep
    prot := r.prot
    opq := fun j v h => by
      rcases get_set h with ⟨_, ex⟩ | ⟨hne, h⟩
      · cases ex
      · rw [List.getElem?_set_ne hne]
        exact r.opq j v h
    tab := r.tab }
theorem sto_ok {ev : EV} {env' : En} (e : sto i ev env = .ok () env') : (∀ ds, env[i]? ≠ some (some (.own true ds))) ∧ env' = env.set i (some ev) := by
  unfold sto at e
  split at e
  · cases e
  · rename_i h
    cases e
    exact ⟨fun ds q => h ds q, rfl⟩
theorem sto_noerr {ev : EV} {env' : En} {x : Er} : sto i ev env ≠ .err x env' := by
  unfold sto
  split <;> exact fun z => by cases z
end
theorem wipe_set' {x : Option V} {v : Nat} {vs : List Nat} {σ : L2.St} (hm : v ∉ vs) : wipe (σ.set v x) vs = (wipe σ vs).set v x := by
  induction vs with
  | nil => rfl
  | cons w vs ih =>
    have hw : w ≠ v := fun z => hm (by simp [z])
    have hv : v ∉ vs := fun z => hm (by simp [z])
    unfold wipe
    rw [ih hv, List.set_comm _ _ hw.symm]
theorem wipe_set {x : Option V} {i : Nat} {vs : List Nat} {σ : L2.St} (h : i ∈ vs) : wipe (σ.set i x) vs = wipe σ vs := by
  induction vs with
  | nil => exact absurd h (by simp)
  | cons v vs ih =>
    unfold wipe
    by_cases hm : i ∈ vs
    · rw [ih hm]
    · have e : i = v := by
        rcases List.mem_cons.mp h with z | z
        · exact z
        · exact absurd z hm
      rw [e] at hm ⊢
      rw [wipe_set' hm, List.set_set]

/-! ### targets -/
/-- an error is no reading here -/
def noE {α : Type} (m : M α) : M α := fun env => match m env with
  | .ok a env' => .ok a env'
  | _ => .stuck
theorem noE_ok {α : Type} {m : M α} {env env' : En} {a : α} (h : noE m env = .ok a env') : m env = .ok a env' := by
  unfold noE at h
  cases e : m env with
  | ok b env1 => rw [e] at h; exact h
  | err x env1 => rw [e] at h; cases h
  | stuck => rw [e] at h; cases h
theorem noE_err {α : Type} {m : M α} {env env' : En} {x : Er} (h : noE m env = .err x env') : False := by
  unfold noE at h
  cases e : m env with
  | ok b env1 => rw [e] at h; cases h
  | err x env1 => rw [e] at h; cases h
  | stuck => rw [e] at h; cases h
def liftG (K : PySem.W.Frag) (C : Ct) (vs : List Nat) (g : PyData → M Unit) : TG := fun v σ H Q => ∃ env d, Rel K C H σ env ∧ Dz K H v d ∧ match g d env with
  | .ok _ env' => ∀ σ', Rel K C H σ' env' → wipe σ' vs = wipe σ vs → Q σ' H
  | _ => False
def liftGs (K : PySem.W.Frag) (C : Ct) (vs : List Nat) (g : List PyData → M Unit) : TGs := fun us σ H Q => ∃ env ds, Rel K C H σ env ∧ DzAll K H us ds ∧ match g ds env with
  | .ok _ env' => ∀ σ', Rel K C H σ' env' → wipe σ' vs = wipe σ vs → Q σ' H
  | _ => False
structure DG (X : Cx) (tg : Expr) (vs : List Nat) (g : PyData → M Unit) : Prop where
  pg : ∀ C : Ct, PG X tg (liftG X.K C vs g)
structure DGs (X : Cx) (tgs : List Expr) (vs : List Nat) (g : List PyData → M Unit) : Prop where
  pgs : ∀ C : Ct, PGs X tgs (liftGs X.K C vs g)
def gNm (i : Nat) : PyData → M Unit := fun d => sto i (.d d)
def gNil' : List PyData → M Unit
  | [] => M.pure ()
  | _ => M.stuck
def gCons' (g : PyData → M Unit) (gs : List PyData → M Unit) : List PyData → M Unit
  | d :: ds => M.bind (g d) fun _ => gs ds
  | [] => M.stuck
def gTp (n : Nat) (gs : List PyData → M Unit) : PyData → M Unit
  | .tuple xs => if xs.length = n then gs xs else M.stuck
  | _ => M.stuck
section
variable {X : Cx} {pos : Pos} {vs : List Nat}
theorem dg_nm {i : Nat} {x : Str} (hN : X.N.Nodup) (hi : X.N[i]? = some x) (hx : Loc X.env.scope x) (hv : i ∈ vs) (hf : X.fn x = true ∨ X.env.scope.names.lookup x = some .local := by first | exact .inl rfl | exact .inr rfl | assumption) : DG X (.Name x pos) vs (gNm i) := by
  refine ⟨fun C => ⟨fun pins s σ H v u Q I rv h => (pg_name hN hi hx hf).run pins s σ H v u Q I rv ?_⟩⟩
  obtain ⟨env, d, r, z, h⟩ := h
  unfold gNm at h
  cases e : sto i (.d d) env with
  | ok w env' =>
    rw [e] at h
    obtain ⟨hn, e2⟩ := sto_ok e
    subst e2
    exact h _ (r.stoD z hn) (wipe_set hv)
  | err x env' => exact absurd e sto_noerr
  | stuck => rw [e] at h; exact h.elim
theorem dgs_nil : DGs X [] vs gNil' := by
  refine ⟨fun C => ⟨fun pins s σ H us ws Q I rv h => pgs_nil.run pins s σ H us ws Q I rv ?_⟩⟩
  obtain ⟨env, ds, r, z, h⟩ := h
  cases z with
  | nil => exact ⟨rfl, h σ r rfl⟩
  | cons _ _ => exact h.elim
theorem dgs_cons {e : Expr} {es : List Expr} {g : PyData → M Unit} {gs : List PyData → M Unit} (h1 : DG X e vs g) (h2 : DGs X es vs gs) (hs : (assignEach (e :: es) X.env).map (·.2) = assign e X.env :: (assignEach es X.env).map (·.2) := by rfl) : DGs X (e :: es) vs (gCons' g gs) := by
  refine ⟨fun C => ⟨fun pins s σ H us ws Q I rv h => (pgs_cons (h1.pg C) (h2.pgs C) hs).run pins s σ H us ws Q I rv ?_⟩⟩
  obtain ⟨env, ds, r, z, h⟩ := h
  cases z with
  | nil => exact h.elim
  | cons z1 z2 =>
    rename_i v vs' d ds'
    refine ⟨v, vs', rfl, env, d, r, z1, ?_⟩
    unfold gCons' M.bind at h
    dsimp only at h
    cases e : g d env with
    | ok w env1 =>
      rw [e] at h
      dsimp only at h
      intro σ1 r1 w1
      refine ⟨env1, ds', r1, z2, ?_⟩
      cases e2 : gs ds' env1 with
      | ok w2 env2 =>
        rw [e2] at h
        intro σ2 r2' w2
        exact h σ2 r2' (w2.trans w1)
      | err x env' => rw [e2] at h; exact h.elim
      | stuck => rw [e2] at h; exact h.elim
    | err x env' => rw [e] at h; exact h.elim
    | stuck => rw [e] at h; exact h.elim
theorem dg_tp {es : List Expr} {k n : Nat} {gs : List PyData → M Unit} (hc : X.calm = true) (h : DGs X es vs gs) (hn : (assignEach es X.env).length = n := by rfl) (hst : (assignEach es X.env).findIdx? (·.1) = none := by rfl) : DG X (.Tuple es k pos) vs (gTp n gs) := by
  refine ⟨fun C => ⟨fun pins s σ H v u Q I rv hq => (pg_tup hc (h.pgs C) hn hst).run pins s σ H v u Q I rv ?_⟩⟩
  obtain ⟨env, d, r, z, hq⟩ := hq
  cases z with
  | tup h1 h2 =>
    rename_i a xs ds
    unfold gTp at hq
    dsimp only at hq
    by_cases hl : ds.length = n
    · rw [if_pos hl] at hq
      exact ⟨a, xs, rfl, h1.sq, h2.length.trans hl, env, ds, r, h2, hq⟩
    · rw [if_neg hl] at hq
      exact hq.elim
  | _ => exact hq.elim
end

/-! ### statements -/
inductive RVl where
  | d (x : PyData)
  | o (ds : List PyData)
inductive Fl where
  | next | brk | cont
  | ret (v : RVl)
section
variable (K : PySem.W.Frag) (mg : Str → Option Value) (C : Ct) (W : WX)
def RR (σ : L2.St) (u : V) (H : Hp) (env : En) : RVl → Prop
  | .d x => Dz K H u x
  | .o ds => OR K C σ u H ds env
def Sf (H : Hp) (r : R Fl) (D : Ends) : Prop := match r with
  | .ok .next env' => ∀ σ' H', Rel K C H' σ' env' → Le H H' → D.nx σ' H'
  | .ok .brk env' => ∀ σ' H', Rel K C H' σ' env' → Le H H' → D.bk σ' H'
  | .ok .cont env' => ∀ σ' H', Rel K C H' σ' env' → Le H H' → D.ct σ' H'
  | .ok (.ret v) env' => ∀ u σ' H', Rel K C H' σ' env' → RR K C σ' u H' env' v → Le H H' → D.rt u H'
  | .err e env' => ∀ cls od σ' H', Rel K C H' σ' env' → ErR K mg H' e cls od → Le H H' → W cls od σ' H'
  | .stuck => False
def liftS (m : M Fl) : TS := fun D σ H => ∃ env, Rel K C H σ env ∧ Sf K mg C W H (m env) D
end
structure DS (X : Cx) (T : List (Addr × Str)) (W : WX) (st : Stmt) (m : M Fl) : Prop where
  ps : ∀ C : Ct, C.T = T → PS X st (liftS X.K X.mg C W m)
structure DSs (X : Cx) (T : List (Addr × Str)) (W : WX) (st : List Stmt) (m : M Fl) : Prop where
  pss : ∀ C : Ct, C.T = T → PSs X st (liftS X.K X.mg C W m)
section
variable {K : PySem.W.Frag} {mg : Str → Option Value} {C : Ct} {W : WX} {σ : L2.St} {H H' : Hp} {env : En}
theorem Sf.mono {r : R Fl} {D D' : Ends} (h : Sf K mg C W H r D) (e : Le H H') (h1 : ∀ σ H, D.nx σ H → D'.nx σ H) (h2 : ∀ u H, D.rt u H → D'.rt u H) (h3 : ∀ σ H, D.bk σ H → D'.bk σ H) (h4 : ∀ σ H, D.ct σ H → D'.ct σ H) : Sf K mg C W H' r D' := by
  cases r with
  | ok fl env' =>
    cases fl with
    | next => exact fun σ' H2 r1 l => h1 _ _ (h σ' H2 r1 (e.trans l))
    | brk => exact fun σ' H2 r1 l => h3 _ _ (h σ' H2 r1 (e.trans l))
    | cont => exact fun σ' H2 r1 l => h4 _ _ (h σ' H2 r1 (e.trans l))
    | ret v => exact fun u σ' H2 r1 z l => h2 _ _ (h u σ' H2 r1 z (e.trans l))
  | err x env' => exact fun cls od σ' H2 r1 z l => h cls od σ' H2 r1 z (e.trans l)
  | stuck => exact h.elim
theorem Sf.le {r : R Fl} {D : Ends} (h : Sf K mg C W H r D) (e : Le H H') : Sf K mg C W H' r D := h.mono e (fun _ _ z => z) (fun _ _ z => z) (fun _ _ z => z) fun _ _ z => z
/-- an expression ahead of a statement's end -/
theorem Sf.bind {γ δ : Type} {RW : δ → Hp → γ → En → Prop} {m : M γ} {k : γ → M Fl} {D : Ends} {Q1 : δ → Hp → Prop} (h : Sf K mg C W H (M.bind m k env) D)
    (q : ∀ u H1 v env', Rel K C H1 σ env' → RW u H1 v env' → Le H H1 → Sf K mg C W H1 (k v env') D → Q1 u H1) : Lf K mg C W σ H RW (m env) Q1 := by
  unfold M.bind at h
  cases e : m env with
  | ok v env' =>
    rw [e] at h
    exact fun u H1 r1 r2 l => q u H1 v env' r1 r2 l (Sf.le (show Sf K mg C W H (k v env') D from h) l)
  | err x env' =>
    rw [e] at h
    exact fun cls od H1 r1 r2 l => h cls od σ H1 r1 r2 l
  | stuck =>
    rw [e] at h
    exact h.elim
end
def sSeq (a b : M Fl) : M Fl := M.bind a fun fl => match fl with
  | .next => b
  | fl => M.pure fl
def sNext : M Fl := M.pure .next
def sBrk : M Fl := M.pure .brk
def sCont : M Fl := M.pure .cont
def sSet (i : Nat) (m : M Vl) : M Fl := M.bind m fun v => M.bind (leak v) fun d => M.bind (sto i (.d d)) fun _ => sNext
def sSetO (i : Nat) (m : M (List PyData)) : M Fl := M.bind m fun ds => M.bind (sto i (.own false ds)) fun _ => sNext
def sAsg (g : PyData → M Unit) (m : M Vl) : M Fl := M.bind m fun v => M.bind (leak v) fun d => M.bind (noE (g d)) fun _ => sNext
def sRet (m : M Vl) : M Fl := M.bind m fun v => M.bind (leak v) fun d => M.pure (.ret (.d d))
def sRetO (m : M (List PyData)) : M Fl := M.bind m fun ds => M.pure (.ret (.o ds))
def sIf (c : M Bool) (a b : M Fl) : M Fl := mIf c a b
def sDrop (m : M Vl) : M Fl := M.bind m fun _ => sNext
section
variable {X : Cx} {T : List (Addr × Str)} {W : WX} {st : Stmt} {rest : List Stmt} {e : Expr} {m : M Vl} {mo : M (List PyData)} {ma mb : M Fl} {pos : Pos}
theorem dss_nil : DSs X T W [] sNext := by
  refine ⟨fun C hC => ⟨fun pins s σ H D I h => pss_nil.run pins s σ H D I ?_⟩⟩
  obtain ⟨env, r, h⟩ := h
  exact h σ H r (.refl H)
theorem dss_one (h1 : DS X T W st ma) : DSs X T W [st] ma := ⟨fun C hC => pss_one (h1.ps C hC)⟩
theorem dss_cons (h1 : DS X T W st ma) (h2 : DSs X T W rest mb) : DSs X T W (st :: rest) (sSeq ma mb) := by
  refine ⟨fun C hC => ⟨fun pins s σ H D I h => (pss_cons (h1.ps C hC) (h2.pss C hC)).run pins s σ H D I ?_⟩⟩
  obtain ⟨env, r, h⟩ := h
  refine ⟨env, r, ?_⟩
  unfold sSeq M.bind at h
  cases e : ma env with
  | ok fl env' =>
    rw [e] at h
    cases fl with
    | next => exact fun σ' H' r1 l => ⟨env', r1, Sf.le (show Sf X.K X.mg C W H (mb env') D from h) l⟩
    | brk => exact h
    | cont => exact h
    | ret v => exact h
  | err x env' => rw [e] at h; exact h
  | stuck => rw [e] at h; exact h.elim
theorem ds_pass : DS X T W (.Pass pos) sNext := by
  refine ⟨fun C hC => ⟨fun pins s σ H D I h => ps_pass.run pins s σ H D I ?_⟩⟩
  obtain ⟨env, r, h⟩ := h
  exact h σ H r (.refl H)
theorem ds_brk : DS X T W (.Break pos) sBrk := by
  refine ⟨fun C hC => ⟨fun pins s σ H D I h => ps_break.run pins s σ H D I ?_⟩⟩
  obtain ⟨env, r, h⟩ := h
  exact h σ H r (.refl H)
theorem ds_cont : DS X T W (.Continue pos) sCont := by
  refine ⟨fun C hC => ⟨fun pins s σ H D I h => ps_continue.run pins s σ H D I ?_⟩⟩
  obtain ⟨env, r, h⟩ := h
  exact h σ H r (.refl H)
theorem ds_doc {x : Str} {j pos'} : DS X T W (.Expr (.Constant (.str x) j pos) pos') sNext := by
  refine ⟨fun C hC => ⟨fun pins s σ H D I h => ps_doc.run pins s σ H D I ?_⟩⟩
  obtain ⟨env, r, h⟩ := h
  exact h σ H r (.refl H)
/-- a value, frozen -/
theorem ghost_leak {C : Ct} {σ : L2.St} {H : Hp} {env : En} {u : V} {v : Vl} {k : PyData → M Fl} {D : Ends} {P : V → Hp → Prop} (h : Sf X.K X.mg C W H (M.bind (leak v) k env) D) (r : Rel X.K C H σ env) (hv : VR X.K σ u H v)
    (q : ∀ d env' H', Rel X.K C H' σ env' → Dz X.K H' u d → Le H H' → Sf X.K X.mg C W H' (k d env') D → P u H') : Ghost X σ (P u) H := by
  unfold M.bind at h
  cases e : leak v env with
  | ok d env' =>
    rw [e] at h
    exact (leak_ok r hv e).imp fun H' ⟨r1, z1, l1, _, _⟩ => q d env' H' r1 z1 l1 (Sf.le (show Sf X.K X.mg C W H (k d env') D from h) l1)
  | err x env' => exact absurd e leak_noerr
  | stuck => rw [e] at h; exact h.elim
theorem Sf.sto {C : Ct} {H : Hp} {env : En} {i : Nat} {ev : EV} {D : Ends} (h : Sf X.K X.mg C W H (M.bind (sto i ev) (fun _ => sNext) env) D) : (∀ ds, env[i]? ≠ some (some (.own true ds))) ∧ ∀ σ' H', Rel X.K C H' σ' (env.set i (some ev)) → Le H H' → D.nx σ' H' := by
  unfold M.bind at h
  cases e : DL.sto i ev env with
  | ok w env' =>
    rw [e] at h
    obtain ⟨hn, e2⟩ := sto_ok e
    subst e2
    exact ⟨hn, h⟩
  | err x env' => exact absurd e sto_noerr
  | stuck => rw [e] at h; exact h.elim
theorem ds_set {i : Nat} {x : Str} {pos' : Pos} (hN : X.N.Nodup) (hi : X.N[i]? = some x) (hx : Loc X.env.scope x) (he : DE X T W e m) (hs : swapsWith e (some (.Name x pos')) pos.line X.env = pure false := by rfl) (hf : X.fn x = true ∨ X.env.scope.names.lookup x = some .local := by first | exact .inl rfl | exact .inr rfl | assumption) :
    DS X T W (.Assign [.Name x pos'] e pos) (sSet i m) := by
  refine ⟨fun C hC => ⟨fun pins s σ H D I h => (ps_set hN hi hx (pe_ghost (he.pe C hC)) hs hf).run pins s σ H D I ?_⟩⟩
  obtain ⟨env, r, h⟩ := h
  refine ⟨env, r, Sf.bind h fun u H1 v env1 r1 hv l1 h1 => ?_⟩
  refine ghost_leak (P := fun u H' => gName i u σ H' D.nx) h1 r1 hv fun d env2 H2 r2' z2 l2 h2 => ?_
  obtain ⟨hn, q⟩ := Sf.sto h2
  exact q _ _ (r2'.stoD z2 hn) (.refl _)
theorem ds_setO {i : Nat} {x : Str} {pos' : Pos} (hN : X.N.Nodup) (hi : X.N[i]? = some x) (hx : Loc X.env.scope x) (he : DO X T W e mo) (hs : swapsWith e (some (.Name x pos')) pos.line X.env = pure false := by rfl) (hf : X.fn x = true ∨ X.env.scope.names.lookup x = some .local := by first | exact .inl rfl | exact .inr rfl | assumption) :
    DS X T W (.Assign [.Name x pos'] e pos) (sSetO i mo) := by
  refine ⟨fun C hC => ⟨fun pins s σ H D I h => (ps_set hN hi hx (he.pe C hC) hs hf).run pins s σ H D I ?_⟩⟩
  obtain ⟨env, r, h⟩ := h
  refine ⟨env, r, Sf.bind h fun u H1 v env1 r1 hv l1 h1 => ?_⟩
  obtain ⟨hn, q⟩ := Sf.sto h1
  exact q _ _ (r1.stoO hv hn) (.refl _)
theorem ds_asg {tg : Expr} {vs : List Nat} {g : PyData → M Unit} (he : DE X T W e m) (hg : DG X tg vs g) (hs : swapsWithSole [tg] e pos.line X.env = pure false := by rfl) (hw : swappedStores [tg] e X.env = pure none := by rfl)
    (h1 : (assignEach [tg] X.env).map (·.2) = [assign tg X.env] := by rfl) : DS X T W (.Assign [tg] e pos) (sAsg g m) := by
  refine ⟨fun C hC => ⟨fun pins s σ H D I h => (ps_asg (pe_ghost (he.pe C hC)) (hg.pg C) hs hw h1).run pins s σ H D I ?_⟩⟩
  obtain ⟨env, r, h⟩ := h
  refine ⟨env, r, Sf.bind h fun u H1 v env1 r1 hv l1 h1 => ?_⟩
  refine ghost_leak (P := fun u H' => liftG X.K C vs g u σ H' D.nx) h1 r1 hv fun d env2 H2 r2' z2 l2 h2 => ?_
  refine ⟨env2, d, r2', z2, ?_⟩
  unfold M.bind at h2
  cases e : noE (g d) env2 with
  | ok w env3 =>
    rw [e] at h2
    rw [noE_ok e]
    exact fun σ' r3 _ => h2 σ' H2 r3 (.refl _)
  | err x env' => exact (noE_err e).elim
  | stuck => rw [e] at h2; exact h2.elim
theorem ds_ret (he : DE X T W e m) : DS X T W (.Return (some e) pos) (sRet m) := by
  refine ⟨fun C hC => ⟨fun pins s σ H D I h => (ps_ret (pe_ghost (he.pe C hC))).run pins s σ H D I ?_⟩⟩
  obtain ⟨env, r, h⟩ := h
  refine ⟨env, r, Sf.bind h fun u H1 v env1 r1 hv l1 h1 => ?_⟩
  refine ghost_leak (P := fun u H' => D.rt u H') h1 r1 hv fun d env2 H2 r2' z2 l2 h2 => ?_
  exact h2 u σ H2 r2' z2 (.refl _)
theorem ds_retO (he : DO X T W e mo) : DS X T W (.Return (some e) pos) (sRetO mo) := by
  refine ⟨fun C hC => ⟨fun pins s σ H D I h => (ps_ret (he.pe C hC)).run pins s σ H D I ?_⟩⟩
  obtain ⟨env, r, h⟩ := h
  refine ⟨env, r, Sf.bind h fun u H1 v env1 r1 hv l1 h1 => ?_⟩
  exact h1 u σ H1 r1 hv (.refl _)
theorem ds_retN : DS X T W (.Return none pos) (M.pure (.ret (.d .none))) := by
  refine ⟨fun C hC => ⟨fun pins s σ H D I h => ps_retN.run pins s σ H D I ?_⟩⟩
  obtain ⟨env, r, h⟩ := h
  exact h .non σ H r .non (.refl H)
theorem ds_if {c : Expr} {a b : List Stmt} {mc : M Bool} (hc : DT X T W c mc) (ha : DSs X T W a ma) (hb : DSs X T W b mb) : DS X T W (.If c a b pos) (sIf mc ma mb) := by
  refine ⟨fun C hC => ⟨fun pins s σ H D I h => (ps_if (hc.pt C hC) (ha.pss C hC) (hb.pss C hC)).run pins s σ H D I ?_⟩⟩
  obtain ⟨env, r, h⟩ := h
  refine ⟨env, r, Sf.bind h fun k H1 v env1 r1 hv l1 h1 => ?_⟩
  subst hv
  cases k with
  | true => exact ⟨env1, r1, h1⟩
  | false => exact ⟨env1, r1, h1⟩
theorem ds_drop (he : DE X T W e m) (hs : swapsWith e none pos.line X.env = pure false := by rfl) : DS X T W (.Expr e pos) (sDrop m) := by
  refine ⟨fun C hC => ⟨fun pins s σ H D I h => (ps_expr (he.pe C hC) hs).run pins s σ H D I ?_⟩⟩
  obtain ⟨env, r, h⟩ := h
  refine ⟨env, r, Sf.bind h fun u H1 v env1 r1 hv l1 h1 => ?_⟩
  exact h1 σ H1 r1 (.refl H1)
end
end DL
end

/- DL8 -/
section
set_option maxHeartbeats 4000000
namespace DL
open PySem PySem.Spec PyProof.Rows L2

theorem M.bind_ok {α β : Type} {m : M α} {k : α → M β} {env env' : En} {v : α} (e : m env = .ok v env') : M.bind m k env = k v env' := by
  unfold M.bind
  rw [e]
theorem M.bind_err {α β : Type} {m : M α} {k : α → M β} {env env' : En} {x : Er} (e : m env = .err x env') : M.bind m k env = .err x env' := by
  unfold M.bind
  rw [e]
theorem M.bind_stuck {α β : Type} {m : M α} {k : α → M β} {env : En} (e : m env = .stuck) : M.bind m k env = .stuck := by
  unfold M.bind
  rw [e]
/-! ### loops -/
def forL (g : PyData → M Unit) (b : M Fl) : List PyData → M Fl
  | [] => sNext
  | d :: ds => M.bind (noE (g d)) fun _ => M.bind b fun fl => match fl with
    | .next => forL g b ds
    | .cont => forL g b ds
    | .brk => sNext
    | .ret v => M.pure (.ret v)
def sFor (mi : M Src) (g : PyData → M Unit) (b : M Fl) : M Fl := M.bind mi fun s => match s with
  | .fix items => forL g b items
  | .own _ => M.stuck
def whileN (c : M Bool) (b : M Fl) : Nat → M Fl
  | 0 => M.stuck
  | n + 1 => M.bind c fun k => if k = true then M.bind b fun fl => match fl with
    | .next => whileN c b n
    | .cont => whileN c b n
    | .brk => sNext
    | .ret v => M.pure (.ret v) else sNext
section
variable {X : Cx} {T : List (Addr × Str)} {W : WX} {pos : Pos} {vs : List Nat}
theorem ds_for {tg iter : Expr} {body : List Stmt} {mi : M Src} {g : PyData → M Unit} {mb : M Fl} (hp : PassesOwn (model X.prog X.w) X.A X.env X.xe) (hc : X.calm = true) (hi : DI X T W tg iter mi) (hg : DG X tg vs g) (hb : DSs X T W body mb)
    (hs : ∀ x, foldedSetIterable iter X.env x = pure x := by intro _; rfl) : DS X T W (.For tg iter body [] pos) (sFor mi g mb) := by
  refine ⟨fun C hC => ⟨fun pins s σ H D I h => (ps_for hp hc (hi.pi C hC) (hg.pg C) (hb.pss C hC) hs).run pins s σ H D I ?_⟩⟩
  obtain ⟨env, r, h⟩ := h
  refine ⟨env, r, Sf.bind h fun J H1 src env1 r1 hv l1 h1 => ?_⟩
  cases src with
  | own j => exact h1.elim
  | fix items =>
    refine ⟨fun i m σ H => m = items.length - i ∧ i ≤ items.length ∧ Le H1 H ∧ ∃ env, Rel X.K C H σ env ∧ Sf X.K X.mg C W H (forL g mb (items.drop i) env) D, ⟨items.length, by simp, Nat.zero_le _, .refl _, env1, r1, h1⟩, ?_⟩
    rintro i m σ H ⟨rfl, hi, l, env, r, h⟩
    by_cases hlt : i < items.length
    · refine .inr ⟨hv.go i H l hlt, fun σ H => i + 1 ≤ items.length ∧ Le H1 H ∧ ∃ env, Rel X.K C H σ env ∧ Sf X.K X.mg C W H (forL g mb (items.drop (i + 1)) env) D, fun σ' H' p' => ⟨items.length - (i + 1), by omega, rfl, p'⟩, fun x H' y => ?_⟩
      obtain ⟨sm, zx⟩ := hv.yld i H x H' items[i] l y (List.getElem?_eq_getElem hlt)
      rw [List.drop_eq_getElem_cons hlt] at h
      unfold forL M.bind at h
      have l' := l.trans (Le.same sm)
      refine ⟨env, items[i], r.grow sm, zx, ?_⟩
      cases e : noE (g items[i]) env with
      | ok w env2 =>
        rw [e] at h
        rw [noE_ok e]
        dsimp only at h ⊢
        intro σ2 r2 _
        refine ⟨env2, r2, ?_⟩
        have h := h.le (Le.same sm)
        cases e2 : mb env2 with
        | ok fl env3 =>
          rw [e2] at h
          cases fl with
          | next => exact fun σ3 H3 r3 l3 => ⟨hlt, l'.trans l3, env3, r3, Sf.le (show Sf X.K X.mg C W H' (forL g mb (items.drop (i + 1)) env3) D from h) l3⟩
          | cont => exact fun σ3 H3 r3 l3 => ⟨hlt, l'.trans l3, env3, r3, Sf.le (show Sf X.K X.mg C W H' (forL g mb (items.drop (i + 1)) env3) D from h) l3⟩
          | brk => exact h
          | ret v => exact h
        | err x env' => rw [e2] at h; exact h
        | stuck => rw [e2] at h; exact h.elim
      | err x env' => exact (noE_err e).elim
      | stuck => rw [e] at h; exact h.elim
    · have e : i = items.length := by omega
      subst e
      rw [List.drop_length] at h
      exact .inl ⟨hv.stop H l, h σ H r (.refl H)⟩
theorem ds_while {c : Expr} {body : List Stmt} {mc : M Bool} {mb : M Fl} (n : Nat) (hp : PassesOwn (model X.prog X.w) X.A X.env X.xe) (hc : DT X T W c mc) (hb : DSs X T W body mb) : DS X T W (.While c body [] pos) (whileN mc mb n) := by
  refine ⟨fun C hC => ⟨fun pins s σ H D I h => (ps_while hp (hc.pt C hC) (hb.pss C hC)).run pins s σ H D I ?_⟩⟩
  obtain ⟨env, r, h⟩ := h
  refine ⟨fun m σ H => ∃ env, Rel X.K C H σ env ∧ Sf X.K X.mg C W H (whileN mc mb m env) D, ⟨n, env, r, h⟩, ?_⟩
  rintro m σ H ⟨env, r, h⟩
  cases m with
  | zero => exact h.elim
  | succ m =>
    refine ⟨env, r, Sf.bind (show Sf X.K X.mg C W H (M.bind mc _ env) D from h) fun k H1 v env1 r1 hv l1 h1 => ?_⟩
    subst hv
    cases k with
    | false => exact h1 σ H1 r1 (.refl _)
    | true =>
      refine ⟨fun σ H => ∃ env, Rel X.K C H σ env ∧ Sf X.K X.mg C W H (whileN mc mb m env) D, fun σ' H' p => ⟨m, Nat.lt_succ_self m, p⟩, env1, r1, ?_⟩
      have h1 : Sf X.K X.mg C W H1 (M.bind mb (fun fl => match fl with
        | .next => whileN mc mb m
        | .cont => whileN mc mb m
        | .brk => sNext
        | .ret v => M.pure (.ret v)) env1) D := h1
      unfold M.bind at h1
      cases e2 : mb env1 with
      | ok fl env3 =>
        rw [e2] at h1
        cases fl with
        | next => exact fun σ3 H3 r3 l3 => ⟨env3, r3, Sf.le (show Sf X.K X.mg C W H1 (whileN mc mb m env3) D from h1) l3⟩
        | cont => exact fun σ3 H3 r3 l3 => ⟨env3, r3, Sf.le (show Sf X.K X.mg C W H1 (whileN mc mb m env3) D from h1) l3⟩
        | brk => exact h1
        | ret v => exact h1
      | err x env' => rw [e2] at h1; exact h1
      | stuck => rw [e2] at h1; exact h1.elim
end

/-! ### methods of an own list -/
def mPut (i : Nat) (f : List PyData → Option (PyData × List PyData)) : M Vl := fun env => match env[i]? with
  | some (some (.own b ds)) => match f ds with
    | some (d, es) => .ok (.d d) (env.set i (some (.own b es)))
    | none => .stuck
  | _ => .stuck
def isOwn (i : Nat) : M Unit := fun env => match env[i]? with
  | some (some (.own _ _)) => .ok () env
  | _ => .stuck
/-- x.method(args), x an own list -/
def mMeth (i : Nat) (f : List PyData → List PyData → Option (PyData × List PyData)) (ms : M (List Vl)) : M Vl := M.bind (isOwn i) fun _ => M.bind ms fun vs => M.bind (leakAll vs) fun args => mPut i (f args)
def rMeth (K : PySem.W.Frag) (f : List PyData → List PyData → Option (PyData × List PyData)) : V → List V → Hp → VK → Prop := fun x vs H Q => ∃ l xs ds args d es, x = .ref l ∧ H l = some (.lst xs) ∧ DzAll K H xs ds ∧ DzAll K H vs args ∧ f args ds = some (d, es) ∧
  ∀ z ys, DzAll K H ys es → Dz K H z d → Q z (upd H l (.lst ys))
section
variable {X : Cx} {T : List (Addr × Str)} {W : WX} {pos apos cpos : Pos}
theorem isOwn_ok {i : Nat} {env env' : En} (e : isOwn i env = .ok () env') : env' = env ∧ ∃ b ds, env[i]? = some (some (.own b ds)) := by
  unfold isOwn at e
  split at e
  · rename_i b ds h
    cases e
    exact ⟨rfl, b, ds, h⟩
  · cases e
theorem mPut_ok {i : Nat} {f : List PyData → Option (PyData × List PyData)} {env env' : En} {v : Vl} (e : mPut i f env = .ok v env') : ∃ b ds d es, env[i]? = some (some (.own b ds)) ∧ f ds = some (d, es) ∧ v = .d d ∧ env' = env.set i (some (.own b es)) := by
  unfold mPut at e
  split at e
  · rename_i b ds h
    split at e
    · rename_i d es hf
      cases e
      exact ⟨b, ds, d, es, h, hf, rfl, rfl⟩
    · cases e
  · cases e
theorem mPut_noerr {i : Nat} {f : List PyData → Option (PyData × List PyData)} {env env' : En} {x : Er} : mPut i f env ≠ .err x env' := by
  unfold mPut
  split
  · split <;> exact fun z => by cases z
  · exact fun z => by cases z
theorem isOwn_noerr {i : Nat} {env env' : En} {x : Er} : isOwn i env ≠ .err x env' := by
  unfold isOwn
  split <;> exact fun z => by cases z
theorem lift_put {C : Ct} {σ : L2.St} {H : Hp} {env : En} {i : Nat} {f : List PyData → List PyData → Option (PyData × List PyData)} {args : List PyData} {us : List V} {a : Addr} {Q : VK} (h : Lf X.K X.mg C W σ H (fun u H v _ => VR X.K σ u H v) (mPut i (f args) env) Q) (r : Rel X.K C H σ env) (ha : σ[i]? = some (some (.ref a))) (hz : DzAll X.K H us args) :
    rMeth X.K f (.ref a) us H Q := by
  cases e : mPut i (f args) env with
  | ok v env' =>
    rw [e] at h
    obtain ⟨b, ds, d, es, e1, e2, rfl, rfl⟩ := mPut_ok e
    obtain ⟨a', xs, q1, q2, q3, q4, q5⟩ := r.own i b ds e1
    rw [ha] at q1
    cases q1
    refine ⟨a, xs, ds, args, d, es, rfl, q2, q3, hz, e2, fun z ys zs zz => ?_⟩
    have l : Le H (upd H a (.lst ys)) := Le.put q2
    exact h z _ (Rel.put r e1 ha q2 zs q4 q5) (Dz.le l d zz) l
  | err x env' => exact absurd e mPut_noerr
  | stuck => rw [e] at h; exact h.elim
theorem de_meth {i : Nat} {x : Str} {id : String} {name : Str} {e : Expr} {es : List Expr} {ms : M (List Vl)} {f : List PyData → List PyData → Option (PyData × List PyData)} (slot : Slot "list" name id) (hm : MtR X id (rMeth X.K f))
    (hN : X.N[i]? = some x) (hv : Vis X.env.scope x) (ha : DA X T W (e :: es) ms)
    (hd : (x == ("__debug__" : Str)) = false := by decide) (hcd : (x == ("__classdict__" : Str)) = false := by decide) (pa : PlainAttrs "list" := by exact PySem.F.plainAttrs_list) (hty : typeOf (.builtin id) = pure (.type "method_descriptor") := by rfl)
    (hbase : attributeBase (.Name x pos) name X.env (eval (.Name x pos) X.env) = eval (.Name x pos) X.env := by rfl)
    (hfew : ((backTo cpos (starEach (e :: es) X.env)).all (fun x => !x.1) && (backToKw cpos (keywordEach [] X.env)).all (fun x => x.1.isSome)
      && decide ((e :: es).length + ([] : List Keyword).length + (if ([] : List Keyword).isEmpty then 0 else 1) < 30)) = true := by rfl)
    (hline : (apos.endLine == cpos.line) = true := by rfl) (hs : starEach (e :: es) X.env = (false, eval e X.env) :: starEach es X.env := by rfl) (hplain : (backTo cpos (starEach es X.env)).any (·.1) = false := by rfl) :
    DE X T W (.Call (.Attribute (.Name x pos) name apos) (e :: es) [] cpos) (mMeth i f ms) := by
  refine ⟨fun C hC => ⟨fun pins s σ H Q I h => (pe_bm pa slot hty hm (pe_var (pos := pos) hN hv hd hcd) (pa_ghost (ha.pa C hC)) hbase hfew hline hs hplain).run pins s σ H Q I ?_⟩⟩
  obtain ⟨env, r, h⟩ := h
  unfold mMeth at h
  cases e0 : isOwn i env with
  | err x env' => exact absurd e0 isOwn_noerr
  | stuck => rw [M.bind_stuck e0] at h; exact h.elim
  | ok w env0 =>
    rw [M.bind_ok e0] at h
    obtain ⟨e00, b, ds, hi⟩ := isOwn_ok e0
    subst e00
    obtain ⟨a, xs, q1, q2, q3, q4, q5⟩ := r.own i b ds hi
    refine ⟨.ref a, q1, .inl ⟨rfl, xs, SqL.of q2⟩, env0, r, Lf.bind h fun us H1 vs env1 r1 hv l1 h1 => ?_⟩
    obtain ⟨args, env2, e1, h2⟩ := Lf.leakAll h1 r1 hv
    refine (leakAll_ok r1 hv e1).imp fun H2 ⟨r2', z2, l2, _, _⟩ => ?_
    exact lift_put (h2.mono l2 fun _ _ z => z) r2' q1 z2
theorem de_meth0 {i : Nat} {x : Str} {id : String} {name : Str} {f : List PyData → List PyData → Option (PyData × List PyData)} (slot : Slot "list" name id) (hm : MtR X id (rMeth X.K f))
    (hN : X.N[i]? = some x) (hv : Vis X.env.scope x)
    (hd : (x == ("__debug__" : Str)) = false := by decide) (hcd : (x == ("__classdict__" : Str)) = false := by decide) (pa : PlainAttrs "list" := by exact PySem.F.plainAttrs_list) (hty : typeOf (.builtin id) = pure (.type "method_descriptor") := by rfl)
    (hbase : attributeBase (.Name x pos) name X.env (eval (.Name x pos) X.env) = eval (.Name x pos) X.env := by rfl) (hline : (apos.endLine == cpos.line) = true := by rfl) :
    DE X T W (.Call (.Attribute (.Name x pos) name apos) [] [] cpos) (mMeth i f mNil) := by
  refine ⟨fun C hC => ⟨fun pins s σ H Q I h => (pe_bm0 pa slot hty hm (pe_var (pos := pos) hN hv hd hcd) hbase hline).run pins s σ H Q I ?_⟩⟩
  obtain ⟨env, r, h⟩ := h
  unfold mMeth at h
  cases e0 : isOwn i env with
  | err x env' => exact absurd e0 isOwn_noerr
  | stuck => rw [M.bind_stuck e0] at h; exact h.elim
  | ok w env0 =>
    rw [M.bind_ok e0] at h
    obtain ⟨e00, b, ds, hi⟩ := isOwn_ok e0
    subst e00
    obtain ⟨a, xs, q1, q2, q3, q4, q5⟩ := r.own i b ds hi
    exact ⟨.ref a, q1, .inl ⟨rfl, xs, SqL.of q2⟩, lift_put (us := []) (args := []) (show Lf X.K X.mg C W σ H _ (mPut i (f []) env0) Q from h) r q1 .nil⟩
def fAppend : List PyData → List PyData → Option (PyData × List PyData)
  | [d], ds => if ds.length < sizeLine then some (.none, ds ++ [d]) else none
  | _, _ => none
def fExtend : List PyData → List PyData → Option (PyData × List PyData)
  | [.list es], ds => if ds.length + es.length ≤ sizeLine then some (.none, ds ++ es) else none
  | _, _ => none
def fPop : List PyData → List PyData → Option (PyData × List PyData)
  | [], ds => (ds[ds.length - 1]?).map fun d => (d, ds.dropLast)
  | [.int i], ds => if -(2 ^ 63) ≤ i ∧ i < 2 ^ 63 then (seqIndex? i ds.length).bind fun k => (ds[k]?).map fun d => (d, ds.eraseIdx k) else none
  | _, _ => none
theorem DzAll.one {K : PySem.W.Frag} {H : Hp} {vs : List V} {d : PyData} (h : DzAll K H vs [d]) : ∃ v, vs = [v] ∧ Dz K H v d := by
  cases h with
  | cons a b => cases b; exact ⟨_, rfl, a⟩
theorem DzAll.dropLast {K : PySem.W.Frag} {H : Hp} {vs : List V} {ds : List PyData} (h : DzAll K H vs ds) : DzAll K H vs.dropLast ds.dropLast := by
  rw [List.dropLast_eq_take, List.dropLast_eq_take, h.length]
  exact h.take _
theorem m_append : MtR X "list.append" (rMeth X.K fAppend) := by
  intro pins s σ H x us v vals Q I rx rv h
  obtain ⟨l, xs, ds, args, d, es, rfl, h1, h2, h3, h4, q⟩ := h
  match args, h3, h4 with
  | [y], h3, h4 =>
    obtain ⟨u, rfl, zu⟩ := h3.one
    unfold fAppend at h4
    dsimp only at h4
    split at h4
    · rename_i hl
      cases h4
      exact mt_append pins s σ H _ _ v vals Q I rx rv ⟨l, xs, u, rfl, rfl, h1, by rw [h2.length]; exact hl, q _ _ (h2.append (.cons zu .nil)) .non⟩
    · cases h4
theorem m_extend : MtR X "list.extend" (rMeth X.K fExtend) := by
  intro pins s σ H x us v vals Q I rx rv h
  obtain ⟨l, xs, ds, args, d, es, rfl, h1, h2, h3, h4, q⟩ := h
  match args, h3, h4 with
  | [.list ys], h3, h4 =>
    obtain ⟨u, rfl, zu⟩ := h3.one
    unfold fExtend at h4
    dsimp only at h4
    split at h4
    · rename_i hl
      cases h4
      cases zu with
      | @lst bb zs _ f1 f2 =>
        cases rx
        obtain ⟨u, rfl, ru⟩ := rv.one
        cases ru
        obtain ⟨z, its, n, r, hl1, e⟩ := I.lstM h1
        obtain ⟨z2, its2, n2, r2, hl2, e2⟩ := DL.Inv.rdL I f1.rd
        have g1 := h2.length
        have g2 := f2.length
        have hsz : its.toArray.size + its2.toArray.size ≤ sizeLine := by rw [List.size_toArray, List.size_toArray]; omega
        have hlong : ¬ (!its.toArray.isEmpty && Builtin.List.listTooLong (its.toArray.size + its2.toArray.size)) = true := by
          rw [notLongL hsz, Bool.and_false]
          exact Bool.false_ne_true
        refine call_meets F.slot_list_extend ⟨_, e, rfl⟩ F.entry_list_extend (F.args_list_extend_2 _ _)
          (AutoSeq1.list_extend_list_list_0 l its.toArray n bb its2.toArray n2 hlong (by simp only [List.size_toArray] at *; omega) (by simp only [List.size_toArray] at *; omega)) ⟨e, e2, ?_⟩
        refine ⟨.non, _, I.lset (its' := its ++ its2) h1 e (by simp) (r.append r2) ?_, rfl, q _ _ (h2.append f2) .non⟩
        rw [List.length_append]
        omega
    · cases h4
theorem m_pop : MtR X "list.pop" (rMeth X.K fPop) := by
  intro pins s σ H x us v vals Q I rx rv h
  obtain ⟨l, xs, ds, args, d, es, rfl, h1, h2, h3, h4, q⟩ := h
  match args, h3, h4 with
  | [], h3, h4 =>
    cases h3
    unfold fPop at h4
    dsimp only at h4
    rw [Option.map_eq_some_iff] at h4
    obtain ⟨d', e1, e2⟩ := h4
    cases e2
    obtain ⟨w, g1, g2⟩ := h2.get e1
    rw [← h2.length] at g1
    exact mt_pop pins s σ H _ _ v vals Q I rx rv ⟨l, xs, w, rfl, rfl, h1, g1, q _ _ h2.dropLast g2⟩
  | [.int i], h3, h4 =>
    obtain ⟨u, rfl, zu⟩ := h3.one
    cases zu
    unfold fPop at h4
    dsimp only at h4
    split at h4
    · rename_i hi
      rw [Option.bind_eq_some_iff] at h4
      obtain ⟨k, e0, h4⟩ := h4
      rw [Option.map_eq_some_iff] at h4
      obtain ⟨d', e1, e2⟩ := h4
      cases e2
      obtain ⟨w, g1, g2⟩ := h2.get e1
      rw [← h2.length] at e0
      exact mt_popAt pins s σ H _ _ v vals Q I rx rv ⟨l, xs, i, k, w, rfl, rfl, h1, hi.1, hi.2, e0, g1, q _ _ (h2.eraseIdx k) g2⟩
    · cases h4
end
/-! ### x[i] = e on an own list; x op= e -/
def fSet (d : PyData) : List PyData → List PyData → Option (PyData × List PyData)
  | [.int k], ds => (ixN ds.length k).map fun j => (.none, ds.set j d)
  | _, _ => none
def sSetS (i : Nat) (m mi : M Vl) : M Fl := M.bind m fun v => M.bind (leak v) fun d => M.bind (noE (M.bind (isOwn i) fun _ => M.bind mi fun k => M.bind k.get fun kd => mPut i (fSet d [kd]))) fun _ => sNext
section
variable {X : Cx} {T : List (Addr × Str)} {W : WX} {pos apos cpos npos : Pos}
theorem noE_bind_ok {α β : Type} {m : M α} {k : α → M β} {env env' : En} {b : β} (h : M.bind m k env = .ok b env') : ∃ a env1, m env = .ok a env1 ∧ k a env1 = .ok b env' := by
  unfold M.bind at h
  cases e : m env with
  | ok a env1 => rw [e] at h; exact ⟨a, env1, rfl, h⟩
  | err x env1 => rw [e] at h; cases h
  | stuck => rw [e] at h; cases h
theorem ds_setS {i : Nat} {x : Str} {e ie : Expr} {m mi : M Vl} (hN : X.N[i]? = some x) (hv : Vis X.env.scope x) (he : DE X T W e m) (hi : DE X T (fun _ _ _ _ => False) ie mi)
    (hd : (x == ("__debug__" : Str)) = false := by decide) (hcd : (x == ("__classdict__" : Str)) = false := by decide)
    (ha : ∀ v, assign (.Subscript (.Name x npos) ie apos) X.env v = (do
      let ov ← holding [v] (eval (.Name x npos) X.env)
      let iv ← holding [v, ov] (eval ie X.env)
      standAt apos
      holding [v, ov, iv] (setItem ov iv v)
      release [v, ov, iv] []) := by intro _; rfl)
    (hs : swapsWithSole [.Subscript (.Name x npos) ie apos] e pos.line X.env = pure false := by rfl) (hw : swappedStores [.Subscript (.Name x npos) ie apos] e X.env = pure none := by rfl)
    (h1 : (assignEach [.Subscript (.Name x npos) ie apos] X.env).map (·.2) = [assign (.Subscript (.Name x npos) ie apos) X.env] := by rfl) : DS X T W (.Assign [.Subscript (.Name x npos) ie apos] e pos) (sSetS i m mi) := by
  refine ⟨fun C hC => ⟨fun pins s σ H D I h => (ps_asg (pe_ghost (he.pe C hC)) (pg_sub (pe_var (pos := npos) hN hv hd hcd) (hi.pe C hC) set_list ha) hs hw h1).run pins s σ H D I ?_⟩⟩
  obtain ⟨env, r, h⟩ := h
  refine ⟨env, r, Sf.bind h fun u H1 v env1 r1 hv l1 h1 => ?_⟩
  refine ghost_leak (P := fun u H' => L2.gSub (tVar i) (lift X.K X.mg C (fun _ _ _ _ => False) mi) rSetL u σ H' D.nx) h1 r1 hv fun d env2 H2 r2' z2 l2 h2 => ?_
  cases e : noE (M.bind (isOwn i) fun _ => M.bind mi fun k => M.bind k.get fun kd => mPut i (fSet d [kd])) env2 with
  | err x env' => exact (noE_err e).elim
  | stuck =>
    rw [M.bind_stuck e] at h2
    exact h2.elim
  | ok w env3 =>
    have e' := noE_ok e
    rw [M.bind_ok e] at h2
    obtain ⟨_, env4, e4, e5⟩ := noE_bind_ok e'
    obtain ⟨rfl, b, ds, hi0⟩ := isOwn_ok e4
    obtain ⟨k, env5, e6, e7⟩ := noE_bind_ok e5
    obtain ⟨a, xs, q1, q2, q3, q4, q5⟩ := r2'.own i b ds hi0
    refine ⟨.ref a, q1, env4, r2', ?_⟩
    rw [e6]
    intro ku H3 r3 hk l3
    obtain ⟨kd, env6, e8, e9⟩ := noE_bind_ok e7
    have hk2 : ∃ kk, kd = .int kk ∧ Rz X.K H3 ku kd ∧ env6 = env5 := by
      have hh : Lf X.K X.mg C (fun _ _ _ _ => False) σ H3 (fun (u : Unit) _ v env => v = kd ∧ env = env6) (M.bind k.get (fun kd => M.pure kd) env5) fun _ _ => True := by
        unfold M.bind
        rw [e8]
        exact fun _ _ _ _ _ => trivial
      obtain ⟨b', ds', d', es', _, hf, _, _⟩ := mPut_ok e9
      match kd, hf, e8 with
      | .int kk, hf, e8 =>
        cases k with
        | d x =>
          cases e8
          exact ⟨kk, rfl, .inl hk, rfl⟩
        | sl j =>
          unfold Vl.get at e8
          dsimp only at e8
          split at e8 <;> cases e8
    obtain ⟨kk, rfl, zk, rfl⟩ := hk2
    have := zk.int
    subst this
    obtain ⟨b', ds', d', es', g1, hf, rfl, rfl⟩ := mPut_ok e9
    obtain ⟨a', xs', g2, g3, g4, g5, g6⟩ := r3.own i b' ds' g1
    rw [q1] at g2
    cases g2
    unfold fSet at hf
    dsimp only at hf
    rw [Option.map_eq_some_iff] at hf
    obtain ⟨j, hj, hf⟩ := hf
    cases hf
    have l : Le H3 (upd H3 a (.lst (xs'.set j u))) := Le.put g3
    refine ⟨a, xs', kk, j, rfl, rfl, g3, by rw [g4.length]; exact hj, ?_⟩
    exact h2 σ _ (Rel.put r3 g1 q1 g3 (DzAll.set (Dz.le l3 d z2) j g4) g5 g6) (l3.trans l)
def intsOnly (g : PyData → PyData → Option PyData) : PyData → PyData → Option PyData
  | .int i, .int j => g (.int i) (.int j)
  | _, _ => none
def sAug (i : Nat) (f : Int → Int → Int) (m : M Vl) : M Fl := M.bind (mVar i) fun v => M.bind m fun w => match v, w with
  | .d (.int a), .d (.int b) => M.bind (sto i (.d (.int (f a b)))) fun _ => sNext
  | _, _ => M.stuck
theorem ds_aug {i : Nat} {x : Str} {e : Expr} {m : M Vl} {op : Operator} {f : Int → Int → Int} {pos' : Pos} (hN : X.N.Nodup) (hi : X.N[i]? = some x) (hx : Loc X.env.scope x) (he : DE X T W e m) (ho : PIp X op (ipI f)) (hf : X.fn x = true ∨ X.env.scope.names.lookup x = some .local := by first | exact .inl rfl | exact .inr rfl | assumption) :
    DS X T W (.AugAssign (.Name x pos') op e pos) (sAug i f m) := by
  refine ⟨fun C hC => ⟨fun pins s σ H D I h => (ps_aug hN hi hx (he.pe C hC) ho hf).run pins s σ H D I ?_⟩⟩
  obtain ⟨env, r, h⟩ := h
  unfold sAug at h
  cases e0 : mVar i env with
  | stuck => rw [M.bind_stuck e0] at h; exact h.elim
  | err x env' =>
    unfold mVar at e0
    split at e0 <;> cases e0
  | ok v env0 =>
    rw [M.bind_ok e0] at h
    unfold mVar at e0
    split at e0
    · rename_i d hd
      cases e0
      obtain ⟨u, q1, q2⟩ := r.dat i _ hd
      refine ⟨u, q1, env, r, Sf.bind h fun y H1 w env1 r1 hw l1 h1 => ?_⟩
      match d, w, h1, q2, hw with
      | .int a, .d (.int b), h1, q2, hw =>
        cases q2
        cases (show Dz X.K H1 y (.int b) from hw)
        obtain ⟨hn, q⟩ := Sf.sto h1
        exact ⟨a, b, rfl, rfl, q _ _ (r1.stoD (.int _) hn) (.refl _)⟩
    · cases e0
      rename_i bb dd hd
      have h : Sf X.K X.mg C W H (M.bind m (fun _ => M.stuck) env) D := h
      obtain ⟨a, xs, q1, _⟩ := r.own i bb dd hd
      exact ⟨.ref a, q1, env, r, Sf.bind h fun y H1 w env1 r1 hw l1 h1 => h1.elim⟩
    · cases e0
end

end DL
end

/- DL9 -/
section
set_option maxHeartbeats 4000000
namespace DL
open PySem PySem.Spec PyProof.Rows L2

/-! ### comprehensions -/
def noOwn (vs : List Nat) (env : En) : Bool := vs.all fun v => match env[v]? with
  | some (some (.own _ _)) => false
  | _ => true
def wipeE (env : En) : List Nat → En
  | [] => env
  | v :: vs => (wipeE env vs).set v none
def restE (env0 env : En) : List Nat → En
  | [] => env
  | v :: vs => (restE env0 env vs).set v (match env0[v]? with
    | some x => x
    | none => none)
def clr (vs : List Nat) : M Unit := fun env => if noOwn vs env = true then .ok () (wipeE env vs) else .stuck
/-- what comes at turn i -/
def srcAt : Src → Nat → M (Option PyData)
  | .fix items, i => M.pure items[i]?
  | .own j, i => fun env => match env[j]? with
    | some (some (.own _ ds)) => .ok ds[i]? env
    | _ => .stuck
def srcLen : Src → M Nat
  | .fix items => M.pure items.length
  | .own j => fun env => match env[j]? with
    | some (some (.own _ ds)) => .ok ds.length env
    | _ => .stuck
def lcTurn (vs : List Nat) (g : PyData → M Unit) (t : M Bool) (e : M Vl) (d : PyData) (acc : List PyData) : M (List PyData) :=
  M.bind (noE (g d)) fun _ => M.bind (noE t) fun k => if k = true then M.bind (noE e) fun v => M.bind (leak v) fun x => if acc.length < sizeLine then M.bind (clr vs) fun _ => M.pure (acc ++ [x]) else M.stuck else M.bind (clr vs) fun _ => M.pure acc
def lcN (s : Src) (vs : List Nat) (g : PyData → M Unit) (t : M Bool) (e : M Vl) : Nat → Nat → List PyData → M (List PyData)
  | 0, _, _ => M.stuck
  | n + 1, i, acc => M.bind (srcAt s i) fun o => match o with
    | none => M.pure acc
    | some d => M.bind (lcTurn vs g t e d acc) fun acc' => lcN s vs g t e n (i + 1) acc'
def lcRun (vs : List Nat) (g : PyData → M Unit) (t : M Bool) (e : M Vl) (s : Src) : M (List PyData) := fun env => match srcLen s env with
  | .ok n _ => match M.bind (clr vs) (fun _ => lcN s vs g t e (n + 1) 0 []) env with
    | .ok ds env1 => .ok ds (restE env env1 vs)
    | _ => .stuck
  | _ => .stuck
def mLc (vs : List Nat) (mi : M Src) (g : PyData → M Unit) (t : M Bool) (e : M Vl) : M (List PyData) := M.bind mi fun s => lcRun vs g t e s
def mYes : M Bool := M.pure true

section
theorem wipe_get {σ : L2.St} {i : Nat} : ∀ {vs : List Nat}, (wipe σ vs)[i]? = if i ∈ vs ∧ i < σ.length then some none else σ[i]?
  | [] => by simp [wipe]
  | v :: vs => by
    unfold wipe
    by_cases e : v = i
    · subst e
      by_cases hl : v < σ.length
      · rw [List.getElem?_set_self (by rw [wipe_length]; exact hl), if_pos ⟨by simp, hl⟩]
      · rw [List.getElem?_eq_none (by rw [List.length_set, wipe_length]; omega), if_neg (fun z => hl z.2), List.getElem?_eq_none (by omega)]
    · rw [List.getElem?_set_ne e, wipe_get]
      simp only [List.mem_cons, show ¬ i = v from fun z => e z.symm, false_or]
theorem wipeE_length {env : En} : ∀ {vs : List Nat}, (wipeE env vs).length = env.length
  | [] => rfl
  | v :: vs => by unfold wipeE; rw [List.length_set, wipeE_length]
theorem wipeE_get {env : En} {i : Nat} : ∀ {vs : List Nat}, (wipeE env vs)[i]? = if i ∈ vs ∧ i < env.length then some none else env[i]?
  | [] => by simp [wipeE]
  | v :: vs => by
    unfold wipeE
    by_cases e : v = i
    · subst e
      by_cases hl : v < env.length
      · rw [List.getElem?_set_self (by rw [wipeE_length]; exact hl), if_pos ⟨by simp, hl⟩]
      · rw [List.getElem?_eq_none (by rw [List.length_set, wipeE_length]; omega), if_neg (fun z => hl z.2), List.getElem?_eq_none (by omega)]
    · rw [List.getElem?_set_ne e, wipeE_get]
      simp only [List.mem_cons, show ¬ i = v from fun z => e z.symm, false_or]
theorem restE_length {e0 env : En} : ∀ {vs : List Nat}, (restE e0 env vs).length = env.length
  | [] => rfl
  | v :: vs => by unfold restE; rw [List.length_set, restE_length]
theorem restE_get {e0 env : En} {i : Nat} (hl : e0.length = env.length) : ∀ {vs : List Nat}, (restE e0 env vs)[i]? = if i ∈ vs then e0[i]? else env[i]?
  | [] => by simp [restE]
  | v :: vs => by
    unfold restE
    by_cases e : v = i
    · subst e
      by_cases h : v < env.length
      · rw [List.getElem?_set_self (by rw [restE_length]; exact h), if_pos (by simp)]
        cases q : e0[v]? with
        | none => rw [List.getElem?_eq_none_iff] at q; omega
        | some x => rfl
      · rw [List.getElem?_eq_none (by rw [List.length_set, restE_length]; omega), if_pos (by simp), List.getElem?_eq_none (by omega)]
    · rw [List.getElem?_set_ne e, restE_get hl]
      simp only [List.mem_cons, show ¬ i = v from fun z => e z.symm, false_or]
theorem wipe_wipe {σ : L2.St} {vs : List Nat} : wipe (wipe σ vs) vs = wipe σ vs := by
  apply List.ext_getElem?
  intro i
  rw [wipe_get, wipe_length, wipe_get]
  split <;> rfl
theorem noOwn_get {vs : List Nat} {env : En} (h : noOwn vs env = true) {i : Nat} (hi : i ∈ vs) {b : Bool} {ds : List PyData} : env[i]? ≠ some (some (.own b ds)) := by
  unfold noOwn at h
  rw [List.all_eq_true] at h
  have := h i hi
  intro e
  rw [e] at this
  cases this
theorem ho_ne {H : Hp} {a b : Addr} {o : PO} {u : HO} (h : H a = some o.ho) (e : H b = some u) (n : u ≠ o.ho) : b ≠ a := by
  rintro rfl
  rw [h] at e
  exact n (Option.some.inj e).symm
theorem Le.putO {H : Hp} {a : Addr} {o : PO} {u : HO} (h : H a = some o.ho) : Le H (upd H a u) :=
  ⟨fun b ys e => by rw [upd_ne (ho_ne h e (by cases o <;> exact fun z => by cases z))]; exact e, fun b ob w e => by rw [upd_ne (ho_ne h e (by cases o <;> exact fun z => by cases z))]; exact e⟩
theorem Tabs.putO {T : List (Addr × Str)} {H : Hp} {a : Addr} {o : PO} {u : HO} (h : H a = some o.ho) (t : LamX.Tabs T H) : LamX.Tabs T (upd H a u) := fun p hp => by
  obtain ⟨ps, h1, h2, h3⟩ := t p hp
  refine ⟨ps, by rw [upd_ne (ho_ne h h1 (PO.ntbl o ps).symm)]; exact h1, h2, fun pos cv hc => ?_⟩
  obtain ⟨c, e1, e2⟩ := h3 pos cv hc
  refine ⟨c, e1, ?_⟩
  rw [upd_ne (ho_ne h e2 (by unfold LamX.CodeO; cases o <;> exact fun z => by cases z))]
  exact e2
def Ct.withP (C : Ct) (D : Addr) (xs : PO) : Ct := { C with P := fun a => if a = D then some xs else C.P a }
variable {K : PySem.W.Frag} {C : Ct} {σ : L2.St} {H H1 : Hp} {env env1 : En} {D : Addr} {xs ys : PO} {vs : List Nat}
theorem Rel.wipe (r : Rel K C H σ env) (h : noOwn vs env = true) : Rel K C H (L2.wipe σ vs) (wipeE env vs) where
  len := by rw [wipe_length, wipeE_length]; exact r.len
  dat := fun i x e => by
    rw [wipeE_get] at e
    split at e
    · cases e
    · rename_i hn
      obtain ⟨v, q1, q2⟩ := r.dat i x e
      exact ⟨v, by rw [wipe_get, if_neg (by rw [← r.len]; exact hn)]; exact q1, q2⟩
  own := fun i b ds e => by
    rw [wipeE_get] at e
    split at e
    · cases e
    · rename_i hn
      obtain ⟨a, ys, q1, q2⟩ := r.own i b ds e
      exact ⟨a, ys, by rw [wipe_get, if_neg (by rw [← r.len]; exact hn)]; exact q1, q2⟩
  bkd := fun i a e => by
    obtain ⟨ds, q⟩ := r.bkd i a e
    exact ⟨ds, by rw [wipeE_get, if_neg (fun z => noOwn_get h z.1 q)]; exact q⟩
  dis := fun i j b c ds es a hij e1 e2 e3 e4 => by
    rw [wipeE_get] at e1 e2
    rw [wipe_get] at e3 e4
    split at e1
    · cases e1
    split at e2
    · cases e2
    split at e3
    · cases e3
    split at e4
    · cases e4
    exact r.dis i j b c ds es a hij e1 e2 e3 e4
  keep := r.keep
  prot := r.prot
  opq := fun i v e => by
    rw [wipeE_get] at e
    split at e
    · cases e
    · rename_i hn
      rw [wipe_get, if_neg (by rw [← r.len]; exact hn)]
      exact r.opq i v e
  tab := r.tab
theorem Rel.rest (r : Rel K C H (L2.wipe σ vs) env) (r1 : Rel K C H1 σ env1) (l : Le H1 H) (h : noOwn vs env1 = true) : Rel K C H σ (restE env1 env vs) := by
  have hl : env1.length = env.length := by rw [r1.len, r.len, wipe_length]
  have away : ∀ {i : Nat}, i ∉ vs → (L2.wipe σ vs)[i]? = σ[i]? := fun {i} hi => by rw [wipe_get, if_neg (fun z => hi z.1)]
  exact {
    len := by rw [restE_length, r.len, wipe_length]
    dat := fun i x e => by
      rw [restE_get hl] at e
      split at e
      · obtain ⟨v, q1, q2⟩ := r1.dat i x e
        exact ⟨v, q1, Dz.le l _ q2⟩
      · rename_i hn
        obtain ⟨v, q1, q2⟩ := r.dat i x e
        exact ⟨v, by rw [← away hn]; exact q1, q2⟩
    own := fun i b ds e => by
      rw [restE_get hl] at e
      split at e
      · exact absurd e (noOwn_get h (by assumption))
      · rename_i hn
        obtain ⟨a, ys, q1, q2⟩ := r.own i b ds e
        exact ⟨a, ys, by rw [← away hn]; exact q1, q2⟩
    bkd := fun i a e => by
      obtain ⟨ds, q⟩ := r1.bkd i a e
      have hn : i ∉ vs := fun z => noOwn_get h z q
      obtain ⟨es, q'⟩ := r.bkd i a e
      exact ⟨es, by rw [restE_get hl, if_neg hn]; exact q'⟩
    dis := fun i j b c ds es a hij e1 e2 e3 e4 => by
      rw [restE_get hl] at e1 e2
      split at e1
      · exact absurd e1 (noOwn_get h (by assumption))
      split at e2
      · exact absurd e2 (noOwn_get h (by assumption))
      rename_i n1 n2
      exact r.dis i j b c ds es a hij e1 e2 (by rw [away n1]; exact e3) (by rw [away n2]; exact e4)
    keep := r.keep
    prot := r.prot
    opq := fun i v e => by
      rw [restE_get hl] at e
      split at e
      · exact r1.opq i v e
      · rename_i hn
        rw [← away hn]
        exact r.opq i v e
    tab := r.tab }
theorem Rel.addP (r : Rel K C H σ env) (hD : H D = some xs.ho) (hn : ∀ (i : Nat) b ds, env[i]? = some (some (.own b ds)) → σ[i]? ≠ some (some (.ref D))) : Rel K (C.withP D xs) H σ env where
  len := r.len
  dat := r.dat
  own := fun i b ds e => by
    obtain ⟨a, ys, q1, q2, q3, q4, q5⟩ := r.own i b ds e
    refine ⟨a, ys, q1, q2, q3, q4, ?_⟩
    show (if a = D then some xs else C.P a) = none
    rw [if_neg]
    · exact q5
    · rintro rfl
      exact hn i b ds e q1
  bkd := r.bkd
  dis := r.dis
  keep := r.keep
  prot := fun a zs q => by
    have q : (if a = D then some xs else C.P a) = some zs := q
    split at q
    · rename_i e
      cases q
      rw [e]; exact hD
    · exact r.prot a zs q
  opq := r.opq
  tab := r.tab
theorem Rel.unP (r : Rel K (C.withP D xs) H σ env) (hD : C.P D = none) : Rel K C H σ env where
  len := r.len
  dat := r.dat
  own := fun i b ds e => by
    obtain ⟨a, ys, q1, q2, q3, q4, q5⟩ := r.own i b ds e
    refine ⟨a, ys, q1, q2, q3, q4, ?_⟩
    have q5 : (if a = D then some xs else C.P a) = none := q5
    split at q5
    · cases q5
    · exact q5
  bkd := r.bkd
  dis := r.dis
  keep := r.keep
  prot := fun a zs q => r.prot a zs (by
    show (if a = D then some xs else C.P a) = some zs
    rw [if_neg]
    · exact q
    · rintro rfl
      rw [hD] at q
      cases q)
  opq := r.opq
  tab := r.tab
theorem Rel.atP (r : Rel K (C.withP D xs) H σ env) : H D = some xs.ho := r.prot D xs (by show (if D = D then some xs else C.P D) = some xs; rw [if_pos rfl])
theorem Rel.offP (r : Rel K (C.withP D xs) H σ env) {i : Nat} {b : Bool} {ds : List PyData} (e : env[i]? = some (some (.own b ds))) : σ[i]? ≠ some (some (.ref D)) := fun z => by
  obtain ⟨a, ys, q1, q2, q3, q4, q5⟩ := r.own i b ds e
  rw [z] at q1
  cases q1
  have q5 : (if D = D then some xs else C.P D) = none := q5
  rw [if_pos rfl] at q5
  cases q5
theorem Rel.pushP (r : Rel K (C.withP D xs) H σ env) (h0 : Nk C.H0 D) : Rel K (C.withP D ys) (upd H D ys.ho) σ env := by
  have hD := r.atP
  have l : Le H (upd H D ys.ho) := Le.putO hD
  exact {
    len := r.len
    dat := fun i x e => by
      obtain ⟨v, q1, q2⟩ := r.dat i x e
      exact ⟨v, q1, Dz.le l _ q2⟩
    own := fun i b ds e => by
      obtain ⟨a, zs, q1, q2, q3, q4, q5⟩ := r.own i b ds e
      have q5' : (if a = D then some xs else C.P a) = none := q5
      split at q5'
      · cases q5'
      · rename_i hne
        refine ⟨a, zs, q1, by rw [upd_ne hne]; exact q2, DzAll.le l _ q3, q4, ?_⟩
        show (if a = D then some ys else C.P a) = none
        rw [if_neg hne]
        exact q5'
    bkd := r.bkd
    dis := r.dis
    keep := fun a o e1 e2 e3 => by
      have hne : a ≠ D := by
        rintro rfl
        obtain ⟨ps, z⟩ := h0 _ e1
        exact e3 ps z
      rw [upd_ne hne]
      exact r.keep a o e1 e2 e3
    prot := fun a zs q => by
      have q : (if a = D then some ys else C.P a) = some zs := q
      split at q
      · rename_i e
        cases q
        rw [e]; exact upd_same
      · rename_i e
        rw [upd_ne e]
        exact r.prot a zs (by show (if a = D then some xs else C.P a) = some zs; rw [if_neg e]; exact q)
    opq := r.opq
    tab := Tabs.putO hD r.tab }
end

section
variable {X : Cx} {T : List (Addr × Str)}
def anyE (T : List (Addr × Str)) (f : Ct → TE) : TE := fun σ H Q => ∃ C, C.T = T ∧ f C σ H Q
def anyT (T : List (Addr × Str)) (f : Ct → TT) : TT := fun σ H Q => ∃ C, C.T = T ∧ f C σ H Q
def anyG (f : Ct → TG) : TG := fun v σ H Q => ∃ C, f C v σ H Q
theorem pe_any {e : Expr} {f : Ct → TE} (h : ∀ C, C.T = T → PE X e (f C)) : PE X e (anyE T f) := ⟨fun pins s σ H Q I ⟨C, hC, q⟩ => (h C hC).run pins s σ H Q I q⟩
theorem pts_any {e : List Expr} {f : Ct → TT} (h : ∀ C, C.T = T → PTs X e (f C)) : PTs X e (anyT T f) := ⟨fun pins s σ H Q I ⟨C, hC, q⟩ => (h C hC).run pins s σ H Q I q⟩
theorem pg_any {e : Expr} {f : Ct → TG} (h : ∀ C, PG X e (f C)) : PG X e (anyG f) := ⟨fun pins s σ H v u Q I r ⟨C, q⟩ => (h C).run pins s σ H v u Q I r q⟩
structure DTs (X : Cx) (T : List (Addr × Str)) (W : WX) (ifs : List Expr) (m : M Bool) : Prop where
  pts : ∀ C : Ct, C.T = T → PTs X ifs (liftT X.K X.mg C W m)
theorem dts_nil {W : WX} : DTs X T W [] mYes := by
  refine ⟨fun C hC => ⟨fun pins s σ H Q I h => pts_nil.run pins s σ H Q I ?_⟩⟩
  obtain ⟨env, r, h⟩ := h
  exact h true H r rfl (.refl H)
theorem dts_one {W : WX} {c : Expr} {m : M Bool} (h : DT X T W c m) : DTs X T W [c] m := ⟨fun C hC => pts_one (h.pt C hC)⟩
abbrev Wno : WX := fun _ _ _ _ => False
/-- a block of the comprehension -/
structure Blk (X : Cx) (T : List (Addr × Str)) (scope : Scope) (elt tg : Expr) (ifs : List Expr) (vs : List Nat) (g : PyData → M Unit) (t : M Bool) (e : M Vl) : Prop where
  g : ∀ (s : Shared) (H : Hp) (C : Addr) (cl : List (Str × Addr)) (fp : List Addr), DG (X.blk s H scope (compEnvC scope cl C X.env) fp) tg vs g
  t : ∀ (s : Shared) (H : Hp) (C : Addr) (cl : List (Str × Addr)) (fp : List Addr), DTs (X.blk s H scope (compEnvC scope cl C X.env) fp) T Wno ifs t
  e : ∀ (s : Shared) (H : Hp) (C : Addr) (cl : List (Str × Addr)) (fp : List Addr), DE (X.blk s H scope (compEnvC scope cl C X.env) fp) T Wno elt e
/-- an expression's value frozen, the heap's step a ghost -/
def gst (X : Cx) (t : TE) : TE := fun σ H Q => t σ H fun v H1 => Ghost X σ (Q v) H1
end
end DL
end

/- DL10 -/
section
set_option maxHeartbeats 4000000
namespace DL
open PySem PySem.Spec PyProof.Rows L2

section
variable {X : Cx} {T : List (Addr × Str)} {scope : Scope} {elt tg iter : Expr} {ifs : List Expr} {vs : List Nat} {g : PyData → M Unit} {t : M Bool} {e : M Vl} {mi : M Src}
/-- frozen, whatever the block -/
def frzAll (X : Cx) (scope : Scope) (t : TE) : TE := fun σ H Q => t σ H fun v H1 => ∀ (s : Shared) (H' : Hp) (C : Addr) (cl : List (Str × Addr)) (fp : List Addr), Ghost (X.blk s H' scope (compEnvC scope cl C X.env) fp) σ (Q v) H1
def teB (X : Cx) (T : List (Addr × Str)) (scope : Scope) (e : M Vl) : TE := frzAll X scope (anyE T fun C => lift X.K X.mg C Wno e)
def ttB (X : Cx) (T : List (Addr × Str)) (t : M Bool) : TT := anyT T fun C => liftT X.K X.mg C Wno t
def tgB (X : Cx) (vs : List Nat) (g : PyData → M Unit) : TG := anyG fun C => liftG X.K C vs g
theorem Blk.pe (b : Blk X T scope elt tg ifs vs g t e) (s : Shared) (H : Hp) (C : Addr) (cl : List (Str × Addr)) (fp : List Addr) : PE (X.blk s H scope (compEnvC scope cl C X.env) fp) elt (teB X T scope e) := by
  refine ⟨fun pins s1 σ H1 Q I h => ?_⟩
  have h0 := (pe_any (b.e s H C cl fp).pe).run pins s1 σ H1 _ I h
  exact ep_ghost (thn h0 fun v s2 ⟨x, H2, I2, r2, q2⟩ => ⟨x, H2, I2, r2, q2 s H C cl fp⟩)
theorem Blk.pt (b : Blk X T scope elt tg ifs vs g t e) (s : Shared) (H : Hp) (C : Addr) (cl : List (Str × Addr)) (fp : List Addr) : PTs (X.blk s H scope (compEnvC scope cl C X.env) fp) ifs (ttB X T t) := pts_any (b.t s H C cl fp).pts
theorem Blk.pg (b : Blk X T scope elt tg ifs vs g t e) (s : Shared) (H : Hp) (C : Addr) (cl : List (Str × Addr)) (fp : List Addr) : PG (X.blk s H scope (compEnvC scope cl C X.env) fp) tg (tgB X vs g) := pg_any (b.g s H C cl fp).pg

section
variable {C : Ct} {W : WX} {σ : L2.St} {H H1 : Hp} {env env1 : En} {D : Addr}
theorem clr_ok {env' : En} {u : Unit} (h : clr vs env = .ok u env') : noOwn vs env = true ∧ env' = wipeE env vs := by
  unfold clr at h
  split at h
  · cases h; exact ⟨by assumption, rfl⟩
  · cases h
/-- a turn of the block -/
theorem lc_turn {d : PyData} {acc acc' : List PyData} {xs : List V} {env' : En} {x : V} {Nx : Hp → Prop} (hC : C.T = T) (h0 : Nk C.H0 D) (r : Rel X.K (C.withP D (.l xs)) H (L2.wipe σ vs) env) (hz : DzAll X.K H xs acc) (hx : Dz X.K H x d)
    (he : lcTurn vs g t e d acc env = .ok acc' env') (q : ∀ H' ys, Le H H' → Rel X.K (C.withP D (.l ys)) H' (L2.wipe σ vs) env' → DzAll X.K H' ys acc' → Nx H') :
    tgB X vs g x (L2.wipe σ vs) H fun σ2 H2 => L2.wipe σ2 vs = L2.wipe σ vs ∧ ttB X T t σ2 H2 fun b H3 =>
      if b = true then teB X T scope e σ2 H3 fun y H4 => ∃ acc, H4 D = some (.lst acc) ∧ acc.length < sizeLine ∧ Nx (upd H4 D (.lst (acc ++ [y]))) else Nx H3 := by
  unfold lcTurn at he
  obtain ⟨_, env2, e1, he⟩ := noE_bind_ok he
  obtain ⟨k, env3, e2, he⟩ := noE_bind_ok he
  have e1 := noE_ok e1
  have e2 := noE_ok e2
  refine ⟨C.withP D (.l xs), env, d, r, hx, ?_⟩
  rw [e1]
  intro σ2 r2 hw
  rw [wipe_wipe] at hw
  refine ⟨hw, C.withP D (.l xs), hC, env2, r2, ?_⟩
  rw [e2]
  rintro k' H3 r3 rfl l3
  cases k' with
  | false =>
    rw [if_neg Bool.false_ne_true] at he ⊢
    obtain ⟨_, env4, e4, he⟩ := noE_bind_ok he
    cases he
    obtain ⟨hn, rfl⟩ := clr_ok e4
    refine q H3 xs l3 ?_ (DzAll.le l3 _ hz)
    rw [← hw]
    exact r3.wipe hn
  | true =>
    rw [if_pos rfl] at he ⊢
    obtain ⟨v, env4, e4, he⟩ := noE_bind_ok he
    have e4 := noE_ok e4
    obtain ⟨y, env5, e5, he⟩ := noE_bind_ok he
    by_cases hl : acc.length < sizeLine
    · rw [if_pos hl] at he
      obtain ⟨_, env6, e6, he⟩ := noE_bind_ok he
      cases he
      obtain ⟨hn, rfl⟩ := clr_ok e6
      refine ⟨C.withP D (.l xs), hC, env3, r3, ?_⟩
      rw [e4]
      intro u H4 r4 hv l4 s' H' C' cl fp
      refine (leak_ok (X := X.blk s' H' scope (compEnvC scope cl C' X.env) fp) r4 hv e5).imp fun H5 ⟨r5, z5, l5, _, _⟩ => ?_
      have hD := r5.atP
      have ll : Le H (upd H5 D (.lst (xs ++ [u]))) := (l3.trans (l4.trans l5)).trans (Le.put hD)
      refine ⟨xs, hD, by rw [hz.length]; exact hl, q _ (xs ++ [u]) ll ?_ ?_⟩
      · have := (r5.pushP (ys := .l (xs ++ [u])) h0).wipe (vs := vs) hn
        rw [hw] at this
        exact this
      · exact (DzAll.le ll _ hz).append (.cons (Dz.le (Le.put hD) _ z5) .nil)
    · exact absurd he (by rw [if_neg hl]; exact fun z => by cases z)
def AtS (K : PySem.W.Frag) (J : It) (i : Nat) (H : Hp) : Option PyData → Prop
  | none => J.stop i H
  | some d => J.go i H ∧ ∀ x H', J.yld i H x H' → Same H H' ∧ Dz K H' x d
/-- the loop from turn i -/
theorem lc_loop {src : Src} {J : It} {Q : VK} (hC : C.T = T) (hs : SrcR X.K σ J H1 src) (hv : noOwn vs env1 = true) (r1 : Rel X.K C H1 σ env1) (hD : H1 D = none) (hjn : ∀ j, src = .own j → j ∉ vs)
    (n : Nat) (ds : List PyData) (envE : En) (he : lcN src vs g t e (n + 1) 0 [] (wipeE env1 vs) = .ok ds envE)
    (q : ∀ H', Rel X.K C H' σ (restE env1 envE vs) → OR X.K C σ (.ref D) H' ds (restE env1 envE vs) → Le H1 H' → Q (.ref D) H') :
    ∃ Wv : Nat → Nat → Hp → Prop, (∃ m, Wv 0 m (upd H1 D (.lst []))) ∧ ∀ i m H, Wv i m H →
      (J.stop i H ∧ Q (.ref D) H) ∨ (J.go i H ∧ ∃ Nx : Hp → Prop, (∀ H', Nx H' → ∃ m', m' < m ∧ Wv (i + 1) m' H') ∧ ∀ x H', J.yld i H x H' → tgB X vs g x (L2.wipe σ vs) H' fun σ2 H2 => L2.wipe σ2 vs = L2.wipe σ vs ∧ ttB X T t σ2 H2 fun b H3 =>
        if b = true then teB X T scope e σ2 H3 fun y H4 => ∃ acc, H4 D = some (.lst acc) ∧ acc.length < sizeLine ∧ Nx (upd H4 D (.lst (acc ++ [y]))) else Nx H3) := by
  have h0 : Nk C.H0 D := r1.dom D hD
  have hP : C.P D = none := r1.domP hD
  refine ⟨fun i m H => (∀ items, src = .fix items → i ≤ items.length) ∧ Le H1 H ∧ ∃ env acc xs, Rel X.K (C.withP D (.l xs)) H (L2.wipe σ vs) env ∧ DzAll X.K H xs acc ∧ lcN src vs g t e m i acc env = .ok ds envE, ⟨n + 1, ?_⟩, ?_⟩
  · have sm : Same H1 (upd H1 D (.lst [])) := Same.new hD
    refine ⟨fun _ _ => Nat.zero_le _, .same sm, _, [], [], ?_, .nil, he⟩
    have r2 := r1.grow sm
    refine Rel.wipe (r2.addP upd_same fun i b ds e1 e2 => ?_) hv
    obtain ⟨a, ys, q1, q2, _⟩ := r1.own i b ds e1
    rw [e2] at q1
    cases q1
    rw [hD] at q2
    cases q2
  · rintro i m H ⟨hle, l, env, acc, xs, r, hz, he⟩
    cases m with
    | zero => cases he
    | succ m =>
      unfold lcN at he
      obtain ⟨o, env2, e1, he⟩ := noE_bind_ok he
      -- what the source is at this turn
      have key : env2 = env ∧ AtS X.K J i H o := by
        cases src with
        | fix items =>
          have e1 : o = items[i]? ∧ env2 = env := by cases e1; exact ⟨rfl, rfl⟩
          obtain ⟨eo, e1⟩ := e1
          refine ⟨e1, ?_⟩
          rw [eo]
          have hle := hle items rfl
          by_cases hlt : i < items.length
          · rw [List.getElem?_eq_getElem hlt]
            exact ⟨hs.go i H l hlt, fun x H' y => hs.yld i H x H' _ l y (List.getElem?_eq_getElem hlt)⟩
          · have e : i = items.length := by omega
            subst e
            rw [List.getElem?_eq_none (Nat.le_refl _)]
            exact hs.stop H l
        | own j =>
          unfold srcAt at e1
          dsimp only at e1
          split at e1
          · rename_i b es hj
            have e1 : o = es[i]? ∧ env2 = env := by cases e1; exact ⟨rfl, rfl⟩
            obtain ⟨eo, e1⟩ := e1
            refine ⟨e1, ?_⟩
            rw [eo]
            obtain ⟨a, hσ, hs⟩ := hs
            obtain ⟨a', ys, q1, q2, q3, _⟩ := r.own j b es hj
            rw [wipe_get, if_neg (fun z => hjn j rfl z.1), hσ] at q1
            cases q1
            obtain ⟨s1, s2, s3⟩ := hs i H ys q2
            by_cases hlt : i < es.length
            · rw [List.getElem?_eq_getElem hlt]
              refine ⟨s1 (by rw [q3.length]; exact hlt), fun x H' y => ?_⟩
              obtain ⟨rfl, hx⟩ := s2 x H' y
              obtain ⟨d, e', z⟩ := q3.getV hx
              rw [List.getElem?_eq_getElem hlt] at e'
              cases e'
              exact ⟨.refl _, z⟩
            · rw [List.getElem?_eq_none (by omega)]
              exact s3 (by rw [q3.length]; omega)
          · cases e1
      obtain ⟨ee, key⟩ := key
      subst ee
      cases o with
      | none =>
        cases he
        refine .inl ⟨key, q H ((r.unP hP).rest r1 l hv) ⟨D, xs, rfl, r.atP, hz, h0, hP, fun k b es e2 e3 => ?_⟩ l⟩
        have hl := show env1.length = envE.length by rw [r1.len, r.len, wipe_length]
        rw [restE_get hl] at e2
        split at e2
        · exact noOwn_get hv (by assumption) e2
        · rename_i hn
          refine r.offP e2 ?_
          rw [wipe_get, if_neg (fun z => hn z.1)]
          exact e3
      | some d =>
        obtain ⟨acc', env3, e2, he⟩ := noE_bind_ok he
        have hle' : ∀ items, src = .fix items → i + 1 ≤ items.length := by
          rintro items rfl
          have e1 : R.ok items[i]? env2 = R.ok (some d) env2 := e1
          have e1 : items[i]? = some d := by injection e1
          exact (List.getElem?_eq_some_iff.mp e1).1
        refine .inr ⟨key.1, fun H => (∀ items, src = .fix items → i + 1 ≤ items.length) ∧ Le H1 H ∧ ∃ env acc xs, Rel X.K (C.withP D (.l xs)) H (L2.wipe σ vs) env ∧ DzAll X.K H xs acc ∧ lcN src vs g t e m (i + 1) acc env = .ok ds envE, fun H' p => ⟨m, Nat.lt_succ_self m, p⟩, fun x H' y => ?_⟩
        obtain ⟨sm, zx⟩ := key.2 x H' y
        exact lc_turn hC h0 (r.grow sm) (DzAll.le (.same sm) _ hz) zx e2 fun H'' ys l' r' z' => ⟨hle', (l.trans (.same sm)).trans l', env3, acc', ys, r', z', he⟩
end
theorem lc_go {C : Ct} {W : WX} {σ : L2.St} {H : Hp} {Q : VK} (hC : C.T = T) (hov : ∀ i ∈ vs, True) (h : ∃ env, Rel X.K C H σ env ∧ Lf X.K X.mg C W σ H (OR X.K C σ) (mLc vs mi g t e env) Q) (hjn : ∀ j env env', mi env = .ok (.own j) env' → j ∉ vs) :
    tLc (liftI X.K X.mg C W mi) (tgB X vs g) (ttB X T t) (teB X T scope e) vs σ H Q := by
  obtain ⟨env, r, h⟩ := h
  refine ⟨env, r, ?_⟩
  unfold mLc at h
  cases e0 : mi env with
  | err x env' => rw [M.bind_err e0] at h; exact h
  | stuck => rw [M.bind_stuck e0] at h; exact h.elim
  | ok src env1 =>
    rw [M.bind_ok e0] at h
    intro J H1 r1 hs l1 D hD
    unfold lcRun at h
    split at h
    · rename_i n envn hn
      split at h
      · rename_i ds envE hE
        obtain ⟨_, env2, e2, e3⟩ := noE_bind_ok hE
        obtain ⟨hv, rfl⟩ := clr_ok e2
        exact lc_loop (Q := Q) hC hs hv r1 hD (fun j ej => hjn j env env1 (by rw [e0, ej])) n ds envE e3 fun H' r' o' l' => h (.ref D) H' r' o' (l1.trans l')
      · exact h.elim
    · exact h.elim
/-- a source that walks no own list -/
def NoJ (vs : List Nat) (mi : M Src) : Prop := ∀ j env env', mi env = .ok (.own j) env' → j ∉ vs
theorem noj_own {j : Nat} (h : j ∉ vs) : NoJ vs (mOwn j) := fun k env env' e => by
  unfold mOwn at e
  split at e <;> cases e
  exact h
theorem noj_items {m : M Vl} : NoJ vs (mItems m) := fun k env env' e => by
  obtain ⟨v, env1, _, e⟩ := noE_bind_ok e
  obtain ⟨d, env2, _, e⟩ := noE_bind_ok e
  cases q : seqI d with
  | none => rw [q] at e; cases e
  | some x => rw [q] at e; cases e
theorem noj_range1 {m : M (List Vl)} : NoJ vs (mRange1 m) := fun k env env' e => by
  obtain ⟨v, env1, _, e⟩ := noE_bind_ok e
  obtain ⟨d, env2, _, e⟩ := noE_bind_ok e
  split at e
  · split at e <;> cases e
  · cases e
theorem noj_range2 {m : M (List Vl)} : NoJ vs (mRange2 m) := fun k env env' e => by
  obtain ⟨v, env1, _, e⟩ := noE_bind_ok e
  obtain ⟨d, env2, _, e⟩ := noE_bind_ok e
  split at e
  · split at e <;> cases e
  · cases e
theorem noj_opt {m : M (List Vl)} {f : List PyData → Option Src} (hf : ∀ ds s, f ds = some s → ∃ items, s = .fix items) : NoJ vs (M.bind m fun vs => M.bind (leakAll vs) fun ds => M.opt (f ds)) := fun k env env' e => by
  obtain ⟨v, env1, _, e⟩ := noE_bind_ok e
  obtain ⟨d, env2, _, e⟩ := noE_bind_ok e
  cases q : f d with
  | none => rw [q] at e; cases e
  | some x =>
    rw [q] at e
    obtain ⟨items, rfl⟩ := hf _ _ q
    cases e
theorem noj_zip {m : M (List Vl)} : NoJ vs (mZip m) := noj_opt fun ds s e => by
  obtain ⟨_, _, _, _, _, _, _, _, _, rfl⟩ := zipS_inv e
  exact ⟨_, rfl⟩
theorem noj_enum {m : M (List Vl)} : NoJ vs (mEnum m) := noj_opt fun ds s e => by
  obtain ⟨_, _, _, _, _, rfl⟩ := enumS_inv e
  exact ⟨_, rfl⟩
theorem noj_enumK {m : M (List Vl)} : NoJ vs (mEnumK m) := noj_opt fun ds s e => by
  obtain ⟨_, _, _, _, _, _, _, _, rfl⟩ := enumK_inv e
  exact ⟨_, rfl⟩
theorem do_lc {W : WX} {own : List (Str × Nat)} {pos : Pos} (hc : X.calm = true) (hN : X.N.Nodup) (hi : DI X T W tg iter mi) (ok : BlkOk X.N X.env.scope scope own) (b : Blk X T scope elt tg ifs (own.map (·.2)) g t e) (hj : NoJ (own.map (·.2)) mi)
    (hs : ∀ x, foldedSetIterable iter X.env x = pure x := by intro _; rfl) : DO X T W (.ListComp elt [⟨tg, iter, ifs, 0⟩] scope pos) (mLc (own.map (·.2)) mi g t e) := by
  refine ⟨fun C hC => ⟨fun pins s σ H Q I h => (pe_lc hc hN (hi.pi C hC) ok b.pg b.pt b.pe hs).run pins s σ H Q I ?_⟩⟩
  exact lc_go hC (fun _ _ => trivial) h hj
theorem ds_setLcO {W : WX} {i : Nat} {y : Str} {py : Pos} {own : List (Str × Nat)} {pos spos : Pos} (hc : X.calm = true) (hN : X.N.Nodup) (hy : X.N[i]? = some y) (hyl : X.env.scope.names.lookup y = some .local)
    (hsw : swapsWith (.ListComp elt [⟨tg, iter, ifs, 0⟩] scope pos) (some (.Name y py)) spos.line X.env = pure true) (hi : DI X T W tg iter mi) (ok : BlkOk X.N X.env.scope scope own) (b : Blk X T scope elt tg ifs (own.map (·.2)) g t e) (hj : NoJ (own.map (·.2)) mi)
    (hs : ∀ x, foldedSetIterable iter X.env x = pure x := by intro _; rfl) : DS X T W (.Assign [.Name y py] (.ListComp elt [⟨tg, iter, ifs, 0⟩] scope pos) spos) (sSetO i (mLc (own.map (·.2)) mi g t e)) := by
  refine ⟨fun C hC => ⟨fun pins s σ H D I h => (ps_setLc hc hN hy hyl hsw (hi.pi C hC) ok b.pg b.pt b.pe hs).run pins s σ H D I ?_⟩⟩
  obtain ⟨env, r, h⟩ := h
  refine lc_go (W := W) hC (fun _ _ => trivial) ⟨env, r, Sf.bind h fun u H1 v env1 r1 hv l1 h1 => ?_⟩ hj
  obtain ⟨hn, q⟩ := Sf.sto h1
  exact q _ _ (r1.stoO hv hn) (.refl _)
end
end DL
end

/- DL11 -/
section
set_option maxHeartbeats 4000000
namespace DL
open PySem PySem.Spec PyProof.Rows L2

/-! ### calls -/
def startE (n : Nat) (evs : List EV) : En := evs.map some ++ List.replicate (n - evs.length) none
def bkOf (σ : L2.St) : Option (Nat × Nat) → Nat → Option Addr
  | none, _ => none
  | some (j, i), k => if k = j then (match σ[i]? with
    | some (some (.ref a)) => some a
    | _ => none) else none
theorem bkOf_self {σ : L2.St} {j i : Nat} {a : Addr} (h : σ[i]? = some (some (.ref a))) : bkOf σ (some (j, i)) j = some a := by
  show (if j = j then (match σ[i]? with
    | some (some (.ref a)) => some a
    | _ => none) else none) = some a
  rw [if_pos rfl, h]
theorem bkOf_inv {σ : L2.St} {lt : Option (Nat × Nat)} {k : Nat} {c : Addr} (h : bkOf σ lt k = some c) : ∃ i, lt = some (k, i) ∧ σ[i]? = some (some (.ref c)) := by
  match lt, h with
  | some (j, i), h0 =>
    have h : (if k = j then (match σ[i]? with
      | some (some (.ref a)) => some a
      | _ => none) else none) = some c := h0
    clear h0
    split at h
    · rename_i e
      subst e
      split at h
      · rename_i a e
        cases h
        exact ⟨i, rfl, e⟩
      · cases h
    · cases h
structure ArgsOk (K : PySem.W.Frag) (H : Hp) (σ : L2.St) (env : En) (us : List V) (evs : List EV) (lt : Option (Nat × Nat)) : Prop where
  len : us.length = evs.length
  dat : ∀ (j : Nat) x, evs[j]? = some (.d x) → ∃ u, us[j]? = some u ∧ Dz K H u x
  own : ∀ (j : Nat) b es, evs[j]? = some (.own b es) → b = true ∧ ∃ i b' a, lt = some (j, i) ∧ env[i]? = some (some (.own b' es)) ∧ us[j]? = some (.ref a) ∧ σ[i]? = some (some (.ref a))
  nox : ∀ (j : Nat) v, evs[j]? ≠ some (.x v)
  lt : ∀ j i, lt = some (j, i) → ∃ es, evs[j]? = some (.own true es)
def backE (lt : Option (Nat × Nat)) (env env' : En) : En := match lt with
  | none => env
  | some (j, i) => match env'[j]?, env[i]? with
    | some (some (.own _ es)), some (some (.own b _)) => env.set i (some (.own b es))
    | _, _ => env
section
theorem pad_get {α : Type} {l : List α} {n j : Nat} {x : α} (h : (l.map some ++ List.replicate (n - l.length) none)[j]? = some (some x)) : l[j]? = some x := by
  by_cases hj : j < l.length
  · rw [List.getElem?_append_left (by rw [List.length_map]; exact hj), List.getElem?_map] at h
    cases e : l[j]? with
    | none => rw [e] at h; cases h
    | some y =>
      rw [e] at h
      cases h
      rfl
  · rw [List.getElem?_append_right (by rw [List.length_map]; omega), List.getElem?_replicate] at h
    split at h <;> cases h
theorem pad_get' {α : Type} {l : List α} {n j : Nat} {x : α} (h : l[j]? = some x) : (l.map some ++ List.replicate (n - l.length) none)[j]? = some (some x) := by
  have hj := (List.getElem?_eq_some_iff.mp h).1
  rw [List.getElem?_append_left (by rw [List.length_map]; exact hj), List.getElem?_map, h]
  rfl
variable {K : PySem.W.Frag} {C : Ct} {σ σ' : L2.St} {H H' : Hp} {env env' : En} {us : List V} {evs : List EV} {lt : Option (Nat × Nat)} {N : List Str}
abbrev callCt (C : Ct) (H : Hp) (σ : L2.St) (lt : Option (Nat × Nat)) : Ct := ⟨C.T, H, bkOf σ lt, fun _ => none⟩
theorem callee_start (r : Rel K C H σ env) (A : ArgsOk K H σ env us evs lt) : Rel K (callCt C H σ lt) H (L2.start N us) (startE N.length evs) where
  len := by
    unfold startE L2.start
    rw [List.length_append, List.length_append, List.length_map, List.length_map, List.length_replicate, List.length_replicate, A.len]
  dat := fun j x h => by
    obtain ⟨u, q1, q2⟩ := A.dat j x (pad_get h)
    exact ⟨u, pad_get' q1, q2⟩
  own := fun j b es h => by
    obtain ⟨rfl, i, b', a, q1, q2, q3, q4⟩ := A.own j b es (pad_get h)
    obtain ⟨a', xs, p1, p2, p3, p4, p5⟩ := r.own i b' es q2
    rw [q4] at p1
    cases p1
    refine ⟨a, xs, pad_get' q3, p2, p3, ?_, rfl⟩
    rw [if_pos rfl]
    show bkOf σ lt j = some a
    rw [q1]
    exact bkOf_self q4
  bkd := fun k a h => by
    have h : bkOf σ lt k = some a := h
    obtain ⟨i, e, _⟩ := bkOf_inv h
    obtain ⟨es, q⟩ := A.lt k i e
    exact ⟨es, pad_get' q⟩
  dis := fun j k b c es fs a hjk e1 e2 e3 e4 => by
    obtain ⟨_, i, b', a', q1, _⟩ := A.own j b es (pad_get e1)
    obtain ⟨_, i', b'', a'', q1', _⟩ := A.own k c fs (pad_get e2)
    rw [q1] at q1'
    cases q1'
    exact hjk rfl
  keep := fun a o h _ _ => h
  prot := fun a xs h => by cases h
  opq := fun j v h => absurd (pad_get h) (A.nox j v)
  tab := r.tab
theorem caller_back (r : Rel K C H σ env) (A : ArgsOk K H σ env us evs lt) (r' : Rel K (callCt C H σ lt) H' σ' env') (l : Le H H') : Rel K C H' σ (backE lt env env') := by
  -- what is not lent stays
  have stay : ∀ a o, H a = some o → (∀ j, bkOf σ lt j ≠ some a) → (∀ ps, o ≠ .tbl ps) → H' a = some o := fun a o h1 h2 h3 => r'.keep a o h1 h2 h3
  cases lt with
  | none =>
    have st : ∀ a o, H a = some o → (∀ ps, o ≠ .tbl ps) → H' a = some o := fun a o h1 h3 => stay a o h1 (fun j e => by cases e) h3
    exact {
      len := r.len
      dat := fun i x h => let ⟨v, q1, q2⟩ := r.dat i x h; ⟨v, q1, Dz.le l _ q2⟩
      own := fun i b ds h => let ⟨a, xs, q1, q2, q3, q4⟩ := r.own i b ds h; ⟨a, xs, q1, st _ _ q2 (fun ps z => by cases z), DzAll.le l _ q3, q4⟩
      bkd := r.bkd
      dis := r.dis
      keep := fun a o h1 h2 h3 => st _ _ (r.keep a o h1 h2 h3) h3
      prot := fun a xs h => st _ _ (r.prot a xs h) (PO.ntbl xs)
      opq := r.opq
      tab := r'.tab }
  | some p =>
    obtain ⟨j, i⟩ := p
    obtain ⟨es, q⟩ := A.lt j i rfl
    obtain ⟨_, i', b', a, e0, q2, q3, q4⟩ := A.own j true es q
    cases e0
    obtain ⟨a', xs, p1, p2, p3, p4, p5⟩ := r.own i b' es q2
    rw [q4] at p1
    cases p1
    have hb : bkOf σ (some (j, i)) j = some a := bkOf_self q4
    have hbo : ∀ k c, bkOf σ (some (j, i)) k = some c → c = a := fun k c h => by
      obtain ⟨i', e, q⟩ := bkOf_inv h
      cases e
      rw [q4] at q
      cases q
      rfl
    obtain ⟨es', g1⟩ := r'.bkd j a hb
    obtain ⟨a', ys, g2, g3, g4, g5, g6⟩ := r'.own j true es' g1
    rw [if_pos rfl] at g5
    have g5 : bkOf σ (some (j, i)) j = some a' := g5
    rw [hb] at g5
    cases g5
    have st : ∀ c o, H c = some o → c ≠ a → (∀ ps, o ≠ .tbl ps) → H' c = some o := fun c o h1 h2 h3 => stay c o h1 (fun k e => h2 (hbo k c e)) h3
    have eb : backE (some (j, i)) env env' = env.set i (some (.own b' es')) := by
      unfold backE
      dsimp only
      rw [g1, q2]
    rw [eb]
    exact {
      len := by rw [List.length_set]; exact r.len
      dat := fun k x h => by
        rcases get_set h with ⟨_, e⟩ | ⟨hne, h⟩
        · cases e
        · obtain ⟨v, q1, q2⟩ := r.dat k x h
          exact ⟨v, q1, Dz.le l _ q2⟩
      own := fun k b ds h => by
        rcases get_set h with ⟨rfl, e⟩ | ⟨hne, h⟩
        · cases e
          exact ⟨a, ys, q4, g3, g4, p4, p5⟩
        · obtain ⟨c, zs, q1, q2', q3', q4', q5'⟩ := r.own k b ds h
          have hc : c ≠ a := by
            rintro rfl
            exact r.dis i k b' b es ds c hne q2 h q4 q1
          exact ⟨c, zs, q1, st _ _ q2' hc (fun ps z => by cases z), DzAll.le l _ q3', q4', q5'⟩
      bkd := fun k c h => by
        obtain ⟨ds, e⟩ := r.bkd k c h
        by_cases hk : i = k
        · subst hk
          rw [q2] at e
          cases e
          exact ⟨es', List.getElem?_set_self (List.getElem?_eq_some_iff.mp q2).1⟩
        · exact ⟨ds, by rw [List.getElem?_set_ne hk]; exact e⟩
      dis := fun k m b c ds fs x hkm e1 e2 e3 e4 => by
        rcases get_set e1 with ⟨rfl, z1⟩ | ⟨n1, e1⟩
        · rcases get_set e2 with ⟨rfl, _⟩ | ⟨n2, e2⟩
          · exact hkm rfl
          · exact r.dis i m b' c es fs x hkm q2 e2 e3 e4
        · rcases get_set e2 with ⟨rfl, _⟩ | ⟨n2, e2⟩
          · exact r.dis k i b b' ds es x hkm e1 q2 e3 e4
          · exact r.dis k m b c ds fs x hkm e1 e2 e3 e4
      keep := fun c o h1 h2 h3 => by
        have hc : c ≠ a := by
          rintro rfl
          cases b' with
          | true => exact h2 i p4
          | false =>
            have p4 : Nk C.H0 c := p4
            obtain ⟨ps, z⟩ := p4 _ h1
            exact h3 ps z
        exact st _ _ (r.keep c o h1 h2 h3) hc h3
      prot := fun c zs h => by
        have hc : c ≠ a := by
          rintro rfl
          rw [p5] at h
          cases h
        exact st _ _ (r.prot c zs h) hc (PO.ntbl zs)
      opq := fun j v h => by
        rcases get_set h with ⟨_, ex⟩ | ⟨_, h⟩
        · cases ex
        · exact r.opq j v h
      tab := r'.tab }
end
/-- the promise of a def: its body's reading -/
def prom (T : List (Addr × Str)) (mg : Str → Option Value) (K : PySem.W.Frag) (np : Nat) (N : List Str) (m : M Fl) : Sp := fun vs H Q E => vs.length = np ∧ ∃ bk env, Rel K ⟨T, H, bk, fun _ => none⟩ H (L2.start N vs) env ∧
  Sf K mg ⟨T, H, bk, fun _ => none⟩ (fun cls d _ H => E cls d H) H (m env) { nx := fun _ H' => Q .non H', rt := Q }
/-- what a call gives -/
def fin (np : Nat) (m : M Fl) (n : Nat) (evs : List EV) (lt : Option (Nat × Nat)) : M RVl := fun env => if evs.length = np then (match m (startE n evs) with
  | .ok .next env' => .ok (.d .none) (backE lt env env')
  | .ok (.ret v) env' => .ok v (backE lt env env')
  | .err e env' => .err e (backE lt env env')
  | _ => .stuck) else .stuck
def callR0 (np : Nat) (m : M Fl) (n : Nat) (ms : M (List Vl)) : M RVl := M.bind ms fun vs => M.bind (leakAll vs) fun ds => fin np m n (ds.map .d) none
def slAt (vs : List Vl) (j : Nat) : Option Nat := match vs[j]? with
  | some (.sl i) => some i
  | _ => none
def ownAt (i : Nat) : M (List PyData) := fun env => match env[i]? with
  | some (some (.own _ ds)) => .ok ds env
  | _ => .stuck
theorem slAt_some {vs : List Vl} {i j : Nat} (h : slAt vs j = some i) : vs[j]? = some (.sl i) := by
  unfold slAt at h
  split at h
  · rename_i e
    cases h
    exact e
  · cases h
theorem ownAt_ok {i : Nat} {env env' : En} {ds : List PyData} (e : ownAt i env = .ok ds env') : env' = env ∧ ∃ b, env[i]? = some (some (.own b ds)) := by
  unfold ownAt at e
  split at e
  · rename_i b ds' h
    cases e
    exact ⟨rfl, b, h⟩
  · cases e
theorem ownAt_noerr {i : Nat} {env env' : En} {x : Er} : ownAt i env ≠ .err x env' := by
  unfold ownAt
  split <;> exact fun z => by cases z
def callR1 (np : Nat) (m : M Fl) (n : Nat) (j : Nat) (ms : M (List Vl)) : M RVl := M.bind ms fun vs => M.bind (M.opt (slAt vs j)) fun i => M.bind (leakAll (vs.set j (.d .none))) fun ds => M.bind (ownAt i) fun es => fin np m n ((ds.map EV.d).set j (.own true es)) (some (j, i))
def asD (m : M RVl) : M Vl := M.bind m fun v => match v with
  | .d x => mC x
  | .o _ => M.stuck
def asO (m : M RVl) : M (List PyData) := M.bind m fun v => match v with
  | .d _ => M.stuck
  | .o ds => M.pure ds
section
variable {X : Cx} {C : Ct} {T : List (Addr × Str)} {W : WX} {σ : L2.St} {H : Hp} {env : En} {us : List V} {evs : List EV} {lt : Option (Nat × Nat)} {N : List Str} {m : M Fl}
/-- the callee's promise from the caller's reading -/
theorem fin_prom {np : Nat} {Q : VK} (hC : C.T = T) (r : Rel X.K C H σ env) (A : ArgsOk X.K H σ env us evs lt) 
    (h : Lf X.K X.mg C W σ H (fun u H v env => RR X.K C σ u H env v) (fin np m N.length evs lt env) Q) : prom T X.mg X.K np N m us H Q (WE W σ) := by
  unfold fin at h
  by_cases hl : evs.length = np
  case neg => rw [if_neg hl] at h; exact h.elim
  rw [if_pos hl] at h
  refine ⟨A.len.trans hl, bkOf σ lt, startE N.length evs, ?_, ?_⟩
  · have := callee_start (N := N) r A
    unfold callCt at this
    rw [hC] at this
    exact this
  · have key : ∀ {σ' H' env'}, Rel X.K ⟨T, H, bkOf σ lt, fun _ => none⟩ H' σ' env' → Le H H' → Rel X.K C H' σ (backE lt env env') := fun {σ' H' env'} r' l => caller_back r A (by unfold callCt; rw [hC]; exact r') l
    cases e : m (startE N.length evs) with
    | ok fl env' =>
      rw [e] at h
      cases fl with
      | next => exact fun σ' H' r' l => h .non H' (key r' l) .non l
      | brk => exact h.elim
      | cont => exact h.elim
      | ret v =>
        intro u σ' H' r' rr l
        have rb := key r' l
        refine h u H' rb ?_ l
        cases v with
        | d x => exact rr
        | o ds =>
          obtain ⟨p, xs, e1, e2, e3, e4, e5, e6⟩ := rr
          have e4 : Nk H p := e4
          have hP : C.P p = none := by
            cases e : C.P p with
            | none => rfl
            | some zs =>
              obtain ⟨ps, z⟩ := e4 _ (r.prot p zs e)
              exact absurd z (PO.ntbl _ _)
          refine ⟨p, xs, e1, e2, e3, r.nk e4, hP, fun k b es q1 q2 => ?_⟩
          obtain ⟨a, ys, p1, p2, p3, p4, p5⟩ := rb.own k b es q1
          rw [q2] at p1
          cases p1
          -- the slot's list was there before the call
          have : ∃ b es, env[k]? = some (some (.own b es)) := by
            unfold backE at q1
            split at q1
            · exact ⟨b, es, q1⟩
            · split at q1
              · rename_i j i _ _ _ b0 es0 _ g
                rcases get_set q1 with ⟨rfl, _⟩ | ⟨_, q1⟩
                · exact ⟨_, _, g⟩
                · exact ⟨b, es, q1⟩
              · exact ⟨b, es, q1⟩
          obtain ⟨b1, es1, q⟩ := this
          obtain ⟨a, zs, p1, p2, _⟩ := r.own k b1 es1 q
          rw [q2] at p1
          cases p1
          obtain ⟨ps, z⟩ := e4 _ p2
          cases z
    | err x env' =>
      rw [e] at h
      exact fun cls od σ' H' r' z l => h cls od H' (key r' l) z l
    | stuck => rw [e] at h; exact h.elim
end
end DL
end

/- DL12 -/
section
set_option maxHeartbeats 4000000
namespace DL
open PySem PySem.Spec PyProof.Rows L2

/-! ### a value, data or a new own list -/
def liftV (K : PySem.W.Frag) (mg : Str → Option Value) (C : Ct) (W : WX) (m : M RVl) : TE := fun σ H Q => ∃ env, Rel K C H σ env ∧ Lf K mg C W σ H (fun u H v env => RR K C σ u H env v) (m env) Q
structure DV (X : Cx) (T : List (Addr × Str)) (W : WX) (e : Expr) (m : M RVl) : Prop where
  pe : ∀ C : Ct, C.T = T → PE X e (liftV X.K X.mg C W m)
/-- a def that the walk knows -/
structure FnD (P : Program) (w : World) (K : PySem.W.Frag) (mg : Str → Option Value) (base : Heap) (T : List (Addr × Str)) (k : Nat) (x : Str) (np : Nat) (N : List Str) (m : M Fl) : Prop where
  ex : ∃ f fd ps, FnOk P w K mg base (L2.CX P w) k f fd ps (prom T mg K np N m) ∧ mg x = some (.ref f) ∧ PySem.W.keepIn K (.ref f) = true ∧ Binds K fd ps []
theorem VRs.set {K : PySem.W.Frag} {σ : L2.St} {H : Hp} {u : V} {v : Vl} (r : VR K σ u H v) : ∀ {us : List V} {vs : List Vl} (j : Nat), VRs K σ H us vs → VRs K σ H (us.set j u) (vs.set j v)
  | [], [], _, _ => trivial
  | _ :: _, _ :: _, 0, h => ⟨r, h.2⟩
  | _ :: _, _ :: _, j + 1, h => ⟨h.1, VRs.set r j h.2⟩
  | [], _ :: _, _, h => h.elim
  | _ :: _, [], _, h => h.elim
theorem VRs.get {K : PySem.W.Frag} {σ : L2.St} {H : Hp} {v : Vl} : ∀ {us : List V} {vs : List Vl} {j : Nat}, VRs K σ H us vs → vs[j]? = some v → ∃ u, us[j]? = some u ∧ VR K σ u H v
  | [], [], _, _, e => by simp at e
  | u :: _, _ :: _, 0, h, e => by simp at e; subst e; exact ⟨u, rfl, h.1⟩
  | _ :: _, _ :: _, j + 1, h, e => by simpa using VRs.get h.2 (by simpa using e)
  | [], _ :: _, _, h, _ => h.elim
  | _ :: _, [], _, h, _ => h.elim
section
variable {X : Cx} {T : List (Addr × Str)} {W : WX} {x : Str} {p pos : Pos} {e : Expr} {es : List Expr} {ms : M (List Vl)} {m : M Fl} {k np : Nat} {N : List Str}
theorem argsOk_data {K : PySem.W.Frag} {σ : L2.St} {H : Hp} {env : En} {us : List V} {ds : List PyData} (z : DzAll K H us ds) : ArgsOk K H σ env us (ds.map EV.d) none where
  len := by rw [List.length_map]; exact z.length
  dat := fun j x h => by
    rw [List.getElem?_map] at h
    cases e : ds[j]? with
    | none => rw [e] at h; cases h
    | some d =>
      rw [e] at h
      cases h
      exact z.get e
  own := fun j b es h => by
    rw [List.getElem?_map] at h
    cases e : ds[j]? with
    | none => rw [e] at h; cases h
    | some d => rw [e] at h; cases h
  nox := fun j v h => by
    rw [List.getElem?_map] at h
    cases e : ds[j]? with
    | none => rw [e] at h; cases h
    | some d => rw [e] at h; cases h
  lt := fun j i h => by cases h
theorem argsOk_lent {K : PySem.W.Frag} {σ : L2.St} {H : Hp} {env : En} {us : List V} {ds es : List PyData} {i j : Nat} {b : Bool} {a : Addr} (z : DzAll K H (us.set j .non) ds) (hi : env[i]? = some (some (.own b es))) (hu : us[j]? = some (.ref a)) (hs : σ[i]? = some (some (.ref a))) :
    ArgsOk K H σ env us ((ds.map EV.d).set j (.own true es)) (some (j, i)) where
  len := by
    have := z.length
    rw [List.length_set] at this
    rw [List.length_set, List.length_map]
    exact this
  dat := fun k x h => by
    by_cases e : j = k
    · subst e
      by_cases hl : j < (ds.map EV.d).length
      · rw [List.getElem?_set_self hl] at h
        cases h
      · rw [List.getElem?_eq_none (by rw [List.length_set]; omega)] at h
        cases h
    · rw [List.getElem?_set_ne e, List.getElem?_map] at h
      cases q : ds[k]? with
      | none => rw [q] at h; cases h
      | some d =>
        rw [q] at h
        cases h
        obtain ⟨u, g1, g2⟩ := z.get q
        rw [List.getElem?_set_ne e] at g1
        exact ⟨u, g1, g2⟩
  own := fun k c fs h => by
    by_cases e : j = k
    · subst e
      by_cases hl : j < (ds.map EV.d).length
      · rw [List.getElem?_set_self hl] at h
        cases h
        exact ⟨rfl, i, b, a, rfl, hi, hu, hs⟩
      · rw [List.getElem?_eq_none (by rw [List.length_set]; omega)] at h
        cases h
    · rw [List.getElem?_set_ne e, List.getElem?_map] at h
      cases q : ds[k]? with
      | none => rw [q] at h; cases h
      | some d => rw [q] at h; cases h
  nox := fun k v h => by
    by_cases e : j = k
    · subst e
      by_cases hl : j < (ds.map EV.d).length
      · rw [List.getElem?_set_self hl] at h
        cases h
      · rw [List.getElem?_eq_none (by rw [List.length_set]; omega)] at h
        cases h
    · rw [List.getElem?_set_ne e, List.getElem?_map] at h
      cases q : ds[k]? with
      | none => rw [q] at h; cases h
      | some d => rw [q] at h; cases h
  lt := fun k m h => by
    cases h
    refine ⟨es, List.getElem?_set_self ?_⟩
    have := z.length
    rw [List.length_set] at this
    rw [List.length_map, ← this]
    exact (List.getElem?_eq_some_iff.mp hu).1
theorem dv_call0 {n : Nat} (F : FnD X.prog X.w X.K X.mg X.base T k x np N m) (hr : Room k X.A) (tk : Takes X W) (hg : Gl X x) (ha : DA X T W (e :: es) ms) (hn : N.length = n := by rfl)
    (hdb : (x == ("__debug__" : Str)) = false := by decide) (he : starEach (e :: es) X.env = (false, eval e X.env) :: starEach es X.env := by rfl) (hpl : (backTo pos (starEach es X.env)).any (·.1) = false := by rfl) :
    DV X T W (.Call (.Name x p) (e :: es) [] pos) (callR0 np m n ms) := by
  subst hn
  obtain ⟨f, fd, ps, F, hm, hk, hb⟩ := F.ex
  refine ⟨fun C hC => ⟨fun pins s σ H Q I h => (pe_callSD (dvs := []) (E := WE W) F hr hg hm hk hb .nil (passAt tk) (pa_ghost (ha.pa C hC)) hdb he hpl).run pins s σ H Q I ?_⟩⟩
  obtain ⟨env, r, h⟩ := h
  refine ⟨env, r, Lf.bind h fun us H1 vs env1 r1 hv l1 h1 => ?_⟩
  obtain ⟨ds, env2, e1, h2⟩ := Lf.leakAll h1 r1 hv
  refine (leakAll_ok r1 hv e1).imp fun H2 ⟨r2', z2, l2, _, _⟩ => ?_
  show prom T X.mg X.K np N m (us ++ []) H2 Q (WE W σ)
  rw [List.append_nil]
  exact fin_prom hC r2' (argsOk_data z2) (h2.mono l2 fun _ _ z => z)
theorem dv_call1 {n : Nat} (j : Nat) (F : FnD X.prog X.w X.K X.mg X.base T k x np N m) (hr : Room k X.A) (tk : Takes X W) (hg : Gl X x) (ha : DA X T W (e :: es) ms) (hn : N.length = n := by rfl)
    (hdb : (x == ("__debug__" : Str)) = false := by decide) (he : starEach (e :: es) X.env = (false, eval e X.env) :: starEach es X.env := by rfl) (hpl : (backTo pos (starEach es X.env)).any (·.1) = false := by rfl) :
    DV X T W (.Call (.Name x p) (e :: es) [] pos) (callR1 np m n j ms) := by
  subst hn
  obtain ⟨f, fd, ps, F, hm, hk, hb⟩ := F.ex
  refine ⟨fun C hC => ⟨fun pins s σ H Q I h => (pe_callSD (dvs := []) (E := WE W) F hr hg hm hk hb .nil (passAt tk) (pa_ghost (ha.pa C hC)) hdb he hpl).run pins s σ H Q I ?_⟩⟩
  obtain ⟨env, r, h⟩ := h
  refine ⟨env, r, Lf.bind h fun us H1 vs env1 r1 hv l1 h1 => ?_⟩
  obtain ⟨i, hj, h1⟩ := Lf.optB h1
  have hj := slAt_some hj
  obtain ⟨u, hu, hs⟩ := hv.get hj
  have hv2 : VRs X.K σ H1 (us.set j .non) (vs.set j (.d .none)) := VRs.set (show VR X.K σ .non H1 (.d .none) from .non) j hv
  obtain ⟨ds, env2, e1, h2⟩ := Lf.leakAll h1 r1 hv2
  refine (leakAll_ok r1 hv2 e1).imp fun H2 ⟨r2', z2, l2, _, _⟩ => ?_
  show prom T X.mg X.K np N m (us ++ []) H2 Q (WE W σ)
  rw [List.append_nil]
  cases e3 : ownAt i env2 with
  | err x env' => exact absurd e3 ownAt_noerr
  | stuck => rw [M.bind_stuck e3] at h2; exact h2.elim
  | ok es env3 =>
    rw [M.bind_ok e3] at h2
    obtain ⟨e30, b, hi⟩ := ownAt_ok e3
    rw [e30] at h2
    obtain ⟨a, xs, q1, q2, _⟩ := r2'.own i b es hi
    have hs : σ[i]? = some (some u) := hs
    rw [q1] at hs
    cases hs
    exact fin_prom hC r2' (argsOk_lent z2 hi hu q1) (h2.mono l2 fun _ _ z => z)
theorem de_v {m : M RVl} (h : DV X T W e m) : DE X T W e (asD m) := by
  refine ⟨fun C hC => ⟨fun pins s σ H Q I hw => (h.pe C hC).run pins s σ H Q I ?_⟩⟩
  obtain ⟨env, r, hw⟩ := hw
  refine ⟨env, r, Lf.bind hw fun u H1 v env1 r1 hv l1 h1 => ?_⟩
  cases v with
  | d x => exact h1 u H1 r1 hv (.refl H1)
  | o ds => exact h1.elim
theorem do_v {m : M RVl} (h : DV X T W e m) : DO X T W e (asO m) := by
  refine ⟨fun C hC => ⟨fun pins s σ H Q I hw => (h.pe C hC).run pins s σ H Q I ?_⟩⟩
  obtain ⟨env, r, hw⟩ := hw
  refine ⟨env, r, Lf.bind hw fun u H1 v env1 r1 hv l1 h1 => ?_⟩
  cases v with
  | d x => exact h1.elim
  | o ds => exact h1 u H1 r1 hv (.refl H1)
end
section
variable {P : Program} {w : World} {K : PySem.W.Frag} {mg : Str → Option Value} {base : Heap} {x qual : Str} {params : Arguments} {body : List Stmt} {scope : Scope} {f : Addr} {fd : FuncData} {N ps : List Str} {k : Nat} {T : List (Addr × Str)} {m : M Fl}
/-- the context of a def's body -/
abbrev bodyCx (P : Program) (w : World) (K : PySem.W.Frag) (mg : Str → Option Value) (base : Heap) (N : List Str) (qual : Str) (scope : Scope) (f : Addr) (cdv : Value) (A : Around) (outer : List Env) (s : Shared) (H : Hp) (E : XK) : Cx := cxOf (L2.CX P w) P w K mg base N qual scope f cdv A outer s H E
theorem fnD_of (F : FunD K x qual params body scope [] [] f fd) (S : FnScope N ps scope) (hm : mg x = some (.ref f)) (hb : Binds K fd ps [])
    (h : ∀ (cdv : Value) (A : Around) (outer : List Env) (s : Shared) (H : Hp) (E : XK), Room k (A.deeper (envOfC qual scope s.heap.objs.size f cdv)) → DSs (bodyCx P w K mg base N qual scope f cdv A outer s H E) T (fun cls d _ H => E cls d H) body m) :
    FnD P w K mg base T (k + 1) x ps.length N m := by
  refine ⟨f, fd, ps, F.ok S (fun vs H Q E q => q.1) (fun cdv A outer s H vs Q E hr hq => ?_), hm, F.kp, hb⟩
  obtain ⟨_, bk, env, r, hs⟩ := hq
  exact ⟨_, (h cdv A outer s H E hr).pss ⟨T, H, bk, fun _ => none⟩ rfl, env, r, hs⟩
theorem FnD.mono {np : Nat} {j : Nat} (F : FnD P w K mg base T j x np N m) (h : j ≤ k) : FnD P w K mg base T k x np N m := by
  obtain ⟨f, fd, ps, F, a, b, c⟩ := F.ex
  exact ⟨f, fd, ps, F.mono h, a, b, c⟩
end
end DL
end

/- DL13 -/
section
set_option maxHeartbeats 4000000
namespace DL
open PySem PySem.Spec PyProof.Rows L2

/-! ### raise X() -/
/-- an own error class of the program -/
structure ExN (K : PySem.W.Frag) (mg : Str → Option Value) (x : Str) : Prop where
  ex : ∃ C, mg x = some (.ref C) ∧ PySem.W.excIn K C He.veBase "ValueError.__new__" = true ∧ PySem.W.keepIn K (.ref C) = true ∧ PySem.W.subIn K (.ref C) (.type "BaseException") = some true ∧ PySem.W.typeIn K (.ref C) = some (.type "type")
section
variable {X : Cx} {T : List (Addr × Str)} {W : WX} {x : Str} {p pos pos' : Pos}
theorem pmk_own0 {C : Addr} {bmB : List Value} {B newId initId : String} (F : ExcBaseFacts B newId initId bmB) (q : PySem.W.excIn X.K C bmB newId = true) (gC : X.mg x = some (.ref C)) (kC : PySem.W.keepIn X.K (.ref C) = true) (r : Raises X (.ref C)) (hg : Gl X x)
    (hdb : (x == ("__debug__" : Str)) = false := by decide) : PMk X (.Call (.Name x p) [] [] pos) (fun _ H Q => Q (.ref C) none H) := by
  intro pins s σ H Q I h
  refine wpAny_Call_Name_kw (ld_glob I hg gC ?_ hdb)
  refine PySem.W.callWith_K0 I.kIn kC ?_
  show wpAny _ _ (call (.ref C) []) _ _ _
  obtain ⟨bm, N, nm, qn, bs, hdct, sn, sub, ab, col, dd, k0, k1, k2, k3, k5, mN, hC, hN, hni, T⟩ := exc_obj I.kIn q
  refine wpAny_call_exc_subT F T hC hN hni (fun h' e hm => ?_) (Nat.zero_le _)
  exact mk_of I hm r h (I.hok.gone hm.new)
def sRaise (e : Er) : M Fl := fun env => .err e env
theorem ds_raise0 (E : ExN X.K X.mg x) (hg : Gl X x) (hc : X.calm = true) (tk : Takes X W) (hdb : (x == ("__debug__" : Str)) = false := by decide) : DS X T W (.Raise (some (.Call (.Name x p) [] [] pos')) none pos) (sRaise ⟨x, none⟩) := by
  obtain ⟨D, g, q, kC, h1, h2⟩ := E.ex
  refine ⟨fun C hC => ⟨fun pins s σ H D' I h => (ps_raise hc tk (pmk_own0 F.excBase_ValueError q g kC (raises_own h1 h2) hg hdb)).run pins s σ H D' I ?_⟩⟩
  obtain ⟨env, r, h⟩ := h
  exact h (.ref D) none σ H r ⟨D, rfl, g, rfl⟩ (.refl H)
end

/-! ### isinstance of a caught error -/
def mIsE (i : Nat) (a : Addr) (b : Bool) : M Vl := fun env => match env[i]? with
  | some (some (.x (.ref a'))) => if a' = a then .ok (.d (.bool b)) env else .stuck
  | _ => .stuck
theorem mIsE_ok {i : Nat} {a : Addr} {b : Bool} {env env' : En} {v : Vl} (e : mIsE i a b env = .ok v env') : env' = env ∧ v = .d (.bool b) ∧ env[i]? = some (some (.x (.ref a))) := by
  unfold mIsE at e
  split at e
  · rename_i a' h
    split at e
    · rename_i ea
      cases e
      subst ea
      exact ⟨rfl, rfl, h⟩
    · cases e
  · cases e
theorem mIsE_noerr {i : Nat} {a : Addr} {b : Bool} {env env' : En} {x : Er} : mIsE i a b env ≠ .err x env' := by
  unfold mIsE
  split
  · split <;> exact fun z => by cases z
  · exact fun z => by cases z
theorem de_isE {X : Cx} {T : List (Addr × Str)} {W : WX} {a D : Addr} {oe : Obj} {pn : List (Addr × Obj)} {i : Nat} {n y : Str} {c : V} {cv : Value} {b : Bool} {p p1 p2 pos : Pos} (Ec : ExcC X.K D) (hz : Zc (.ref D) none oe) (hf : ∃ vs, oe.data = .fields vs)
    (hN : X.N[i]? = some n) (hv : Vis X.env.scope n) (hc : PE (X.suite a ((a, oe) :: pn)) (.Name y p2) (tC c)) (hcv : ∀ u, RelV c u → u = cv) (hk : PySem.W.kitOne X.K (.ref D) cv = some b)
    (hg : Gl X "isinstance") (hm : X.mg "isinstance" = none) (hd : (n == ("__debug__" : Str)) = false := by decide) (hcd : (n == ("__classdict__" : Str)) = false := by decide)
    (hs : starEach [.Name n p1, .Name y p2] X.env = (false, eval (.Name n p1) X.env) :: starEach [.Name y p2] X.env := by rfl) (hpl : (backTo pos (starEach [.Name y p2] X.env)).any (·.1) = false := by rfl) (hs2 : starEach [.Name y p2] X.env = (false, eval (.Name y p2) X.env) :: starEach [] X.env := by rfl) :
    DE (X.suite a ((a, oe) :: pn)) T W (.Call (.Name "isinstance" p) [.Name n p1, .Name y p2] [] pos) (mIsE i a b) := by
  refine ⟨fun C hC => ⟨fun pins s σ H Q I h => (pe_callB (X := X.suite a ((a, oe) :: pn)) (call_isE Ec hz hf) hg hm boot_isinstance (pa_cons (pe_var (X := X.suite a ((a, oe) :: pn)) (pos := p1) hN hv hd hcd) (pa_cons hc pa_nil hs2) hs) (he := hs) (hpl := hpl)).run pins s σ H Q I ?_⟩⟩
  obtain ⟨env, r, h⟩ := h
  cases e : mIsE i a b env with
  | err x env' => exact absurd e mIsE_noerr
  | stuck => rw [e] at h; exact h.elim
  | ok v env' =>
    rw [e] at h
    obtain ⟨rfl, rfl, hi⟩ := mIsE_ok e
    exact ⟨.ref a, r.opq i _ hi, c, cv, b, rfl, hcv, hk, h (.bl b) H r (.bl b) (.refl H)⟩

/-! ### said(lambda: ..) -/
def envX (n i : Nat) (a : Addr) : En := (List.replicate n none).set i (some (.x (.ref a)))
def TTsaid (K : PySem.W.Frag) (mg : Str → Option Value) (T : List (Addr × Str)) (said : Str → Option PyData) : (XK → Hp → VK → Prop) → Hp → VK → Prop := fun tl H Q =>
  tl (fun cls od H' => ∃ D x z, cls = .ref D ∧ od = none ∧ mg x = some (.ref D) ∧ said x = some z ∧ LamX.Tabs T H' ∧ ∀ u H'' σ' env', Rel K ⟨T, H', fun _ => none, fun _ => none⟩ H'' σ' env' → Dz K H'' u z → Le H' H'' → Q u H'') H (fun _ H' => Q (.str "let") H')
def mSaid (said : Str → Option PyData) (m : M Vl) : M Vl := fun env => match m env with
  | .ok _ env' => .ok (.d (.str "let")) env'
  | .err e env' => match e.arg, said e.cls with
    | none, some z => .ok (.d z) env'
    | _, _ => .stuck
  | .stuck => .stuck
theorem envX_rel {K : PySem.W.Frag} {T : List (Addr × Str)} {H : Hp} {σ : L2.St} {i : Nat} {a : Addr} (hT : LamX.Tabs T H) : Rel K ⟨T, H, fun _ => none, fun _ => none⟩ H (σ.set i (some (.ref a))) (envX σ.length i a) where
  len := by unfold envX; rw [List.length_set, List.length_set, List.length_replicate]
  dat := fun j x h => by
    rcases get_set h with ⟨_, e⟩ | ⟨_, h⟩
    · cases e
    · rw [List.getElem?_replicate] at h
      split at h <;> cases h
  own := fun j b ds h => by
    rcases get_set h with ⟨_, e⟩ | ⟨_, h⟩
    · cases e
    · rw [List.getElem?_replicate] at h
      split at h <;> cases h
  opq := fun j v h => by
    rcases get_set h with ⟨rfl, e⟩ | ⟨hne, h⟩
    · cases e
      have hl := (List.getElem?_eq_some_iff.mp h).1
      unfold envX at hl
      rw [List.length_set, List.length_replicate] at hl
      exact List.getElem?_set_self hl
    · rw [List.getElem?_replicate] at h
      split at h <;> cases h
  bkd := fun j a h => by cases h
  dis := fun j k b c ds es a hjk h1 h2 h3 h4 => by
    rcases get_set h1 with ⟨_, e⟩ | ⟨_, h1⟩
    · cases e
    · rw [List.getElem?_replicate] at h1
      split at h1 <;> cases h1
  keep := fun a o h _ _ => h
  prot := fun a xs h => by cases h
  tab := hT
theorem Takes.len {X : Cx} {W : WX} (tk : Takes X W) : Takes X (fun cls d σ H => σ.length = X.N.length → W cls d σ H) := fun u s' ⟨a, B, sI, pins, σ, H, cls, d, e, I, nb, up, sky, na, os, ag, w⟩ =>
  tk u s' ⟨a, B, sI, pins, σ, H, cls, d, e, I, nb, up, sky, na, os, ag, w I.len⟩
section
variable {X : Cx} {T : List (Addr × Str)}
/-- what the def that catches is: its suite's reading, by the caught class -/
theorem said_gives {Ng : List Str} {x a e en q : Str} {sg : Scope} {g CS : Addr} {cdg : Value} {j i : Nat} {b0 : Stmt} {suite : List Stmt} {said : Str → Option PyData} {sd : Addr → Str → M Fl} {p1 p2 p3 p4 p5 p6 p7 p8 : Pos}
    (hNg : Ng.Nodup) (hi : Ng[i]? = some en) (hln : sg.names.lookup en = some .local) (hge : sg.names.lookup e = some .globalImplicit) (hme : X.mg e = some (.ref CS)) (hde : (e == ("__debug__" : Str)) = false)
    (h0 : ∀ f : Addr, (L2.start Ng [V.ref f])[0]? = some (some (V.ref f))) (hlen : 1 ≤ Ng.length)
    (hexm : ∀ y z D, said y = some z → X.mg y = some (.ref D) → PySem.W.exmOne X.K (.ref D) (.ref CS) = some true)
    (hrun : ∀ a y z, said y = some z → ∃ env', sd a y (envX Ng.length i a) = .ok (.ret (.d z)) env')
    (hsd : ∀ (s : Shared) (H : Hp) (a : Addr) (oe : Obj) (pn : List (Addr × Obj)) (y : Str) (z : PyData) (D : Addr), said y = some z → X.mg y = some (.ref D) → Zc (.ref D) none oe → (∃ vs, oe.data = .fields vs) →
      DSs (Cx.suite (cxOf C8.CX0 X.prog X.w X.K X.mg X.base Ng x sg g cdg X.A X.stack s H C8.E0).nox a ((a, oe) :: pn)) T Wno (b0 :: suite) (sd a y)) :
    LamX.GivesTo X Ng x sg g cdg [.Try [.Expr (.Call (.Name a p1) [] [] p2) p3] [.ExceptHandler (some (.Name e p4)) (some en) (b0 :: suite) p7] [] [] p8, .Return (some (.Constant (.str "let") j p5)) p6] a q (TTsaid X.K X.mg T said) := by
  intro f c' s H Q tl act hc h
  have hgl : Gl (cxOf C8.CX0 X.prog X.w X.K X.mg X.base Ng x sg g cdg X.A X.stack s H C8.E0).nox e := hge
  refine ⟨_, pss_cons (ps_try_as (X := (cxOf C8.CX0 X.prog X.w X.K X.mg X.base Ng x sg g cdg X.A X.stack s H C8.E0).nox) (c := .ref CS) (i := i) (Wout := Wno)
      (tb := fun W D σ H => ∃ Ech : XK, (∀ cls d σ' H', Ech cls d H' → σ'.length = Ng.length → W cls d σ' H') ∧ σ[0]? = some (some (.ref f)) ∧ H c' = some (LamX.CodeO c' q) ∧ tl Ech H (fun _ H' => D.nx σ H'))
      (ts := fun a cls d D σ H => ∃ y z D', cls = .ref D' ∧ d = none ∧ X.mg y = some (.ref D') ∧ said y = some z ∧ ∃ C, C.T = T ∧ liftS X.K X.mg C Wno (sd a y) D σ H)
      rfl rfl hNg hi hln ⟨hgl, hde, .inl hme⟩ LamX.takes0 (fun W pn xe tk _ => ?_) (fun a oe cls d pn hz hf => ?_)) (pss_one (ps_ret pe_str)), ?_⟩
  · refine ⟨fun pins s' σ H' D I h' => ?_⟩
    obtain ⟨Ech, hW, h1, h2, h3⟩ := h'
    have hp := act (fun cls d σ H => σ.length = Ng.length → W cls d σ H) pn xe Ech p1 p2 (Takes.len tk) (fun cls d σ' H' z hl => hW cls d σ' H' z hl)
    have hq := pss_one (ps_expr (pos := p3) hp (by rfl))
    exact hq.run pins s' σ H' D I ⟨h1, h2, h3⟩
  · refine ⟨fun pins s' σ H' D I h' => ?_⟩
    obtain ⟨y, z, D', rfl, rfl, hy, hs, C, hC, h'⟩ := h'
    exact ((hsd s H a oe pn y z D' hs hy hz hf).pss C hC).run pins s' σ H' D I h'
  · refine ⟨_, fun cls d σ' H' z hl => ?_, h0 f, hc, h⟩
    obtain ⟨D, y, z, rfl, rfl, hy, hs, hT, hq⟩ := z
    refine ⟨true, hexm y z D hs hy, fun _ a ha => ?_, fun z => by cases z⟩
    refine ⟨y, z, D, rfl, rfl, hy, hs, ⟨T, H', fun _ => none, fun _ => none⟩, rfl, envX Ng.length i a, ?_, ?_⟩
    · have := envX_rel (K := X.K) (σ := σ') (i := i) (a := a) hT
      rw [hl] at this
      exact this
    · obtain ⟨env', er⟩ := hrun a y z hs
      rw [er]
      exact fun u σ'' H'' r' zu l => hq u H'' σ'' env' r' zu l
end
end DL
end

/- DL14 -/
section
set_option maxHeartbeats 4000000
namespace DL
open PySem PySem.Spec PyProof.Rows L2

theorem Le.extN {H H1 : Hp} (e : LamX.ExtN H H1) : Le H H1 := ⟨fun a xs h => e _ _ h (fun ps z => by cases z), fun a o u h => e _ _ h (fun ps z => by cases z)⟩
theorem Rel.extN {K : PySem.W.Frag} {C : Ct} {σ : L2.St} {H H1 : Hp} {env : En} (r : Rel K C H σ env) (e : LamX.ExtN H H1) (t : LamX.Tabs C.T H1) : Rel K C H1 σ env where
  len := r.len
  dat := fun i x h => let ⟨v, q1, q2⟩ := r.dat i x h; ⟨v, q1, Dz.le (.extN e) _ q2⟩
  own := fun i b ds h => let ⟨a, xs, q1, q2, q3, q4⟩ := r.own i b ds h; ⟨a, xs, q1, e _ _ q2 (fun ps z => by cases z), DzAll.le (.extN e) _ q3, q4⟩
  opq := r.opq
  bkd := r.bkd
  dis := r.dis
  keep := fun a o h1 h2 h3 => e _ _ (r.keep a o h1 h2 h3) h3
  prot := fun a xs h => e _ _ (r.prot a xs h) (PO.ntbl xs)
  tab := t
section
variable {X : Cx} {T : List (Addr × Str)} {W : WX}
/-- the def that catches, as the walk knows it: x(lambda: ..) in X -/
structure SaidD (X : Cx) (T : List (Addr × Str)) (k : Nat) (x : Str) (said : Str → Option PyData) : Prop where
  ex : ∃ (g : Addr) (oc : Value) (pg : Arguments) (bg : List Stmt) (sg : Scope) (dV kV doc pm cdv ct : Value) (an od : Option Addr) (osl : Array (Option Value)) (Ng : List Str) (a : Str),
    X.mg x = some (.ref g) ∧ PySem.W.keepIn X.K (.ref g) = true ∧ X.K.lookup g = some ⟨oc, od, .func (PySem.W.fnOf x x pg bg sg dV kV doc pm an cdv ct), osl⟩ ∧ PySem.W.codeIn X.K cdv x = true ∧ L2.Binds X.K (PySem.W.fnOf x x pg bg sg dV kV doc pm an cdv ct) [a] [] ∧
      FnScope Ng [a] sg ∧ Ng[0]? = some a ∧ Vis sg a ∧ (a == ("__debug__" : Str)) = false ∧ (a == ("__classdict__" : Str)) = false ∧ LamX.GivesTo X Ng x sg g cdv bg a (X.env.qual ++ "<lambda>") (TTsaid X.K X.mg T said)
theorem de_said {x : Str} {said : Str → Option PyData} {k : Nat} {c P : Addr} {params : Arguments} {body : Expr} {scope : Scope} {m : M Vl} {p lpos pos : Pos} (S : SaidD X T k x said) (hg : Gl X x)
    (TB : LamX.TabB X.base X.mg c P) (hcode : X.env.code = .ref c) (hmT : (P, X.env.qual ++ "<lambda>") ∈ T) (hu : ∀ p ∈ T, p.1 = P → p.2 = X.env.qual ++ "<lambda>") (hr : Room (k + 2) X.A) (L : LamX.LamS X.env.scope scope)
    (hbody : ∀ (A : Around) (outer : List Env) (s : Shared) (H : Hp) (E : XK) (f c' : Addr), Room k (A.deeper (LamX.lamEnv X scope s.heap.objs.size f c')) → DE (LamX.lamCx X A outer s H E scope f c') T (fun cls d _ H => E cls d H) body m)
    (hdef : defaultsOf params X.env = ([], []) := by rfl) (hbind : ∀ (q : Str) (cl : List (Str × Addr)) (pm cv ctv : Value), bindArgs (PySem.W.kla_fn "<lambda>" q params body scope cl pm cv ctv) ⟨[], []⟩ = pure [] := by intros; rfl)
    (hdb : (x == ("__debug__" : Str)) = false := by decide) :
    DE X T W (.Call (.Name x p) [.Lambda params body scope lpos] [] pos) (mSaid said m) := by
  obtain ⟨g, oc, pg, bg, sg, dV, kV, doc, pm, cdv, ct, an, od, osl, Ng, a, hm, hk, lk, hcg, hb, Sg, hNg, hva, hd, hcd, hG⟩ := S.ex
  refine ⟨fun C hC => ⟨fun pins s σ H Q I h => (LamX.pe_lamcall (t := fun E => lift X.K X.mg C (fun cls d _ H => E cls d H) m) hg hm hk lk hcg hb Sg hNg hva hG TB hcode hmT hu hr L hdef hbind (fun A outer s H E f c' hr' => (hbody A outer s H E f c' hr').pe C hC) hdb hd hcd).run pins s σ H Q I ?_⟩⟩
  obtain ⟨env, r, h⟩ := h
  refine ⟨by rw [← hC]; exact r.tab, fun H1 eN T1 => ?_⟩
  have l0 : Le H H1 := .extN eN
  have r1 := r.extN eN (by rw [hC]; exact T1)
  refine ⟨env, r1, ?_⟩
  unfold mSaid at h
  cases e : m env with
  | stuck => rw [e] at h; exact h.elim
  | ok v env' =>
    rw [e] at h
    exact fun u H' r' _ l => h (.str "let") H' r' (.str _) (l0.trans l)
  | err x env' =>
    rw [e] at h
    obtain ⟨y, arg⟩ := x
    cases arg with
    | some q => exact h.elim
    | none =>
      dsimp only at h
      cases hs : said y with
      | none => rw [hs] at h; exact h.elim
      | some z =>
        rw [hs] at h
        intro cls od H' r' er l
        obtain ⟨D, ec, em, eo⟩ := er
        refine ⟨D, y, z, ec, eo, em, hs, by rw [← hC]; exact r'.tab, fun u H'' σ' env'' r'' zu l' => ?_⟩
        refine h u H'' ?_ zu ((l0.trans l).trans l')
        have A : ArgsOk X.K H' σ env' [] [] none := ⟨rfl, fun j x e => (by cases e), fun j b es e => (by cases e), fun j v e => (by cases e), fun j i e => (by cases e)⟩
        have r3 : Rel X.K (callCt C H' σ none) H'' σ' env'' := by
          unfold callCt
          rw [hC]
          exact r''
        exact caller_back r' A r3 l'
end
end DL
end

/- DL15 -/
section
set_option maxHeartbeats 4000000
namespace DL
open PySem PySem.Spec PyProof.Rows L2

/-! ### len({k: c for ..}) -/
def keyD : PyData → Option Key
  | .int i => some (.inl i)
  | .str x => some (.inr x)
  | _ => none
theorem keyD_dz {K : PySem.W.Frag} {H : Hp} {u : V} {d : PyData} {k : Key} (h : Dz K H u d) (e : keyD d = some k) : u = kV k := by
  cases h with
  | int i => cases e; rfl
  | str x => cases e; rfl
  | _ => cases e
def addK (acc : List Key) (k : Key) : List Key := if (acc.any fun x => decide (x = k)) = true then acc else acc ++ [k]
def dcTurn (vs : List Nat) (g : PyData → M Unit) (t : M Bool) (e : M Vl) (d : PyData) (acc : List Key) : M (List Key) :=
  M.bind (noE (g d)) fun _ => M.bind (noE t) fun k => if k = true then M.bind (noE e) fun v => M.bind (leak v) fun x => M.bind (M.opt (keyD x)) fun kk => if acc.length < sizeLine then M.bind (clr vs) fun _ => M.pure (addK acc kk) else M.stuck else M.bind (clr vs) fun _ => M.pure acc
def dcN (s : Src) (vs : List Nat) (g : PyData → M Unit) (t : M Bool) (e : M Vl) : Nat → Nat → List Key → M (List Key)
  | 0, _, _ => M.stuck
  | n + 1, i, acc => M.bind (srcAt s i) fun o => match o with
    | none => M.pure acc
    | some d => M.bind (dcTurn vs g t e d acc) fun acc' => dcN s vs g t e n (i + 1) acc'
def dcRun (vs : List Nat) (g : PyData → M Unit) (t : M Bool) (e : M Vl) (s : Src) : M (List Key) := fun env => match srcLen s env with
  | .ok n _ => match M.bind (clr vs) (fun _ => dcN s vs g t e (n + 1) 0 []) env with
    | .ok ds env1 => .ok ds (restE env env1 vs)
    | _ => .stuck
  | _ => .stuck
def mLenDc (vs : List Nat) (mi : M Src) (g : PyData → M Unit) (t : M Bool) (e : M Vl) : M Vl := M.bind mi fun s => M.bind (dcRun vs g t e s) fun ks => mC (.int ks.length)
def kvsOf (v : V) (acc : List Key) : List (Key × V) := acc.map fun k => (k, v)
theorem putK_kvs {v : V} {acc : List Key} {k : Key} : putK (kvsOf v acc) k v = kvsOf v (addK acc k) := by
  unfold putK kvsOf addK
  rw [List.any_map]
  by_cases h : (acc.any fun x => decide (x = k)) = true
  · rw [if_pos h, if_pos (show (acc.any ((fun kv : Key × V => decide (kv.1 = k)) ∘ fun k => (k, v))) = true from h)]
    rw [List.map_map]
    apply List.map_congr_left
    intro x _
    simp
  · rw [if_neg h, if_neg (show ¬ (acc.any ((fun kv : Key × V => decide (kv.1 = k)) ∘ fun k => (k, v))) = true from h)]
    simp
section
variable {X : Cx} {T : List (Addr × Str)} {scope : Scope} {elt tg iter : Expr} {ifs : List Expr} {vs : List Nat} {g : PyData → M Unit} {t : M Bool} {e : M Vl} {mi : M Src}
section
variable {C : Ct} {W : WX} {σ : L2.St} {H H1 : Hp} {env env1 : En} {D : Addr} {cv : V}
theorem dc_turn {d : PyData} {acc acc' : List Key} {env' : En} {x : V} {Nx : Hp → Prop} (hC : C.T = T) (h0 : Nk C.H0 D) (r : Rel X.K (C.withP D (.k (kvsOf cv acc))) H (L2.wipe σ vs) env) (hx : Dz X.K H x d)
    (he : dcTurn vs g t e d acc env = .ok acc' env') (q : ∀ H', Le H H' → Rel X.K (C.withP D (.k (kvsOf cv acc'))) H' (L2.wipe σ vs) env' → Nx H') :
    tgB X vs g x (L2.wipe σ vs) H fun σ2 H2 => L2.wipe σ2 vs = L2.wipe σ vs ∧ ttB X T t σ2 H2 fun b H3 =>
      if b = true then teB X T scope e σ2 H3 fun y H4 => tC cv σ2 H4 fun z H5 => ∃ kvs k, y = kV k ∧ H5 D = some (.dK kvs) ∧ kvs.length < sizeLine ∧ Nx (upd H5 D (.dK (putK kvs k z))) else Nx H3 := by
  unfold dcTurn at he
  obtain ⟨_, env2, e1, he⟩ := noE_bind_ok he
  obtain ⟨k, env3, e2, he⟩ := noE_bind_ok he
  have e1 := noE_ok e1
  have e2 := noE_ok e2
  refine ⟨C.withP D (.k (kvsOf cv acc)), env, d, r, hx, ?_⟩
  rw [e1]
  intro σ2 r2 hw
  rw [wipe_wipe] at hw
  refine ⟨hw, C.withP D (.k (kvsOf cv acc)), hC, env2, r2, ?_⟩
  rw [e2]
  rintro k' H3 r3 rfl l3
  cases k' with
  | false =>
    rw [if_neg Bool.false_ne_true] at he ⊢
    obtain ⟨_, env4, e4, he⟩ := noE_bind_ok he
    cases he
    obtain ⟨hn, rfl⟩ := clr_ok e4
    refine q H3 l3 ?_
    rw [← hw]
    exact r3.wipe hn
  | true =>
    rw [if_pos rfl] at he ⊢
    obtain ⟨v, env4, e4, he⟩ := noE_bind_ok he
    have e4 := noE_ok e4
    obtain ⟨y, env5, e5, he⟩ := noE_bind_ok he
    obtain ⟨kk, env5', e7, he⟩ := noE_bind_ok he
    have e7 : keyD y = some kk ∧ env5' = env5 := by
      cases e8 : keyD y with
      | none => rw [e8] at e7; cases e7
      | some k2 => rw [e8] at e7; cases e7; exact ⟨rfl, rfl⟩
    obtain ⟨e7, e70⟩ := e7
    rw [e70] at he
    by_cases hl : acc.length < sizeLine
    · rw [if_pos hl] at he
      obtain ⟨_, env6, e6, he⟩ := noE_bind_ok he
      cases he
      obtain ⟨hn, rfl⟩ := clr_ok e6
      refine ⟨C.withP D (.k (kvsOf cv acc)), hC, env3, r3, ?_⟩
      rw [e4]
      intro u H4 r4 hv l4 s' H' C' cl fp
      refine (leak_ok (X := X.blk s' H' scope (compEnvC scope cl C' X.env) fp) r4 hv e5).imp fun H5 ⟨r5, z5, l5, _, _⟩ => ?_
      have hD : H5 D = some (.dK (kvsOf cv acc)) := r5.atP
      have ll : Le H (upd H5 D (.dK (kvsOf cv (addK acc kk)))) := (l3.trans (l4.trans l5)).trans (Le.putO (o := .k (kvsOf cv acc)) hD)
      refine ⟨kvsOf cv acc, kk, keyD_dz z5 e7, hD, by unfold kvsOf; rw [List.length_map]; exact hl, ?_⟩
      rw [putK_kvs]
      refine q _ ll ?_
      have := (r5.pushP (ys := .k (kvsOf cv (addK acc kk))) h0).wipe (vs := vs) hn
      rw [hw] at this
      exact this
    · exact absurd he (by rw [if_neg hl]; exact fun z => by cases z)
theorem src_key {src : Src} {J : It} {o : Option PyData} {i : Nat} {env2 : En} {P : Ct} (r : Rel X.K P H (L2.wipe σ vs) env) (l : Le H1 H) (hs : SrcR X.K σ J H1 src) (hjn : ∀ j, src = .own j → j ∉ vs) (hle : ∀ items, src = .fix items → i ≤ items.length) (e1 : srcAt src i env = .ok o env2) :
    env2 = env ∧ AtS X.K J i H o := by
  cases src with
  | fix items =>
    have e1 : o = items[i]? ∧ env2 = env := by cases e1; exact ⟨rfl, rfl⟩
    obtain ⟨eo, e1⟩ := e1
    refine ⟨e1, ?_⟩
    rw [eo]
    have hle := hle items rfl
    by_cases hlt : i < items.length
    · rw [List.getElem?_eq_getElem hlt]
      exact ⟨hs.go i H l hlt, fun x H' y => hs.yld i H x H' _ l y (List.getElem?_eq_getElem hlt)⟩
    · have e : i = items.length := by omega
      subst e
      rw [List.getElem?_eq_none (Nat.le_refl _)]
      exact hs.stop H l
  | own j =>
    unfold srcAt at e1
    dsimp only at e1
    split at e1
    · rename_i b es hj
      have e1 : o = es[i]? ∧ env2 = env := by cases e1; exact ⟨rfl, rfl⟩
      obtain ⟨eo, e1⟩ := e1
      refine ⟨e1, ?_⟩
      rw [eo]
      obtain ⟨a, hσ, hs⟩ := hs
      obtain ⟨a', ys, q1, q2, q3, _⟩ := r.own j b es hj
      rw [wipe_get, if_neg (fun z => hjn j rfl z.1), hσ] at q1
      cases q1
      obtain ⟨s1, s2, s3⟩ := hs i H ys q2
      by_cases hlt : i < es.length
      · rw [List.getElem?_eq_getElem hlt]
        refine ⟨s1 (by rw [q3.length]; exact hlt), fun x H' y => ?_⟩
        obtain ⟨rfl, hx⟩ := s2 x H' y
        obtain ⟨d, e', z⟩ := q3.getV hx
        rw [List.getElem?_eq_getElem hlt] at e'
        cases e'
        exact ⟨.refl _, z⟩
      · rw [List.getElem?_eq_none (by omega)]
        exact s3 (by rw [q3.length]; omega)
    · cases e1
theorem dc_loop {src : Src} {J : It} {Q : VK} (hC : C.T = T) (hs : SrcR X.K σ J H1 src) (hv : noOwn vs env1 = true) (r1 : Rel X.K C H1 σ env1) (hD : H1 D = none) (hjn : ∀ j, src = .own j → j ∉ vs)
    (n : Nat) (ds : List Key) (envE : En) (he : dcN src vs g t e (n + 1) 0 [] (wipeE env1 vs) = .ok ds envE)
    (q : ∀ H', Rel X.K C H' σ (restE env1 envE vs) → H' D = some (.dK (kvsOf cv ds)) → Le H1 H' → Q (.ref D) H') :
    ∃ Wv : Nat → Nat → Hp → Prop, (∃ m, Wv 0 m (upd H1 D (.dK []))) ∧ ∀ i m H, Wv i m H →
      (J.stop i H ∧ Q (.ref D) H) ∨ (J.go i H ∧ ∃ Nx : Hp → Prop, (∀ H', Nx H' → ∃ m', m' < m ∧ Wv (i + 1) m' H') ∧ ∀ x H', J.yld i H x H' → tgB X vs g x (L2.wipe σ vs) H' fun σ2 H2 => L2.wipe σ2 vs = L2.wipe σ vs ∧ ttB X T t σ2 H2 fun b H3 =>
        if b = true then teB X T scope e σ2 H3 fun y H4 => tC cv σ2 H4 fun z H5 => ∃ kvs k, y = kV k ∧ H5 D = some (.dK kvs) ∧ kvs.length < sizeLine ∧ Nx (upd H5 D (.dK (putK kvs k z))) else Nx H3) := by
  have h0 : Nk C.H0 D := r1.dom D hD
  have hP : C.P D = none := r1.domP hD
  refine ⟨fun i m H => (∀ items, src = .fix items → i ≤ items.length) ∧ Le H1 H ∧ ∃ env acc, Rel X.K (C.withP D (.k (kvsOf cv acc))) H (L2.wipe σ vs) env ∧ dcN src vs g t e m i acc env = .ok ds envE, ⟨n + 1, ?_⟩, ?_⟩
  · have sm : Same H1 (upd H1 D (.dK [])) := Same.new hD
    refine ⟨fun _ _ => Nat.zero_le _, .same sm, _, [], ?_, he⟩
    have r2 := r1.grow sm
    refine Rel.wipe (r2.addP (xs := .k (kvsOf cv [])) upd_same fun i b ds e1 e2 => ?_) hv
    obtain ⟨a, ys, q1, q2, _⟩ := r1.own i b ds e1
    rw [e2] at q1
    cases q1
    rw [hD] at q2
    cases q2
  · rintro i m H ⟨hle, l, env, acc, r, he⟩
    cases m with
    | zero => cases he
    | succ m =>
      unfold dcN at he
      obtain ⟨o, env2, e1, he⟩ := noE_bind_ok he
      obtain ⟨ee, key⟩ := src_key r l hs hjn hle e1
      subst ee
      cases o with
      | none =>
        cases he
        exact .inl ⟨key, q H ((r.unP hP).rest r1 l hv) r.atP l⟩
      | some d =>
        obtain ⟨acc', env3, e2, he⟩ := noE_bind_ok he
        have hle' : ∀ items, src = .fix items → i + 1 ≤ items.length := by
          rintro items rfl
          have e1 : R.ok items[i]? env2 = R.ok (some d) env2 := e1
          have e1 : items[i]? = some d := by injection e1
          exact (List.getElem?_eq_some_iff.mp e1).1
        refine .inr ⟨key.1, fun H => (∀ items, src = .fix items → i + 1 ≤ items.length) ∧ Le H1 H ∧ ∃ env acc, Rel X.K (C.withP D (.k (kvsOf cv acc))) H (L2.wipe σ vs) env ∧ dcN src vs g t e m (i + 1) acc env = .ok ds envE, fun H' p => ⟨m, Nat.lt_succ_self m, p⟩, fun x H' y => ?_⟩
        obtain ⟨sm, zx⟩ := key.2 x H' y
        exact dc_turn hC h0 (r.grow sm) zx e2 fun H'' l' r' => ⟨hle', (l.trans (.same sm)).trans l', env3, acc', r', he⟩
end
theorem de_lenDc {W : WX} {own : List (Str × Nat)} {vx : Expr} {cv : V} {p p2 pos : Pos} (hc : X.calm = true) (hN : X.N.Nodup) (hg : Gl X "len") (hm : X.mg "len" = none) (hi : DI X T W tg iter mi) (ok : BlkOk X.N X.env.scope scope own) (b : Blk X T scope elt tg ifs (own.map (·.2)) g t e) (hj : NoJ (own.map (·.2)) mi)
    (hvx : ∀ (s : Shared) (H : Hp) (C : Addr) (cl : List (Str × Addr)) (fp : List Addr), PE (X.blk s H scope (compEnvC scope cl C X.env) fp) vx (tC cv))
    (hs : ∀ x, foldedSetIterable iter X.env x = pure x := by intro _; rfl)
    (hst : starEach [.DictComp elt vx [⟨tg, iter, ifs, 0⟩] scope p2] X.env = (false, eval (.DictComp elt vx [⟨tg, iter, ifs, 0⟩] scope p2) X.env) :: starEach [] X.env := by rfl) :
    DE X T W (.Call (.Name "len" p) [.DictComp elt vx [⟨tg, iter, ifs, 0⟩] scope p2] [] pos) (mLenDc (own.map (·.2)) mi g t e) := by
  refine ⟨fun C hC => ⟨fun pins s σ H Q I h => (pe_callB call_lenD hg hm boot_len (pa_cons (pe_dc hc hN (hi.pi C hC) ok b.pg b.pt b.pe hvx hs) pa_nil hst) (he := hst)).run pins s σ H Q I ?_⟩⟩
  obtain ⟨env, r, h⟩ := h
  refine ⟨env, r, ?_⟩
  unfold mLenDc at h
  cases e0 : mi env with
  | err x env' => rw [M.bind_err e0] at h; exact h
  | stuck => rw [M.bind_stuck e0] at h; exact h.elim
  | ok src env1 =>
    rw [M.bind_ok e0] at h
    intro J H1 r1 hs l1 D hD
    cases e1 : dcRun (own.map (·.2)) g t e src env1 with
    | err x env' =>
      unfold dcRun at e1
      split at e1
      · split at e1 <;> cases e1
      · cases e1
    | stuck => rw [M.bind_stuck e1] at h; exact h.elim
    | ok ks env2 =>
      rw [M.bind_ok e1] at h
      unfold dcRun at e1
      split at e1
      · rename_i n envn hn
        split at e1
        · rename_i ds envE hE
          cases e1
          obtain ⟨_, env3, e2, e3⟩ := noE_bind_ok hE
          obtain ⟨hv, rfl⟩ := clr_ok e2
          refine dc_loop (cv := cv) (Q := fun u H' => ∃ a kvs, [u] = [V.ref a] ∧ H' a = some (.dK kvs) ∧ Q (.int kvs.length) H') hC hs hv r1 hD (fun j ej => hj j env env1 (by rw [e0, ej])) n ks envE e3 fun H' r' hk l' => ?_
          refine ⟨D, kvsOf cv ks, rfl, hk, ?_⟩
          have : (kvsOf cv ks).length = ks.length := by unfold kvsOf; rw [List.length_map]
          rw [this]
          exact h (.int ks.length) H' r' (.int _) (l1.trans l')
        · cases e1
      · cases e1
end
end DL
end

/- DL16 -/
section
set_option maxHeartbeats 4000000
namespace DL
open PySem PySem.Spec PyProof.Rows L2

section
variable {X : Cx} {C : Ct} {T : List (Addr × Str)} {W : WX} {σ : L2.St} {H : Hp} {env : En}
/-- a new list is frozen at once -/
theorem ghost_new {Q : VK} {p : Addr} {xs : List V} {ds : List PyData} (r : Rel X.K C H σ env) (hp : H p = none) (hz : DzAll X.K H xs ds) (q : ∀ H', Rel X.K C H' σ env → Dz X.K H' (.ref p) (.list ds) → Le H H' → Q (.ref p) H') : Ghost X σ (Q (.ref p)) (upd H p (.lst xs)) :=
  .lock upd_same fun o => by
    rw [L2.upd_upd]
    have sm : Same H (upd H p (.frz o (.lst xs))) := Same.new hp
    exact q _ (r.grow sm) (.lst (.inl ⟨o, upd_same⟩) (DzAll.le (.same sm) _ hz)) (.same sm)
end

/-! ### an operator on data, lists among them -/
def gOr (g : PyData → PyData → Option PyData) (gl : PyData → PyData → Option (List PyData)) (x y : PyData) : Option PyData := match g x y with
  | some z => some z
  | none => (gl x y).map .list
section
variable {X : Cx} {T : List (Addr × Str)} {W : WX} {a b e : Expr} {ma mb m : M Vl} {pos p p2 : Pos}
theorem de_binA {op : Operator} {g : PyData → PyData → Option PyData} {gl : PyData → PyData → Option (List PyData)} (ho : Op2 X (binaryOp op) g) (hl : Op2L X (binaryOp op) gl) (ha : DE X T W a ma) (hb : DE X T W b mb) : DE X T W (.BinOp a op b pos) (mBin (gOr g gl) ma mb) := by
  refine ⟨fun C hC => ⟨fun pins s σ H Q I h => (pe_ghost (pe_op (ho.opR.or hl.opR) (ha.pe C hC) (hb.pe C hC))).run pins s σ H Q I ?_⟩⟩
  obtain ⟨env, r, h⟩ := h
  refine ⟨env, r, Lf.bind h fun u H1 va env1 r1 hv1 l1 h1 => ⟨env1, r1, Lf.bind h1 fun y H2 vb env2 r2 hv2 l2 h2 => ?_⟩⟩
  obtain ⟨dx, zx, h3⟩ := Lf.get h2 r2 (hv1.le l2)
  obtain ⟨dy, zy, h4⟩ := Lf.get h3 r2 hv2
  obtain ⟨dz, e, h5⟩ := Lf.opt h4 r2
  unfold gOr at e
  cases e1 : g dx dy with
  | some z =>
    rw [e1] at e
    cases e
    exact .inl ⟨dx, dy, dz, zx, zy, e1, fun z H' sm hz => .now (h5 z H' sm hz)⟩
  | none =>
    rw [e1] at e
    dsimp only at e
    rw [Option.map_eq_some_iff] at e
    obtain ⟨ds, e2, rfl⟩ := e
    refine .inr ⟨dx, dy, ds, zx, zy, e2, fun p xs hp hz => ghost_new r2 hp hz fun H' r3 z3 l3 => ?_⟩
    obtain ⟨d, z, h6⟩ := Lf.get h2 r2 (hv1.le l2)
    rw [show (gOr g gl dx dy) = some (.list ds) from by unfold gOr; rw [e1]; dsimp only; rw [e2] <;> rfl] at h4
    exact h4 (.ref p) H' r3 z3 l3
abbrev gAddA := gOr gAdd gCat
abbrev gMulA := gOr gMul gRep
/-! ### slices -/
def cutD (xs : List PyData) (lo hi : Option Int) : List PyData := (xs.drop (HT.sIx xs.length 0 lo)).take (HT.sIx xs.length xs.length hi - HT.sIx xs.length 0 lo)
def gSl (d : PyData) (lo hi : Option Int) : Option PyData := match d with
  | .list xs => some (.list (cutD xs lo hi))
  | .tuple xs => some (.tuple (cutD xs lo hi))
  | .str z => if z.length ≤ sizeLine then some (.str (cutS z lo hi)) else none
  | _ => none
def mPart : Option (M Vl) → M (Option Int)
  | none => M.pure none
  | some m => M.bind m fun v => match v with
    | .d (.int i) => M.pure (some i)
    | _ => M.stuck
def mSl (m : M Vl) (lo hi : Option (M Vl)) : M Vl := M.bind m fun v => M.bind (mPart lo) fun l => M.bind (mPart hi) fun h => M.bind v.get fun d => M.opt ((gSl d l h).map Vl.d)
def mSlL (m : M Vl) (lo hi : Option (M Vl)) : M (List PyData) := M.bind m fun v => M.bind (mPart lo) fun l => M.bind (mPart hi) fun h => M.bind v.get fun d => match d with
  | .list xs => M.pure (cutD xs l h)
  | _ => M.stuck
def liftP (K : PySem.W.Frag) (mg : Str → Option Value) (C : Ct) (W : WX) (m : M (Option Int)) : TO := fun σ H Q => ∃ env, Rel K C H σ env ∧ Lf K mg C W σ H (fun o _ v _ => o = v) (m env) Q
structure DP (X : Cx) (T : List (Addr × Str)) (W : WX) (e : Option Expr) (m : Option (M Vl)) : Prop where
  po : ∀ C : Ct, C.T = T → L2.PO X e (liftP X.K X.mg C W (mPart m))
theorem dp_none : DP X T W none none := by
  refine ⟨fun C hC => ⟨fun pins s σ H Q I h => po_none.run pins s σ H Q I ?_⟩⟩
  obtain ⟨env, r, h⟩ := h
  exact h none H r rfl (.refl H)
theorem dp_some (h : DE X T W e m) : DP X T W (some e) (some m) := by
  refine ⟨fun C hC => ⟨fun pins s σ H Q I hw => (po_some (h.pe C hC)).run pins s σ H Q I ?_⟩⟩
  obtain ⟨env, r, hw⟩ := hw
  refine ⟨env, r, Lf.bind hw fun u H1 v env1 r1 hv l1 h1 => ?_⟩
  match v, hv, h1 with
  | .d (.int i), hv, h1 =>
    cases (show Dz X.K H1 u (.int i) from hv)
    exact ⟨i, rfl, h1 (some i) H1 r1 rfl (.refl H1)⟩
theorem cut_dz {K : PySem.W.Frag} {H : Hp} {xs : List V} {ds : List PyData} {lo hi : Option Int} (h : DzAll K H xs ds) : DzAll K H (cutV xs lo hi) (cutD ds lo hi) := by
  unfold cutV cutD
  rw [h.length]
  exact (h.drop _).take _
theorem cutD_full {ds : List PyData} {lo hi : Option Int} (h : HT.sIx ds.length 0 lo = 0 ∧ HT.sIx ds.length ds.length hi = ds.length) : cutD ds lo hi = ds := by
  unfold cutD
  rw [h.1, h.2]
  simp
theorem de_sl {lo hi : Option Expr} {ml mh : Option (M Vl)} (he : DE X T W e m) (hl : DP X T W lo ml) (hh : DP X T W hi mh) : DE X T W (.Subscript e (.Slice lo hi none p2) pos) (mSl m ml mh) := by
  refine ⟨fun C hC => ⟨fun pins s σ H Q I h => (pe_ghost (pe_slice (L2.SlR.or sl_list (L2.SlR.or sl_tupA sl_str)) (he.pe C hC) (hl.po C hC) (hh.po C hC))).run pins s σ H Q I ?_⟩⟩
  obtain ⟨env, r, h⟩ := h
  refine ⟨env, r, Lf.bind h fun u H1 v env1 r1 hv1 l1 h1 => ⟨env1, r1, Lf.bind h1 fun l H2 lv env2 r2 hl2 l2 h2 => ⟨env2, r2, Lf.bind h2 fun o H3 ov env3 r3 ho3 l3 h3 => ?_⟩⟩⟩
  subst hl2 ho3
  obtain ⟨d, z, h4⟩ := Lf.get h3 r3 (hv1.le (l2.trans l3))
  cases d with
  | list ds =>
    obtain ⟨a, xs, rfl, f1, z1⟩ := z.list
    refine .inl ⟨a, xs, rfl, f1.sq, fun p hp => ghost_new r3 hp (cut_dz z1) fun H' r' z' l' => h4 (.ref p) H' r' z' l'⟩
  | tuple ds =>
    obtain ⟨a, xs, rfl, f1, z1⟩ := z.tuple
    have e1 := z1.length
    refine .inr (.inl ⟨a, xs, rfl, f1.sq, fun hf => .now ?_, fun _ p hp => .now ?_⟩)
    · rw [e1] at hf
      exact h4 (.ref a) H3 r3 (show Dz X.K H3 (.ref a) (.tuple (cutD ds l o)) by rw [cutD_full hf]; exact .tup f1 z1) (.refl H3)
    · have sm : Same H3 (upd H3 p (.tup (cutV xs l o))) := Same.new hp
      exact h4 (.ref p) _ (r3.grow sm) (.tup (.inl upd_same) (DzAll.le (.same sm) _ (cut_dz z1))) (.same sm)
  | str x =>
    have := z.str
    subst this
    by_cases hx : x.length ≤ sizeLine
    · have h4 : Lf X.K X.mg C W σ H3 (fun u H v _ => VR X.K σ u H v) (M.opt ((if x.length ≤ sizeLine then some (PyData.str (cutS x l o)) else none).map Vl.d) env3) Q := h4
      rw [if_pos hx] at h4
      exact .inr (.inr ⟨x, rfl, hx, .now (h4 (.str _) H3 r3 (.str _) (.refl H3))⟩)
    · have h4 : Lf X.K X.mg C W σ H3 (fun u H v _ => VR X.K σ u H v) (M.opt ((if x.length ≤ sizeLine then some (PyData.str (cutS x l o)) else none).map Vl.d) env3) Q := h4
      rw [if_neg hx] at h4
      exact h4.elim
  | _ => exact h4.elim
theorem do_sl {lo hi : Option Expr} {ml mh : Option (M Vl)} (he : DE X T W e m) (hl : DP X T W lo ml) (hh : DP X T W hi mh) : DO X T W (.Subscript e (.Slice lo hi none p2) pos) (mSlL m ml mh) := by
  refine ⟨fun C hC => ⟨fun pins s σ H Q I h => (pe_slice sl_list (he.pe C hC) (hl.po C hC) (hh.po C hC)).run pins s σ H Q I ?_⟩⟩
  obtain ⟨env, r, h⟩ := h
  refine ⟨env, r, Lf.bind h fun u H1 v env1 r1 hv1 l1 h1 => ⟨env1, r1, Lf.bind h1 fun l H2 lv env2 r2 hl2 l2 h2 => ⟨env2, r2, Lf.bind h2 fun o H3 ov env3 r3 ho3 l3 h3 => ?_⟩⟩⟩
  subst hl2 ho3
  obtain ⟨d, z, h4⟩ := Lf.get h3 r3 (hv1.le (l2.trans l3))
  cases d with
  | list ds =>
    obtain ⟨a, xs, rfl, f1, z1⟩ := z.list
    exact ⟨a, xs, rfl, f1.sq, fun p hp => h4 (.ref p) _ (r3.grow (Same.new hp)) (new_OR r3 hp (cut_dz z1)) (.same (Same.new hp))⟩
  | _ => exact h4.elim
end

/-! ### in, not in -/
def gIn : PyData → PyData → Option PyData
  | d, .list ds => if SeqAt.shaped d && SeqAt.shaped (.list ds) then some (.bool (ds.any fun z => PyData.eqv z d)) else none
  | d, .tuple ds => if SeqAt.shaped d && SeqAt.shaped (.tuple ds) then some (.bool (ds.any fun z => PyData.eqv z d)) else none
  | .str i, .str j => some (.bool (!(Builtin.Str.occurrences j i 0 j.length 1).isEmpty))
  | _, _ => none
def gNotIn (x y : PyData) : Option PyData := match gIn x y with
  | some (.bool b) => some (.bool (!b))
  | _ => none
theorem gIn_bool {x y z : PyData} (h : gIn x y = some z) : ∃ b, z = .bool b := by
  unfold gIn at h
  split at h
  · split at h
    · cases h; exact ⟨_, rfl⟩
    · cases h
  · split at h
    · cases h; exact ⟨_, rfl⟩
    · cases h
  · cases h; exact ⟨_, rfl⟩
  · cases h
section
variable {X : Cx}
theorem o_in (hu : X.A.units + 65 < cLine) : Op2 X (compareOp .In) gIn := by
  intro pins s σ H x y v u dx dy dz I rx ry hx hy e Q q
  unfold gIn at e
  split at e
  · rename_i ds
    split at e
    · rename_i hs
      cases e
      obtain ⟨s1, s2⟩ := Bool.and_eq_true_iff.mp hs
      exact op_inD hu pins s σ H x y v u Q I rx ry ⟨dx, ds, hx.dp, hy.dp, s1, s2, q _ H (.refl H) (.bl _)⟩
    · cases e
  · rename_i ds
    split at e
    · rename_i hs
      cases e
      obtain ⟨s1, s2⟩ := Bool.and_eq_true_iff.mp hs
      obtain ⟨as, r1⟩ := Dp.reads I dx x v hx.dp rx
      obtain ⟨bs, r2⟩ := Dp.reads I (.tuple ds) y u hy.dp ry
      refine SeqAt.in_tuple_reads r2 r1 (SeqAt.canLay_of_shaped s2) (SeqAt.canLay_of_shaped s1) ?_ ⟨.bl _, H, I, rfl, q _ H (.refl H) (.bl _)⟩
      have h1 := SeqAt.depth_of_shaped s1
      have h2 := Nat.min_le_right (PyData.depthAll ds) dx.depth
      show X.A.units + 1 + min (PyData.depthAll ds) dx.depth < cLine
      omega
    · cases e
  · cases e
    have e1 := hx.str
    have e2 := hy.str
    subst e1 e2
    exact op_in_str pins s σ H _ _ v u Q I rx ry ⟨_, _, rfl, rfl, q _ H (.refl H) (.bl _)⟩
  · cases e
theorem o_notin (hu : X.A.units + 65 < cLine) : Op2 X (compareOp .NotIn) gNotIn := by
  intro pins s σ H x y v u dx dy dz I rx ry hx hy e Q q
  unfold gNotIn at e
  cases e0 : gIn dx dy with
  | none => rw [e0] at e; cases e
  | some z =>
    obtain ⟨b, rfl⟩ := gIn_bool e0
    rw [e0] at e
    cases e
    unfold gIn at e0
    split at e0
    · rename_i ds
      split at e0
      · rename_i hs
        cases e0
        obtain ⟨s1, s2⟩ := Bool.and_eq_true_iff.mp hs
        exact op_notInD hu pins s σ H x y v u Q I rx ry ⟨dx, ds, hx.dp, hy.dp, s1, s2, q _ H (.refl H) (.bl _)⟩
      · cases e0
    · rename_i ds
      split at e0
      · rename_i hs
        cases e0
        obtain ⟨s1, s2⟩ := Bool.and_eq_true_iff.mp hs
        obtain ⟨as, r1⟩ := Dp.reads I dx x v hx.dp rx
        obtain ⟨bs, r2⟩ := Dp.reads I (.tuple ds) y u hy.dp ry
        refine SeqAt.notIn_tuple_reads r2 r1 (SeqAt.canLay_of_shaped s2) (SeqAt.canLay_of_shaped s1) ?_ ⟨.bl _, H, I, rfl, q _ H (.refl H) (.bl _)⟩
        have h1 := SeqAt.depth_of_shaped s1
        have h2 := Nat.min_le_right (PyData.depthAll ds) dx.depth
        show X.A.units + 1 + min (PyData.depthAll ds) dx.depth < cLine
        omega
      · cases e0
    · cases e0
      have e1 := hx.str
      have e2 := hy.str
      subst e1 e2
      exact op_notIn_str pins s σ H _ _ v u Q I rx ry ⟨_, _, rfl, rfl, q _ H (.refl H) (.bl _)⟩
    · cases e0

/-! ### any, all, max, min of lists and tuples -/
def flatD : PyData → Bool
  | .none => true
  | .bool _ => true
  | .int _ => true
  | _ => false
theorem flat_plain : ∀ {ds : List PyData}, ds.all flatD = true → PyData.plainAll ds = true ∧ ∀ x ∈ ds, x.fits63
  | [], _ => ⟨rfl, fun x h => by cases h⟩
  | d :: ds, h => by
    rw [List.all_cons, Bool.and_eq_true] at h
    obtain ⟨h1, h2⟩ := flat_plain h.2
    refine ⟨?_, fun x hx => ?_⟩
    · show (d.plain && PyData.plainAll ds) = true
      rw [h1]
      cases d <;> first | rfl | exact absurd h.1 (by simp [flatD])
    · rcases List.mem_cons.mp hx with rfl | hx
      · cases x <;> first | trivial | exact absurd h.1 (by simp [flatD])
      · exact h2 x hx
def gAnyA : List PyData → Option PyData
  | [.list xs] => if xs.all flatD then some (.bool (xs.any PyData.truthy)) else none
  | [.tuple xs] => if xs.all flatD then some (.bool (xs.any PyData.truthy)) else none
  | _ => none
def gAllA : List PyData → Option PyData
  | [.list xs] => if xs.all flatD then some (.bool (xs.all PyData.truthy)) else none
  | [.tuple xs] => if xs.all flatD then some (.bool (xs.all PyData.truthy)) else none
  | _ => none
theorem c_anyA (hc : X.calm = true) : CallD X (.builtin "any") gAnyA := by
  intro pins s σ H xs us ds d I r hz e Q q
  unfold gAnyA at e
  split at e
  · rename_i es
    split at e
    · rename_i hf
      cases e
      obtain ⟨h1, h2⟩ := flat_plain hf
      obtain ⟨x, rfl, h⟩ := hz.one
      obtain ⟨a, ys, rfl, f1, z1⟩ := h.list
      obtain ⟨its, rv, hl, _⟩ := I.list f1.sq
      rw [Vals.ref1 r]
      obtain ⟨as, ra⟩ := Dp.readsAll I es ys its z1.dp rv
      exact PySem.W.any_list_data (I.ok.hd hc) hl.isList (by simpa using ra) h1 h2 fun h' tk hk => ⟨.bl _, H, I.kept hk, rfl, q _ H (.refl H) (.bl _)⟩
    · cases e
  · rename_i es
    split at e
    · rename_i hf
      cases e
      obtain ⟨h1, h2⟩ := flat_plain hf
      obtain ⟨x, rfl, h⟩ := hz.one
      obtain ⟨a, ys, rfl, f1, z1⟩ := h.tuple
      obtain ⟨its, rv, hl, _⟩ := I.tuple f1.sq
      rw [Vals.ref1 r]
      obtain ⟨as, ra⟩ := Dp.readsAll I es ys its z1.dp rv
      exact PySem.W.any_tuple_data (vs := its.toArray) (I.ok.hd hc) hl (by simpa using ra) h1 h2 fun h' tk hk => ⟨.bl _, H, I.kept hk, rfl, q _ H (.refl H) (.bl _)⟩
    · cases e
  · cases e
theorem c_allA (hc : X.calm = true) : CallD X (.builtin "all") gAllA := by
  intro pins s σ H xs us ds d I r hz e Q q
  unfold gAllA at e
  split at e
  · rename_i es
    split at e
    · rename_i hf
      cases e
      obtain ⟨h1, h2⟩ := flat_plain hf
      obtain ⟨x, rfl, h⟩ := hz.one
      obtain ⟨a, ys, rfl, f1, z1⟩ := h.list
      obtain ⟨its, rv, hl, _⟩ := I.list f1.sq
      rw [Vals.ref1 r]
      obtain ⟨as, ra⟩ := Dp.readsAll I es ys its z1.dp rv
      exact PySem.W.all_list_data (I.ok.hd hc) hl.isList (by simpa using ra) h1 h2 fun h' tk hk => ⟨.bl _, H, I.kept hk, rfl, q _ H (.refl H) (.bl _)⟩
    · cases e
  · rename_i es
    split at e
    · rename_i hf
      cases e
      obtain ⟨h1, h2⟩ := flat_plain hf
      obtain ⟨x, rfl, h⟩ := hz.one
      obtain ⟨a, ys, rfl, f1, z1⟩ := h.tuple
      obtain ⟨its, rv, hl, _⟩ := I.tuple f1.sq
      rw [Vals.ref1 r]
      obtain ⟨as, ra⟩ := Dp.readsAll I es ys its z1.dp rv
      exact PySem.W.all_tuple_data (vs := its.toArray) (I.ok.hd hc) hl (by simpa using ra) h1 h2 fun h' tk hk => ⟨.bl _, H, I.kept hk, rfl, q _ H (.refl H) (.bl _)⟩
    · cases e
  · cases e
end
end DL
end

/- DL17 -/
section
set_option maxHeartbeats 4000000
namespace DL
open PySem PySem.Spec PyProof.Rows L2

/-! ### max, min of tuples of ints -/
theorem depth_ints : ∀ ns : List Int, PyData.depthAll (ns.map .int) ≤ 1
  | [] => Nat.zero_le _
  | n :: ns => Nat.max_le.mpr ⟨by show PyData.depth (.int n) ≤ 1; simp [PyData.depth], depth_ints ns⟩
theorem alike_ints (ns : List Int) : PySem.W.AlikeAll (ns.map .int) := by
  refine ⟨fun x hx y hy => ?_, fun x hx => ?_⟩
  · obtain ⟨i, _, rfl⟩ := List.mem_map.mp hx
    obtain ⟨j, _, rfl⟩ := List.mem_map.mp hy
    rfl
  · obtain ⟨i, _, rfl⟩ := List.mem_map.mp hx
    exact fun z => by cases z
def gMaxA : List PyData → Option PyData
  | [.tuple xs] => (toInts xs).bind fun ns => (maxI ns).map .int
  | ds => gMax ds
def gMinA : List PyData → Option PyData
  | [.tuple xs] => (toInts xs).bind fun ns => (minI ns).map .int
  | ds => gMin ds
section
variable {X : Cx}
theorem c_maxA (hc : X.calm = true) (hu : X.A.units + 65 < cLine) : CallD X (.builtin "max") gMaxA := by
  intro pins s σ H xs us ds d I r hz e Q q
  unfold gMaxA at e
  split at e
  · rename_i es
    cases q2 : toInts es with
    | none => rw [q2] at e; cases e
    | some ns =>
      rw [q2] at e
      have ee := toInts_eq q2
      subst ee
      obtain ⟨x, rfl, h⟩ := hz.one
      obtain ⟨a, ys, rfl, f1, z1⟩ := h.tuple
      obtain ⟨its, rv, hl, _⟩ := I.tuple f1.sq
      rw [Vals.ref1 r]
      obtain ⟨as, ra⟩ := Dp.readsAll I _ ys its z1.dp rv
      match ns, e, ra with
      | n :: ns, e, ra =>
        cases e
        have hd := depth_ints (n :: ns)
        refine PySem.W.max_tuple_data (x := .int n) (xs := ns.map .int) (vs := its.toArray) (I.ok.hd hc) hl (by simpa using ra) (alike_ints (n :: ns)) (by
          have : PyData.depthAll (PyData.int n :: List.map PyData.int ns) ≤ 1 := hd
          omega) fun i v h' tk bs _ hr hk => ?_
        rw [PySem.W.maxD_ints] at hr
        cases hr with
        | int m t => exact ⟨.int _, H, I.kept hk, ⟨_, rfl⟩, q _ H (.refl H) (.int _)⟩
  · exact c_max hc pins s σ H xs us ds d I r hz e Q q
theorem c_minA (hc : X.calm = true) (hu : X.A.units + 65 < cLine) : CallD X (.builtin "min") gMinA := by
  intro pins s σ H xs us ds d I r hz e Q q
  unfold gMinA at e
  split at e
  · rename_i es
    cases q2 : toInts es with
    | none => rw [q2] at e; cases e
    | some ns =>
      rw [q2] at e
      have ee := toInts_eq q2
      subst ee
      obtain ⟨x, rfl, h⟩ := hz.one
      obtain ⟨a, ys, rfl, f1, z1⟩ := h.tuple
      obtain ⟨its, rv, hl, _⟩ := I.tuple f1.sq
      rw [Vals.ref1 r]
      obtain ⟨as, ra⟩ := Dp.readsAll I _ ys its z1.dp rv
      match ns, e, ra with
      | n :: ns, e, ra =>
        cases e
        have hd := depth_ints (n :: ns)
        refine PySem.W.min_tuple_data (x := .int n) (xs := ns.map .int) (vs := its.toArray) (I.ok.hd hc) hl (by simpa using ra) (alike_ints (n :: ns)) (by
          have : PyData.depthAll (PyData.int n :: List.map PyData.int ns) ≤ 1 := hd
          omega) fun i v h' tk bs _ hr hk => ?_
        rw [PySem.W.minD_ints] at hr
        cases hr with
        | int m t => exact ⟨.int _, H, I.kept hk, ⟨_, rfl⟩, q _ H (.refl H) (.int _)⟩
  · exact c_min hc pins s σ H xs us ds d I r hz e Q q
end

/-! ### methods that only read -/
def rMB (K : PySem.W.Frag) (g : PyData → List PyData → Option PyData) : V → List V → Hp → VK → Prop := fun x vs H Q => ∃ dx args d, Rz K H x dx ∧ RzAll K H vs args ∧ g dx args = some d ∧ ∀ z H', Same H H' → Dz K H' z d → Q z H'
def mMB (ty : PyData → Bool) (g : PyData → List PyData → Option PyData) (m : M Vl) (ms : M (List Vl)) : M Vl := M.bind m fun v => M.bind v.get fun d0 => if ty d0 = true then M.bind ms fun vs => M.bind v.get fun d => M.bind (getAll vs) fun ds => M.opt ((g d ds).map Vl.d) else M.stuck
section
variable {X : Cx} {T : List (Addr × Str)} {W : WX} {o e : Expr} {es : List Expr} {m : M Vl} {ms : M (List Vl)} {pos apos cpos : Pos} {ty : PyData → Bool} {g : PyData → List PyData → Option PyData} {Ty id : String} {name : Str}
theorem de_mb (slot : Slot Ty name id) (hm : MtR X id (rMB X.K g)) (hT : ∀ u H d, Rz X.K H u d → ty d = true → tyV X.K Ty u H) (ho : DE X T W o m) (ha : DA X T W (e :: es) ms) (pa : PlainAttrs Ty) (hty : typeOf (.builtin id) = pure (.type "method_descriptor") := by rfl)
    (hbase : attributeBase o name X.env (eval o X.env) = eval o X.env := by rfl)
    (hfew : ((backTo cpos (starEach (e :: es) X.env)).all (fun x => !x.1) && (backToKw cpos (keywordEach [] X.env)).all (fun x => x.1.isSome)
      && decide ((e :: es).length + ([] : List Keyword).length + (if ([] : List Keyword).isEmpty then 0 else 1) < 30)) = true := by rfl)
    (hline : (apos.endLine == cpos.line) = true := by rfl) (hs : starEach (e :: es) X.env = (false, eval e X.env) :: starEach es X.env := by rfl) (hplain : (backTo cpos (starEach es X.env)).any (·.1) = false := by rfl) :
    DE X T W (.Call (.Attribute o name apos) (e :: es) [] cpos) (mMB ty g m ms) := by
  refine ⟨fun C hC => ⟨fun pins s σ H Q I h => (pe_bm pa slot hty hm (ho.pe C hC) (ha.pa C hC) hbase hfew hline hs hplain).run pins s σ H Q I ?_⟩⟩
  obtain ⟨env, r, h⟩ := h
  refine ⟨env, r, Lf.bind h fun u H1 v env1 r1 hv1 l1 h1 => ?_⟩
  obtain ⟨d0, z0, h2⟩ := Lf.get h1 r1 hv1
  by_cases ht : ty d0 = true
  · rw [if_pos ht] at h2
    refine ⟨hT u H1 d0 z0 ht, env1, r1, Lf.bind h2 fun us H2 vs env2 r2 hv2 l2 h3 => ?_⟩
    obtain ⟨d, z, h4⟩ := Lf.get h3 r2 (hv1.le l2)
    obtain ⟨ds, zs, h5⟩ := Lf.getAll h4 r2 hv2
    obtain ⟨dz, e, h6⟩ := Lf.opt h5 r2
    exact ⟨d, ds, dz, z, zs, e, h6⟩
  · rw [if_neg ht] at h2
    exact h2.elim
theorem de_mb0 (slot : Slot Ty name id) (hm : MtR X id (rMB X.K g)) (hT : ∀ u H d, Rz X.K H u d → ty d = true → tyV X.K Ty u H) (ho : DE X T W o m) (pa : PlainAttrs Ty) (hty : typeOf (.builtin id) = pure (.type "method_descriptor") := by rfl)
    (hbase : attributeBase o name X.env (eval o X.env) = eval o X.env := by rfl) (hline : (apos.endLine == cpos.line) = true := by rfl) :
    DE X T W (.Call (.Attribute o name apos) [] [] cpos) (mMB ty g m mNil) := by
  refine ⟨fun C hC => ⟨fun pins s σ H Q I h => (pe_bm0 pa slot hty hm (ho.pe C hC) hbase hline).run pins s σ H Q I ?_⟩⟩
  obtain ⟨env, r, h⟩ := h
  refine ⟨env, r, Lf.bind h fun u H1 v env1 r1 hv1 l1 h1 => ?_⟩
  obtain ⟨d0, z0, h2⟩ := Lf.get h1 r1 hv1
  by_cases ht : ty d0 = true
  · rw [if_pos ht] at h2
    have h3 : Lf X.K X.mg C W σ H1 (fun u H v _ => VR X.K σ u H v) (M.bind v.get (fun d => M.opt ((g d []).map Vl.d)) env1) Q := h2
    obtain ⟨d, z, h4⟩ := Lf.get h3 r1 hv1
    obtain ⟨dz, e, h6⟩ := Lf.opt h4 r1
    exact ⟨hT u H1 d0 z0 ht, d, [], dz, z, trivial, e, h6⟩
  · rw [if_neg ht] at h2
    exact h2.elim
theorem ty_list : ∀ u H d, Rz X.K H u d → isLst d = true → tyV X.K "list" u H := fun u H d z h => by
  cases d with
  | list ds =>
    obtain ⟨a, xs, rfl, f1, _⟩ := z.list
    exact .inl ⟨rfl, xs, f1.sq⟩
  | _ => cases h
theorem ty_str : ∀ u H d, Rz X.K H u d → isStr d = true → tyV X.K "str" u H := fun u H d z h => by
  cases d with
  | str x =>
    have := z.str
    subst this
    rfl
  | _ => cases h
def gCount : PyData → List PyData → Option PyData
  | .list ds, [d] => if SeqAt.shaped d && SeqAt.shaped (.list ds) then some (.int ((ds.countP fun y => PyData.eqv y d : Nat) : Int)) else none
  | _, _ => none
def gIndex : PyData → List PyData → Option PyData
  | .list ds, [d] => if SeqAt.shaped d && SeqAt.shaped (.list ds) then (ds.findIdx? fun z => PyData.eqv z d).map fun j => .int (j : Nat) else none
  | _, _ => none
theorem m_count (hu : X.A.units + 65 < cLine) : MtR X "list.count" (rMB X.K gCount) := by
  intro pins s σ H x xs v us Q I rx rxs h
  obtain ⟨dx, args, d, hx, hz, e, q⟩ := h
  unfold gCount at e
  split at e
  · rename_i ds d1
    split at e
    · rename_i hs
      cases e
      obtain ⟨s1, s2⟩ := Bool.and_eq_true_iff.mp hs
      obtain ⟨y, rfl, zy⟩ := hz.one
      obtain ⟨uy, rfl, ry⟩ := rxs.one
      obtain ⟨a, ys, rfl, f1, z1⟩ := hx.list
      cases rx
      obtain ⟨its, rv, hl, _⟩ := I.list f1.sq
      obtain ⟨as, ra⟩ := Dp.readsAll I ds ys its z1.dp rv
      obtain ⟨bs, rb⟩ := Dp.reads I d1 y uy zy.dp ry
      refine SeqAt.count_list_data hl.isList (by simpa using ra) rb (PyData.plainAll_of_canLay0 ds (SeqAt.canLay_of_shaped s2)) (PyData.plain_of_canLay0 d1 (SeqAt.canLay_of_shaped s1)) ?_ ⟨.int _, H, I.tok _, ⟨_, rfl⟩, q _ H (.refl H) (.int _)⟩
      have h1 := SeqAt.depth_of_shaped s1
      have h2 := Nat.min_le_right (PyData.depthAll ds) d1.depth
      omega
    · cases e
  · cases e
theorem m_index (hu : X.A.units + 65 < cLine) : MtR X "list.index" (rMB X.K gIndex) := by
  intro pins s σ H x xs v us Q I rx rxs h
  obtain ⟨dx, args, d, hx, hz, e, q⟩ := h
  unfold gIndex at e
  split at e
  · rename_i ds d1
    split at e
    · rename_i hs
      rw [Option.map_eq_some_iff] at e
      obtain ⟨j, ej, rfl⟩ := e
      obtain ⟨s1, s2⟩ := Bool.and_eq_true_iff.mp hs
      obtain ⟨y, rfl, zy⟩ := hz.one
      obtain ⟨a, ys, rfl, f1, z1⟩ := hx.list
      obtain ⟨hj, e1, e2⟩ := List.findIdx?_eq_some_iff_getElem.mp ej
      exact mt_indexD hu pins s σ H _ _ v us Q I rx rxs ⟨a, y, d1, ds, j, ds[j], rfl, rfl, hx.dp, zy.dp, s2, s1, List.getElem?_eq_getElem hj, e1, fun m z' hm hz' => by
        obtain ⟨hml, hme⟩ := List.getElem?_eq_some_iff.mp hz'
        have := e2 m hm
        rw [hme] at this
        simpa using this, q _ H (.refl H) (.int _)⟩
    · cases e
  · cases e
end

/-! ### list(range(n)) -/
def mLstRg (m : M Vl) : M (List PyData) := M.bind m fun v => match v with
  | .d (.int j) => if 0 ≤ j ∧ j ≤ 16777216 then M.pure ((List.range j.toNat).map fun i => .int (0 + (i : Nat))) else M.stuck
  | _ => M.stuck
section
variable {X : Cx} {T : List (Addr × Str)} {W : WX} {e : Expr} {m : M Vl} {p p2 q pos : Pos}
theorem do_lstRg (hc : X.calm = true) (hg : Gl X "list") (hm : X.mg "list" = none) (hg2 : Gl X "range") (hm2 : X.mg "range" = none) (he : DE X T W e m) (na : starEach [e] X.env = (false, eval e X.env) :: starEach [] X.env := by rfl)
    (na2 : starEach [.Call (.Name "range" p2) [e] [] q] X.env = (false, eval (.Call (.Name "range" p2) [e] [] q) X.env) :: starEach [] X.env := by rfl) : DO X T W (.Call (.Name "list" p) [.Call (.Name "range" p2) [e] [] q] [] pos) (mLstRg m) := by
  refine ⟨fun C hC => ⟨fun pins s σ H Q I h => (pe_listRg hc hg hm (prg_1 hg2 hm2 (he.pe C hC) na) na2).run pins s σ H Q I ?_⟩⟩
  obtain ⟨env, r, h⟩ := h
  refine ⟨env, r, Lf.bind h fun u H1 v env1 r1 hv l1 h1 => ?_⟩
  match v, hv, h1 with
  | .d (.int j), hv, h1 =>
    cases (show Dz X.K H1 u (.int j) from hv)
    dsimp only at h1
    by_cases hj : 0 ≤ j ∧ j ≤ 16777216
    · rw [if_pos hj] at h1
      refine ⟨j, rfl, RgOk.of_le (Int.le_refl 0) hj.2 (by omega) hj.1, fun p hp => ?_⟩
      have hz : DzAll X.K H1 (rgV 0 j) ((List.range j.toNat).map fun i => .int (0 + (i : Nat))) := by
        have := DzAll.of_ints (K := X.K) (H := H1) ((List.range j.toNat).map fun i => 0 + ((i : Nat) : Int))
        rw [List.map_map, List.map_map] at this
        unfold rgV
        rw [Int.sub_zero]
        exact this
      exact h1 (.ref p) _ (r1.grow (Same.new hp)) (new_OR r1 hp hz) (.same (Same.new hp))
    · rw [if_neg hj] at h1
      exact h1.elim
end
end DL
end

/- DL18 -/
section
set_option maxHeartbeats 4000000
namespace DL
open PySem PySem.Spec PyProof.Rows L2

/-! ### several values, new own lists among them -/
def RRs (K : PySem.W.Frag) (C : Ct) (σ : L2.St) (H : Hp) (env : En) : List V → List RVl → Prop
  | [], [] => True
  | u :: us, .d x :: vs => Dz K H u x ∧ RRs K C σ H env us vs
  | u :: us, .o ds :: vs => (∃ p xs, u = .ref p ∧ H p = some (.lst xs) ∧ DzAll K H xs ds ∧ Nk C.H0 p ∧ C.P p = none ∧ (∀ (i : Nat) b es, env[i]? = some (some (.own b es)) → σ[i]? ≠ some (some (.ref p))) ∧ ∀ (j : Nat) es, vs[j]? = some (.o es) → us[j]? ≠ some (.ref p)) ∧ RRs K C σ H env us vs
  | _, _ => False
def liftAV (K : PySem.W.Frag) (mg : Str → Option Value) (C : Ct) (W : WX) (m : M (List RVl)) : TA := fun σ H Q => ∃ env, Rel K C H σ env ∧ Lf K mg C W σ H (fun us H vs env => RRs K C σ H env us vs) (m env) Q
structure DAV (X : Cx) (T : List (Addr × Str)) (W : WX) (es : List Expr) (m : M (List RVl)) : Prop where
  pa : ∀ C : Ct, C.T = T → PA X es (liftAV X.K X.mg C W m)
def vNil : M (List RVl) := M.pure []
def vD (m : M Vl) (ms : M (List RVl)) : M (List RVl) := M.bind m fun v => M.bind (leak v) fun d => M.bind ms fun vs => M.pure (.d d :: vs)
def vO (m : M (List PyData)) (ms : M (List RVl)) : M (List RVl) := M.bind m fun ds => M.bind ms fun vs => M.pure (.o ds :: vs)
theorem RRs.own {K : PySem.W.Frag} {C : Ct} {σ : L2.St} {H : Hp} {env : En} : ∀ {us : List V} {vs : List RVl}, RRs K C σ H env us vs → ∀ (j : Nat) es, vs[j]? = some (.o es) → ∃ p, us[j]? = some (.ref p) ∧ C.P p = none
  | [], [], _, _, _, e => by simp at e
  | u :: us, .d x :: vs, h, 0, _, e => by simp at e
  | u :: us, .d x :: vs, h, j + 1, es, e => by simpa using RRs.own h.2 j es (by simpa using e)
  | u :: us, .o ds :: vs, h, 0, _, e => by
    obtain ⟨⟨p, xs, rfl, _, _, _, hp, _⟩, _⟩ := h
    exact ⟨p, rfl, hp⟩
  | u :: us, .o ds :: vs, h, j + 1, es, e => by simpa using RRs.own h.2 j es (by simpa using e)
  | [], _ :: _, h, _, _, _ => h.elim
  | _ :: _, [], h, _, _, _ => h.elim
theorem RRs.unP {K : PySem.W.Frag} {C : Ct} {σ : L2.St} {H : Hp} {env : En} {D : Addr} {o : PO} : ∀ {us : List V} {vs : List RVl}, RRs K (C.withP D o) σ H env us vs → RRs K C σ H env us vs
  | [], [], _ => trivial
  | u :: us, .d x :: vs, h => ⟨h.1, RRs.unP h.2⟩
  | u :: us, .o ds :: vs, h => by
    obtain ⟨⟨p, xs, rfl, h1, h2, h3, hp, h4, h5⟩, h6⟩ := h
    refine ⟨⟨p, xs, rfl, h1, h2, h3, ?_, h4, h5⟩, RRs.unP h6⟩
    have hp : (if p = D then some o else C.P p) = none := hp
    split at hp
    · cases hp
    · exact hp
  | [], _ :: _, h => h.elim
  | _ :: _, [], h => h.elim
def anyA (T : List (Addr × Str)) (f : Ct → TA) : TA := fun σ H Q => ∃ C, C.T = T ∧ f C σ H Q
theorem pa_any {X : Cx} {T : List (Addr × Str)} {es : List Expr} {f : Ct → TA} (h : ∀ C, C.T = T → PA X es (f C)) : PA X es (anyA T f) := ⟨fun pos pins s σ H Q I ⟨C, hC, q⟩ => (h C hC).run pos pins s σ H Q I q⟩
section
variable {X : Cx} {T : List (Addr × Str)} {W : WX} {e : Expr} {es : List Expr} {m : M Vl} {mo : M (List PyData)} {ms : M (List RVl)} {pos : Pos}
theorem dav_nil : DAV X T W [] vNil := by
  refine ⟨fun C hC => ⟨fun pos pins s σ H Q I h => pa_nil.run pos pins s σ H Q I ?_⟩⟩
  obtain ⟨env, r, h⟩ := h
  exact h [] H r trivial (.refl H)
theorem dav_d (he : DE X T W e m) (hs : DAV X T W es ms) (hst : starEach (e :: es) X.env = (false, eval e X.env) :: starEach es X.env := by rfl) : DAV X T W (e :: es) (vD m ms) := by
  refine ⟨fun C hC => ⟨fun pos pins s σ H Q I h => (pa_cons (pe_ghost (he.pe C hC)) (hs.pa C hC) hst).run pos pins s σ H Q I ?_⟩⟩
  obtain ⟨env, r, h⟩ := h
  refine ⟨env, r, Lf.bind h fun u H1 v env1 r1 hv l1 h1 => ?_⟩
  obtain ⟨d, env2, e1, h2⟩ := Lf.leak h1 r1 hv
  refine (leak_ok r1 hv e1).imp fun H2 ⟨r2', z2, l2, _, _⟩ => ?_
  refine ⟨env2, r2', Lf.bind (h2.mono l2 fun _ _ z => z) fun us H3 vs env3 r3 hvs l3 h3 => ?_⟩
  exact h3 (u :: us) H3 r3 ⟨Dz.le l3 _ z2, hvs⟩ (.refl H3)
theorem dav_o (he : DO X T W e mo) (hs : DAV X T W es ms) (hst : starEach (e :: es) X.env = (false, eval e X.env) :: starEach es X.env := by rfl) : DAV X T W (e :: es) (vO mo ms) := by
  refine ⟨fun C hC => ⟨fun pos pins s σ H Q I h => (pa_cons (he.pe C hC) (pa_any (T := T) hs.pa) hst).run pos pins s σ H Q I ?_⟩⟩
  obtain ⟨env, r, h⟩ := h
  refine ⟨env, r, Lf.bind h fun u H1 ds env1 r1 hv l1 h1 => ?_⟩
  obtain ⟨p, xs, rfl, h2, h3, h4, h5, h6⟩ := hv
  refine ⟨C.withP p (.l xs), hC, env1, r1.addP h2 h6, ?_⟩
  unfold M.bind at h1
  cases e : ms env1 with
  | stuck => rw [e] at h1; exact h1.elim
  | err x env' =>
    rw [e] at h1
    exact fun cls od H' r' er l => h1 cls od H' (r'.unP h5) er l
  | ok vs env2 =>
    rw [e] at h1
    refine fun us H2 r2 hvs l2 => h1 (.ref p :: us) H2 (r2.unP h5) ⟨⟨p, xs, rfl, r2.atP, DzAll.le l2 _ h3, h4, h5, fun i b es q => r2.offP q, fun j es q z => ?_⟩, hvs.unP⟩ l2
    obtain ⟨p', q1, q2⟩ := hvs.own j es q
    rw [z] at q1
    cases q1
    have q2 : (if p = p then some (PO.l xs) else C.P p) = none := q2
    rw [if_pos rfl] at q2
    cases q2
def evOf : RVl → EV
  | .d x => .d x
  | .o ds => .own false ds
def stoV (i : Nat) (v : RVl) : M Unit := sto i (evOf v)
/-- one is stored, the others are as they were -/
theorem stoV_ok {C : Ct} {σ : L2.St} {H : Hp} {env : En} {i : Nat} {u : V} {v : RVl} {us : List V} {vs : List RVl} (r : Rel X.K C H σ env) (h : RRs X.K C σ H env (u :: us) (v :: vs)) (hn : ∀ ds, env[i]? ≠ some (some (.own true ds))) :
    Rel X.K C H (σ.set i (some u)) (env.set i (some (evOf v))) ∧ RRs X.K C (σ.set i (some u)) H (env.set i (some (evOf v))) us vs := by
  have key : ∀ (us' : List V) (vs' : List RVl), RRs X.K C σ H env us' vs' → (∀ p (j : Nat) es, u = .ref p → (∃ ds, v = .o ds) → vs'[j]? = some (.o es) → us'[j]? ≠ some (.ref p)) → RRs X.K C (σ.set i (some u)) H (env.set i (some (evOf v))) us' vs' := by
    intro us' vs' hh
    induction us' generalizing vs' with
    | nil =>
      cases vs' with
      | nil => exact fun _ => trivial
      | cons _ _ => exact hh.elim
    | cons w us' ih =>
      cases vs' with
      | nil => exact hh.elim
      | cons z vs' =>
        intro hd
        have hd' : ∀ p (j : Nat) es, u = .ref p → (∃ ds, v = .o ds) → vs'[j]? = some (.o es) → us'[j]? ≠ some (.ref p) := fun p j es e1 e2 e3 => by
          have := hd p (j + 1) es e1 e2 (by simpa using e3)
          simpa using this
        cases z with
        | d x => exact ⟨hh.1, ih vs' hh.2 hd'⟩
        | o ds =>
          obtain ⟨⟨p, xs, rfl, q1, q2, q3, q4, q5, q6⟩, q7⟩ := hh
          refine ⟨⟨p, xs, rfl, q1, q2, q3, q4, fun k b es e1 e2 => ?_, q6⟩, ih vs' q7 hd'⟩
          rcases get_set e1 with ⟨rfl, ex⟩ | ⟨hne, e1⟩
          · have hi : i < σ.length := by
              have := (List.getElem?_eq_some_iff.mp e2).1
              rw [List.length_set] at this
              exact this
            rw [List.getElem?_set_self hi] at e2
            cases v with
            | d x => cases ex
            | o ds' =>
              cases e2
              exact hd p 0 ds rfl ⟨ds', rfl⟩ rfl rfl
          · rw [List.getElem?_set_ne hne] at e2
            exact q5 k b es e1 e2
  cases v with
  | d x => exact ⟨r.stoD h.1 hn, key us vs h.2 fun p j es _ e => by obtain ⟨_, e⟩ := e; cases e⟩
  | o ds =>
    obtain ⟨⟨p, xs, rfl, q1, q2, q3, q4, q5, q6⟩, q7⟩ := h
    refine ⟨r.stoO ⟨p, xs, rfl, q1, q2, q3, q4, q5⟩ hn, key us vs q7 fun p' j es e1 _ e3 => ?_⟩
    cases e1
    exact q6 j es e3
def sPar2 (i j : Nat) (ms : M (List RVl)) : M Fl := M.bind ms fun vs => match vs with
  | [v, w] => M.bind (stoV i v) fun _ => M.bind (stoV j w) fun _ => sNext
  | _ => M.stuck
def sPar3 (i j l : Nat) (ms : M (List RVl)) : M Fl := M.bind ms fun vs => match vs with
  | [v, w, z] => M.bind (stoV i v) fun _ => M.bind (stoV j w) fun _ => M.bind (stoV l z) fun _ => sNext
  | _ => M.stuck
theorem Sf.stoV {C : Ct} {H : Hp} {env : En} {i : Nat} {v : RVl} {k : M Fl} {D : Ends} (h : Sf X.K X.mg C W H (M.bind (DL.stoV i v) (fun _ => k) env) D) : (∀ ds, env[i]? ≠ some (some (.own true ds))) ∧ Sf X.K X.mg C W H (k (env.set i (some (evOf v)))) D := by
  unfold M.bind at h
  cases e : DL.stoV i v env with
  | ok w env' =>
    rw [e] at h
    obtain ⟨hn, e2⟩ := sto_ok e
    subst e2
    exact ⟨hn, h⟩
  | err x env' => exact absurd e sto_noerr
  | stuck => rw [e] at h; exact h.elim
theorem ds_par2 {i j : Nat} {x y : Str} {a b : Expr} {px py pt : Pos} {kt k2 pt2} (hc : X.calm = true) (hN : X.N.Nodup) (hi : X.N[i]? = some x) (hj : X.N[j]? = some y) (hij : i ≠ j)
    (hx : X.env.scope.names.lookup x = some .local) (hy : X.env.scope.names.lookup y = some .local) (ha : DAV X T W [a, b] ms)
    (hw : swappedStores [.Tuple [.Name x px, .Name y py] kt pt] (.Tuple [a, b] k2 pt2) X.env = pure (some [x, y]) := by rfl)
    (hs : swapsWithSole [.Tuple [.Name x px, .Name y py] kt pt] (.Tuple [a, b] k2 pt2) pos.line X.env = pure false := by rfl) :
    DS X T W (.Assign [.Tuple [.Name x px, .Name y py] kt pt] (.Tuple [a, b] k2 pt2) pos) (sPar2 i j ms) := by
  refine ⟨fun C hC => ⟨fun pins s σ H D I h => (ps_par hc hN hi hj hij hx hy (ha.pa C hC) hw hs).run pins s σ H D I ?_⟩⟩
  obtain ⟨env, r, h⟩ := h
  refine ⟨env, r, Sf.bind h fun us H1 vs env1 r1 hv l1 h1 => ?_⟩
  match us, vs, hv, h1 with
  | [u, u'], [v, w], hv, h1 =>
    obtain ⟨n1, h2⟩ := Sf.stoV h1
    obtain ⟨r2, hv2⟩ := stoV_ok r1 hv n1
    obtain ⟨n2, h3⟩ := Sf.stoV h2
    obtain ⟨r3, _⟩ := stoV_ok r2 hv2 n2
    exact ⟨u, u', rfl, h3 _ H1 r3 (.refl H1)⟩
  | [], [v, w], hv, _ => exact hv.elim
  | [u], [v, w], hv, _ =>
    cases v with
    | d x => exact hv.2.elim
    | o ds => exact hv.2.elim
  | u :: u' :: u2 :: us, [v, w], hv, _ =>
    cases v with
    | d x => cases w with
      | d y => exact hv.2.2.elim
      | o ds => exact hv.2.2.elim
    | o ds => cases w with
      | d y => exact hv.2.2.elim
      | o ds => exact hv.2.2.elim
theorem ds_par3 {i j l : Nat} {x y z : Str} {a b c : Expr} {px py pz pt : Pos} {kt k2 pt2} (hc : X.calm = true) (hN : X.N.Nodup) (hi : X.N[i]? = some x) (hj : X.N[j]? = some y) (hl : X.N[l]? = some z) (hij : i ≠ j) (hil : i ≠ l) (hjl : j ≠ l)
    (hx : X.env.scope.names.lookup x = some .local) (hy : X.env.scope.names.lookup y = some .local) (hz : X.env.scope.names.lookup z = some .local) (ha : DAV X T W [a, b, c] ms)
    (hw : swappedStores [.Tuple [.Name x px, .Name y py, .Name z pz] kt pt] (.Tuple [a, b, c] k2 pt2) X.env = pure (some [x, y, z]) := by rfl)
    (hs : swapsWithSole [.Tuple [.Name x px, .Name y py, .Name z pz] kt pt] (.Tuple [a, b, c] k2 pt2) pos.line X.env = pure false := by rfl) :
    DS X T W (.Assign [.Tuple [.Name x px, .Name y py, .Name z pz] kt pt] (.Tuple [a, b, c] k2 pt2) pos) (sPar3 i j l ms) := by
  refine ⟨fun C hC => ⟨fun pins s σ H D I h => (ps_par3 hc hN hi hj hl hij hil hjl hx hy hz (ha.pa C hC) hw hs).run pins s σ H D I ?_⟩⟩
  obtain ⟨env, r, h⟩ := h
  refine ⟨env, r, Sf.bind h fun us H1 vs env1 r1 hv l1 h1 => ?_⟩
  have len : ∀ (us : List V) (vs : List RVl), RRs X.K C σ H1 env1 us vs → us.length = vs.length := by
    intro us
    induction us with
    | nil => intro vs h; cases vs with
      | nil => rfl
      | cons _ _ => exact h.elim
    | cons u us ih => intro vs h; cases vs with
      | nil => exact h.elim
      | cons v vs => cases v with
        | d x => exact congrArg Nat.succ (ih vs h.2)
        | o ds => exact congrArg Nat.succ (ih vs h.2)
  match vs, hv, h1 with
  | [v, w, q], hv, h1 =>
    have e := len us _ hv
    match us, e, hv with
    | [u, u', u''], _, hv =>
      obtain ⟨n1, h2⟩ := Sf.stoV h1
      obtain ⟨r2, hv2⟩ := stoV_ok r1 hv n1
      obtain ⟨n2, h3⟩ := Sf.stoV h2
      obtain ⟨r3, hv3⟩ := stoV_ok r2 hv2 n2
      obtain ⟨n3, h4⟩ := Sf.stoV h3
      obtain ⟨r4, _⟩ := stoV_ok r3 hv3 n3
      exact ⟨u, u', u'', rfl, h4 _ H1 r4 (.refl H1)⟩
end
end DL
end

/- DL19 -/
section
set_option maxHeartbeats 4000000
namespace DL
open PySem PySem.Spec PyProof.Rows L2

/-! ### minus -/
def mNeg (m : M Vl) : M Vl := M.bind m fun v => match v with
  | .d (.int i) => mC (.int (-i))
  | _ => M.stuck
theorem de_neg {X : Cx} {T : List (Addr × Str)} {W : WX} {e : Expr} {m : M Vl} {pos : Pos} (he : DE X T W e m) : DE X T W (.UnaryOp .USub e pos) (mNeg m) := by
  refine ⟨fun C hC => ⟨fun pins s σ H Q I h => (pe_un un_neg (he.pe C hC)).run pins s σ H Q I ?_⟩⟩
  obtain ⟨env, r, h⟩ := h
  refine ⟨env, r, Lf.bind h fun u H1 v env1 r1 hv l1 h1 => ?_⟩
  match v, hv, h1 with
  | .d (.int i), hv, h1 =>
    cases (show Dz X.K H1 u (.int i) from hv)
    exact ⟨i, rfl, h1 (.int (-i)) H1 r1 (.int _) (.refl H1)⟩
theorem vis_b {sc : Scope} {x : Str} (h : (match sc.names.lookup x with
  | some .local => true
  | some .cell => true
  | some .free => true
  | _ => false) = true) : Vis sc x := by
  unfold Vis
  split at h
  · rename_i e; exact .inl e
  · rename_i e; exact .inr (.inl e)
  · rename_i e; exact .inr (.inr e)
  · cases h
theorem loc_b {sc : Scope} {x : Str} (h : (match sc.names.lookup x with
  | some .local => true
  | some .cell => true
  | _ => false) = true) : L2.Loc sc x := by
  unfold L2.Loc
  split at h
  · rename_i e; exact .inl e
  · rename_i e; exact .inr e
  · cases h
theorem rm1 {k : Nat} {A : Around} (r : Room k A) : A.units + 64 < cLine := by have := r.un; omega
theorem rm2 {k : Nat} {A : Around} (r : Room k A) : A.units + 65 < cLine := by have := r.un; omega
theorem rmS1 {k : Nat} {A : Around} {env : Env} (r : Room (k + 1) A) : (A.deeper env).units + 64 < cLine := rm1 (r.deeper env)
theorem rmS2 {k : Nat} {A : Around} {env : Env} (r : Room (k + 1) A) : (A.deeper env).units + 65 < cLine := rm2 (r.deeper env)
/-! ### what a law knows of its globals -/
structure Lw (K : PySem.W.Frag) (mg : Str → Option Value) (fr : List Str) (is : List (Str × Int)) (ss : List (Str × Str)) (xs : List Str) : Prop where
  fr : ∀ (i : Nat) x, fr[i]? = some x → mg x = none
  is : ∀ (i : Nat) x n, is[i]? = some (x, n) → ∃ t, mg x = some (.int n t)
  ss : ∀ (i : Nat) x z, ss[i]? = some (x, z) → ∃ t, mg x = some (.str z t)
  xs : ∀ (i : Nat) x, xs[i]? = some x → ExN K mg x
def faOf (fr : List Str) (is : List (Str × Int)) (ss : List (Str × Str)) (xs : List Str) (gs : List Str) (ms : List (Str × Str)) : List He.Fa :=
  fr.map .free ++ (is.map fun p => .int p.1 p.2) ++ (ss.map fun p => .str p.1 p.2) ++ (xs.flatMap fun x => [.glo x, .exc x]) ++ gs.map .glo ++ ms.map fun p => .exm p.1 p.2 true
section
variable {K : PySem.W.Frag} {h : Heap} {mg : Str → Option Value} {fr : List Str} {is : List (Str × Int)} {ss : List (Str × Str)} {xs gs : List Str} {ms : List (Str × Str)}
theorem lw_of (X : K.In h) (G : h.Ns mainGlobals mg) (c : ∀ f ∈ faOf fr is ss xs gs ms, f.ok K = true) : Lw K mg fr is ss xs where
  fr := fun i x e => He.free_ok X G (c (.free x) (by
    have := List.mem_of_getElem? e
    unfold faOf
    simp [this]))
  is := fun i x n e => He.int_ok X G (c (.int x n) (by
    have := List.mem_of_getElem? e
    unfold faOf
    simp [this]))
  ss := fun i x z e => He.str_ok X G (c (.str x z) (by
    have := List.mem_of_getElem? e
    unfold faOf
    simp [this]))
  xs := fun i x e => by
    have hm := List.mem_of_getElem? e
    have h1 := c (.glo x) (by unfold faOf; simp [hm])
    have h2 := c (.exc x) (by unfold faOf; simp [hm])
    obtain ⟨e1, e2, e3, e4⟩ := He.exc_ok h2
    exact ⟨_, He.glo_ok X G h1, e1, e2, e3, e4⟩
theorem glo_of (X : K.In h) (G : h.Ns mainGlobals mg) (c : ∀ f ∈ faOf fr is ss xs gs ms, f.ok K = true) (i : Nat) {x : Str} (e : gs[i]? = some x) : mg x = some (.ref (He.ga K x)) :=
  He.glo_ok X G (c (.glo x) (by
    have := List.mem_of_getElem? e
    unfold faOf
    simp [this]))
theorem exm_of (c : ∀ f ∈ faOf fr is ss xs gs ms, f.ok K = true) (i : Nat) {x y : Str} (e : ms[i]? = some (x, y)) : PySem.W.exmOne K (.ref (He.ga K x)) (.ref (He.ga K y)) = some true :=
  He.exm_ok (c (.exm x y true) (by
    have := List.mem_of_getElem? e
    unfold faOf
    simp only [List.mem_append, List.mem_map]
    exact .inr ⟨(x, y), this, rfl⟩))
end
/-! ### what is asked of an error class that is looked at -/
def excCB (K : PySem.W.Frag) (D : Addr) : Bool :=
  decide (PySem.W.findIn K (.ref D) "__getattribute__" = some (some (.builtin "BaseException.__getattribute__"))) && (decide (PySem.W.findIn K (.ref D) "__getattr__" = some none) && (decide (PySem.W.subIn K (.ref D) (.type "BaseException") = some true) &&
    (PySem.W.hasDictIn K D && (decide (PySem.W.findIn K (.ref D) "__class__" = some (some (.builtin "object.__class__"))) && (decide (PySem.W.specialIn K (.builtin "object.__class__") "__get__" = some (some (.builtin "getset_descriptor.__get__"))) &&
      (decide (PySem.W.takesIn K (.builtin "object.__class__") = some true) && decide (PySem.W.mroIn K D (.type "object") = some true)))))))
theorem excCB_ok {K : PySem.W.Frag} {D : Addr} (h : excCB K D = true) : ExcC K D := by
  obtain ⟨h1, h⟩ := Bool.and_eq_true_iff.mp h
  obtain ⟨h2, h⟩ := Bool.and_eq_true_iff.mp h
  obtain ⟨h3, h⟩ := Bool.and_eq_true_iff.mp h
  obtain ⟨h4, h⟩ := Bool.and_eq_true_iff.mp h
  obtain ⟨h5, h⟩ := Bool.and_eq_true_iff.mp h
  obtain ⟨h6, h⟩ := Bool.and_eq_true_iff.mp h
  obtain ⟨h7, h8⟩ := Bool.and_eq_true_iff.mp h
  exact ⟨of_decide_eq_true h1, of_decide_eq_true h2, of_decide_eq_true h3, h4, of_decide_eq_true h5, of_decide_eq_true h6, of_decide_eq_true h7, of_decide_eq_true h8⟩
/-- the classes that the suite tells apart: every pair's answer -/
def exB (cl : List Str) (pairs : List (Str × Str × Bool)) (K : PySem.W.Frag) : Bool :=
  (cl.all fun x => excCB K (He.ga K x) && decide (PySem.W.kitOne K (.ref (He.ga K x)) (.type "ValueError") = some true)) && pairs.all fun p => decide (PySem.W.kitOne K (.ref (He.ga K p.1)) (.ref (He.ga K p.2.1)) = some p.2.2)
section
variable {cl : List Str} {pairs : List (Str × Str × Bool)} {K : PySem.W.Frag}
theorem exB_cl (h : exB cl pairs K = true) (i : Nat) {x : Str} (e : cl[i]? = some x) : ExcC K (He.ga K x) ∧ PySem.W.kitOne K (.ref (He.ga K x)) (.type "ValueError") = some true := by
  have h1 := (Bool.and_eq_true_iff.mp h).1
  have := List.all_eq_true.mp h1 x (List.mem_of_getElem? e)
  obtain ⟨a, b⟩ := Bool.and_eq_true_iff.mp this
  exact ⟨excCB_ok a, of_decide_eq_true b⟩
theorem exB_pair (h : exB cl pairs K = true) (i : Nat) {x y : Str} {b : Bool} (e : pairs[i]? = some (x, y, b)) : PySem.W.kitOne K (.ref (He.ga K x)) (.ref (He.ga K y)) = some b := by
  have h1 := (Bool.and_eq_true_iff.mp h).2
  exact of_decide_eq_true (List.all_eq_true.mp h1 _ (List.mem_of_getElem? e))
end
/-- isinstance(error, C), C an own class -/
theorem de_isEo {X : Cx} {T : List (Addr × Str)} {W : WX} {a D D2 : Addr} {oe : Obj} {pn : List (Addr × Obj)} {i : Nat} {n y : Str} {b : Bool} {p p1 p2 pos : Pos} (Ec : ExcC X.K D) (hz : Zc (.ref D) none oe) (hf : ∃ vs, oe.data = .fields vs)
    (hN : X.N[i]? = some n) (hv : Vis X.env.scope n) (hgy : Gl X y) (hmy : X.mg y = some (.ref D2)) (hk : PySem.W.kitOne X.K (.ref D) (.ref D2) = some b) (hg : Gl X "isinstance") (hm : X.mg "isinstance" = none) (hdy : (y == ("__debug__" : Str)) = false := by decide) (hd : (n == ("__debug__" : Str)) = false := by decide) (hcd : (n == ("__classdict__" : Str)) = false := by decide)
    (hs : starEach [.Name n p1, .Name y p2] X.env = (false, eval (.Name n p1) X.env) :: starEach [.Name y p2] X.env := by rfl) (hpl : (backTo pos (starEach [.Name y p2] X.env)).any (·.1) = false := by rfl) (hs2 : starEach [.Name y p2] X.env = (false, eval (.Name y p2) X.env) :: starEach [] X.env := by rfl) :
    DE (X.suite a ((a, oe) :: pn)) T W (.Call (.Name "isinstance" p) [.Name n p1, .Name y p2] [] pos) (mIsE i a b) :=
  de_isE Ec hz hf hN hv (pe_glob (X := X.suite a ((a, oe) :: pn)) (v := .ref D2) hgy hmy rfl hdy) (fun u r => r) hk hg hm hd hcd hs hpl hs2
/-- isinstance(error, ValueError) -/
theorem de_isEb {X : Cx} {T : List (Addr × Str)} {W : WX} {a D : Addr} {oe : Obj} {pn : List (Addr × Obj)} {i : Nat} {n : Str} {Ty : String} {b : Bool} {p p1 p2 pos : Pos} (Ec : ExcC X.K D) (hz : Zc (.ref D) none oe) (hf : ∃ vs, oe.data = .fields vs)
    (hN : X.N[i]? = some n) (hv : Vis X.env.scope n) (hgy : Gl X Ty) (hmy : X.mg Ty = none) (hb : bootBuiltins Ty = some (.type Ty)) (hk : PySem.W.kitOne X.K (.ref D) (.type Ty) = some b) (hg : Gl X "isinstance") (hm : X.mg "isinstance" = none) (hnn : (Ty : Str) ≠ "__name__" := by decide) (hdy : ((Ty : Str) == ("__debug__" : Str)) = false := by decide) (hd : (n == ("__debug__" : Str)) = false := by decide) (hcd : (n == ("__classdict__" : Str)) = false := by decide)
    (hs : starEach [.Name n p1, .Name Ty p2] X.env = (false, eval (.Name n p1) X.env) :: starEach [.Name Ty p2] X.env := by rfl) (hpl : (backTo pos (starEach [.Name Ty p2] X.env)).any (·.1) = false := by rfl) (hs2 : starEach [.Name Ty p2] X.env = (false, eval (.Name Ty p2) X.env) :: starEach [] X.env := by rfl) :
    DE (X.suite a ((a, oe) :: pn)) T W (.Call (.Name "isinstance" p) [.Name n p1, .Name Ty p2] [] pos) (mIsE i a b) :=
  de_isE Ec hz hf hN hv (pe_bltn (X := X.suite a ((a, oe) :: pn)) (v := .ty Ty) hgy hmy hb rfl hnn hdy) (fun u r => r) hk hg hm hd hcd hs hpl hs2
end DL
end

/- DL20 -/
section
set_option maxHeartbeats 4000000
namespace DL
open PySem PySem.Spec PyProof.Rows L2

section
variable {P : Program} {w : World} {K : PySem.W.Frag} {mg : Str → Option Value} {base : Heap} {x qual : Str} {params : Arguments} {body : List Stmt} {scope : Scope} {fd : FuncData} {N ps : List Str} {k : Nat} {T : List (Addr × Str)} {m : M Fl}
/-- a def that makes lambdas: its code object is told -/
theorem fnD_ofC {p : Str × Option Str} (F : FunD K x qual params body scope [] [] (He.fAd K p) fd) (S : FnScope N ps scope) (hm : mg x = some (.ref (He.fAd K p))) (hb : L2.Binds K fd ps [])
    (h : ∀ (cdv : Value) (A : Around) (outer : List Env) (s : Shared) (H : Hp) (E : XK), cdv = .ref (He.codeOf K p) → Room k (A.deeper (envOfC qual scope s.heap.objs.size (He.fAd K p) cdv)) → DSs (bodyCx P w K mg base N qual scope (He.fAd K p) cdv A outer s H E) T (fun cls d _ H => E cls d H) body m) :
    FnD P w K mg base T (k + 1) x ps.length N m := by
  have kp := F.kp
  obtain ⟨oc, od, dV, kV, doc, pm, an, cdv, ct, osl, rfl, lk, hcd, _, _⟩ := F.ex
  obtain ⟨c, hc⟩ := He.codeIn_ref hcd
  have e : He.codeOf K p = c := He.codeOf_eq lk hc
  refine ⟨_, _, ps, fn_of lk hcd S (fun vs H Q E q => q.1) (fun A outer s H vs Q E hr hq => ?_), hm, kp, hb⟩
  obtain ⟨_, bk, env, r, hs⟩ := hq
  exact ⟨_, (h cdv A outer s H E (by rw [e]; exact hc) hr).pss ⟨T, H, bk, fun _ => none⟩ rfl, env, r, hs⟩
/-- a body from a ghost step on -/
theorem pss_ghost {X : Cx} {W : WX} {st : List Stmt} (h : DSs X T W st m) : PSs X st (fun D σ H => Ghost X σ (fun H' => ∃ C, C.T = T ∧ liftS X.K X.mg C W m D σ H') H) := ⟨fun pins s σ H D I g => by
  obtain ⟨H', I', C, hC, q⟩ := g pins s I
  exact (h.pss C hC).run pins s σ H' D I' q⟩
/-- the law's promise -/
def spLaw (T : List (Addr × Str)) (K : PySem.W.Frag) (n : Nat) : Sp := fun vs H Q _ => ∃ (a : Addr) (ns : List Int), vs = [.ref a] ∧ ns.length ≤ n ∧ SqL K H a (ns.map V.int) ∧ LamX.Tabs T H ∧ ∀ H', Q (.bl true) H'
theorem script_rel {T : List (Addr × Str)} {H : Hp} {a : Addr} {d : PyData} (hz : Dz K H (.ref a) d) (hT : LamX.Tabs T H) : Rel K ⟨T, H, fun _ => none, fun _ => none⟩ H (L2.start N [.ref a]) (startE N.length [.d d]) := by
  have r0 : Rel K ⟨T, H, fun _ => none, fun _ => none⟩ H [] [] := ⟨rfl, fun i x h => (by simp at h), fun i b ds h => (by simp at h), fun i v h => (by simp at h), fun i a h => (by cases h), fun i j b c ds es a _ h => (by simp at h), fun a o h _ _ => h, fun a o h => (by cases h), hT⟩
  have A : ArgsOk K H [] [] [V.ref a] [.d d] none := {
    len := rfl
    dat := fun j x h => by
      cases j with
      | zero => simp at h; subst h; exact ⟨_, rfl, hz⟩
      | succ j => simp at h
    own := fun j b es h => by cases j <;> simp at h
    nox := fun j v h => by cases j <;> simp at h
    lt := fun j i h => by cases h }
  exact callee_start (N := N) r0 A
theorem law_run {X : Cx} {T : List (Addr × Str)} {W : WX} {H : Hp} {a : Addr} {ns : List Int} {Q : VK} {N : List Str} (hk : ∀ (o : Obj) (its : Array Value) (n : Nat), X.K.lookup a = some o → o.cls = .type "list" → o.dict = none → o.data = .seq its n → o = { cls := .type "list", data := .seq its n })
    (hS : SqL X.K H a (ns.map V.int)) (hT : LamX.Tabs T H) (hr : ∃ env', m (startE N.length [.d (.list (ns.map .int))]) = .ok (.ret (.d (.bool true))) env') (hQ : ∀ H', Q (.bl true) H') :
    Ghost X (L2.start N [.ref a]) (fun H' => ∃ C, C.T = T ∧ liftS X.K X.mg C W m { nx := fun _ H' => Q .non H', rt := Q } (L2.start N [.ref a]) H') H := by
  have key : ∀ H', LamX.Tabs T H' → FzL X.K H' a (ns.map V.int) → ∃ C, C.T = T ∧ liftS X.K X.mg C W m { nx := fun _ H' => Q .non H', rt := Q } (L2.start N [.ref a]) H' := fun H' t f => by
    refine ⟨⟨T, H', fun _ => none, fun _ => none⟩, rfl, _, script_rel (.lst f (DzAll.of_ints ns)) t, ?_⟩
    obtain ⟨env', e⟩ := hr
    rw [e]
    intro u σ' H'' r z l
    cases (show Dz X.K H'' u (.bool true) from z)
    exact hQ H''
  rcases hS with (h | ⟨o, h⟩) | ⟨o, its, q, h1, h2, h3, h4, h5, h6⟩
  · exact .lock h fun o => key _ (Tabs.put h hT) (.inl ⟨o, upd_same⟩)
  · exact .now (key _ hT (.inl ⟨o, h⟩))
  · have e := hk o its q h1 h2 h3 h4
    subst e
    exact .now (key _ hT (.inr ⟨its, q, h1, h5, h6⟩))
theorem kList_ok {K : PySem.W.Frag} (h : (K.all fun q => match q.2 with
  | ⟨.type c, _, .seq _ _, sl⟩ => !decide (c = "list") || sl.isEmpty
  | _ => true) = true) (a : Addr) (o : Obj) (its : Array Value) (n : Nat) (e : K.lookup a = some o) (h1 : o.cls = .type "list") (h2 : o.dict = none) (h3 : o.data = .seq its n) : o = { cls := .type "list", data := .seq its n } := by
  have := List.all_eq_true.mp h _ (He.lookup_mem e)
  obtain ⟨oc, od, dt, sl⟩ := o
  dsimp only at h1 h2 h3
  subst h1 h2 h3
  have : sl.isEmpty = true := by simpa using this
  rw [Array.isEmpty_iff.mp this]
end
/-! ### a name that is walked: its own list, or data -/
def mSrcV (j : Nat) : M Src := fun env => match env[j]? with
  | some (some (.own _ _)) => .ok (.own j) env
  | some (some (.d d)) => (match seqI d with
    | some xs => .ok (.fix xs) env
    | none => .stuck)
  | _ => .stuck
theorem di_var {X : Cx} {T : List (Addr × Str)} {W : WX} {tg : Expr} {j : Nat} {x : Str} {pos : Pos} (hN : X.N[j]? = some x) (hv : Vis X.env.scope x) (hd : (x == ("__debug__" : Str)) = false := by decide) (hcd : (x == ("__classdict__" : Str)) = false := by decide) : DI X T W tg (.Name x pos) (mSrcV j) := by
  refine ⟨fun C hC => ⟨fun pins s σ H R I h => ?_⟩⟩
  obtain ⟨env, r, h⟩ := h
  unfold mSrcV at h
  cases e : env[j]? with
  | none => rw [e] at h; exact h.elim
  | some o =>
    cases o with
    | none => rw [e] at h; exact h.elim
    | some ev =>
      cases ev with
      | x v => rw [e] at h; exact h.elim
      | own b ds =>
        rw [e] at h
        refine ((di_own (W := W) (tg := tg) (pos := pos) hN hv hd hcd).pi C hC).run pins s σ H R I ⟨env, r, ?_⟩
        unfold mOwn
        rw [e]
        exact h
      | d d =>
        rw [e] at h
        dsimp only at h
        cases e2 : seqI d with
        | none => rw [e2] at h; exact h.elim
        | some xs =>
          rw [e2] at h
          refine ((di_seq (W := W) (tg := tg) (de_var (pos := pos) hN hv hd hcd)).pi C hC).run pins s σ H R I ⟨env, r, ?_⟩
          unfold mItems
          rw [M.bind_ok (show mVar j env = .ok (.d d) env from by unfold mVar; rw [e]), M.bind_ok (show leak (.d d) env = .ok d env from rfl), e2]
          exact h
theorem noj_var {vs : List Nat} {j : Nat} (h : j ∉ vs) : NoJ vs (mSrcV j) := fun k env env' e => by
  unfold mSrcV at e
  split at e
  · cases e; exact h
  · split at e <;> cases e
  · cases e
end DL
end

/- DL21 -/
section
set_option maxHeartbeats 4000000
namespace DL
open PySem PySem.Spec PyProof.Rows L2

/-! ### the readings, run: what a reading ends in, by a wish -/
def wp {α : Type} (m : M α) (env : En) (Q : α → En → Prop) (E : Er → En → Prop) : Prop := match m env with
  | .ok v env' => Q v env'
  | .err x env' => E x env'
  | .stuck => False
section
variable {α β : Type} {m : M α} {k : α → M β} {env : En} {Q : β → En → Prop} {E : Er → En → Prop}
@[simp] theorem wp_bind : wp (M.bind m k) env Q E ↔ wp m env (fun v e => wp (k v) e Q E) E := by
  unfold wp M.bind
  cases m env <;> rfl
@[simp] theorem wp_pure {v : β} : wp (M.pure v) env Q E ↔ Q v env := Iff.rfl
@[simp] theorem wp_stuck : wp (M.stuck : M β) env Q E ↔ False := Iff.rfl
@[simp] theorem wp_some {v : β} : wp (M.opt (some v)) env Q E ↔ Q v env := Iff.rfl
@[simp] theorem wp_none : wp (M.opt (none : Option β)) env Q E ↔ False := Iff.rfl
theorem wp_opt {o : Option β} : wp (M.opt o) env Q E ↔ ∃ v, o = some v ∧ Q v env := by
  cases o with
  | none => simp
  | some v => simp
theorem wp_mono {Q' : β → En → Prop} {E' : Er → En → Prop} {m : M β} (h : wp m env Q E) (q : ∀ v e, Q v e → Q' v e) (r : ∀ v e, E v e → E' v e) : wp m env Q' E' := by
  unfold wp at h ⊢
  cases e : m env with
  | ok v e' => rw [e] at h; exact q _ _ h
  | err x e' => rw [e] at h; exact r _ _ h
  | stuck => rw [e] at h; exact h
theorem wp_ok {m : M β} (h : wp m env Q (fun _ _ => False)) : ∃ v env', m env = .ok v env' ∧ Q v env' := by
  unfold wp at h
  cases e : m env with
  | ok v e' => rw [e] at h; exact ⟨v, e', rfl, h⟩
  | err x e' => rw [e] at h; exact h.elim
  | stuck => rw [e] at h; exact h.elim
theorem wp_of {m : M β} {v : β} {env' : En} (h : m env = .ok v env') (q : Q v env') : wp m env Q E := by
  unfold wp
  rw [h]
  exact q
@[simp] theorem wp_ite {c : Prop} [Decidable c] {a b : M β} : wp (if c then a else b) env Q E ↔ if c then wp a env Q E else wp b env Q E := by
  split <;> rfl
@[simp] theorem wp_noE {m : M β} : wp (noE m) env Q E ↔ wp m env Q (fun _ _ => False) := by
  unfold wp noE
  cases m env <;> rfl
end
section
variable {env : En} {E : Er → En → Prop}
@[simp] theorem wp_mVar {i : Nat} {Q : Vl → En → Prop} : wp (mVar i) env Q E ↔ (match env[i]? with
  | some (some (.d x)) => Q (.d x) env
  | some (some (.own _ _)) => Q (.sl i) env
  | _ => False) := by
  unfold wp mVar
  cases env[i]? with
  | none => rfl
  | some o => cases o with
    | none => rfl
    | some ev => cases ev with
      | d x => rfl
      | own b ds => cases b <;> rfl
      | x v => rfl
@[simp] theorem wp_mC {x : PyData} {Q : Vl → En → Prop} : wp (mC x) env Q E ↔ Q (.d x) env := Iff.rfl
@[simp] theorem wp_leakD {x : PyData} {Q : PyData → En → Prop} : wp (leak (.d x)) env Q E ↔ Q x env := Iff.rfl
@[simp] theorem wp_leakS {i : Nat} {Q : PyData → En → Prop} : wp (leak (.sl i)) env Q E ↔ (match env[i]? with
  | some (some (.own false ds)) => Q (.list ds) (env.set i (some (.d (.list ds))))
  | _ => False) := by
  unfold wp leak
  dsimp only
  cases env[i]? with
  | none => rfl
  | some o => cases o with
    | none => rfl
    | some ev => cases ev with
      | d x => rfl
      | own b ds => cases b <;> rfl
      | x v => rfl
@[simp] theorem wp_leakNil {Q : List PyData → En → Prop} : wp (leakAll []) env Q E ↔ Q [] env := Iff.rfl
@[simp] theorem wp_leakCons {v : Vl} {vs : List Vl} {Q : List PyData → En → Prop} : wp (leakAll (v :: vs)) env Q E ↔ wp (leak v) env (fun d e => wp (leakAll vs) e (fun ds e => Q (d :: ds) e) E) E := by
  rw [show leakAll (v :: vs) = M.bind (leak v) fun d => M.bind (leakAll vs) fun ds => M.pure (d :: ds) from rfl]
  simp
@[simp] theorem wp_getD {x : PyData} {Q : PyData → En → Prop} : wp (Vl.get (.d x)) env Q E ↔ Q x env := Iff.rfl
@[simp] theorem wp_getS {i : Nat} {Q : PyData → En → Prop} : wp (Vl.get (.sl i)) env Q E ↔ (match env[i]? with
  | some (some (.own _ ds)) => Q (.list ds) env
  | _ => False) := by
  unfold wp Vl.get
  dsimp only
  cases env[i]? with
  | none => rfl
  | some o => cases o with
    | none => rfl
    | some ev => cases ev with
      | d x => rfl
      | own b ds => cases b <;> rfl
      | x v => rfl
@[simp] theorem wp_getNil {Q : List PyData → En → Prop} : wp (getAll []) env Q E ↔ Q [] env := Iff.rfl
@[simp] theorem wp_getCons {v : Vl} {vs : List Vl} {Q : List PyData → En → Prop} : wp (getAll (v :: vs)) env Q E ↔ wp v.get env (fun d e => wp (getAll vs) e (fun ds e => Q (d :: ds) e) E) E := by
  rw [show getAll (v :: vs) = M.bind v.get fun d => M.bind (getAll vs) fun ds => M.pure (d :: ds) from rfl]
  simp
@[simp] theorem wp_sto {i : Nat} {ev : EV} {Q : Unit → En → Prop} : wp (sto i ev) env Q E ↔ (match env[i]? with
  | some (some (.own true _)) => False
  | _ => Q () (env.set i (some ev))) := by
  unfold wp sto
  cases env[i]? with
  | none => rfl
  | some o => cases o with
    | none => rfl
    | some ev => cases ev with
      | d x => rfl
      | own b ds => cases b <;> rfl
      | x v => rfl
@[simp] theorem wp_isOwn {i : Nat} {Q : Unit → En → Prop} : wp (isOwn i) env Q E ↔ (match env[i]? with
  | some (some (.own _ _)) => Q () env
  | _ => False) := by
  unfold wp isOwn
  cases env[i]? with
  | none => rfl
  | some o => cases o with
    | none => rfl
    | some ev => cases ev with
      | d x => rfl
      | own b ds => cases b <;> rfl
      | x v => rfl
@[simp] theorem wp_ownAt {i : Nat} {Q : List PyData → En → Prop} : wp (ownAt i) env Q E ↔ (match env[i]? with
  | some (some (.own _ ds)) => Q ds env
  | _ => False) := by
  unfold wp ownAt
  cases env[i]? with
  | none => rfl
  | some o => cases o with
    | none => rfl
    | some ev => cases ev with
      | d x => rfl
      | own b ds => cases b <;> rfl
      | x v => rfl
@[simp] theorem wp_mIsE {i : Nat} {a : Addr} {b : Bool} {Q : Vl → En → Prop} : wp (mIsE i a b) env Q E ↔ (match env[i]? with
  | some (some (.x (.ref a'))) => a' = a ∧ Q (.d (.bool b)) env
  | _ => False) := by
  unfold wp mIsE
  cases env[i]? with
  | none => rfl
  | some o => cases o with
    | none => rfl
    | some ev => cases ev with
      | d x => rfl
      | own b ds => cases b <;> rfl
      | x v => cases v with
        | ref a' =>
          dsimp only
          by_cases e : a' = a
          · simp [e]
          · simp [e]
        | _ => rfl
end

@[simp] theorem wp_mSrcV {env : En} {E : Er → En → Prop} {j : Nat} {Q : Src → En → Prop} : wp (mSrcV j) env Q E ↔ (match env[j]? with
  | some (some (.own _ _)) => Q (.own j) env
  | some (some (.d d)) => (match seqI d with
    | some xs => Q (.fix xs) env
    | none => False)
  | _ => False) := by
  unfold wp mSrcV
  cases env[j]? with
  | none => rfl
  | some o => cases o with
    | none => rfl
    | some ev => cases ev with
      | d x => dsimp only; cases seqI x <;> rfl
      | own b ds => rfl
      | x v => rfl
/-! the combinators -/
section
variable {env : En} {E : Er → En → Prop} {a b c m m' : M Vl} {ms : M (List Vl)} {mo : M (List PyData)} {t u : M Bool} {st st' : M Fl}
@[simp] theorem wp_sSeq {Q : Fl → En → Prop} : wp (sSeq st st') env Q E ↔ wp st env (fun fl e => match fl with
  | .next => wp st' e Q E
  | fl => Q fl e) E := by
  unfold sSeq
  rw [wp_bind]
  apply iff_of_eq
  congr 1
  funext fl e
  cases fl <;> rfl
@[simp] theorem wp_sNext {Q : Fl → En → Prop} : wp sNext env Q E ↔ Q .next env := Iff.rfl
@[simp] theorem wp_sBrk {Q : Fl → En → Prop} : wp sBrk env Q E ↔ Q .brk env := Iff.rfl
@[simp] theorem wp_sCont {Q : Fl → En → Prop} : wp sCont env Q E ↔ Q .cont env := Iff.rfl
@[simp] theorem wp_sSet {i : Nat} {Q : Fl → En → Prop} : wp (sSet i m) env Q E ↔ wp m env (fun v e => wp (leak v) e (fun d e => wp (sto i (.d d)) e (fun _ e => Q .next e) E) E) E := by
  unfold sSet; simp only [wp_bind, wp_sNext]
@[simp] theorem wp_sSetO {i : Nat} {Q : Fl → En → Prop} : wp (sSetO i mo) env Q E ↔ wp mo env (fun ds e => wp (sto i (.own false ds)) e (fun _ e => Q .next e) E) E := by
  unfold sSetO; simp only [wp_bind, wp_sNext]
@[simp] theorem wp_sRet {Q : Fl → En → Prop} : wp (sRet m) env Q E ↔ wp m env (fun v e => wp (leak v) e (fun d e => Q (.ret (.d d)) e) E) E := by
  unfold sRet; simp only [wp_bind, wp_pure]
@[simp] theorem wp_sRetO {Q : Fl → En → Prop} : wp (sRetO mo) env Q E ↔ wp mo env (fun ds e => Q (.ret (.o ds)) e) E := by
  unfold sRetO; simp only [wp_bind, wp_pure]
@[simp] theorem wp_sDrop {Q : Fl → En → Prop} : wp (sDrop m) env Q E ↔ wp m env (fun _ e => Q .next e) E := by
  unfold sDrop; simp only [wp_bind, wp_sNext]
@[simp] theorem wp_sRaise {x : Er} {Q : Fl → En → Prop} : wp (sRaise x) env Q E ↔ E x env := Iff.rfl
@[simp] theorem wp_mIf {α : Type} {x y : M α} {Q : α → En → Prop} : wp (mIf t x y) env Q E ↔ wp t env (fun k e => if k = true then wp x e Q E else wp y e Q E) E := by
  unfold mIf; simp only [wp_bind, wp_ite]
@[simp] theorem wp_sIf {Q : Fl → En → Prop} : wp (sIf t st st') env Q E ↔ wp t env (fun k e => if k = true then wp st e Q E else wp st' e Q E) E := wp_mIf
@[simp] theorem wp_mNil {Q : List Vl → En → Prop} : wp mNil env Q E ↔ Q [] env := Iff.rfl
@[simp] theorem wp_mCons {Q : List Vl → En → Prop} : wp (mCons m ms) env Q E ↔ wp m env (fun v e => wp ms e (fun vs e => Q (v :: vs) e) E) E := by
  unfold mCons; simp only [wp_bind, wp_pure]
@[simp] theorem wp_mTup {Q : Vl → En → Prop} : wp (mTup ms) env Q E ↔ wp ms env (fun vs e => wp (leakAll vs) e (fun ds e => ds.length ≤ sizeLine ∧ Q (.d (.tuple ds)) e) E) E := by
  unfold mTup; simp only [wp_bind, wp_ite, wp_mC, wp_stuck]
  apply iff_of_eq; congr 1; funext vs e; congr 1; funext ds e
  by_cases h : ds.length ≤ sizeLine <;> simp [h]
@[simp] theorem wp_mLst {Q : List PyData → En → Prop} : wp (mLst ms) env Q E ↔ wp ms env (fun vs e => wp (leakAll vs) e (fun ds e => ds.length ≤ sizeLine ∧ Q ds e) E) E := by
  unfold mLst; simp only [wp_bind, wp_ite, wp_pure, wp_stuck]
  apply iff_of_eq; congr 1; funext vs e; congr 1; funext ds e
  by_cases h : ds.length ≤ sizeLine <;> simp [h]
@[simp] theorem wp_mFrz {Q : Vl → En → Prop} : wp (mFrz mo) env Q E ↔ wp mo env (fun ds e => Q (.d (.list ds)) e) E := by
  unfold mFrz; simp only [wp_bind, wp_mC]
/-- an option's answer -/
def opt {β : Type} (o : Option β) (P : β → Prop) : Prop := match o with
  | some v => P v
  | none => False
@[simp] theorem opt_some {β : Type} {v : β} {P : β → Prop} : opt (some v) P ↔ P v := Iff.rfl
@[simp] theorem opt_none {β : Type} {P : β → Prop} : opt (none : Option β) P ↔ False := Iff.rfl
@[simp] theorem opt_ite {β : Type} {c : Prop} [Decidable c] {o : Option β} {P : β → Prop} : opt (if c then o else none) P ↔ c ∧ opt o P := by
  by_cases h : c <;> simp [h]
@[simp] theorem opt_map {β γ : Type} {o : Option β} {f : β → γ} {P : γ → Prop} : opt (o.map f) P ↔ opt o fun v => P (f v) := by
  cases o <;> rfl
@[simp] theorem opt_bind {β γ : Type} {o : Option β} {f : β → Option γ} {P : γ → Prop} : opt (o.bind f) P ↔ opt o fun v => opt (f v) P := by
  cases o <;> rfl
theorem wp_Mopt {β : Type} {o : Option β} {Q : β → En → Prop} : wp (M.opt o) env Q E ↔ opt o fun v => Q v env := by
  cases o <;> rfl
@[simp] theorem wp_mBin {g : PyData → PyData → Option PyData} {Q : Vl → En → Prop} : wp (mBin g a b) env Q E ↔ wp a env (fun va e => wp b e (fun vb e => wp va.get e (fun x e => wp vb.get e (fun y e => opt (g x y) fun z => Q (.d z) e) E) E) E) E := by
  unfold mBin; simp only [wp_bind, wp_Mopt, opt_map]
@[simp] theorem wp_mBinL {g : PyData → PyData → Option (List PyData)} {Q : List PyData → En → Prop} : wp (mBinL g a b) env Q E ↔ wp a env (fun va e => wp b e (fun vb e => wp va.get e (fun x e => wp vb.get e (fun y e => opt (g x y) fun z => Q z e) E) E) E) E := by
  unfold mBinL; simp only [wp_bind, wp_Mopt]
@[simp] theorem wp_mCall {g : List PyData → Option PyData} {Q : Vl → En → Prop} : wp (mCall g ms) env Q E ↔ wp ms env (fun vs e => wp (getAll vs) e (fun ds e => opt (g ds) fun z => Q (.d z) e) E) E := by
  unfold mCall; simp only [wp_bind, wp_Mopt, opt_map]
@[simp] theorem wp_mCallL {g : List PyData → Option (List PyData)} {Q : List PyData → En → Prop} : wp (mCallL g ms) env Q E ↔ wp ms env (fun vs e => wp (getAll vs) e (fun ds e => opt (g ds) fun z => Q z e) E) E := by
  unfold mCallL; simp only [wp_bind, wp_Mopt]
@[simp] theorem wp_mMB {ty : PyData → Bool} {g : PyData → List PyData → Option PyData} {Q : Vl → En → Prop} : wp (mMB ty g m ms) env Q E ↔ wp m env (fun v e => wp v.get e (fun d0 e => if ty d0 = true then wp ms e (fun vs e => wp v.get e (fun d e => wp (getAll vs) e (fun ds e => opt (g d ds) fun z => Q (.d z) e) E) E) E else False) E) E := by
  unfold mMB; simp only [wp_bind, wp_ite, wp_Mopt, opt_map, wp_stuck]
@[simp] theorem wp_mIsi {g : PyData → Bool} {Q : Vl → En → Prop} : wp (mIsi g m) env Q E ↔ wp m env (fun v e => wp v.get e (fun d e => Q (.d (.bool (g d))) e) E) E := by
  unfold mIsi; simp only [wp_bind, wp_mC]
@[simp] theorem wp_mTru {v : Vl} {Q : Bool → En → Prop} : wp (mTru v) env Q E ↔ wp v.get env (fun d e => opt (truD d) fun k => Q k e) E := by
  unfold mTru; simp only [wp_bind, wp_Mopt]
@[simp] theorem wp_mTst {Q : Bool → En → Prop} : wp (mTst m) env Q E ↔ wp m env (fun v e => wp v.get e (fun d e => opt (truD d) fun k => Q k e) E) E := by
  unfold mTst; simp only [wp_bind, wp_mTru]
@[simp] theorem wp_mBoo {k : Bool} {Q : Bool → En → Prop} : wp (mBoo (.d (.bool k))) env Q E ↔ Q k env := Iff.rfl
@[simp] theorem wp_mTB {Q : Bool → En → Prop} : wp (mTB m) env Q E ↔ wp m env (fun v e => wp (mBoo v) e Q E) E := by
  unfold mTB; simp only [wp_bind]
@[simp] theorem wp_mAnd {Q : Bool → En → Prop} : wp (mAnd t u) env Q E ↔ wp t env (fun k e => if k = true then wp u e Q E else Q false e) E := by
  unfold mAnd; simp only [wp_bind, wp_ite, wp_pure]
@[simp] theorem wp_mOr {Q : Bool → En → Prop} : wp (mOr t u) env Q E ↔ wp t env (fun k e => if k = true then Q true e else wp u e Q E) E := by
  unfold mOr; simp only [wp_bind, wp_ite, wp_pure]
@[simp] theorem wp_mNot {Q : Bool → En → Prop} : wp (mNot t) env Q E ↔ wp t env (fun k e => Q (!k) e) E := by
  unfold mNot; simp only [wp_bind, wp_pure]
@[simp] theorem wp_mAndV {Q : Vl → En → Prop} : wp (mAndV a b) env Q E ↔ wp a env (fun v e => wp v.get e (fun d e => opt (truD d) fun k => if k = true then wp b e Q E else Q v e) E) E := by
  unfold mAndV; simp only [wp_bind, wp_ite, wp_mTru, wp_pure]
@[simp] theorem wp_mOrV {Q : Vl → En → Prop} : wp (mOrV a b) env Q E ↔ wp a env (fun v e => wp v.get e (fun d e => opt (truD d) fun k => if k = true then Q v e else wp b e Q E) E) E := by
  unfold mOrV; simp only [wp_bind, wp_ite, wp_mTru, wp_pure]
@[simp] theorem wp_mNotV {Q : Vl → En → Prop} : wp (mNotV a) env Q E ↔ wp a env (fun v e => wp v.get e (fun d e => opt (truD d) fun k => Q (.d (.bool (!k))) e) E) E := by
  unfold mNotV; simp only [wp_bind, wp_mTru, wp_mC]
@[simp] theorem wp_mNeg {Q : Vl → En → Prop} : wp (mNeg m) env Q E ↔ wp m env (fun v e => match v with
  | .d (.int i) => Q (.d (.int (-i))) e
  | _ => False) E := by
  unfold mNeg
  rw [wp_bind]
  apply iff_of_eq; congr 1; funext v e
  cases v with
  | sl j => rfl
  | d x => cases x <;> rfl
end
end DL
end

/- DL22 -/
section
set_option maxHeartbeats 4000000
namespace DL
open PySem PySem.Spec PyProof.Rows L2

section
variable {env : En} {E : Er → En → Prop} {a b c m m' : M Vl} {ms : M (List Vl)} {mo : M (List PyData)} {t u : M Bool} {st st' : M Fl}
theorem wp_fin {np n : Nat} {f : M Fl} {evs : List EV} {lt : Option (Nat × Nat)} {Q : RVl → En → Prop} : wp (fin np f n evs lt) env Q E ↔ evs.length = np ∧ wp f (startE n evs) (fun fl e' => match fl with
  | .next => Q (.d .none) (backE lt env e')
  | .ret v => Q v (backE lt env e')
  | _ => False) (fun x e' => E x (backE lt env e')) := by
  unfold wp fin
  by_cases h : evs.length = np
  · rw [if_pos h]
    simp only [h, true_and]
    cases f (startE n evs) with
    | ok fl e' => cases fl <;> rfl
    | err x e' => rfl
    | stuck => rfl
  · rw [if_neg h]
    simp only [h, false_and]
@[simp] theorem wp_callR0 {np n : Nat} {f : M Fl} {Q : RVl → En → Prop} : wp (callR0 np f n ms) env Q E ↔ wp ms env (fun vs e => wp (leakAll vs) e (fun ds e => wp (fin np f n (ds.map .d) none) e Q E) E) E := by
  unfold callR0; simp only [wp_bind]
@[simp] theorem wp_callR1 {np n j : Nat} {f : M Fl} {Q : RVl → En → Prop} : wp (callR1 np f n j ms) env Q E ↔ wp ms env (fun vs e => opt (slAt vs j) fun i => wp (leakAll (vs.set j (.d .none))) e (fun ds e => wp (ownAt i) e (fun es e => wp (fin np f n ((ds.map EV.d).set j (.own true es)) (some (j, i))) e Q E) E) E) E := by
  unfold callR1; simp only [wp_bind, wp_Mopt]
@[simp] theorem wp_asD {f : M RVl} {Q : Vl → En → Prop} : wp (asD f) env Q E ↔ wp f env (fun v e => match v with
  | .d x => Q (.d x) e
  | .o _ => False) E := by
  unfold asD
  rw [wp_bind]
  apply iff_of_eq; congr 1; funext v e
  cases v <;> rfl
@[simp] theorem wp_asO {f : M RVl} {Q : List PyData → En → Prop} : wp (asO f) env Q E ↔ wp f env (fun v e => match v with
  | .d _ => False
  | .o ds => Q ds e) E := by
  unfold asO
  rw [wp_bind]
  apply iff_of_eq; congr 1; funext v e
  cases v <;> rfl
@[simp] theorem backE_none {e : En} : backE none env e = env := rfl
@[simp] theorem slAt_zero {v : Nat} {vs : List Vl} : slAt (.sl v :: vs) 0 = some v := rfl
@[simp] theorem wp_vNil {Q : List RVl → En → Prop} : wp vNil env Q E ↔ Q [] env := Iff.rfl
@[simp] theorem wp_vD {vs : M (List RVl)} {Q : List RVl → En → Prop} : wp (vD m vs) env Q E ↔ wp m env (fun v e => wp (leak v) e (fun d e => wp vs e (fun vs e => Q (.d d :: vs) e) E) E) E := by
  unfold vD; simp only [wp_bind, wp_pure]
@[simp] theorem wp_vO {vs : M (List RVl)} {Q : List RVl → En → Prop} : wp (vO mo vs) env Q E ↔ wp mo env (fun ds e => wp vs e (fun vs e => Q (.o ds :: vs) e) E) E := by
  unfold vO; simp only [wp_bind, wp_pure]
@[simp] theorem wp_stoV {i : Nat} {v : RVl} {Q : Unit → En → Prop} : wp (stoV i v) env Q E ↔ wp (sto i (evOf v)) env Q E := Iff.rfl
@[simp] theorem evOf_d {x : PyData} : evOf (.d x) = .d x := rfl
@[simp] theorem evOf_o {x : List PyData} : evOf (.o x) = .own false x := rfl
@[simp] theorem wp_sPar2 {i j : Nat} {vs : M (List RVl)} {Q : Fl → En → Prop} : wp (sPar2 i j vs) env Q E ↔ wp vs env (fun vs e => match vs with
  | [v, w] => wp (stoV i v) e (fun _ e => wp (stoV j w) e (fun _ e => Q .next e) E) E
  | _ => False) E := by
  unfold sPar2
  rw [wp_bind]
  apply iff_of_eq; congr 1; funext vs e
  match vs with
  | [] => rfl
  | [_] => rfl
  | [v, w] => simp
  | _ :: _ :: _ :: _ => rfl
@[simp] theorem wp_sPar3 {i j l : Nat} {vs : M (List RVl)} {Q : Fl → En → Prop} : wp (sPar3 i j l vs) env Q E ↔ wp vs env (fun vs e => match vs with
  | [v, w, z] => wp (stoV i v) e (fun _ e => wp (stoV j w) e (fun _ e => wp (stoV l z) e (fun _ e => Q .next e) E) E) E
  | _ => False) E := by
  unfold sPar3
  rw [wp_bind]
  apply iff_of_eq; congr 1; funext vs e
  match vs with
  | [] => rfl
  | [_] => rfl
  | [_, _] => rfl
  | [v, w, z] => simp
  | _ :: _ :: _ :: _ :: _ => rfl
@[simp] theorem wp_mMeth {i : Nat} {f : List PyData → List PyData → Option (PyData × List PyData)} {Q : Vl → En → Prop} : wp (mMeth i f ms) env Q E ↔ wp (isOwn i) env (fun _ e => wp ms e (fun vs e => wp (leakAll vs) e (fun args e => wp (mPut i (f args)) e Q E) E) E) E := by
  unfold mMeth; simp only [wp_bind]
@[simp] theorem wp_mPut {i : Nat} {f : List PyData → Option (PyData × List PyData)} {Q : Vl → En → Prop} : wp (mPut i f) env Q E ↔ (match env[i]? with
  | some (some (.own b ds)) => opt (f ds) fun p => Q (.d p.1) (env.set i (some (.own b p.2)))
  | _ => False) := by
  unfold wp mPut
  cases env[i]? with
  | none => rfl
  | some o => cases o with
    | none => rfl
    | some ev => cases ev with
      | d x => rfl
      | own b ds =>
        dsimp only
        cases f ds with
        | none => rfl
        | some p => rfl
      | x v => rfl
@[simp] theorem wp_sSetS {i : Nat} {Q : Fl → En → Prop} : wp (sSetS i m m') env Q E ↔ wp m env (fun v e => wp (leak v) e (fun d e => wp (isOwn i) e (fun _ e => wp m' e (fun k e => wp k.get e (fun kd e => wp (mPut i (fSet d [kd])) e (fun _ e => Q .next e) (fun _ _ => False)) (fun _ _ => False)) (fun _ _ => False)) (fun _ _ => False)) E) E := by
  unfold sSetS; simp only [wp_bind, wp_noE, wp_sNext]
@[simp] theorem wp_mChn {g g' : PyData → PyData → Option PyData} {Q : Vl → En → Prop} : wp (mChn g g' a b c) env Q E ↔ wp a env (fun va e => wp b e (fun vb e => wp va.get e (fun x e => wp vb.get e (fun y e => opt (g x y) fun r => match r with
  | .bool true => wp c e (fun vc e => wp vb.get e (fun y e => wp vc.get e (fun z e => opt (g' y z) fun r => Q (.d r) e) E) E) E
  | .bool false => Q (.d (.bool false)) e
  | _ => False) E) E) E) E := by
  unfold mChn
  simp only [wp_bind, wp_Mopt]
  apply iff_of_eq; congr 1; funext va e; congr 1; funext vb e; congr 1; funext x e; congr 1; funext y e
  cases g x y with
  | none => rfl
  | some r =>
    simp only [opt_some]
    cases r with
    | bool k => cases k <;> simp [wp_Mopt]
    | _ => rfl
/-! loops -/
@[simp] theorem wp_sFor {mi : M Src} {g : PyData → M Unit} {Q : Fl → En → Prop} : wp (sFor mi g st) env Q E ↔ wp mi env (fun s e => match s with
  | .fix items => wp (forL g st items) e Q E
  | .own _ => False) E := by
  unfold sFor
  rw [wp_bind]
  apply iff_of_eq; congr 1; funext s e
  cases s <;> rfl
@[simp] theorem wp_forNil {g : PyData → M Unit} {Q : Fl → En → Prop} : wp (forL g st []) env Q E ↔ Q .next env := Iff.rfl
@[simp] theorem wp_forCons {g : PyData → M Unit} {d : PyData} {ds : List PyData} {Q : Fl → En → Prop} : wp (forL g st (d :: ds)) env Q E ↔ wp (g d) env (fun _ e => wp st e (fun fl e => match fl with
  | .next => wp (forL g st ds) e Q E
  | .cont => wp (forL g st ds) e Q E
  | .brk => Q .next e
  | .ret v => Q (.ret v) e) E) (fun _ _ => False) := by
  rw [show forL g st (d :: ds) = M.bind (noE (g d)) fun _ => M.bind st fun fl => match fl with
    | .next => forL g st ds
    | .cont => forL g st ds
    | .brk => sNext
    | .ret v => M.pure (.ret v) from rfl]
  simp only [wp_bind, wp_noE]
  apply iff_of_eq; congr 1; funext _ e; congr 1; funext fl e
  cases fl <;> rfl
/-- a loop by an invariant -/
theorem wp_for {g : PyData → M Unit} {ds : List PyData} {Q : Fl → En → Prop} (I : Nat → En → Prop) (h0 : I 0 env) (hs : ∀ i d e, ds[i]? = some d → I i e → wp (g d) e (fun _ e => wp st e (fun fl e => match fl with
  | .next => I (i + 1) e
  | .cont => I (i + 1) e
  | .brk => Q .next e
  | .ret v => Q (.ret v) e) E) (fun _ _ => False)) (hd : ∀ e, I ds.length e → Q .next e) : wp (forL g st ds) env Q E := by
  induction ds generalizing env I with
  | nil => exact hd env h0
  | cons d ds ih =>
    rw [wp_forCons]
    refine wp_mono (hs 0 d env rfl h0) (fun _ e h => wp_mono h (fun fl e h => ?_) fun _ _ z => z) fun _ _ z => z
    cases fl with
    | next => exact ih (I := fun i => I (i + 1)) h (fun i x e hx hi => hs (i + 1) x e (by simpa using hx) hi) hd
    | cont => exact ih (I := fun i => I (i + 1)) h (fun i x e hx hi => hs (i + 1) x e (by simpa using hx) hi) hd
    | brk => exact h
    | ret v => exact h
@[simp] theorem wp_gNm {i : Nat} {d : PyData} {Q : Unit → En → Prop} : wp (gNm i d) env Q E ↔ wp (sto i (.d d)) env Q E := Iff.rfl
@[simp] theorem wp_gTp {n : Nat} {gs : List PyData → M Unit} {xs : List PyData} {Q : Unit → En → Prop} : wp (gTp n gs (.tuple xs)) env Q E ↔ xs.length = n ∧ wp (gs xs) env Q E := by
  rw [show gTp n gs (.tuple xs) = if xs.length = n then gs xs else M.stuck from rfl, wp_ite]
  by_cases h : xs.length = n <;> simp [h]
@[simp] theorem wp_gCons {g : PyData → M Unit} {gs : List PyData → M Unit} {x : PyData} {xs : List PyData} {Q : Unit → En → Prop} : wp (gCons' g gs (x :: xs)) env Q E ↔ wp (g x) env (fun _ e => wp (gs xs) e Q E) E := by
  rw [show gCons' g gs (x :: xs) = M.bind (g x) fun _ => gs xs from rfl, wp_bind]
@[simp] theorem wp_gNil {Q : Unit → En → Prop} : wp (gNil' []) env Q E ↔ Q () env := Iff.rfl
@[simp] theorem wp_sAsg {g : PyData → M Unit} {Q : Fl → En → Prop} : wp (sAsg g m) env Q E ↔ wp m env (fun v e => wp (leak v) e (fun d e => wp (g d) e (fun _ e => Q .next e) (fun _ _ => False)) E) E := by
  unfold sAsg; simp only [wp_bind, wp_noE, wp_sNext]
@[simp] theorem wp_mItems {Q : Src → En → Prop} : wp (mItems m) env Q E ↔ wp m env (fun v e => wp (leak v) e (fun d e => opt (seqI d) fun xs => Q (.fix xs) e) E) E := by
  unfold mItems; simp only [wp_bind, wp_Mopt, opt_map]
@[simp] theorem wp_mZip {Q : Src → En → Prop} : wp (mZip ms) env Q E ↔ wp ms env (fun vs e => wp (leakAll vs) e (fun ds e => opt (zipS ds) fun s => Q s e) E) E := by
  unfold mZip; simp only [wp_bind, wp_Mopt]
theorem wp_mRange1 {Q : Src → En → Prop} : wp (mRange1 ms) env Q E ↔ wp ms env (fun vs e => wp (getAll vs) e (fun ds e => match ds with
  | [.int j] => (-(2 ^ 62) ≤ j ∧ j < 2 ^ 62) ∧ Q (.fix ((List.range j.toNat).map fun i => .int (0 + (i : Nat)))) e
  | _ => False) E) E := by
  unfold mRange1
  simp only [wp_bind]
  apply iff_of_eq; congr 1; funext vs e; congr 1; funext ds e
  cases ds with
  | nil => rfl
  | cons d ds =>
    cases ds with
    | cons _ _ => cases d <;> rfl
    | nil =>
      cases d with
      | int j =>
        show wp (if -(2 ^ 62) ≤ j ∧ j < 2 ^ 62 then M.pure (Src.fix ((List.range j.toNat).map fun i => PyData.int (0 + (i : Nat)))) else M.stuck) e Q E = ((-(2 ^ 62) ≤ j ∧ j < 2 ^ 62) ∧ Q (.fix ((List.range j.toNat).map fun i => .int (0 + (i : Nat)))) e)
        rw [wp_ite]
        by_cases h : -(2 ^ 62) ≤ j ∧ j < 2 ^ 62 <;> simp [h]
      | _ => rfl
end
end DL
end

/- DL23 -/
section
set_option maxHeartbeats 4000000
namespace DL
open PySem PySem.Spec PyProof.Rows L2

section
variable {env : En} {E : Er → En → Prop} {elt : M Vl} {t : M Bool} {g : PyData → M Unit} {vs : List Nat} {items : List PyData}
theorem rest_wipe : restE env (wipeE env vs) vs = env := by
  apply List.ext_getElem?
  intro i
  rw [restE_get wipeE_length.symm, wipeE_get]
  by_cases h : i ∈ vs
  · rw [if_pos h]
  · rw [if_neg h, if_neg (fun z => h z.1)]
@[simp] theorem wp_clr {Q : Unit → En → Prop} : wp (clr vs) env Q E ↔ noOwn vs env = true ∧ Q () (wipeE env vs) := by
  unfold wp clr
  by_cases h : noOwn vs env = true <;> simp [h]
@[simp] theorem wp_mYes {Q : Bool → En → Prop} : wp mYes env Q E ↔ Q true env := Iff.rfl
@[simp] theorem wp_lcTurn {d : PyData} {acc : List PyData} {Q : List PyData → En → Prop} : wp (lcTurn vs g t elt d acc) env Q E ↔ wp (g d) env (fun _ e => wp t e (fun k e => if k = true then wp elt e (fun v e => wp (leak v) e (fun x e => acc.length < sizeLine ∧ wp (clr vs) e (fun _ e => Q (acc ++ [x]) e) E) E) (fun _ _ => False) else wp (clr vs) e (fun _ e => Q acc e) E) (fun _ _ => False)) (fun _ _ => False) := by
  unfold lcTurn
  simp only [wp_bind, wp_noE, wp_ite, wp_pure, wp_stuck]
  apply iff_of_eq; congr 1; funext _ e; congr 1; funext k e
  congr 1
  congr 1; funext v e; congr 1; funext x e
  by_cases h : acc.length < sizeLine <;> simp [h]
/-- a comprehension by an invariant -/
theorem wp_lc {Q : List PyData → En → Prop} (I : Nat → List PyData → En → Prop) (hv : noOwn vs env = true) (h0 : I 0 [] (wipeE env vs)) (hs : ∀ i d acc e, items[i]? = some d → I i acc e → wp (lcTurn vs g t elt d acc) e (fun acc' e' => I (i + 1) acc' e') (fun _ _ => False))
    (hd : ∀ acc e, I items.length acc e → Q acc (restE env e vs)) : wp (lcRun vs g t elt (.fix items)) env Q E := by
  have key : ∀ (n i : Nat) (acc : List PyData) (e : En), i + n = items.length → I i acc e → ∃ ds e1, lcN (.fix items) vs g t elt (n + 1) i acc e = .ok ds e1 ∧ I items.length ds e1 := by
    intro n
    induction n with
    | zero =>
      intro i acc e hi hI
      have e0 : items[i]? = none := List.getElem?_eq_none (by omega)
      refine ⟨acc, e, ?_, by rw [← hi]; exact hI⟩
      show M.bind (srcAt (.fix items) i) _ e = _
      rw [M.bind_ok (show srcAt (.fix items) i e = .ok items[i]? e from rfl), e0]
      rfl
    | succ n ih =>
      intro i acc e hi hI
      have hlt : i < items.length := by omega
      have e0 : items[i]? = some items[i] := List.getElem?_eq_getElem hlt
      obtain ⟨acc', e', h1, h2⟩ := wp_ok (hs i items[i] acc e e0 hI)
      obtain ⟨ds, e1, h3, h4⟩ := ih (i + 1) acc' e' (by omega) h2
      refine ⟨ds, e1, ?_, h4⟩
      show M.bind (srcAt (.fix items) i) _ e = _
      rw [M.bind_ok (show srcAt (.fix items) i e = .ok items[i]? e from rfl), e0]
      show M.bind (lcTurn vs g t elt items[i] acc) _ e = _
      rw [M.bind_ok h1]
      exact h3
  obtain ⟨ds, e1, h1, h2⟩ := key items.length 0 [] (wipeE env vs) (by omega) h0
  have hc : clr vs env = .ok () (wipeE env vs) := by unfold clr; rw [if_pos hv]
  have : lcRun vs g t elt (.fix items) env = .ok ds (restE env e1 vs) := by
    unfold lcRun
    rw [show srcLen (.fix items) env = .ok items.length env from rfl]
    dsimp only
    rw [M.bind_ok hc, h1]
  exact wp_of this (hd ds e1 h2)
/-- a comprehension that leaves all as it is -/
theorem wp_lc_map {Q : List PyData → En → Prop} (F : PyData → PyData) (hv : noOwn vs env = true) (hl : items.length ≤ sizeLine) (hs : ∀ d ∈ items, ∀ acc : List PyData, acc.length < sizeLine → wp (lcTurn vs g t elt d acc) (wipeE env vs) (fun acc' e' => acc' = acc ++ [F d] ∧ e' = wipeE env vs) (fun _ _ => False))
    (q : Q (items.map F) env) : wp (lcRun vs g t elt (.fix items)) env Q E := by
  refine wp_lc (fun i acc e => i ≤ items.length ∧ acc = (items.take i).map F ∧ e = wipeE env vs) hv ⟨Nat.zero_le _, by simp, rfl⟩ (fun i d acc e hd hI => ?_) (fun acc e hI => ?_)
  · obtain ⟨h1, rfl, rfl⟩ := hI
    have hlt := (List.getElem?_eq_some_iff.mp hd).1
    refine wp_mono (hs d (List.mem_of_getElem? hd) _ ?_) (fun acc' e' h => ?_) fun _ _ z => z
    · rw [List.length_map, List.length_take]; omega
    · refine ⟨hlt, ?_, h.2⟩
      rw [h.1, List.take_add_one, hd]
      simp
  · obtain ⟨_, rfl, rfl⟩ := hI
    rw [List.take_length, rest_wipe]
    exact q
@[simp] theorem wp_mLc {mi : M Src} {Q : List PyData → En → Prop} : wp (mLc vs mi g t elt) env Q E ↔ wp mi env (fun s e => wp (lcRun vs g t elt s) e Q E) E := by
  unfold mLc; simp only [wp_bind]
/-- what a def answers: data -/
def Ans (f : M Fl) (n : Nat) (evs : List EV) (r : PyData) : Prop := ∃ e', f (startE n evs) = .ok (.ret (.d r)) e'
def Rai (f : M Fl) (n : Nat) (evs : List EV) (x : Str) : Prop := ∃ e', f (startE n evs) = .err ⟨x, none⟩ e'
def Don (f : M Fl) (n : Nat) (evs : List EV) : Prop := ∃ e', f (startE n evs) = .ok .next e'
theorem ans_of {f : M Fl} {n : Nat} {evs : List EV} {r : PyData} (h : wp f (startE n evs) (fun fl _ => fl = .ret (.d r)) (fun _ _ => False)) : Ans f n evs r := by
  obtain ⟨v, e', h1, rfl⟩ := wp_ok h
  exact ⟨e', h1⟩
theorem don_of {f : M Fl} {n : Nat} {evs : List EV} (h : wp f (startE n evs) (fun fl _ => fl = .next) (fun _ _ => False)) : Don f n evs := by
  obtain ⟨v, e', h1, rfl⟩ := wp_ok h
  exact ⟨e', h1⟩
theorem rai_of {f : M Fl} {n : Nat} {evs : List EV} {x : Str} (h : wp f (startE n evs) (fun _ _ => False) (fun e _ => e = ⟨x, none⟩)) : Rai f n evs x := by
  unfold wp at h
  cases e : f (startE n evs) with
  | ok v e' => rw [e] at h; exact h.elim
  | err y e' => rw [e] at h; subst h; exact ⟨e', e⟩
  | stuck => rw [e] at h; exact h.elim
theorem wp_ans {np n : Nat} {f : M Fl} {evs : List EV} {r : PyData} {Q : RVl → En → Prop} (h : Ans f n evs r) (hn : evs.length = np) (q : Q (.d r) env) : wp (fin np f n evs none) env Q E := by
  obtain ⟨e', h⟩ := h
  rw [wp_fin]
  exact ⟨hn, wp_of h q⟩
theorem wp_don {np n : Nat} {f : M Fl} {evs : List EV} {Q : RVl → En → Prop} (h : Don f n evs) (hn : evs.length = np) (q : Q (.d .none) env) : wp (fin np f n evs none) env Q E := by
  obtain ⟨e', h⟩ := h
  rw [wp_fin]
  exact ⟨hn, wp_of h q⟩
theorem wp_rai {np n : Nat} {f : M Fl} {evs : List EV} {x : Str} {Q : RVl → En → Prop} (h : Rai f n evs x) (hn : evs.length = np) (q : E ⟨x, none⟩ env) : wp (fin np f n evs none) env Q E := by
  obtain ⟨e', h⟩ := h
  rw [wp_fin]
  refine ⟨hn, ?_⟩
  unfold wp
  rw [h]
  exact q
end
end DL
end

/- DL24 -/
section
set_option maxHeartbeats 4000000
namespace DL
open PySem PySem.Spec PyProof.Rows L2

section
variable {env : En} {E : Er → En → Prop} {elt : M Vl} {t : M Bool} {g : PyData → M Unit} {vs : List Nat} {items : List PyData}
@[simp] theorem wp_dcTurn {d : PyData} {acc : List Key} {Q : List Key → En → Prop} : wp (dcTurn vs g t elt d acc) env Q E ↔ wp (g d) env (fun _ e => wp t e (fun k e => if k = true then wp elt e (fun v e => wp (leak v) e (fun x e => opt (keyD x) fun kk => acc.length < sizeLine ∧ wp (clr vs) e (fun _ e => Q (addK acc kk) e) E) E) (fun _ _ => False) else wp (clr vs) e (fun _ e => Q acc e) E) (fun _ _ => False)) (fun _ _ => False) := by
  unfold dcTurn
  simp only [wp_bind, wp_noE, wp_ite, wp_pure, wp_stuck, wp_Mopt]
  apply iff_of_eq; congr 1; funext _ e; congr 1; funext k e
  congr 1
  congr 1; funext v e; congr 1; funext x e
  congr 1; funext kk
  by_cases h : acc.length < sizeLine <;> simp [h]
theorem addK_len (acc : List Key) (k : Key) : (addK acc k).length ≤ acc.length + 1 := by
  unfold addK
  split
  · omega
  · simp
theorem wp_dc_map {Q : List Key → En → Prop} (F : PyData → Key) (hv : noOwn vs env = true) (hl : items.length ≤ sizeLine) (hs : ∀ d ∈ items, ∀ acc : List Key, acc.length < sizeLine → wp (dcTurn vs g t elt d acc) (wipeE env vs) (fun acc' e' => acc' = addK acc (F d) ∧ e' = wipeE env vs) (fun _ _ => False))
    (q : Q (items.foldl (fun a d => addK a (F d)) []) env) : wp (dcRun vs g t elt (.fix items)) env Q E := by
  have key : ∀ (n i : Nat) (acc : List Key), i + n = items.length → acc.length ≤ i → dcN (.fix items) vs g t elt (n + 1) i acc (wipeE env vs) = .ok ((items.drop i).foldl (fun a d => addK a (F d)) acc) (wipeE env vs) := by
    intro n
    induction n with
    | zero =>
      intro i acc hi ha
      have e0 : items[i]? = none := List.getElem?_eq_none (by omega)
      show M.bind (srcAt (.fix items) i) _ _ = _
      rw [M.bind_ok (show srcAt (.fix items) i (wipeE env vs) = .ok items[i]? (wipeE env vs) from rfl), e0, List.drop_eq_nil_of_le (by omega)]
      rfl
    | succ n ih =>
      intro i acc hi ha
      have hlt : i < items.length := by omega
      have e0 : items[i]? = some items[i] := List.getElem?_eq_getElem hlt
      obtain ⟨acc', e', h1, rfl, rfl⟩ := wp_ok (hs items[i] (List.getElem_mem hlt) acc (by omega))
      show M.bind (srcAt (.fix items) i) _ _ = _
      rw [M.bind_ok (show srcAt (.fix items) i (wipeE env vs) = .ok items[i]? (wipeE env vs) from rfl), e0]
      show M.bind (dcTurn vs g t elt items[i] acc) _ _ = _
      rw [M.bind_ok h1, List.drop_eq_getElem_cons hlt, List.foldl_cons]
      have := addK_len acc (F items[i])
      exact ih (i + 1) _ (by omega) (by omega)
  have hc : clr vs env = .ok () (wipeE env vs) := by unfold clr; rw [if_pos hv]
  have : dcRun vs g t elt (.fix items) env = .ok (items.foldl (fun a d => addK a (F d)) []) env := by
    unfold dcRun
    rw [show srcLen (.fix items) env = .ok items.length env from rfl]
    dsimp only
    rw [M.bind_ok hc, key items.length 0 [] (by omega) (Nat.zero_le _)]
    simp only [List.drop_zero, rest_wipe]
  exact wp_of this q
@[simp] theorem wp_mLenDc {mi : M Src} {Q : Vl → En → Prop} : wp (mLenDc vs mi g t elt) env Q E ↔ wp mi env (fun s e => wp (dcRun vs g t elt s) e (fun ks e => Q (.d (.int ks.length)) e) E) E := by
  unfold mLenDc; simp only [wp_bind, wp_mC]
/-- keys that differ -/
theorem foldl_addK : ∀ (ks acc : List Key), (acc ++ ks).Nodup → ks.foldl addK acc = acc ++ ks
  | [], acc, _ => by simp
  | k :: ks, acc, h => by
    have hk : k ∉ acc := by
      intro z
      have := List.nodup_append.mp h
      exact this.2.2 k z k List.mem_cons_self rfl
    have e : addK acc k = acc ++ [k] := by
      unfold addK
      rw [if_neg]
      rw [List.any_eq_true]
      rintro ⟨x, hx, e⟩
      exact hk ((of_decide_eq_true e) ▸ hx)
    rw [List.foldl_cons, e, foldl_addK ks (acc ++ [k]) (by rw [List.append_assoc]; exact h)]
    simp
end
end DL
end

/- DL25 -/
section
set_option maxHeartbeats 4000000
namespace DL
open PySem PySem.Spec PyProof.Rows L2

section
variable {env : En} {E : Er → En → Prop} {elt : M Vl} {t : M Bool} {g : PyData → M Unit} {vs : List Nat} {items : List PyData}
/-- a comprehension with a test that leaves all as it is -/
theorem wp_lc_fm {Q : List PyData → En → Prop} (F : PyData → Option PyData) (hv : noOwn vs env = true) (hl : items.length ≤ sizeLine) (hs : ∀ d ∈ items, ∀ acc : List PyData, acc.length < sizeLine → wp (lcTurn vs g t elt d acc) (wipeE env vs) (fun acc' e' => acc' = acc ++ (F d).toList ∧ e' = wipeE env vs) (fun _ _ => False))
    (q : Q (items.filterMap F) env) : wp (lcRun vs g t elt (.fix items)) env Q E := by
  refine wp_lc (fun i acc e => i ≤ items.length ∧ acc = (items.take i).filterMap F ∧ e = wipeE env vs) hv ⟨Nat.zero_le _, by simp, rfl⟩ (fun i d acc e hd hI => ?_) (fun acc e hI => ?_)
  · obtain ⟨h1, rfl, rfl⟩ := hI
    have hlt := (List.getElem?_eq_some_iff.mp hd).1
    refine wp_mono (hs d (List.mem_of_getElem? hd) _ ?_) (fun acc' e' h => ?_) fun _ _ z => z
    · have := List.length_filterMap_le F (items.take i)
      rw [List.length_take] at this
      omega
    · refine ⟨hlt, ?_, h.2⟩
      rw [h.1, List.take_add_one, hd, List.filterMap_append]
      cases q : F d <;> simp [q]
  · obtain ⟨_, rfl, rfl⟩ := hI
    rw [List.take_length, rest_wipe]
    exact q
/-- a while loop by an invariant and a measure -/
theorem wp_while {c : M Bool} {b : M Fl} {Q : Fl → En → Prop} (I : Nat → En → Prop) (hs : ∀ k e, I k e → wp c e (fun r e => if r = true then wp b e (fun fl e => match fl with
  | .next => ∃ j, j < k ∧ I j e
  | .cont => ∃ j, j < k ∧ I j e
  | .brk => Q .next e
  | .ret v => Q (.ret v) e) E else Q .next e) E) : ∀ (n k : Nat) (env : En), k < n → I k env → wp (whileN c b n) env Q E := by
  intro n
  induction n with
  | zero => intro k env h _; exact absurd h (Nat.not_lt_zero _)
  | succ n ih =>
    intro k env h hI
    rw [show whileN c b (n + 1) = M.bind c fun k => if k = true then M.bind b fun fl => match fl with
      | .next => whileN c b n
      | .cont => whileN c b n
      | .brk => sNext
      | .ret v => M.pure (.ret v) else sNext from rfl, wp_bind]
    refine wp_mono (hs k env hI) (fun r e h1 => ?_) fun _ _ z => z
    rw [wp_ite]
    split
    · rename_i hr
      rw [if_pos hr] at h1
      rw [wp_bind]
      refine wp_mono h1 (fun fl e h2 => ?_) fun _ _ z => z
      cases fl with
      | next => obtain ⟨j, hj, h3⟩ := h2; exact ih j e (by omega) h3
      | cont => obtain ⟨j, hj, h3⟩ := h2; exact ih j e (by omega) h3
      | brk => exact h2
      | ret v => exact h2
    · rename_i hr
      rw [if_neg hr] at h1
      exact h1
@[simp] theorem wp_mSaid {said : Str → Option PyData} {m : M Vl} {Q : Vl → En → Prop} : wp (mSaid said m) env Q E ↔ wp m env (fun _ e => Q (.d (.str "let")) e) (fun x e => x.arg = none ∧ opt (said x.cls) fun z => Q (.d z) e) := by
  unfold wp mSaid
  cases m env with
  | ok v e' => rfl
  | err x e' =>
    dsimp only
    cases hx : x.arg with
    | none =>
      cases hs : said x.cls with
      | none => simp
      | some z => simp
    | some a => simp
  | stuck => rfl
theorem wp_mLstRg {m : M Vl} {Q : List PyData → En → Prop} : wp (mLstRg m) env Q E ↔ wp m env (fun v e => match v with
  | .d (.int j) => (0 ≤ j ∧ j ≤ 16777216) ∧ Q ((List.range j.toNat).map fun i => .int (0 + (i : Nat))) e
  | _ => False) E := by
  unfold mLstRg
  rw [wp_bind]
  apply iff_of_eq; congr 1; funext v e
  cases v with
  | sl j => rfl
  | d x =>
    cases x with
    | int j =>
      dsimp only
      rw [wp_ite]
      by_cases h : 0 ≤ j ∧ j ≤ 16777216 <;> simp [h]
    | _ => rfl
end
end DL
end

/- DW1 -/
section
set_option maxHeartbeats 4000000
namespace DL
open PySem PySem.Spec PyProof.Rows L2

/-! ### the same words, so that simp does not look into what follows (the tag's type bears Q and E) -/
structure Kp {α : Type} (Q : α → En → Prop) (E : Er → En → Prop) : Type where
def W {α : Type} (m : M α) (env : En) (Q : α → En → Prop) (E : Er → En → Prop) (t : Kp Q E := ⟨⟩) : Prop := wp m env Q E

section
variable {α β : Type} {m : M α} {k : α → M β} {env : En} {Q : β → En → Prop} {E : Er → En → Prop}
@[simp ↓] theorem W_bind : W (M.bind m k) env Q E ↔ W m env (fun v e => W (k v) e Q E) E := wp_bind
@[simp ↓] theorem W_pure {v : β} : W (M.pure v) env Q E ↔ Q v env := wp_pure
@[simp ↓] theorem W_stuck : W (M.stuck : M β) env Q E ↔ False := wp_stuck
@[simp ↓] theorem W_some {v : β} : W (M.opt (some v)) env Q E ↔ Q v env := wp_some
@[simp ↓] theorem W_none : W (M.opt (none : Option β)) env Q E ↔ False := wp_none
theorem W_opt {o : Option β} : W (M.opt o) env Q E ↔ ∃ v, o = some v ∧ Q v env := wp_opt
@[simp ↓] theorem W_ite {c : Prop} [Decidable c] {a b : M β} : W (if c then a else b) env Q E ↔ if c then W a env Q E else W b env Q E := wp_ite
@[simp ↓] theorem W_noE {m : M β} : W (noE m) env Q E ↔ W m env Q (fun _ _ => False) := wp_noE
end
section
variable {env : En} {E : Er → En → Prop}
@[simp ↓] theorem W_mVar {i : Nat} {Q : Vl → En → Prop} : W (mVar i) env Q E ↔ (match env[i]? with
  | some (some (.d x)) => Q (.d x) env
  | some (some (.own _ _)) => Q (.sl i) env
  | _ => False) := wp_mVar
@[simp ↓] theorem W_mC {x : PyData} {Q : Vl → En → Prop} : W (mC x) env Q E ↔ Q (.d x) env := wp_mC
@[simp ↓] theorem W_leakD {x : PyData} {Q : PyData → En → Prop} : W (leak (.d x)) env Q E ↔ Q x env := wp_leakD
@[simp ↓] theorem W_leakS {i : Nat} {Q : PyData → En → Prop} : W (leak (.sl i)) env Q E ↔ (match env[i]? with
  | some (some (.own false ds)) => Q (.list ds) (env.set i (some (.d (.list ds))))
  | _ => False) := wp_leakS
@[simp ↓] theorem W_leakNil {Q : List PyData → En → Prop} : W (leakAll []) env Q E ↔ Q [] env := wp_leakNil
@[simp ↓] theorem W_leakCons {v : Vl} {vs : List Vl} {Q : List PyData → En → Prop} : W (leakAll (v :: vs)) env Q E ↔ W (leak v) env (fun d e => W (leakAll vs) e (fun ds e => Q (d :: ds) e) E) E := wp_leakCons
@[simp ↓] theorem W_getD {x : PyData} {Q : PyData → En → Prop} : W (Vl.get (.d x)) env Q E ↔ Q x env := wp_getD
@[simp ↓] theorem W_getS {i : Nat} {Q : PyData → En → Prop} : W (Vl.get (.sl i)) env Q E ↔ (match env[i]? with
  | some (some (.own _ ds)) => Q (.list ds) env
  | _ => False) := wp_getS
@[simp ↓] theorem W_getNil {Q : List PyData → En → Prop} : W (getAll []) env Q E ↔ Q [] env := wp_getNil
@[simp ↓] theorem W_getCons {v : Vl} {vs : List Vl} {Q : List PyData → En → Prop} : W (getAll (v :: vs)) env Q E ↔ W v.get env (fun d e => W (getAll vs) e (fun ds e => Q (d :: ds) e) E) E := wp_getCons
@[simp ↓] theorem W_sto {i : Nat} {ev : EV} {Q : Unit → En → Prop} : W (sto i ev) env Q E ↔ (match env[i]? with
  | some (some (.own true _)) => False
  | _ => Q () (env.set i (some ev))) := wp_sto
@[simp ↓] theorem W_isOwn {i : Nat} {Q : Unit → En → Prop} : W (isOwn i) env Q E ↔ (match env[i]? with
  | some (some (.own _ _)) => Q () env
  | _ => False) := wp_isOwn
@[simp ↓] theorem W_ownAt {i : Nat} {Q : List PyData → En → Prop} : W (ownAt i) env Q E ↔ (match env[i]? with
  | some (some (.own _ ds)) => Q ds env
  | _ => False) := wp_ownAt
@[simp ↓] theorem W_mIsE {i : Nat} {a : Addr} {b : Bool} {Q : Vl → En → Prop} : W (mIsE i a b) env Q E ↔ (match env[i]? with
  | some (some (.x (.ref a'))) => a' = a ∧ Q (.d (.bool b)) env
  | _ => False) := wp_mIsE
end
@[simp ↓] theorem W_mSrcV {env : En} {E : Er → En → Prop} {j : Nat} {Q : Src → En → Prop} : W (mSrcV j) env Q E ↔ (match env[j]? with
  | some (some (.own _ _)) => Q (.own j) env
  | some (some (.d d)) => (match seqI d with
    | some xs => Q (.fix xs) env
    | none => False)
  | _ => False) := wp_mSrcV
section
variable {env : En} {E : Er → En → Prop} {a b c m m' : M Vl} {ms : M (List Vl)} {mo : M (List PyData)} {t u : M Bool} {st st' : M Fl}
@[simp ↓] theorem W_sSeq {Q : Fl → En → Prop} : W (sSeq st st') env Q E ↔ W st env (fun fl e => match fl with
  | .next => W st' e Q E
  | fl => Q fl e) E := wp_sSeq
@[simp ↓] theorem W_sNext {Q : Fl → En → Prop} : W sNext env Q E ↔ Q .next env := wp_sNext
@[simp ↓] theorem W_sBrk {Q : Fl → En → Prop} : W sBrk env Q E ↔ Q .brk env := wp_sBrk
@[simp ↓] theorem W_sCont {Q : Fl → En → Prop} : W sCont env Q E ↔ Q .cont env := wp_sCont
@[simp ↓] theorem W_sSet {i : Nat} {Q : Fl → En → Prop} : W (sSet i m) env Q E ↔ W m env (fun v e => W (leak v) e (fun d e => W (sto i (.d d)) e (fun _ e => Q .next e) E) E) E := wp_sSet
@[simp ↓] theorem W_sSetO {i : Nat} {Q : Fl → En → Prop} : W (sSetO i mo) env Q E ↔ W mo env (fun ds e => W (sto i (.own false ds)) e (fun _ e => Q .next e) E) E := wp_sSetO
@[simp ↓] theorem W_sRet {Q : Fl → En → Prop} : W (sRet m) env Q E ↔ W m env (fun v e => W (leak v) e (fun d e => Q (.ret (.d d)) e) E) E := wp_sRet
@[simp ↓] theorem W_sRetO {Q : Fl → En → Prop} : W (sRetO mo) env Q E ↔ W mo env (fun ds e => Q (.ret (.o ds)) e) E := wp_sRetO
@[simp ↓] theorem W_sDrop {Q : Fl → En → Prop} : W (sDrop m) env Q E ↔ W m env (fun _ e => Q .next e) E := wp_sDrop
@[simp ↓] theorem W_sRaise {x : Er} {Q : Fl → En → Prop} : W (sRaise x) env Q E ↔ E x env := wp_sRaise
@[simp ↓] theorem W_mIf {α : Type} {x y : M α} {Q : α → En → Prop} : W (mIf t x y) env Q E ↔ W t env (fun k e => if k = true then W x e Q E else W y e Q E) E := wp_mIf
@[simp ↓] theorem W_sIf {Q : Fl → En → Prop} : W (sIf t st st') env Q E ↔ W t env (fun k e => if k = true then W st e Q E else W st' e Q E) E := wp_sIf
@[simp ↓] theorem W_mNil {Q : List Vl → En → Prop} : W mNil env Q E ↔ Q [] env := wp_mNil
@[simp ↓] theorem W_mCons {Q : List Vl → En → Prop} : W (mCons m ms) env Q E ↔ W m env (fun v e => W ms e (fun vs e => Q (v :: vs) e) E) E := wp_mCons
@[simp ↓] theorem W_mTup {Q : Vl → En → Prop} : W (mTup ms) env Q E ↔ W ms env (fun vs e => W (leakAll vs) e (fun ds e => ds.length ≤ sizeLine ∧ Q (.d (.tuple ds)) e) E) E := wp_mTup
@[simp ↓] theorem W_mLst {Q : List PyData → En → Prop} : W (mLst ms) env Q E ↔ W ms env (fun vs e => W (leakAll vs) e (fun ds e => ds.length ≤ sizeLine ∧ Q ds e) E) E := wp_mLst
@[simp ↓] theorem W_mFrz {Q : Vl → En → Prop} : W (mFrz mo) env Q E ↔ W mo env (fun ds e => Q (.d (.list ds)) e) E := wp_mFrz
@[simp ↓] theorem W_Mopt {β : Type} {o : Option β} {Q : β → En → Prop} : W (M.opt o) env Q E ↔ opt o fun v => Q v env := wp_Mopt
@[simp ↓] theorem W_mBin {g : PyData → PyData → Option PyData} {Q : Vl → En → Prop} : W (mBin g a b) env Q E ↔ W a env (fun va e => W b e (fun vb e => W va.get e (fun x e => W vb.get e (fun y e => opt (g x y) fun z => Q (.d z) e) E) E) E) E := wp_mBin
@[simp ↓] theorem W_mBinL {g : PyData → PyData → Option (List PyData)} {Q : List PyData → En → Prop} : W (mBinL g a b) env Q E ↔ W a env (fun va e => W b e (fun vb e => W va.get e (fun x e => W vb.get e (fun y e => opt (g x y) fun z => Q z e) E) E) E) E := wp_mBinL
@[simp ↓] theorem W_mCall {g : List PyData → Option PyData} {Q : Vl → En → Prop} : W (mCall g ms) env Q E ↔ W ms env (fun vs e => W (getAll vs) e (fun ds e => opt (g ds) fun z => Q (.d z) e) E) E := wp_mCall
@[simp ↓] theorem W_mCallL {g : List PyData → Option (List PyData)} {Q : List PyData → En → Prop} : W (mCallL g ms) env Q E ↔ W ms env (fun vs e => W (getAll vs) e (fun ds e => opt (g ds) fun z => Q z e) E) E := wp_mCallL
@[simp ↓] theorem W_mMB {ty : PyData → Bool} {g : PyData → List PyData → Option PyData} {Q : Vl → En → Prop} : W (mMB ty g m ms) env Q E ↔ W m env (fun v e => W v.get e (fun d0 e => if ty d0 = true then W ms e (fun vs e => W v.get e (fun d e => W (getAll vs) e (fun ds e => opt (g d ds) fun z => Q (.d z) e) E) E) E else False) E) E := wp_mMB
@[simp ↓] theorem W_mIsi {g : PyData → Bool} {Q : Vl → En → Prop} : W (mIsi g m) env Q E ↔ W m env (fun v e => W v.get e (fun d e => Q (.d (.bool (g d))) e) E) E := wp_mIsi
@[simp ↓] theorem W_mTru {v : Vl} {Q : Bool → En → Prop} : W (mTru v) env Q E ↔ W v.get env (fun d e => opt (truD d) fun k => Q k e) E := wp_mTru
@[simp ↓] theorem W_mTst {Q : Bool → En → Prop} : W (mTst m) env Q E ↔ W m env (fun v e => W v.get e (fun d e => opt (truD d) fun k => Q k e) E) E := wp_mTst
@[simp ↓] theorem W_mBoo {k : Bool} {Q : Bool → En → Prop} : W (mBoo (.d (.bool k))) env Q E ↔ Q k env := wp_mBoo
@[simp ↓] theorem W_mTB {Q : Bool → En → Prop} : W (mTB m) env Q E ↔ W m env (fun v e => W (mBoo v) e Q E) E := wp_mTB
@[simp ↓] theorem W_mAnd {Q : Bool → En → Prop} : W (mAnd t u) env Q E ↔ W t env (fun k e => if k = true then W u e Q E else Q false e) E := wp_mAnd
@[simp ↓] theorem W_mOr {Q : Bool → En → Prop} : W (mOr t u) env Q E ↔ W t env (fun k e => if k = true then Q true e else W u e Q E) E := wp_mOr
@[simp ↓] theorem W_mNot {Q : Bool → En → Prop} : W (mNot t) env Q E ↔ W t env (fun k e => Q (!k) e) E := wp_mNot
@[simp ↓] theorem W_mAndV {Q : Vl → En → Prop} : W (mAndV a b) env Q E ↔ W a env (fun v e => W v.get e (fun d e => opt (truD d) fun k => if k = true then W b e Q E else Q v e) E) E := wp_mAndV
@[simp ↓] theorem W_mOrV {Q : Vl → En → Prop} : W (mOrV a b) env Q E ↔ W a env (fun v e => W v.get e (fun d e => opt (truD d) fun k => if k = true then Q v e else W b e Q E) E) E := wp_mOrV
@[simp ↓] theorem W_mNotV {Q : Vl → En → Prop} : W (mNotV a) env Q E ↔ W a env (fun v e => W v.get e (fun d e => opt (truD d) fun k => Q (.d (.bool (!k))) e) E) E := wp_mNotV
@[simp ↓] theorem W_mNeg {Q : Vl → En → Prop} : W (mNeg m) env Q E ↔ W m env (fun v e => match v with
  | .d (.int i) => Q (.d (.int (-i))) e
  | _ => False) E := wp_mNeg
end
section
variable {env : En} {E : Er → En → Prop} {a b c m m' : M Vl} {ms : M (List Vl)} {mo : M (List PyData)} {t u : M Bool} {st st' : M Fl}
theorem W_fin {np n : Nat} {f : M Fl} {evs : List EV} {lt : Option (Nat × Nat)} {Q : RVl → En → Prop} : W (fin np f n evs lt) env Q E ↔ evs.length = np ∧ W f (startE n evs) (fun fl e' => match fl with
  | .next => Q (.d .none) (backE lt env e')
  | .ret v => Q v (backE lt env e')
  | _ => False) (fun x e' => E x (backE lt env e')) := wp_fin
@[simp ↓] theorem W_callR0 {np n : Nat} {f : M Fl} {Q : RVl → En → Prop} : W (callR0 np f n ms) env Q E ↔ W ms env (fun vs e => W (leakAll vs) e (fun ds e => W (fin np f n (ds.map .d) none) e Q E) E) E := wp_callR0
@[simp ↓] theorem W_callR1 {np n j : Nat} {f : M Fl} {Q : RVl → En → Prop} : W (callR1 np f n j ms) env Q E ↔ W ms env (fun vs e => opt (slAt vs j) fun i => W (leakAll (vs.set j (.d .none))) e (fun ds e => W (ownAt i) e (fun es e => W (fin np f n ((ds.map EV.d).set j (.own true es)) (some (j, i))) e Q E) E) E) E := wp_callR1
@[simp ↓] theorem W_asD {f : M RVl} {Q : Vl → En → Prop} : W (asD f) env Q E ↔ W f env (fun v e => match v with
  | .d x => Q (.d x) e
  | .o _ => False) E := wp_asD
@[simp ↓] theorem W_asO {f : M RVl} {Q : List PyData → En → Prop} : W (asO f) env Q E ↔ W f env (fun v e => match v with
  | .d _ => False
  | .o ds => Q ds e) E := wp_asO
@[simp ↓] theorem W_vNil {Q : List RVl → En → Prop} : W vNil env Q E ↔ Q [] env := wp_vNil
@[simp ↓] theorem W_vD {vs : M (List RVl)} {Q : List RVl → En → Prop} : W (vD m vs) env Q E ↔ W m env (fun v e => W (leak v) e (fun d e => W vs e (fun vs e => Q (.d d :: vs) e) E) E) E := wp_vD
@[simp ↓] theorem W_vO {vs : M (List RVl)} {Q : List RVl → En → Prop} : W (vO mo vs) env Q E ↔ W mo env (fun ds e => W vs e (fun vs e => Q (.o ds :: vs) e) E) E := wp_vO
@[simp ↓] theorem W_stoV {i : Nat} {v : RVl} {Q : Unit → En → Prop} : W (stoV i v) env Q E ↔ W (sto i (evOf v)) env Q E := wp_stoV
@[simp ↓] theorem W_sPar2 {i j : Nat} {vs : M (List RVl)} {Q : Fl → En → Prop} : W (sPar2 i j vs) env Q E ↔ W vs env (fun vs e => match vs with
  | [v, w] => W (stoV i v) e (fun _ e => W (stoV j w) e (fun _ e => Q .next e) E) E
  | _ => False) E := wp_sPar2
@[simp ↓] theorem W_sPar3 {i j l : Nat} {vs : M (List RVl)} {Q : Fl → En → Prop} : W (sPar3 i j l vs) env Q E ↔ W vs env (fun vs e => match vs with
  | [v, w, z] => W (stoV i v) e (fun _ e => W (stoV j w) e (fun _ e => W (stoV l z) e (fun _ e => Q .next e) E) E) E
  | _ => False) E := wp_sPar3
@[simp ↓] theorem W_mMeth {i : Nat} {f : List PyData → List PyData → Option (PyData × List PyData)} {Q : Vl → En → Prop} : W (mMeth i f ms) env Q E ↔ W (isOwn i) env (fun _ e => W ms e (fun vs e => W (leakAll vs) e (fun args e => W (mPut i (f args)) e Q E) E) E) E := wp_mMeth
@[simp ↓] theorem W_mPut {i : Nat} {f : List PyData → Option (PyData × List PyData)} {Q : Vl → En → Prop} : W (mPut i f) env Q E ↔ (match env[i]? with
  | some (some (.own b ds)) => opt (f ds) fun p => Q (.d p.1) (env.set i (some (.own b p.2)))
  | _ => False) := wp_mPut
@[simp ↓] theorem W_sSetS {i : Nat} {Q : Fl → En → Prop} : W (sSetS i m m') env Q E ↔ W m env (fun v e => W (leak v) e (fun d e => W (isOwn i) e (fun _ e => W m' e (fun k e => W k.get e (fun kd e => W (mPut i (fSet d [kd])) e (fun _ e => Q .next e) (fun _ _ => False)) (fun _ _ => False)) (fun _ _ => False)) (fun _ _ => False)) E) E := wp_sSetS
@[simp ↓] theorem W_mChn {g g' : PyData → PyData → Option PyData} {Q : Vl → En → Prop} : W (mChn g g' a b c) env Q E ↔ W a env (fun va e => W b e (fun vb e => W va.get e (fun x e => W vb.get e (fun y e => opt (g x y) fun r => match r with
  | .bool true => W c e (fun vc e => W vb.get e (fun y e => W vc.get e (fun z e => opt (g' y z) fun r => Q (.d r) e) E) E) E
  | .bool false => Q (.d (.bool false)) e
  | _ => False) E) E) E) E := wp_mChn
@[simp ↓] theorem W_sFor {mi : M Src} {g : PyData → M Unit} {Q : Fl → En → Prop} : W (sFor mi g st) env Q E ↔ W mi env (fun s e => match s with
  | .fix items => W (forL g st items) e Q E
  | .own _ => False) E := wp_sFor
@[simp ↓] theorem W_forNil {g : PyData → M Unit} {Q : Fl → En → Prop} : W (forL g st []) env Q E ↔ Q .next env := wp_forNil
@[simp ↓] theorem W_forCons {g : PyData → M Unit} {d : PyData} {ds : List PyData} {Q : Fl → En → Prop} : W (forL g st (d :: ds)) env Q E ↔ W (g d) env (fun _ e => W st e (fun fl e => match fl with
  | .next => W (forL g st ds) e Q E
  | .cont => W (forL g st ds) e Q E
  | .brk => Q .next e
  | .ret v => Q (.ret v) e) E) (fun _ _ => False) := wp_forCons
@[simp ↓] theorem W_gNm {i : Nat} {d : PyData} {Q : Unit → En → Prop} : W (gNm i d) env Q E ↔ W (sto i (.d d)) env Q E := wp_gNm
@[simp ↓] theorem W_gTp {n : Nat} {gs : List PyData → M Unit} {xs : List PyData} {Q : Unit → En → Prop} : W (gTp n gs (.tuple xs)) env Q E ↔ xs.length = n ∧ W (gs xs) env Q E := wp_gTp
@[simp ↓] theorem W_gCons {g : PyData → M Unit} {gs : List PyData → M Unit} {x : PyData} {xs : List PyData} {Q : Unit → En → Prop} : W (gCons' g gs (x :: xs)) env Q E ↔ W (g x) env (fun _ e => W (gs xs) e Q E) E := wp_gCons
@[simp ↓] theorem W_gNil {Q : Unit → En → Prop} : W (gNil' []) env Q E ↔ Q () env := wp_gNil
@[simp ↓] theorem W_sAsg {g : PyData → M Unit} {Q : Fl → En → Prop} : W (sAsg g m) env Q E ↔ W m env (fun v e => W (leak v) e (fun d e => W (g d) e (fun _ e => Q .next e) (fun _ _ => False)) E) E := wp_sAsg
@[simp ↓] theorem W_mItems {Q : Src → En → Prop} : W (mItems m) env Q E ↔ W m env (fun v e => W (leak v) e (fun d e => opt (seqI d) fun xs => Q (.fix xs) e) E) E := wp_mItems
@[simp ↓] theorem W_mZip {Q : Src → En → Prop} : W (mZip ms) env Q E ↔ W ms env (fun vs e => W (leakAll vs) e (fun ds e => opt (zipS ds) fun s => Q s e) E) E := wp_mZip
@[simp ↓] theorem W_mRange1 {Q : Src → En → Prop} : W (mRange1 ms) env Q E ↔ W ms env (fun vs e => W (getAll vs) e (fun ds e => match ds with
  | [.int j] => (-(2 ^ 62) ≤ j ∧ j < 2 ^ 62) ∧ Q (.fix ((List.range j.toNat).map fun i => .int (0 + (i : Nat)))) e
  | _ => False) E) E := wp_mRange1
end
section
variable {env : En} {E : Er → En → Prop} {elt : M Vl} {t : M Bool} {g : PyData → M Unit} {vs : List Nat} {items : List PyData}
@[simp ↓] theorem W_clr {Q : Unit → En → Prop} : W (clr vs) env Q E ↔ noOwn vs env = true ∧ Q () (wipeE env vs) := wp_clr
@[simp ↓] theorem W_mYes {Q : Bool → En → Prop} : W mYes env Q E ↔ Q true env := wp_mYes
@[simp ↓] theorem W_lcTurn {d : PyData} {acc : List PyData} {Q : List PyData → En → Prop} : W (lcTurn vs g t elt d acc) env Q E ↔ W (g d) env (fun _ e => W t e (fun k e => if k = true then W elt e (fun v e => W (leak v) e (fun x e => acc.length < sizeLine ∧ W (clr vs) e (fun _ e => Q (acc ++ [x]) e) E) E) (fun _ _ => False) else W (clr vs) e (fun _ e => Q acc e) E) (fun _ _ => False)) (fun _ _ => False) := wp_lcTurn
@[simp ↓] theorem W_mLc {mi : M Src} {Q : List PyData → En → Prop} : W (mLc vs mi g t elt) env Q E ↔ W mi env (fun s e => W (lcRun vs g t elt s) e Q E) E := wp_mLc
end
section
variable {env : En} {E : Er → En → Prop} {elt : M Vl} {t : M Bool} {g : PyData → M Unit} {vs : List Nat} {items : List PyData}
@[simp ↓] theorem W_dcTurn {d : PyData} {acc : List Key} {Q : List Key → En → Prop} : W (dcTurn vs g t elt d acc) env Q E ↔ W (g d) env (fun _ e => W t e (fun k e => if k = true then W elt e (fun v e => W (leak v) e (fun x e => opt (keyD x) fun kk => acc.length < sizeLine ∧ W (clr vs) e (fun _ e => Q (addK acc kk) e) E) E) (fun _ _ => False) else W (clr vs) e (fun _ e => Q acc e) E) (fun _ _ => False)) (fun _ _ => False) := wp_dcTurn
@[simp ↓] theorem W_mLenDc {mi : M Src} {Q : Vl → En → Prop} : W (mLenDc vs mi g t elt) env Q E ↔ W mi env (fun s e => W (dcRun vs g t elt s) e (fun ks e => Q (.d (.int ks.length)) e) E) E := wp_mLenDc
end
section
variable {env : En} {E : Er → En → Prop} {elt : M Vl} {t : M Bool} {g : PyData → M Unit} {vs : List Nat} {items : List PyData}
@[simp ↓] theorem W_mSaid {said : Str → Option PyData} {m : M Vl} {Q : Vl → En → Prop} : W (mSaid said m) env Q E ↔ W m env (fun _ e => Q (.d (.str "let")) e) (fun x e => x.arg = none ∧ opt (said x.cls) fun z => Q (.d z) e) := wp_mSaid
@[simp ↓] theorem W_mLstRg {m : M Vl} {Q : List PyData → En → Prop} : W (mLstRg m) env Q E ↔ W m env (fun v e => match v with
  | .d (.int j) => (0 ≤ j ∧ j ≤ 16777216) ∧ Q ((List.range j.toNat).map fun i => .int (0 + (i : Nat))) e
  | _ => False) E := wp_mLstRg
end
end DL
end

/- DW2 -/
section
set_option maxHeartbeats 4000000
namespace DL
open PySem PySem.Spec PyProof.Rows L2

/-! ### steps, promises, loops -/
section
variable {α β : Type} {env : En} {E : Er → En → Prop}
theorem W_mono {Q Q' : β → En → Prop} {E' : Er → En → Prop} {m : M β} (h : W m env Q E) (q : ∀ v e, Q v e → Q' v e) (r : ∀ v e, E v e → E' v e) : W m env Q' E' := wp_mono h q r
theorem W_imp {Q Q' : β → En → Prop} {m : M β} (h : W m env Q fun _ _ => False) (q : ∀ v e, Q v e → Q' v e) : W m env Q' E := wp_mono h q fun _ _ z => z.elim
theorem W_ok {Q : β → En → Prop} {m : M β} (h : W m env Q (fun _ _ => False)) : ∃ v env', m env = .ok v env' ∧ Q v env' := wp_ok h
theorem W_of {Q : β → En → Prop} {m : M β} {v : β} {env' : En} (h : m env = .ok v env') (q : Q v env') : W m env Q E := wp_of h q
/-- one statement, what follows kept out of sight -/
theorem W_step {st st' : M Fl} {Q : Fl → En → Prop} (h : ∀ K : Fl → En → Prop, (∀ e, W st' e Q E → K .next e) → (∀ v e, Q (.ret v) e → K (.ret v) e) → (∀ e, Q .brk e → K .brk e) → (∀ e, Q .cont e → K .cont e) → W st env K E) : W (sSeq st st') env Q E := by
  rw [W_sSeq]
  exact h (fun fl e => match fl with
    | .next => W st' e Q E
    | fl => Q fl e) (fun _ z => z) (fun _ _ z => z) (fun _ z => z) (fun _ z => z)
/-- one statement that ends in a known way -/
theorem W_cut {st st' : M Fl} {Q : Fl → En → Prop} (P : En → Prop) (h : W st env (fun fl e => fl = .next ∧ P e) E) (h' : ∀ e, P e → W st' e Q E) : W (sSeq st st') env Q E := by
  rw [W_sSeq]
  exact W_mono h (fun fl e ⟨a, b⟩ => by subst a; exact h' e b) fun _ _ z => z
/-! what a slot may be -/
def free : Option (Option EV) → Prop
  | some (some (.own true _)) => False
  | _ => True
@[simp] theorem free_none : free (some none) := trivial
@[simp] theorem free_no : free none := trivial
@[simp] theorem free_d {x : PyData} : free (some (some (.d x))) := trivial
@[simp] theorem free_x {x : V} : free (some (some (.x x))) := trivial
@[simp] theorem free_own {x : List PyData} : free (some (some (.own false x))) := trivial
@[simp] theorem free_lent {x : List PyData} : free (some (some (.own true x))) ↔ False := Iff.rfl
@[simp] theorem free_map {x : Option PyData} : free (some (x.map .d)) := by cases x <;> trivial
@[simp] theorem free_mapO {x : Option (List PyData)} : free (some (x.map (.own false))) := by cases x <;> trivial
@[simp ↓ high] theorem W_stoF {i : Nat} {ev : EV} {Q : Unit → En → Prop} : W (sto i ev) env Q E ↔ free env[i]? ∧ Q () (env.set i (some ev)) := by
  rw [W_sto]
  cases env[i]? with
  | none => simp [free]
  | some o => cases o with
    | none => simp [free]
    | some e => cases e with
      | own b ds => cases b <;> simp [free]
      | _ => simp [free]
def nown : Option (Option EV) → Bool
  | some (some (.own _ _)) => false
  | _ => true
@[simp] theorem nown_none : nown (some none) = true := rfl
@[simp] theorem nown_no : nown none = true := rfl
@[simp] theorem nown_d {x : PyData} : nown (some (some (.d x))) = true := rfl
@[simp] theorem nown_own {b : Bool} {x : List PyData} : nown (some (some (.own b x))) = false := rfl
@[simp] theorem nown_map {x : Option PyData} : nown (some (x.map .d)) = true := by cases x <;> rfl
@[simp] theorem noOwn_nil {env : En} : noOwn [] env = true := rfl
@[simp] theorem noOwn_cons {v : Nat} {vs : List Nat} {env : En} : noOwn (v :: vs) env = (nown env[v]? && noOwn vs env) := by
  unfold noOwn
  rw [List.all_cons]
  congr 1
@[simp] theorem wipeE_nil {env : En} : wipeE env [] = env := rfl
@[simp] theorem wipeE_cons {v : Nat} {vs : List Nat} {env : En} : wipeE env (v :: vs) = (wipeE env vs).set v none := rfl
@[simp] theorem startE_eq {n : Nat} {evs : List EV} : startE n evs = evs.map some ++ List.replicate (n - evs.length) none := rfl
/-! promises as equations -/
theorem fin_ans {np n : Nat} {f : M Fl} {evs : List EV} {r : RVl} (h : W f (startE n evs) (fun fl _ => fl = .ret r) (fun _ _ => False)) (hn : evs.length = np) : fin np f n evs none = M.pure r := by
  obtain ⟨v, e', h1, rfl⟩ := W_ok h
  funext env
  unfold fin
  rw [if_pos hn, h1]
  rfl
theorem fin_don {np n : Nat} {f : M Fl} {evs : List EV} (h : W f (startE n evs) (fun fl _ => fl = .next) (fun _ _ => False)) (hn : evs.length = np) : fin np f n evs none = M.pure (.d .none) := by
  obtain ⟨v, e', h1, rfl⟩ := W_ok h
  funext env
  unfold fin
  rw [if_pos hn, h1]
  rfl
def M.err {α : Type} (x : Er) : M α := fun env => .err x env
theorem fin_err {np n : Nat} {f : M Fl} {evs : List EV} {x : Er} (h : W f (startE n evs) (fun _ _ => False) (fun e _ => e = x)) (hn : evs.length = np) : fin np f n evs none = M.err x := by
  funext env
  unfold W wp at h
  unfold fin
  rw [if_pos hn]
  cases e : f (startE n evs) with
  | ok v e' => rw [e] at h; exact h.elim
  | err y e' => rw [e] at h; subst h; rfl
  | stuck => rw [e] at h; exact h.elim
@[simp ↓] theorem W_err {x : Er} {Q : α → En → Prop} : W (M.err x : M α) env Q E ↔ E x env := Iff.rfl
/-- a check: it passes, or it raises -/
def M.chk (c : Bool) (x : Str) : M RVl := if c then M.pure (.d .none) else M.err ⟨x, none⟩
@[simp ↓] theorem W_chk {c : Bool} {x : Str} {Q : RVl → En → Prop} : W (M.chk c x) env Q E ↔ if c = true then Q (.d .none) env else E ⟨x, none⟩ env := by
  unfold M.chk
  cases c <;> simp
theorem fin_chk {np n : Nat} {f : M Fl} {evs : List EV} {c : Bool} {x : Str} (h : W f (startE n evs) (fun fl _ => fl = .next ∧ c = true) (fun e _ => e = ⟨x, none⟩ ∧ c = false)) (hn : evs.length = np) : fin np f n evs none = M.chk c x := by
  unfold M.chk
  cases c with
  | true => exact fin_don (W_mono h (fun _ _ z => z.1) fun _ _ z => by cases z.2) hn
  | false => exact fin_err (W_mono h (fun _ _ z => by cases z.2) fun _ _ z => z.1) hn
theorem fin_of_ans {np n : Nat} {f : M Fl} {evs : List EV} {r : PyData} (h : Ans f n evs r) (hn : evs.length = np) : fin np f n evs none = M.pure (.d r) := by
  obtain ⟨e', h1⟩ := h
  funext env
  unfold fin
  rw [if_pos hn, h1]
  rfl
/-! loops -/
theorem W_for {g : PyData → M Unit} {st : M Fl} {ds : List PyData} {Q : Fl → En → Prop} (I : Nat → En → Prop) (h0 : I 0 env) (hs : ∀ i d e, ds[i]? = some d → I i e → W (g d) e (fun _ e => W st e (fun fl e => match fl with
  | .next => I (i + 1) e
  | .cont => I (i + 1) e
  | .brk => Q .next e
  | .ret v => Q (.ret v) e) E) (fun _ _ => False)) (hd : ∀ e, I ds.length e → Q .next e) : W (forL g st ds) env Q E := wp_for I h0 hs hd
/-- a loop over things laid as data; I speaks of those that are done -/
theorem W_forM {γ : Type} {g : PyData → M Unit} {st : M Fl} {xs : List γ} {enc : γ → PyData} {Q : Fl → En → Prop} (I : List γ → En → Prop) (h0 : I [] env) (hs : ∀ pre x post e, xs = pre ++ x :: post → I pre e → W (g (enc x)) e (fun _ e => W st e (fun fl e => match fl with
  | .next => I (pre ++ [x]) e
  | .cont => I (pre ++ [x]) e
  | .brk => Q .next e
  | .ret v => Q (.ret v) e) E) (fun _ _ => False)) (hd : ∀ e, I xs e → Q .next e) : W (forL g st (xs.map enc)) env Q E := by
  refine W_for (fun i e => I (xs.take i) e) (by simpa using h0) (fun i d e hd hI => ?_) (fun e hI => hd e (by simpa using hI))
  rw [List.getElem?_map] at hd
  cases q : xs[i]? with
  | none => rw [q] at hd; cases hd
  | some x =>
    rw [q] at hd
    cases hd
    have hi := (List.getElem?_eq_some_iff.mp q).1
    have e1 : xs = xs.take i ++ x :: xs.drop (i + 1) := by
      have h3 := (List.getElem?_eq_some_iff.mp q).2
      rw [← h3, ← List.drop_eq_getElem_cons hi, List.take_append_drop]
    have e2 : xs.take (i + 1) = xs.take i ++ [x] := by rw [List.take_add_one, q]; rfl
    have := hs _ x _ e e1 hI
    rw [← e2] at this
    exact this
theorem W_lc_fm {γ : Type} {vs : List Nat} {g : PyData → M Unit} {t : M Bool} {elt : M Vl} {xs : List γ} {enc : γ → PyData} {Q : List PyData → En → Prop} (p : γ → Bool) (f : γ → PyData) (hv : noOwn vs env = true) (hl : xs.length ≤ sizeLine)
    (hs : ∀ x ∈ xs, W (g (enc x)) (wipeE env vs) (fun _ e => W t e (fun k e => k = p x ∧ ((p x = true → W elt e (fun v e => W (leak v) e (fun d e => d = f x ∧ noOwn vs e = true ∧ wipeE e vs = wipeE env vs) fun _ _ => False) fun _ _ => False) ∧ (p x = false → noOwn vs e = true ∧ wipeE e vs = wipeE env vs))) fun _ _ => False) fun _ _ => False)
    (q : Q ((xs.filter p).map f) env) : W (lcRun vs g t elt (.fix (xs.map enc))) env Q E := by
  show wp _ _ _ _
  refine wp_lc (fun i acc e => i ≤ xs.length ∧ acc = ((xs.take i).filter p).map f ∧ e = wipeE env vs) hv ⟨Nat.zero_le _, by simp, rfl⟩ (fun i d acc e hd hI => ?_) (fun acc e hI => ?_)
  · obtain ⟨h1, rfl, rfl⟩ := hI
    rw [List.getElem?_map] at hd
    cases q : xs[i]? with
    | none => rw [q] at hd; cases hd
    | some x =>
      rw [q] at hd
      cases hd
      have hi := (List.getElem?_eq_some_iff.mp q).1
      have hx := List.mem_of_getElem? q
      have e2 : xs.take (i + 1) = xs.take i ++ [x] := by rw [List.take_add_one, q]; rfl
      have hlen : (((xs.take i).filter p).map f).length < sizeLine := by
        rw [List.length_map]
        have := List.length_filter_le p (xs.take i)
        rw [List.length_take] at this
        omega
      rw [wp_lcTurn]
      refine wp_mono (hs x hx) (fun _ e h => ?_) fun _ _ z => z
      refine wp_mono h (fun k e h => ?_) fun _ _ z => z
      obtain ⟨rfl, ht, hf⟩ := h
      cases hp : p x with
      | true =>
        rw [if_pos rfl]
        refine wp_mono (ht hp) (fun v e h => ?_) fun _ _ z => z
        refine wp_mono h (fun d e h => ?_) fun _ _ z => z
        obtain ⟨rfl, h3, h4⟩ := h
        refine ⟨hlen, wp_clr.mpr ⟨h3, hi, ?_, h4⟩⟩
        rw [e2, List.filter_append, List.map_append]
        simp [hp]
      | false =>
        rw [if_neg (by simp)]
        obtain ⟨h3, h4⟩ := hf hp
        refine wp_clr.mpr ⟨h3, hi, ?_, h4⟩
        rw [e2, List.filter_append, List.map_append]
        simp [hp]
  · obtain ⟨_, rfl, rfl⟩ := hI
    rw [List.length_map, List.take_length, rest_wipe]
    exact q
theorem W_lc_map {γ : Type} {vs : List Nat} {g : PyData → M Unit} {elt : M Vl} {xs : List γ} {enc : γ → PyData} {Q : List PyData → En → Prop} (f : γ → PyData) (hv : noOwn vs env = true) (hl : xs.length ≤ sizeLine)
    (hs : ∀ x ∈ xs, W (g (enc x)) (wipeE env vs) (fun _ e => W elt e (fun v e => W (leak v) e (fun d e => d = f x ∧ noOwn vs e = true ∧ wipeE e vs = wipeE env vs) fun _ _ => False) fun _ _ => False) fun _ _ => False)
    (q : Q (xs.map f) env) : W (lcRun vs g mYes elt (.fix (xs.map enc))) env Q E := by
  refine W_lc_fm (fun _ => true) f hv hl (fun x hx => W_mono (hs x hx) (fun _ e h => ⟨rfl, fun _ => h, fun z => by cases z⟩) fun _ _ z => z) ?_
  rw [List.filter_eq_self.mpr fun _ _ => rfl]
  exact q
/-- a comprehension that changes what it leaves, by an invariant -/
theorem W_lc {vs : List Nat} {g : PyData → M Unit} {t : M Bool} {elt : M Vl} {items : List PyData} {Q : List PyData → En → Prop} (I : Nat → List PyData → En → Prop) (hv : noOwn vs env = true) (h0 : I 0 [] (wipeE env vs)) (hs : ∀ i d acc e, items[i]? = some d → I i acc e → W (lcTurn vs g t elt d acc) e (fun acc' e' => I (i + 1) acc' e') (fun _ _ => False))
    (hd : ∀ acc e, I items.length acc e → Q acc (restE env e vs)) : W (lcRun vs g t elt (.fix items)) env Q E := wp_lc I hv h0 hs hd
theorem W_dc_map {γ : Type} {vs : List Nat} {g : PyData → M Unit} {elt : M Vl} {xs : List γ} {enc : γ → PyData} {Q : List Key → En → Prop} (f : γ → Key) (hv : noOwn vs env = true) (hl : xs.length ≤ sizeLine)
    (hs : ∀ x ∈ xs, W (g (enc x)) (wipeE env vs) (fun _ e => W elt e (fun v e => W (leak v) e (fun d e => keyD d = some (f x) ∧ noOwn vs e = true ∧ wipeE e vs = wipeE env vs) fun _ _ => False) fun _ _ => False) fun _ _ => False)
    (q : Q (xs.foldl (fun a x => addK a (f x)) []) env) : W (dcRun vs g mYes elt (.fix (xs.map enc))) env Q E := by
  have key : ∀ d ∈ xs.map enc, ∃ k : Key, ∀ acc : List Key, acc.length < sizeLine → wp (dcTurn vs g mYes elt d acc) (wipeE env vs) (fun acc' e' => acc' = addK acc k ∧ e' = wipeE env vs) (fun _ _ => False) := by
    intro d hd
    obtain ⟨x, hx, rfl⟩ := List.mem_map.mp hd
    refine ⟨f x, fun acc ha => ?_⟩
    rw [wp_dcTurn]
    refine wp_mono (hs x hx) (fun _ e h => ?_) fun _ _ z => z
    rw [wp_mYes, if_pos rfl]
    refine wp_mono h (fun v e h => ?_) fun _ _ z => z
    refine wp_mono h (fun d e h => ?_) fun _ _ z => z
    obtain ⟨h1, h3, h4⟩ := h
    rw [h1]
    exact ⟨ha, wp_clr.mpr ⟨h3, rfl, h4⟩⟩
  have key2 : ∀ (n i : Nat) (acc : List Key), i + n = (xs.map enc).length → acc.length ≤ i → dcN (.fix (xs.map enc)) vs g mYes elt (n + 1) i acc (wipeE env vs) = .ok ((xs.drop i).foldl (fun a x => addK a (f x)) acc) (wipeE env vs) := by
    intro n
    induction n with
    | zero =>
      intro i acc hi ha
      have e0 : (xs.map enc)[i]? = none := List.getElem?_eq_none (by omega)
      show M.bind (srcAt (.fix (xs.map enc)) i) _ _ = _
      rw [M.bind_ok (show srcAt (.fix (xs.map enc)) i (wipeE env vs) = .ok (xs.map enc)[i]? (wipeE env vs) from rfl), e0, List.drop_eq_nil_of_le (by rw [List.length_map] at hi; omega)]
      rfl
    | succ n ih =>
      intro i acc hi ha
      have hlt : i < (xs.map enc).length := by omega
      have hlt' : i < xs.length := by rw [List.length_map] at hlt; exact hlt
      have e0 : (xs.map enc)[i]? = some (enc xs[i]) := by rw [List.getElem?_map, List.getElem?_eq_getElem hlt']; rfl
      have hx := hs xs[i] (List.getElem_mem hlt')
      have hacc : acc.length < sizeLine := by omega
      have ht : wp (dcTurn vs g mYes elt (enc xs[i]) acc) (wipeE env vs) (fun acc' e' => acc' = addK acc (f xs[i]) ∧ e' = wipeE env vs) (fun _ _ => False) := by
        rw [wp_dcTurn]
        refine wp_mono hx (fun _ e h => ?_) fun _ _ z => z
        rw [wp_mYes, if_pos rfl]
        refine wp_mono h (fun v e h => ?_) fun _ _ z => z
        refine wp_mono h (fun d e h => ?_) fun _ _ z => z
        obtain ⟨h1, h3, h4⟩ := h
        rw [h1]
        exact ⟨hacc, wp_clr.mpr ⟨h3, rfl, h4⟩⟩
      obtain ⟨acc', e', h1, rfl, rfl⟩ := wp_ok ht
      show M.bind (srcAt (.fix (xs.map enc)) i) _ _ = _
      rw [M.bind_ok (show srcAt (.fix (xs.map enc)) i (wipeE env vs) = .ok (xs.map enc)[i]? (wipeE env vs) from rfl), e0]
      show M.bind (dcTurn vs g mYes elt (enc xs[i]) acc) _ _ = _
      rw [M.bind_ok h1, List.drop_eq_getElem_cons hlt', List.foldl_cons]
      have := addK_len acc (f xs[i])
      exact ih (i + 1) _ (by omega) (by omega)
  have hc : clr vs env = .ok () (wipeE env vs) := by unfold clr; rw [if_pos hv]
  have : dcRun vs g mYes elt (.fix (xs.map enc)) env = .ok (xs.foldl (fun a x => addK a (f x)) []) env := by
    unfold dcRun
    rw [show srcLen (.fix (xs.map enc)) env = .ok (xs.map enc).length env from rfl]
    dsimp only
    rw [M.bind_ok hc, key2 (xs.map enc).length 0 [] (by omega) (Nat.zero_le _)]
    simp only [List.drop_zero, rest_wipe]
  exact wp_of this q
theorem W_while {c : M Bool} {b : M Fl} {Q : Fl → En → Prop} (I : Nat → En → Prop) (hs : ∀ k e, I k e → W c e (fun r e => if r = true then W b e (fun fl e => match fl with
  | .next => ∃ j, j < k ∧ I j e
  | .cont => ∃ j, j < k ∧ I j e
  | .brk => Q .next e
  | .ret v => Q (.ret v) e) E else Q .next e) E) (n k : Nat) (env : En) (h : k < n) (h0 : I k env) : W (whileN c b n) env Q E := wp_while I hs n k env h h0
end
/-! ### equality -/
theorem gEq_self {d : PyData} (h : SeqAt.shaped d = true) : gEq d d = some (.bool true) := by
  have h1 : d.canLay0 = true := by
    unfold SeqAt.shaped at h
    rw [Bool.and_eq_true] at h
    exact h.1
  unfold gEq
  rw [h, PySem.SeqAt.eqv_refl d h1]
  rfl
theorem gNe_self {d : PyData} (h : SeqAt.shaped d = true) : gNe d d = some (.bool false) := by
  have h1 : d.canLay0 = true := by
    unfold SeqAt.shaped at h
    rw [Bool.and_eq_true] at h
    exact h.1
  unfold gNe
  rw [h, PySem.SeqAt.eqv_refl d h1]
  rfl
end DL
end

/- DW3 -/
section
set_option maxHeartbeats 4000000
namespace DL
open PySem PySem.Spec PyProof.Rows L2

/-! ### data that can be compared -/
def Lay (n : Nat) (d : PyData) : Prop := d.canLay0 = true ∧ d.depth ≤ n
theorem Lay.mono {n m : Nat} {d : PyData} (h : Lay n d) (hm : n ≤ m) : Lay m d := ⟨h.1, Nat.le_trans h.2 hm⟩
@[simp] theorem lay_int {n : Nat} {i : Int} : Lay n (.int i) := ⟨by simp [PyData.canLay0], by simp [PyData.depth]⟩
@[simp] theorem lay_bool {n : Nat} {i : Bool} : Lay n (.bool i) := ⟨by simp [PyData.canLay0], by simp [PyData.depth]⟩
@[simp] theorem lay_str {n : Nat} {i : Str} : Lay n (.str i) ↔ PyData.strOk i = true := ⟨fun h => by have := h.1; simpa [PyData.canLay0] using this, fun h => ⟨by simpa [PyData.canLay0] using h, by simp [PyData.depth]⟩⟩
@[simp] theorem lay_none {n : Nat} : Lay n .none := ⟨by simp [PyData.canLay0], by simp [PyData.depth]⟩
theorem lay_alls {n : Nat} : ∀ {xs : List PyData}, (∀ x ∈ xs, Lay n x) → PyData.canLayAll0 xs = true ∧ PyData.depthAll xs ≤ n
  | [], _ => ⟨rfl, Nat.zero_le _⟩
  | x :: xs, h => by
    obtain ⟨a, b⟩ := lay_alls (xs := xs) fun y hy => h y (List.mem_cons_of_mem _ hy)
    obtain ⟨c, d⟩ := h x List.mem_cons_self
    refine ⟨by simp [PyData.canLayAll0, a, c], ?_⟩
    rw [PyData.depthAll]
    exact Nat.max_le.mpr ⟨d, b⟩
theorem lay_tuple {n : Nat} {xs : List PyData} (h : ∀ x ∈ xs, Lay n x) : Lay (n + 1) (.tuple xs) := by
  obtain ⟨a, b⟩ := lay_alls h
  refine ⟨by simp [PyData.canLay0, a], ?_⟩
  rw [PyData.depth]
  omega
theorem lay_list {n : Nat} {xs : List PyData} (h : ∀ x ∈ xs, Lay n x) : Lay (n + 1) (.list xs) := by
  obtain ⟨a, b⟩ := lay_alls h
  refine ⟨by simp [PyData.canLay0, a], ?_⟩
  rw [PyData.depth]
  omega
@[simp] theorem lay_tuple_iff {n : Nat} {xs : List PyData} : Lay (n + 1) (.tuple xs) ↔ ∀ x ∈ xs, Lay n x := by
  refine ⟨fun h => ?_, lay_tuple⟩
  obtain ⟨a, b⟩ := h
  have a' : PyData.canLayAll0 xs = true := by simpa [PyData.canLay0] using a
  have b' : PyData.depthAll xs ≤ n := by
    rw [PyData.depth] at b
    omega
  clear a b
  induction xs with
  | nil => simp
  | cons x xs ih =>
    have h1 : x.canLay0 = true ∧ PyData.canLayAll0 xs = true := by simpa [PyData.canLayAll0] using a'
    rw [PyData.depthAll] at b'
    have h2 := Nat.max_le.mp b'
    intro y hy
    rcases List.mem_cons.mp hy with rfl | hy
    · exact ⟨h1.1, h2.1⟩
    · exact ih h1.2 h2.2 y hy
@[simp] theorem lay_list_iff {n : Nat} {xs : List PyData} : Lay (n + 1) (.list xs) ↔ ∀ x ∈ xs, Lay n x := by
  have : Lay (n + 1) (.list xs) ↔ Lay (n + 1) (.tuple xs) := by
    unfold Lay
    rw [PyData.depth, PyData.depth]
    simp [PyData.canLay0]
  rw [this, lay_tuple_iff]
theorem Lay.shaped {n : Nat} {d : PyData} (h : Lay n d) (hn : n ≤ 64) : SeqAt.shaped d = true := by
  obtain ⟨a, b⟩ := h
  unfold SeqAt.shaped
  rw [a, decide_eq_true (Nat.le_trans b hn)]
  rfl
theorem gEq_lay {x y : PyData} (hx : Lay 60 x) (hy : Lay 60 y) : gEq x y = some (.bool (PyData.eqv x y)) := by
  unfold gEq
  rw [hx.shaped (by decide), hy.shaped (by decide)]
  rfl
theorem gNe_lay {x y : PyData} (hx : Lay 60 x) (hy : Lay 60 y) : gNe x y = some (.bool (!PyData.eqv x y)) := by
  unfold gNe
  rw [hx.shaped (by decide), hy.shaped (by decide)]
  rfl
theorem gEq_selfL {x : PyData} (hx : Lay 60 x) : gEq x x = some (.bool true) := gEq_self (hx.shaped (by decide))
theorem gNe_selfL {x : PyData} (hx : Lay 60 x) : gNe x x = some (.bool false) := gNe_self (hx.shaped (by decide))
/-! ### draws -/
/-- the hand's shape -/
def HI (ds : List PyData) : Prop := ∃ (cs : List Int) (at_ r sd ct : Int), ds = [.list (cs.map .int), .int at_, .int r, .int sd, .int ct] ∧ 0 ≤ at_ ∧ 0 ≤ r ∧ ∀ c ∈ cs, 0 ≤ c
theorem atI_nat {α : Type} {l : List α} {i : Int} (h1 : 0 ≤ i) (h2 : i < l.length) : atI l i = l[i.toNat]? := by
  unfold atI ixN
  rw [if_pos h1, if_pos h2]
  rfl
theorem HI.mk {cs : List Int} {at_ r sd ct : Int} (h1 : 0 ≤ at_) (h2 : 0 ≤ r) (h3 : ∀ c ∈ cs, 0 ≤ c) : HI [.list (cs.map .int), .int at_, .int r, .int sd, .int ct] := ⟨cs, at_, r, sd, ct, rfl, h1, h2, h3⟩
def drawM (c1 c2 c3 : Int) : M Fl := (sSeq (sIf (mAnd (mTB (mBin gEq (mBin gIx (mVar 0) (mC (.int 2))) (mC (.int 0)))) (mTB (mBin gLt (mBin gIx (mVar 0) (mC (.int 1))) (mCall gLen (mCons (mBin gIx (mVar 0) (mC (.int 0))) mNil))))) (sSeq (sSet 2 (mBin gIx (mBin gIx (mVar 0) (mC (.int 0))) (mBin gIx (mVar 0) (mC (.int 1))))) (sSeq (sSetS 0 (mBin gAddA (mBin gIx (mVar 0) (mC (.int 1))) (mC (.int 1))) (mC (.int 1))) (sSeq (sSetS 0 (mBin gMod (mCall gInt (mCons (mBin gAddA (mBin gAddA (mBin gMulA (mBin gIx (mVar 0) (mC (.int 3))) (mC (.int 69621))) (mBin gMulA (mVar 2) (mC (.int c1)))) (mC (.int c2))) mNil)) (mC (.int 2147483629))) (mC (.int 3))) (sIf (mTB (mBin gGe (mVar 2) (mBin gPow (mC (.int 10)) (mC (.int 18))))) (sSetS 0 (mVar 2) (mC (.int 2))) sNext)))) sNext) (sSeq (sIf (mTB (mBin gGt (mBin gIx (mVar 0) (mC (.int 2))) (mC (.int 0)))) (sSeq (sSet 3 (mBin gMod (mCall gInt (mCons (mBin gIx (mVar 0) (mC (.int 2))) mNil)) (mVar 1))) (sSeq (sSetS 0 (mBin DL.gDiv (mBin gIx (mVar 0) (mC (.int 2))) (mVar 1)) (mC (.int 2))) (sRet (mVar 3)))) sNext) (sSeq (sSetS 0 (mBin gAddA (mBin gIx (mVar 0) (mC (.int 4))) (mC (.int 1))) (mC (.int 4))) (sSeq (sSet 4 (mBin gMod (mCall gInt (mCons (mBin gMulA (mCall gInt (mCons (mBin gAddA (mBin gIx (mVar 0) (mC (.int 3))) (mBin gMulA (mC (.int 7919)) (mBin gIx (mVar 0) (mC (.int 4))))) mNil)) (mC (.int c3))) mNil)) (mC (.int 2147483647)))) (sSeq (sSet 4 (mBin gMod (mCall gInt (mCons (mBin gMulA (mVar 4) (mBin gAddA (mBin DL.gDiv (mVar 4) (mC (.int 1009))) (mC (.int 69621)))) mNil)) (mC (.int 2147483647)))) (sSeq (sSet 4 (mBin gMod (mCall gInt (mCons (mBin gMulA (mVar 4) (mBin gAddA (mBin DL.gDiv (mVar 4) (mC (.int 2003))) (mC (.int 40014)))) mNil)) (mC (.int 2147483563)))) (sRet (mBin gMod (mCall gInt (mCons (mBin DL.gDiv (mVar 4) (mC (.int 16))) mNil)) (mVar 1)))))))))
def anyM (c1 c2 c3 : Int) : M Fl := (sRet (mBin gIx (mVar 1) (asD (callR1 2 (drawM c1 c2 c3) 5 0 (mCons (mVar 0) (mCons (mCall gLen (mCons (mVar 1) mNil)) mNil))))))
theorem s_draw {ds : List PyData} {many c1 c2 c3 : Int} (k1 : DL.small64 c1 = true) (k3 : DL.small64 c3 = true) (hi : HI ds) (h1 : 0 < many) (h2 : many < 1073741824) : wp (drawM c1 c2 c3) (startE 5 [.own true ds, .d (.int many)]) (fun fl e => ∃ r ds', fl = .ret (.d (.int r)) ∧ e[0]? = some (some (.own true ds')) ∧ HI ds' ∧ 0 ≤ r ∧ r < many) (fun _ _ => False) := by
  unfold drawM startE
  rw [wp_sSeq]
  refine wp_mono (Q := fun fl e => fl = .next ∧ ∃ (ds' : List PyData) (x : Option PyData), HI ds' ∧ e = [some (.own true ds'), some (.d (.int many)), x.map .d, none, none]) ?_ ?_ (fun _ _ z => z)
  · obtain ⟨cs, at_, r, sd, ct, rfl, a1, a2, a3⟩ := hi
    simp [gIx, atI, ixN, gEq, SeqAt.shaped, PyData.canLay0, PyData.depth, PyData.eqv, gLt, gLen]
    by_cases hr : r = 0
    · simp [hr]
      by_cases hlt : at_ < (cs.length : Int)
      · have hn : at_.toNat < cs.length := by omega
        have hc := a3 _ (List.getElem_mem hn)
        simp [hlt, a1, hn, gAddA, gOr, gAdd, gMulA, gMul, k1, show DL.small64 69621 = true from rfl, gInt, gMod, fSet, ixN, gPow, gGe, isLst]
        by_cases hb : (1000000000000000000 : Int) ≤ cs[at_.toNat]
        · simp [hb, fSet, ixN]
          exact ⟨_, HI.mk (by omega) hc a3, rfl, some (.int cs[at_.toNat]), rfl⟩
        · simp [hb]
          exact ⟨_, HI.mk (by omega) (by omega) a3, rfl, some (.int cs[at_.toNat]), rfl⟩
      · simp [hlt]
        exact ⟨_, HI.mk a1 (by omega) a3, rfl, none, rfl⟩
    · simp [hr]
      exact ⟨_, HI.mk a1 a2 a3, rfl, none, rfl⟩
  · rintro fl e ⟨rfl, ds', x, hi, rfl⟩
    obtain ⟨cs, at_, r, sd, ct, rfl, a1, a2, a3⟩ := hi
    have sm : ∀ i : Int, 0 ≤ i → i < 2147483647 → DL.small64 i = true := fun i p q => by
      unfold DL.small64
      simp only [Bool.and_eq_true, decide_eq_true_eq]
      constructor <;> omega
    have m1 : ∀ k : Int, 0 ≤ k % 2147483647 := fun k => Int.emod_nonneg k (by omega)
    have m2 : ∀ k : Int, k % 2147483647 < 2147483647 := fun k => Int.emod_lt_of_pos k (by omega)
    rw [wp_sSeq]
    refine wp_mono (Q := fun fl e => (fl = .next ∧ e = [some (.own true [.list (cs.map .int), .int at_, .int r, .int sd, .int ct]), some (.d (.int many)), x.map .d, none, none]) ∨ ∃ r ds', fl = .ret (.d (.int r)) ∧ e[0]? = some (some (.own true ds')) ∧ HI ds' ∧ 0 ≤ r ∧ r < many) ?_ ?_ (fun _ _ z => z)
    · by_cases hr : 0 < r
      · rcases x with _ | x <;> (
          simp [gIx, atI, ixN, gGt, gInt, gMod, DL.gDiv, fSet, h1, h2, hr]
          exact ⟨HI.mk a1 (Int.ediv_nonneg a2 (by omega)) a3, Int.emod_nonneg _ (by omega), Int.emod_lt_of_pos _ h1⟩)
      · rcases x with _ | x <;> simp [gIx, atI, ixN, gGt, hr]
    · rintro fl e (⟨rfl, rfl⟩ | ⟨r', ds', rfl, hh⟩)
      · dsimp only
        rw [wp_sSeq]
        refine wp_mono (Q := fun fl e => fl = .next ∧ e = [some (.own true [.list (cs.map .int), .int at_, .int r, .int sd, .int (ct + 1)]), some (.d (.int many)), x.map .d, none, none]) ?_ ?_ (fun _ _ z => z)
        · rcases x with _ | x <;> simp [gIx, atI, ixN, gAddA, gOr, gAdd, fSet]
        · rintro fl e ⟨rfl, rfl⟩
          dsimp only
          rw [wp_sSeq]
          refine wp_mono (Q := fun fl e => fl = .next ∧ ∃ n : Int, 0 ≤ n ∧ n < 2147483647 ∧ e = [some (.own true [.list (cs.map .int), .int at_, .int r, .int sd, .int (ct + 1)]), some (.d (.int many)), x.map .d, none, some (.d (.int n))]) ?_ ?_ (fun _ _ z => z)
          · rcases x with _ | x <;> (
              simp [gIx, atI, ixN, gAddA, gMulA, gOr, gAdd, gMul, gInt, gMod, sm 7919 (by omega) (by omega), k3]
              exact ⟨m1 _, m2 _⟩)
          · rintro fl e ⟨rfl, n, n1, n2, rfl⟩
            dsimp only
            rw [wp_sSeq]
            refine wp_mono (Q := fun fl e => fl = .next ∧ ∃ n : Int, 0 ≤ n ∧ n < 2147483647 ∧ e = [some (.own true [.list (cs.map .int), .int at_, .int r, .int sd, .int (ct + 1)]), some (.d (.int many)), x.map .d, none, some (.d (.int n))]) ?_ ?_ (fun _ _ z => z)
            · rcases x with _ | x <;> (
                simp [gAddA, gMulA, gOr, gAdd, gMul, gInt, gMod, DL.gDiv, sm n n1 n2]
                exact ⟨m1 _, m2 _⟩)
            · rintro fl e ⟨rfl, n, n1, n2, rfl⟩
              dsimp only
              rw [wp_sSeq]
              refine wp_mono (Q := fun fl e => fl = .next ∧ ∃ n : Int, 0 ≤ n ∧ n < 2147483647 ∧ e = [some (.own true [.list (cs.map .int), .int at_, .int r, .int sd, .int (ct + 1)]), some (.d (.int many)), x.map .d, none, some (.d (.int n))]) ?_ ?_ (fun _ _ z => z)
              · have k1 : ∀ k : Int, 0 ≤ k % 2147483563 := fun k => Int.emod_nonneg k (by omega)
                have k2 : ∀ k : Int, k % 2147483563 < 2147483647 := fun k => by
                  have := Int.emod_lt_of_pos k (show (0 : Int) < 2147483563 by omega)
                  omega
                rcases x with _ | x <;> (
                  simp [gAddA, gMulA, gOr, gAdd, gMul, gInt, gMod, DL.gDiv, sm n n1 n2]
                  exact ⟨k1 _, k2 _⟩)
              · rintro fl e ⟨rfl, n, n1, n2, rfl⟩
                dsimp only
                rcases x with _ | x <;> (
                  simp [gInt, gMod, DL.gDiv, h1]
                  exact ⟨HI.mk a1 a2 a3, Int.emod_nonneg _ (by omega), Int.emod_lt_of_pos _ h1⟩)
      · exact ⟨r', ds', rfl, hh⟩
/-! the draws as functions -/
noncomputable def drO (c1 c2 c3 : Int) (ds : List PyData) (many : Int) : Int × List PyData := match drawM c1 c2 c3 (startE 5 [.own true ds, .d (.int many)]) with
  | .ok (.ret (.d (.int r))) e => (match (e : List (Option EV))[0]? with
    | some (some (EV.own _ ds')) => (r, ds')
    | _ => (0, []))
  | _ => (0, [])
noncomputable def drR (c1 c2 c3 : Int) (ds : List PyData) (many : Int) : Int := (drO c1 c2 c3 ds many).1
noncomputable def drH (c1 c2 c3 : Int) (ds : List PyData) (many : Int) : List PyData := (drO c1 c2 c3 ds many).2
def putO (env : En) (i : Nat) (es : List PyData) : En := match env[i]? with
  | some (some (.own b _)) => env.set i (some (.own b es))
  | _ => env
theorem putO_own {env : En} {i : Nat} {b : Bool} {ds es : List PyData} (h : env[i]? = some (some (.own b ds))) : putO env i es = env.set i (some (.own b es)) := by
  unfold putO
  rw [h]
theorem back_put {env e : En} {i j : Nat} {c : Bool} {es : List PyData} (e0 : e[j]? = some (some (.own c es))) : backE (some (j, i)) env e = putO env i es := by
  unfold backE putO
  dsimp only
  rw [e0]
  cases env[i]? with
  | none => rfl
  | some o => cases o with
    | none => rfl
    | some e => cases e <;> rfl
@[simp] theorem putO_zero {o : EV} {b : Bool} {ds es : List PyData} {env : En} : putO (some (.own b ds) :: env) 0 es = some (.own b es) :: env := rfl
@[simp] theorem putO_succ {o : Option EV} {i : Nat} {es : List PyData} {env : En} : putO (o :: env) (i + 1) es = o :: putO env i es := by
  unfold putO
  rw [List.getElem?_cons_succ]
  cases env[i]? with
  | none => rfl
  | some o => cases o with
    | none => rfl
    | some e => cases e <;> rfl
structure DrK (c1 c3 : Int) : Prop where
  k1 : DL.small64 c1 = true
  k3 : DL.small64 c3 = true
section
variable {c1 c2 c3 : Int} {ds : List PyData} {many : Int}
theorem dr_all (k : DrK c1 c3) (hi : HI ds) (h1 : 0 < many) (h2 : many < 1073741824) : ∃ e, drawM c1 c2 c3 (startE 5 [.own true ds, .d (.int many)]) = .ok (.ret (.d (.int (drR c1 c2 c3 ds many)))) e ∧ e[0]? = some (some (.own true (drH c1 c2 c3 ds many))) ∧ HI (drH c1 c2 c3 ds many) ∧ 0 ≤ drR c1 c2 c3 ds many ∧ drR c1 c2 c3 ds many < many := by
  obtain ⟨v, e, q1, r, ds', rfl, q2, q3, q4, q5⟩ := wp_ok (s_draw (c2 := c2) k.k1 k.k3 hi h1 h2)
  have : drO c1 c2 c3 ds many = (r, ds') := by
    unfold drO
    rw [q1]
    dsimp only
    rw [q2]
  unfold drR drH
  rw [this]
  exact ⟨e, q1, q2, q3, q4, q5⟩
theorem drH_HI (k : DrK c1 c3) (hi : HI ds) (h1 : 0 < many) (h2 : many < 1073741824) : HI (drH c1 c2 c3 ds many) := (dr_all k hi h1 h2).choose_spec.2.2.1
theorem drR_lo (k : DrK c1 c3) (hi : HI ds) (h1 : 0 < many) (h2 : many < 1073741824) : 0 ≤ drR c1 c2 c3 ds many := (dr_all k hi h1 h2).choose_spec.2.2.2.1
theorem drR_hi (k : DrK c1 c3) (hi : HI ds) (h1 : 0 < many) (h2 : many < 1073741824) : drR c1 c2 c3 ds many < many := (dr_all k hi h1 h2).choose_spec.2.2.2.2
theorem W_draw {env : En} {i : Nat} {Q : RVl → En → Prop} {E : Er → En → Prop} (k : DrK c1 c3) (hi : HI ds) (h1 : 0 < many) (h2 : many < 1073741824) : W (fin 2 (drawM c1 c2 c3) 5 [.own true ds, .d (.int many)] (some (0, i))) env Q E ↔ Q (.d (.int (drR c1 c2 c3 ds many))) (putO env i (drH c1 c2 c3 ds many)) := by
  obtain ⟨e, q1, q2, _⟩ := dr_all (c2 := c2) k hi h1 h2
  rw [W_fin]
  unfold W wp
  rw [q1]
  dsimp only
  rw [back_put q2]
  exact ⟨fun z => z.2, fun z => ⟨rfl, z⟩⟩
/-- one of some -/
noncomputable def anD (c1 c2 c3 : Int) (ds xs : List PyData) : PyData := xs.getD (drR c1 c2 c3 ds xs.length).toNat .none
theorem anD_mem {xs : List PyData} (k : DrK c1 c3) (hi : HI ds) (h1 : 0 < xs.length) (h2 : xs.length ≤ 1000000) : anD c1 c2 c3 ds xs ∈ xs := by
  have a := drR_lo (c2 := c2) k hi (many := xs.length) (by omega) (by omega)
  have b := drR_hi (c2 := c2) k hi (many := xs.length) (by omega) (by omega)
  unfold anD
  have : (drR c1 c2 c3 ds xs.length).toNat < xs.length := by omega
  rw [List.getD_eq_getElem?_getD, List.getElem?_eq_getElem this]
  exact List.getElem_mem this
theorem W_any {env : En} {i : Nat} {xs : List PyData} {Q : RVl → En → Prop} {E : Er → En → Prop} (k : DrK c1 c3) (hi : HI ds) (h1 : 0 < xs.length) (h2 : xs.length ≤ 1000000) : W (fin 2 (anyM c1 c2 c3) 2 [.own true ds, .d (.list xs)] (some (0, i))) env Q E ↔ Q (.d (anD c1 c2 c3 ds xs)) (putO env i (drH c1 c2 c3 ds xs.length)) := by
  have a := drR_lo (c2 := c2) k hi (many := xs.length) (by omega) (by omega)
  have b := drR_hi (c2 := c2) k hi (many := xs.length) (by omega) (by omega)
  have c : (drR c1 c2 c3 ds xs.length).toNat < xs.length := by omega
  rw [W_fin]
  unfold anyM
  simp [gLen]
  rw [W_draw k hi (by omega) (by omega)]
  simp [gIx, atI_nat a b, c]
  rw [back_put rfl]
  unfold anD
  rw [List.getD_eq_getElem?_getD, List.getElem?_eq_getElem c]
  rfl
end
end DL
end

/- W71 -/
section
set_option maxHeartbeats 4000000
/-! Written by gen.py from the law's own text: readings of the defs, their derivations. -/
namespace K71
open PySem PySem.Spec PyProof.Rows L2 DL
def top (i : Nat) : Stmt := PySem.Challenge.pw_emberhall_k71_whole_rounds_of_teams_and.main.body.getD i (.Pass ⟨0, 0, 0, 0⟩)
def frL : List Str := ["isinstance", "int", "bool", "tuple", "len", "all", "max", "zip", "sum", "any", "min", "sorted", "abs", "range", "list", "ValueError"]
def isL : List (Str × Int) := [("MOST_UNITS", 300), ("MOST_USE", 20), ("MOST_WAY", 20), ("MOST_SPARE", 100), ("MOST_TEAMS", 8), ("MOST_FILLING", 60), ("MOST_INSIDE", 400)]
def ssL : List (Str × Str) := []
def xsL : List Str := ["EmberError", "NoNumber", "NoStand", "NoTeams", "NoTime"]
def saidL_law_said : List (Str × PyData) := [("NoNumber", .str "number"), ("NoStand", .str "stand"), ("NoTeams", .str "teams"), ("NoTime", .str "time")]
def said_law_said (y : Str) : Option PyData := saidL_law_said.lookup y
def clsL : List Str := ["NoNumber", "NoStand", "NoTeams", "NoTime"]
def gloL : List Str := ["EmberError", "NoNumber", "NoStand", "NoTeams", "NoTime"]
def pairL : List (Str × Str × Bool) := [("NoNumber", "NoNumber", true), ("NoNumber", "NoStand", false), ("NoNumber", "NoTeams", false), ("NoNumber", "NoTime", false), ("NoStand", "NoNumber", false), ("NoStand", "NoStand", true), ("NoStand", "NoTeams", false), ("NoStand", "NoTime", false), ("NoTeams", "NoNumber", false), ("NoTeams", "NoStand", false), ("NoTeams", "NoTeams", true), ("NoTeams", "NoTime", false), ("NoTime", "NoNumber", false), ("NoTime", "NoStand", false), ("NoTime", "NoTeams", false), ("NoTime", "NoTime", true)]
def exmL : List (Str × Str) := [("NoNumber", "EmberError"), ("NoStand", "EmberError"), ("NoTeams", "EmberError"), ("NoTime", "EmberError")]
def sd_law_said_0 (a : Addr) : M Fl := (sSeq (sSet 2 (mFrz (mLst (mCons (mIsE 1 a true) (mCons (mIsE 1 a false) (mCons (mIsE 1 a false) mNil)))))) (sSeq (sSet 2 (mBin gAddA (mVar 2) (mFrz (mLst (mCons (mIsE 1 a false) mNil))))) (sSeq (sIf (mOr (mTB (mBin gNe (mMB isLst gCount (mVar 2) (mCons (mC (.bool true)) mNil)) (mC (.int 1)))) (mNot (mTst (mIsE 1 a true)))) (sRet (mC (.str "odd"))) sNext) (sRet (mBin gIx (mFrz (mLst (mCons (mC (.str "number")) (mCons (mC (.str "stand")) (mCons (mC (.str "teams")) (mCons (mC (.str "time")) mNil)))))) (mMB isLst gIndex (mVar 2) (mCons (mC (.bool true)) mNil)))))))
def sd_law_said_1 (a : Addr) : M Fl := (sSeq (sSet 2 (mFrz (mLst (mCons (mIsE 1 a false) (mCons (mIsE 1 a true) (mCons (mIsE 1 a false) mNil)))))) (sSeq (sSet 2 (mBin gAddA (mVar 2) (mFrz (mLst (mCons (mIsE 1 a false) mNil))))) (sSeq (sIf (mOr (mTB (mBin gNe (mMB isLst gCount (mVar 2) (mCons (mC (.bool true)) mNil)) (mC (.int 1)))) (mNot (mTst (mIsE 1 a true)))) (sRet (mC (.str "odd"))) sNext) (sRet (mBin gIx (mFrz (mLst (mCons (mC (.str "number")) (mCons (mC (.str "stand")) (mCons (mC (.str "teams")) (mCons (mC (.str "time")) mNil)))))) (mMB isLst gIndex (mVar 2) (mCons (mC (.bool true)) mNil)))))))
def sd_law_said_2 (a : Addr) : M Fl := (sSeq (sSet 2 (mFrz (mLst (mCons (mIsE 1 a false) (mCons (mIsE 1 a false) (mCons (mIsE 1 a true) mNil)))))) (sSeq (sSet 2 (mBin gAddA (mVar 2) (mFrz (mLst (mCons (mIsE 1 a false) mNil))))) (sSeq (sIf (mOr (mTB (mBin gNe (mMB isLst gCount (mVar 2) (mCons (mC (.bool true)) mNil)) (mC (.int 1)))) (mNot (mTst (mIsE 1 a true)))) (sRet (mC (.str "odd"))) sNext) (sRet (mBin gIx (mFrz (mLst (mCons (mC (.str "number")) (mCons (mC (.str "stand")) (mCons (mC (.str "teams")) (mCons (mC (.str "time")) mNil)))))) (mMB isLst gIndex (mVar 2) (mCons (mC (.bool true)) mNil)))))))
def sd_law_said_3 (a : Addr) : M Fl := (sSeq (sSet 2 (mFrz (mLst (mCons (mIsE 1 a false) (mCons (mIsE 1 a false) (mCons (mIsE 1 a false) mNil)))))) (sSeq (sSet 2 (mBin gAddA (mVar 2) (mFrz (mLst (mCons (mIsE 1 a true) mNil))))) (sSeq (sIf (mOr (mTB (mBin gNe (mMB isLst gCount (mVar 2) (mCons (mC (.bool true)) mNil)) (mC (.int 1)))) (mNot (mTst (mIsE 1 a true)))) (sRet (mC (.str "odd"))) sNext) (sRet (mBin gIx (mFrz (mLst (mCons (mC (.str "number")) (mCons (mC (.str "stand")) (mCons (mC (.str "teams")) (mCons (mC (.str "time")) mNil)))))) (mMB isLst gIndex (mVar 2) (mCons (mC (.bool true)) mNil)))))))
def sdL_law_said : List (Str × (Addr → M Fl)) := [("NoNumber", sd_law_said_0), ("NoStand", sd_law_said_1), ("NoTeams", sd_law_said_2), ("NoTime", sd_law_said_3)]
def sd_law_said (a : Addr) (y : Str) : M Fl := match sdL_law_said.lookup y with
  | some m => m a
  | none => M.stuck
def bd_is_integer : M Fl := (sRet (mAndV (mIsi isInt (mVar 0)) (mNotV (mIsi isBool (mVar 0)))))
def bd_is_within : M Fl := (sRet (mAndV (asD (callR0 1 bd_is_integer 1 (mCons (mVar 0) mNil))) (mChn gLe gLe (mVar 1) (mVar 0) (mVar 2))))
def bd_is_sized : M Fl := (sRet (mAndV (mIsi isTup (mVar 0)) (mChn gLe gLe (mVar 1) (mCall gLen (mCons (mVar 0) mNil)) (mVar 2))))
def bd_is_team : M Fl := (sSeq (sIf (mOr (mNot (mTst (asD (callR0 3 bd_is_sized 3 (mCons (mVar 0) (mCons (mC (.int 3)) (mCons (mC (.int 3)) mNil))))))) (mOr (mNot (mTst (asD (callR0 3 bd_is_within 3 (mCons (mBin gIx (mVar 0) (mC (.int 0))) (mCons (mC (.int 1)) (mCons (mC (.int 300)) mNil))))))) (mNot (mTst (asD (callR0 3 bd_is_within 3 (mCons (mBin gIx (mVar 0) (mC (.int 1))) (mCons (mC (.int 1)) (mCons (mC (.int 20)) mNil))))))))) (sRet (mC (.bool false))) sNext) (sRet (asD (callR0 3 bd_is_within 3 (mCons (mBin gIx (mVar 0) (mC (.int 2))) (mCons (mC (.int 0)) (mCons (mC (.int 20)) mNil)))))))
def bd_check_spare : M Fl := (sIf (mNot (mTst (asD (callR0 3 bd_is_within 3 (mCons (mVar 0) (mCons (mC (.int 0)) (mCons (mC (.int 100)) mNil))))))) (sRaise ⟨"NoNumber", none⟩) sNext)
def bd_check_teams : M Fl := (sSeq (sIf (mOr (mNot (mTst (asD (callR0 3 bd_is_sized 3 (mCons (mVar 0) (mCons (mC (.int 1)) (mCons (mC (.int 8)) mNil))))))) (mNot (mTst (mCall gAllA (mCons (mFrz (mLc [2] (mItems (mVar 0)) (gNm 2) mYes (asD (callR0 1 bd_is_team 1 (mCons (mVar 2) mNil))))) mNil))))) (sRaise ⟨"NoTeams", none⟩) sNext) (sDrop (asD (callR0 1 bd_check_spare 1 (mCons (mVar 1) mNil)))))
def bd_raw_air_left : M Fl := (sRet (mCall gMaxA (mCons (mC (.int 0)) (mCons (mBin DL.gSub (mBin gIx (mVar 0) (mC (.int 0))) (mBin gMulA (mBin gIx (mVar 0) (mC (.int 1))) (mVar 1))) mNil))))
def bd_raw_stay : M Fl := (sSeq (sAsg (gTp 3 (gCons' (gNm 2) (gCons' (gNm 3) (gCons' (gNm 4) gNil')))) (mVar 0)) (sSeq (sSet 5 (mBin DL.gSub (mBin DL.gDiv (mBin DL.gSub (mVar 2) (mVar 1)) (mVar 3)) (mBin gMulA (mC (.int 2)) (mVar 4)))) (sRet (mIf (mTB (mBin gLt (mVar 5) (mC (.int 0)))) (mC .none) (mVar 5)))))
def bd_stays_of : M Fl := (sSeq (sSetO 2 (mLst mNil)) (sSeq (sFor (mItems (mVar 0)) (gNm 3) (sSeq (sSet 4 (asD (callR0 2 bd_raw_stay 6 (mCons (mVar 3) (mCons (mVar 1) mNil))))) (sDrop (mMeth 2 fAppend (mCons (mIf (mTB (mBin gIs (mVar 4) (mC .none))) (mC (.int 0)) (mVar 4)) mNil))))) (sRet (mVar 2))))
def bd_check_pause_of : M Fl := (sIf (mNot (mTst (asD (callR0 3 bd_is_within 3 (mCons (mVar 0) (mCons (mC (.int 0)) (mCons (mC (.int 60)) mNil))))))) (sRaise ⟨"NoNumber", none⟩) sNext)
def bd_raw_lacking : M Fl := (sSeq (sSet 3 (asD (callR0 2 bd_stays_of 5 (mCons (mVar 0) (mCons (mVar 1) mNil))))) (sSeq (sIf (mTB (mBin gIn (mC (.int 0)) (mVar 3))) (sRet (mC .none)) sNext) (sRet (mCall gTup (mCons (mFrz (mLc [4, 5] (mZip (mCons (mVar 0) (mCons (mVar 3) mNil))) (gTp 2 (gCons' (gNm 4) (gCons' (gNm 5) gNil'))) mYes (mCall gMaxA (mCons (mC (.int 0)) (mCons (mBin gAddA (mBin DL.gSub (mBin gAddA (mBin gMulA (mC (.int 2)) (mBin gIx (mVar 4) (mC (.int 2)))) (mVar 2)) (mCall gSum (mCons (mVar 3) mNil))) (mVar 5)) mNil))))) mNil)))))
def bd_lacking_minutes : M Fl := (sSeq (sDrop (asD (callR0 2 bd_check_teams 3 (mCons (mVar 0) (mCons (mVar 1) mNil))))) (sSeq (sDrop (asD (callR0 1 bd_check_pause_of 1 (mCons (mVar 2) mNil)))) (sRet (asD (callR0 3 bd_raw_lacking 6 (mCons (mVar 0) (mCons (mVar 1) (mCons (mVar 2) mNil))))))))
def bd_turns_for_ever : M Fl := (sSeq (sDrop (asD (callR0 2 bd_check_teams 3 (mCons (mVar 0) (mCons (mVar 1) mNil))))) (sSeq (sDrop (asD (callR0 1 bd_check_pause_of 1 (mCons (mVar 2) mNil)))) (sSeq (sSet 3 (asD (callR0 3 bd_raw_lacking 6 (mCons (mVar 0) (mCons (mVar 1) (mCons (mVar 2) mNil)))))) (sRet (mAndV (mBin gIsNot (mVar 3) (mC .none)) (mNotV (mCall gAnyA (mCons (mVar 3) mNil))))))))
def bd_check_board : M Fl := (sSeq (sIf (mOr (mNot (mTst (asD (callR0 3 bd_is_sized 3 (mCons (mVar 1) (mCons (mC (.int 0)) (mCons (mCall gLen (mCons (mVar 0) mNil)) mNil))))))) (mNot (mTst (mCall gAllA (mCons (mFrz (mLc [4] (mItems (mVar 1)) (gNm 4) mYes (asD (callR0 3 bd_is_sized 3 (mCons (mVar 4) (mCons (mC (.int 2)) (mCons (mC (.int 2)) mNil))))))) mNil))))) (sRaise ⟨"NoStand", none⟩) sNext) (sSeq (sFor (mItems (mVar 1)) (gTp 2 (gCons' (gNm 2) (gCons' (gNm 3) gNil'))) (sIf (mOr (mNot (mTst (asD (callR0 3 bd_is_within 3 (mCons (mVar 2) (mCons (mC (.int 0)) (mCons (mBin DL.gSub (mCall gLen (mCons (mVar 0) mNil)) (mC (.int 1))) mNil))))))) (mNot (mTst (asD (callR0 3 bd_is_within 3 (mCons (mVar 3) (mCons (mC (.int 0)) (mCons (mC (.int 400)) mNil)))))))) (sRaise ⟨"NoStand", none⟩) sNext)) (sIf (mTB (mBin gNe (mLenDc [4] (mItems (mVar 1)) (gNm 4) mYes (mBin gIx (mVar 4) (mC (.int 0)))) (mCall gLen (mCons (mVar 1) mNil)))) (sRaise ⟨"NoStand", none⟩) sNext)))
def bd_board_row : M Fl := (sSeq (sSet 3 (asD (callR0 2 bd_raw_stay 6 (mCons (mVar 0) (mCons (mVar 1) mNil))))) (sSeq (sIf (mTB (mBin gIs (mVar 3) (mC .none))) (sRet (mTup (mCons (asD (callR0 2 bd_raw_air_left 2 (mCons (mVar 0) (mCons (mVar 2) mNil)))) (mCons (mC (.int 0)) (mCons (mC (.str "late")) mNil))))) sNext) (sSeq (sSet 4 (mBin DL.gSub (mBin gAddA (mBin gIx (mVar 0) (mC (.int 2))) (mVar 3)) (mVar 2))) (sSeq (sSet 5 (mIf (mTB (mBin gGt (mVar 4) (mC (.int 0)))) (mC (.str "in")) (mIf (mTB (mBin gEq (mVar 4) (mC (.int 0)))) (mC (.str "turn")) (mC (.str "late"))))) (sRet (mTup (mCons (asD (callR0 2 bd_raw_air_left 2 (mCons (mVar 0) (mCons (mVar 2) mNil)))) (mCons (mCall gMaxA (mCons (mC (.int 0)) (mCons (mVar 4) mNil))) (mCons (mVar 5) mNil)))))))))
def bd_board_told : M Fl := (sSeq (sDrop (asD (callR0 2 bd_check_teams 3 (mCons (mVar 0) (mCons (mVar 1) mNil))))) (sSeq (sDrop (asD (callR0 2 bd_check_board 5 (mCons (mVar 0) (mCons (mVar 2) mNil))))) (sSeq (sIf (mOr (mNot (mTst (asD (callR0 3 bd_is_within 3 (mCons (mVar 3) (mCons (mC (.int 0)) (mCons (mC (.int 400)) mNil))))))) (mTst (mCall gAnyA (mCons (mFrz (mLc [4, 5] (mItems (mVar 2)) (gTp 2 (gCons' (gNm 4) (gCons' (gNm 5) gNil'))) mYes (mBin gGt (mVar 5) (mVar 3)))) mNil)))) (sRaise ⟨"NoTime", none⟩) sNext) (sRet (mCall gTup (mCons (mFrz (mLc [4, 5] (mItems (mVar 2)) (gTp 2 (gCons' (gNm 4) (gCons' (gNm 5) gNil'))) mYes (asD (callR0 3 bd_board_row 6 (mCons (mBin gIx (mVar 0) (mVar 4)) (mCons (mVar 1) (mCons (mBin DL.gSub (mVar 3) (mVar 5)) mNil))))))) mNil))))))
def bd_next_to_turn : M Fl := (sSeq (sDrop (asD (callR0 2 bd_check_teams 3 (mCons (mVar 0) (mCons (mVar 1) mNil))))) (sSeq (sDrop (asD (callR0 2 bd_check_board 5 (mCons (mVar 0) (mCons (mVar 2) mNil))))) (sSeq (sSetO 3 (mLc [5, 6] (mItems (mVar 2)) (gTp 2 (gCons' (gNm 5) (gCons' (gNm 6) gNil'))) mYes (asD (callR0 2 bd_raw_stay 6 (mCons (mBin gIx (mVar 0) (mVar 5)) (mCons (mVar 1) mNil)))))) (sSeq (sIf (mOr (mTB (mBin gEq (mCall gLen (mCons (mVar 2) mNil)) (mC (.int 0)))) (mTB (mBin gIn (mC .none) (mVar 3)))) (sRet (mC .none)) sNext) (sSeq (sSet 4 (mFrz (mLc [5, 6, 7] (mZip (mCons (mVar 2) (mCons (mVar 3) mNil))) (gTp 2 (gCons' (gTp 2 (gCons' (gNm 5) (gCons' (gNm 6) gNil'))) (gCons' (gNm 7) gNil'))) mYes (mBin gAddA (mBin gAddA (mVar 6) (mBin gIx (mBin gIx (mVar 0) (mVar 5)) (mC (.int 2)))) (mVar 7))))) (sRet (mTup (mCons (mCall gMinA (mCons (mVar 4) mNil)) (mCons (mCall gTup (mCons (mFrz (mCallL gSorted (mCons (mFrz (mLc [8, 9] (mZip (mCons (mVar 2) (mCons (mVar 4) mNil))) (gTp 2 (gCons' (gNm 8) (gCons' (gNm 9) gNil'))) (mTB (mBin gEq (mVar 9) (mCall gMinA (mCons (mVar 4) mNil)))) (mBin gIx (mVar 8) (mC (.int 0))))) mNil))) mNil)) mNil)))))))))
def bd__law_hand : M Fl := (sSeq (sSetO 1 (mLc [2] (mItems (mSl (mVar 0) none (some (mC (.int 63))))) (gNm 2) mYes (mBin gMod (mCall gInt (mCons (mCall gAbs (mCons (mCall gInt (mCons (mVar 2) mNil)) mNil)) mNil)) (mBin gPow (mC (.int 10)) (mC (.int 36)))))) (sRetO (mLst (mCons (mVar 1) (mCons (mC (.int 0)) (mCons (mC (.int 0)) (mCons (mBin gAddA (mC (.int 463)) (mBin gMulA (mC (.int 347)) (mCall gLen (mCons (mVar 1) mNil)))) (mCons (mC (.int 0)) mNil))))))))
def bd__law_draw : M Fl := (sSeq (sIf (mAnd (mTB (mBin gEq (mBin gIx (mVar 0) (mC (.int 2))) (mC (.int 0)))) (mTB (mBin gLt (mBin gIx (mVar 0) (mC (.int 1))) (mCall gLen (mCons (mBin gIx (mVar 0) (mC (.int 0))) mNil))))) (sSeq (sSet 2 (mBin gIx (mBin gIx (mVar 0) (mC (.int 0))) (mBin gIx (mVar 0) (mC (.int 1))))) (sSeq (sSetS 0 (mBin gAddA (mBin gIx (mVar 0) (mC (.int 1))) (mC (.int 1))) (mC (.int 1))) (sSeq (sSetS 0 (mBin gMod (mCall gInt (mCons (mBin gAddA (mBin gAddA (mBin gMulA (mBin gIx (mVar 0) (mC (.int 3))) (mC (.int 69621))) (mBin gMulA (mVar 2) (mC (.int 48271)))) (mC (.int 17))) mNil)) (mC (.int 2147483629))) (mC (.int 3))) (sIf (mTB (mBin gGe (mVar 2) (mBin gPow (mC (.int 10)) (mC (.int 18))))) (sSetS 0 (mVar 2) (mC (.int 2))) sNext)))) sNext) (sSeq (sIf (mTB (mBin gGt (mBin gIx (mVar 0) (mC (.int 2))) (mC (.int 0)))) (sSeq (sSet 3 (mBin gMod (mCall gInt (mCons (mBin gIx (mVar 0) (mC (.int 2))) mNil)) (mVar 1))) (sSeq (sSetS 0 (mBin DL.gDiv (mBin gIx (mVar 0) (mC (.int 2))) (mVar 1)) (mC (.int 2))) (sRet (mVar 3)))) sNext) (sSeq (sSetS 0 (mBin gAddA (mBin gIx (mVar 0) (mC (.int 4))) (mC (.int 1))) (mC (.int 4))) (sSeq (sSet 4 (mBin gMod (mCall gInt (mCons (mBin gMulA (mCall gInt (mCons (mBin gAddA (mBin gIx (mVar 0) (mC (.int 3))) (mBin gMulA (mC (.int 7919)) (mBin gIx (mVar 0) (mC (.int 4))))) mNil)) (mC (.int 40692))) mNil)) (mC (.int 2147483647)))) (sSeq (sSet 4 (mBin gMod (mCall gInt (mCons (mBin gMulA (mVar 4) (mBin gAddA (mBin DL.gDiv (mVar 4) (mC (.int 1009))) (mC (.int 69621)))) mNil)) (mC (.int 2147483647)))) (sSeq (sSet 4 (mBin gMod (mCall gInt (mCons (mBin gMulA (mVar 4) (mBin gAddA (mBin DL.gDiv (mVar 4) (mC (.int 2003))) (mC (.int 40014)))) mNil)) (mC (.int 2147483563)))) (sRet (mBin gMod (mCall gInt (mCons (mBin DL.gDiv (mVar 4) (mC (.int 16))) mNil)) (mVar 1)))))))))
def bd__law_any : M Fl := (sRet (mBin gIx (mVar 1) (asD (callR1 2 bd__law_draw 5 0 (mCons (mVar 0) (mCons (mCall gLen (mCons (mVar 1) mNil)) mNil))))))
def bd__law_team : M Fl := (sRet (mTup (mCons (mBin gAddA (mC (.int 1)) (asD (callR1 2 bd__law_draw 5 0 (mCons (mVar 0) (mCons (mC (.int 90)) mNil))))) (mCons (mBin gAddA (mC (.int 1)) (asD (callR1 2 bd__law_draw 5 0 (mCons (mVar 0) (mCons (mC (.int 6)) mNil))))) (mCons (asD (callR1 2 bd__law_draw 5 0 (mCons (mVar 0) (mCons (mC (.int 6)) mNil)))) mNil)))))
def bd__law_stay : M Fl := (sSeq (sSet 2 (mC .none)) (sSeq (sFor (mRange1 (mCons (mC (.int 101)) mNil)) (gNm 3) (sIf (mTB (mBin gGe (mBin DL.gSub (mBin gIx (mVar 0) (mC (.int 0))) (mBin gMulA (mBin gIx (mVar 0) (mC (.int 1))) (mBin gAddA (mBin gMulA (mC (.int 2)) (mBin gIx (mVar 0) (mC (.int 2)))) (mVar 3)))) (mVar 1))) (sSet 2 (mVar 3)) sNext)) (sRet (mVar 2))))
def bd__law_turn : M Fl := (sSeq (sSet 2 (mC .none)) (sSeq (sFor (mRange1 (mCons (mC (.int 201)) mNil)) (gNm 3) (sIf (mTB (mBin gGe (mBin DL.gSub (mBin gIx (mVar 0) (mC (.int 0))) (mBin gMulA (mBin gIx (mVar 0) (mC (.int 1))) (mBin gAddA (mVar 3) (mCall gMinA (mCons (mVar 3) (mCons (mBin gIx (mVar 0) (mC (.int 2))) mNil)))))) (mVar 1))) (sSet 2 (mVar 3)) sNext)) (sRet (mIf (mTB (mBin gIs (asD (callR0 2 bd__law_stay 4 (mCons (mVar 0) (mCons (mVar 1) mNil)))) (mC .none))) (mC .none) (mVar 2)))))
def bd__law_bad_teams : M Fl := (sSeq (sSet 1 (mFrz (mLst (mCons (mC .none) (mCons (mTup mNil) (mCons (mFrz (mLst (mCons (mTup (mCons (mC (.int 1)) (mCons (mC (.int 1)) (mCons (mC (.int 1)) mNil)))) mNil))) (mCons (mTup (mCons (mTup (mCons (mC (.int 0)) (mCons (mC (.int 1)) (mCons (mC (.int 1)) mNil)))) mNil)) (mCons (mTup (mCons (mTup (mCons (mC (.int 301)) (mCons (mC (.int 1)) (mCons (mC (.int 1)) mNil)))) mNil)) (mCons (mTup (mCons (mTup (mCons (mC (.int 1)) (mCons (mC (.int 0)) (mCons (mC (.int 1)) mNil)))) mNil)) (mCons (mTup (mCons (mTup (mCons (mC (.int 1)) (mCons (mC (.int 21)) (mCons (mC (.int 1)) mNil)))) mNil)) (mCons (mTup (mCons (mTup (mCons (mC (.int 1)) (mCons (mC (.int 1)) (mCons (mC (.int 21)) mNil)))) mNil)) (mCons (mTup (mCons (mTup (mCons (mC (.int 1)) (mCons (mC (.int 1)) mNil))) mNil)) mNil)))))))))))) (sRet (asD (callR1 2 bd__law_any 2 0 (mCons (mVar 0) (mCons (mBin gAddA (mVar 1) (mFrz (mLst (mCons (mTup (mCons (mTup (mCons (mC (.bool true)) (mCons (mC (.int 1)) (mCons (mC (.int 1)) mNil)))) mNil)) (mCons (mBin gMulA (mTup (mCons (mTup (mCons (mC (.int 5)) (mCons (mC (.int 5)) (mCons (mC (.int 5)) mNil)))) mNil)) (mC (.int 9))) (mCons (mC (.int 0)) (mCons (mTup (mCons (mC (.int 5)) (mCons (mC (.int 5)) (mCons (mC (.int 5)) mNil)))) mNil))))))) mNil))))))
def bd__law_bad_spare : M Fl := (sRet (asD (callR1 2 bd__law_any 2 0 (mCons (mVar 0) (mCons (mFrz (mLst (mCons (mNeg (mC (.int 1))) (mCons (mC (.int 101)) (mCons (mC .none) (mCons (mC (.bool true)) (mCons (mC (.str "5")) mNil))))))) mNil)))))
def bd__law_lacking : M Fl := (sSeq (sSet 3 (mFrz (mLc [4] (mItems (mVar 0)) (gNm 4) mYes (mOrV (asD (callR0 2 bd__law_stay 4 (mCons (mVar 4) (mCons (mVar 1) mNil)))) (mC (.int 0)))))) (sSeq (sIf (mTB (mBin gIn (mC (.int 0)) (mVar 3))) (sRet (mC .none)) sNext) (sRet (mCall gTup (mCons (mFrz (mLc [4, 5] (mZip (mCons (mVar 0) (mCons (mVar 3) mNil))) (gTp 2 (gCons' (gNm 4) (gCons' (gNm 5) gNil'))) mYes (mCall gMaxA (mCons (mC (.int 0)) (mCons (mBin gAddA (mBin DL.gSub (mBin gAddA (mBin gMulA (mC (.int 2)) (mBin gIx (mVar 4) (mC (.int 2)))) (mVar 2)) (mCall gSum (mCons (mVar 3) mNil))) (mVar 5)) mNil))))) mNil)))))
def bd__law_board : M Fl := (sSeq (sSetO 4 (mLst mNil)) (sSeq (sFor (mItems (mVar 2)) (gTp 2 (gCons' (gNm 5) (gCons' (gNm 6) gNil'))) (sSeq (sPar2 9 10 (vD (mBin gIx (mVar 0) (mVar 5)) (vD (mBin DL.gSub (mVar 3) (mVar 6)) vNil))) (sSeq (sPar2 7 8 (vD (mCall gMaxA (mCons (mC (.int 0)) (mCons (mBin DL.gSub (mBin gIx (mVar 9) (mC (.int 0))) (mBin gMulA (mBin gIx (mVar 9) (mC (.int 1))) (mVar 10))) mNil))) (vD (asD (callR0 2 bd__law_turn 4 (mCons (mVar 9) (mCons (mVar 1) mNil)))) vNil))) (sIf (mOr (mTB (mBin gIs (mVar 8) (mC .none))) (mTB (mBin gLt (mVar 8) (mVar 10)))) (sDrop (mMeth 4 fAppend (mCons (mTup (mCons (mVar 7) (mCons (mC (.int 0)) (mCons (mC (.str "late")) mNil)))) mNil))) (sDrop (mMeth 4 fAppend (mCons (mTup (mCons (mVar 7) (mCons (mBin DL.gSub (mVar 8) (mVar 10)) (mCons (mIf (mTB (mBin gGt (mVar 8) (mVar 10))) (mC (.str "in")) (mC (.str "turn"))) mNil)))) mNil))))))) (sRet (mCall gTup (mCons (mVar 4) mNil)))))
def bd__law_refused_right : M Fl := (sSeq (sAsg (gTp 2 (gCons' (gNm 3) (gCons' (gNm 4) gNil'))) (mTup (mCons (asD (callR1 1 bd__law_bad_teams 2 0 (mCons (mVar 0) mNil))) (mCons (asD (callR1 1 bd__law_bad_spare 1 0 (mCons (mVar 0) mNil))) mNil)))) (sSeq (sSet 5 (asD (callR1 2 bd__law_any 2 0 (mCons (mVar 0) (mCons (mFrz (mLst (mCons (mNeg (mC (.int 1))) (mCons (mC (.int 61)) (mCons (mC .none) (mCons (mC (.bool true)) mNil)))))) mNil))))) (sSeq (sSet 6 (asD (callR1 2 bd__law_any 2 0 (mCons (mVar 0) (mCons (mFrz (mLst (mCons (mC .none) (mCons (mFrz (mLst (mCons (mTup (mCons (mC (.int 0)) (mCons (mC (.int 0)) mNil))) mNil))) (mCons (mTup (mCons (mTup (mCons (mC (.int 9)) (mCons (mC (.int 0)) mNil))) mNil)) (mCons (mTup (mCons (mTup (mCons (mC (.int 0)) (mCons (mC (.int 401)) mNil))) mNil)) (mCons (mTup (mCons (mTup (mCons (mC (.int 0)) (mCons (mC (.int 0)) mNil))) (mCons (mTup (mCons (mC (.int 0)) (mCons (mC (.int 1)) mNil))) mNil))) (mCons (mTup (mCons (mTup (mCons (mC (.int 0)) mNil)) mNil)) (mCons (mTup (mCons (mTup (mCons (mC (.int 0)) (mCons (mC (.bool true)) mNil))) mNil)) (mCons (mC (.int 0)) mNil)))))))))) mNil))))) (sSeq (sSetO 7 (mLst (mCons (mSaid said_law_said (asD (callR0 3 bd_lacking_minutes 3 (mCons (mVar 3) (mCons (mVar 4) (mCons (mVar 5) mNil)))))) mNil))) (sSeq (sDrop (mMeth 7 fAppend (mCons (mSaid said_law_said (asD (callR0 3 bd_turns_for_ever 4 (mCons (mVar 1) (mCons (mVar 4) (mCons (mVar 5) mNil)))))) mNil))) (sSeq (sSetO 7 (mBinL gCat (mVar 7) (mFrz (mLst (mCons (mSaid said_law_said (asD (callR0 3 bd_lacking_minutes 3 (mCons (mVar 1) (mCons (mVar 2) (mCons (mVar 5) mNil)))))) mNil))))) (sSeq (sSetO 7 (mBinL gCat (mVar 7) (mFrz (mLst (mCons (mSaid said_law_said (asD (callR0 4 bd_board_told 6 (mCons (mVar 1) (mCons (mVar 4) (mCons (mVar 6) (mCons (mC .none) mNil))))))) mNil))))) (sSeq (sSetO 7 (mBinL gCat (mVar 7) (mFrz (mLst (mCons (mSaid said_law_said (asD (callR0 4 bd_board_told 6 (mCons (mVar 1) (mCons (mVar 2) (mCons (mVar 6) (mCons (mC .none) mNil))))))) mNil))))) (sSeq (sSetO 7 (mBinL gCat (mVar 7) (mFrz (mLst (mCons (mSaid said_law_said (asD (callR0 3 bd_next_to_turn 10 (mCons (mVar 1) (mCons (mVar 2) (mCons (mVar 6) mNil)))))) mNil))))) (sSeq (sDrop (mMeth 7 fAppend (mCons (mSaid said_law_said (asD (callR0 4 bd_board_told 6 (mCons (mVar 1) (mCons (mVar 2) (mCons (mTup (mCons (mTup (mCons (mC (.int 0)) (mCons (mC (.int 5)) mNil))) mNil)) (mCons (asD (callR1 2 bd__law_any 2 0 (mCons (mVar 0) (mCons (mFrz (mLst (mCons (mC (.int 4)) (mCons (mC (.int 401)) (mCons (mNeg (mC (.int 1))) (mCons (mC .none) (mCons (mC (.bool true)) mNil))))))) mNil)))) mNil))))))) mNil))) (sRet (mBin gEq (mVar 7) (mFrz (mLst (mCons (mC (.str "teams")) (mCons (mC (.str "number")) (mCons (mC (.str "number")) (mCons (mC (.str "number")) (mCons (mC (.str "stand")) (mCons (mC (.str "stand")) (mCons (mC (.str "time")) mNil)))))))))))))))))))))
def bd_law : M Fl := (sSeq (sSetO 1 (asO (callR0 1 bd__law_hand 3 (mCons (mVar 0) mNil)))) (sSeq (sFor (mRange1 (mCons (mC (.int 4)) mNil)) (gNm 2) (sSeq (sSet 13 (mCall gTup (mCons (mFrz (mLc [14] (mRange1 (mCons (mBin gAddA (mC (.int 1)) (asD (callR1 2 bd__law_draw 5 0 (mCons (mVar 1) (mCons (mC (.int 4)) mNil))))) mNil)) (gNm 14) mYes (asD (callR1 1 bd__law_team 1 0 (mCons (mVar 1) mNil))))) mNil))) (sSeq (sAsg (gTp 2 (gCons' (gNm 11) (gCons' (gNm 12) gNil'))) (mTup (mCons (asD (callR1 2 bd__law_draw 5 0 (mCons (mVar 1) (mCons (mC (.int 12)) mNil)))) (mCons (asD (callR1 2 bd__law_draw 5 0 (mCons (mVar 1) (mCons (mC (.int 20)) mNil)))) mNil)))) (sSeq (sSet 10 (asD (callR0 3 bd__law_lacking 6 (mCons (mVar 13) (mCons (mVar 11) (mCons (mVar 12) mNil)))))) (sSeq (sIf (mTB (mBin gNe (asD (callR0 3 bd_lacking_minutes 3 (mCons (mVar 13) (mCons (mVar 11) (mCons (mVar 12) mNil))))) (mVar 10))) (sRet (mC (.bool false))) sNext) (sSeq (sIf (mTB (mBin gNe (asD (callR0 3 bd_turns_for_ever 4 (mCons (mVar 13) (mCons (mVar 11) (mCons (mVar 12) mNil))))) (mAndV (mBin gIsNot (mVar 10) (mC .none)) (mBin gEq (mCall gMaxA (mCons (mVar 10) mNil)) (mC (.int 0)))))) (sRet (mC (.bool false))) sNext) (sSeq (sSet 9 (asD (callR0 3 bd_lacking_minutes 3 (mCons (mBin gAddA (mVar 13) (mTup (mCons (mTup (mCons (mC (.int 90)) (mCons (mC (.int 3)) (mCons (mC (.int 2)) mNil)))) mNil))) (mCons (mVar 11) (mCons (mVar 12) mNil)))))) (sSeq (sIf (mAnd (mTB (mBin gIsNot (mVar 10) (mC .none))) (mNot (mTst (mCall gAllA (mCons (mFrz (mLc [17, 18] (mZip (mCons (mVar 10) (mCons (mVar 9) mNil))) (gTp 2 (gCons' (gNm 17) (gCons' (gNm 18) gNil'))) mYes (mBin gGe (mVar 17) (mVar 18)))) mNil))))) (sRet (mC (.bool false))) sNext) (sSeq (sPar2 8 7 (vO (mLstRg (mCall gLen (mCons (mVar 13) mNil))) (vO (mLst mNil) vNil))) (sSeq (whileN (mAnd (mTB (mBin gNe (mVar 8) (mFrz (mLst mNil)))) (mTB (mBin gGt (asD (callR1 2 bd__law_draw 5 0 (mCons (mVar 1) (mCons (mC (.int 4)) mNil)))) (mC (.int 0))))) (sDrop (mMeth 7 fAppend (mCons (mTup (mCons (mMeth 8 fPop (mCons (asD (callR1 2 bd__law_draw 5 0 (mCons (mVar 1) (mCons (mCall gLen (mCons (mVar 8) mNil)) mNil)))) mNil)) (mCons (asD (callR1 2 bd__law_draw 5 0 (mCons (mVar 1) (mCons (mC (.int 30)) mNil)))) mNil))) mNil))) 64) (sSeq (sSet 7 (mCall gTup (mCons (mVar 7) mNil))) (sSeq (sSet 6 (mBin gAddA (mCall gMaxA (mCons (mBin gAddA (mFrz (mLst (mCons (mC (.int 0)) mNil))) (mFrz (mLc [14, 15] (mSrcV 7) (gTp 2 (gCons' (gNm 14) (gCons' (gNm 15) gNil'))) mYes (mVar 15)))) mNil)) (asD (callR1 2 bd__law_draw 5 0 (mCons (mVar 1) (mCons (mC (.int 25)) mNil)))))) (sSeq (sIf (mTB (mBin gNe (asD (callR0 4 bd_board_told 6 (mCons (mVar 13) (mCons (mVar 11) (mCons (mVar 7) (mCons (mVar 6) mNil)))))) (asD (callR0 4 bd__law_board 11 (mCons (mVar 13) (mCons (mVar 11) (mCons (mVar 7) (mCons (mVar 6) mNil)))))))) (sRet (mC (.bool false))) sNext) (sSeq (sSetO 5 (mLc [14, 15] (mSrcV 7) (gTp 2 (gCons' (gNm 14) (gCons' (gNm 15) gNil'))) mYes (mTup (mCons (mVar 14) (mCons (asD (callR0 2 bd__law_turn 4 (mCons (mBin gIx (mVar 13) (mVar 14)) (mCons (mVar 11) mNil)))) (mCons (mVar 15) mNil)))))) (sSeq (sSet 3 (mC .none)) (sSeq (sIf (mAnd (mTB (mBin gNe (mVar 7) (mTup mNil))) (mNot (mTst (mCall gAnyA (mCons (mFrz (mLc [14, 16, 15] (mItems (mVar 5)) (gTp 3 (gCons' (gNm 14) (gCons' (gNm 16) (gCons' (gNm 15) gNil')))) mYes (mBin gIs (mVar 16) (mC .none)))) mNil))))) (sSeq (sSet 4 (mCall gMinA (mCons (mFrz (mLc [14, 16, 15] (mItems (mVar 5)) (gTp 3 (gCons' (gNm 14) (gCons' (gNm 16) (gCons' (gNm 15) gNil')))) mYes (mBin gAddA (mVar 16) (mVar 15)))) mNil))) (sSet 3 (mTup (mCons (mVar 4) (mCons (mCall gTup (mCons (mFrz (mCallL gSorted (mCons (mFrz (mLc [14, 16, 15] (mItems (mVar 5)) (gTp 3 (gCons' (gNm 14) (gCons' (gNm 16) (gCons' (gNm 15) gNil')))) (mTB (mBin gEq (mBin gAddA (mVar 16) (mVar 15)) (mVar 4))) (mVar 14))) mNil))) mNil)) mNil))))) sNext) (sSeq (sIf (mTB (mBin gNe (asD (callR0 3 bd_next_to_turn 10 (mCons (mVar 13) (mCons (mVar 11) (mCons (mVar 7) mNil))))) (mVar 3))) (sRet (mC (.bool false))) sNext) (sIf (mNot (mTst (asD (callR1 3 bd__law_refused_right 8 0 (mCons (mVar 1) (mCons (mVar 13) (mCons (mVar 11) mNil))))))) (sRet (mC (.bool false))) sNext)))))))))))))))))) (sSeq (sSet 13 (mTup (mCons (mTup (mCons (mC (.int 100)) (mCons (mC (.int 5)) (mCons (mC (.int 4)) mNil)))) mNil))) (sSeq (sIf (mTB (mBin gNe (asD (callR0 4 bd_board_told 6 (mCons (mVar 13) (mCons (mC (.int 20)) (mCons (mTup (mCons (mTup (mCons (mC (.int 0)) (mCons (mC (.int 3)) mNil))) mNil)) (mCons (mC (.int 15)) mNil)))))) (mTup (mCons (mTup (mCons (mC (.int 40)) (mCons (mC (.int 0)) (mCons (mC (.str "turn")) mNil)))) mNil)))) (sRet (mC (.bool false))) sNext) (sRet (mBin gEq (asD (callR0 3 bd_next_to_turn 10 (mCons (mVar 13) (mCons (mC (.int 20)) (mCons (mTup (mCons (mTup (mCons (mC (.int 0)) (mCons (mC (.int 3)) mNil))) mNil)) mNil))))) (mTup (mCons (mC (.int 15)) (mCons (mTup (mCons (mC (.int 0)) mNil)) mNil)))))))))
section
variable {P : Program} {w : World} {K : PySem.W.Frag} {mg : Str → Option Value} {base : Heap} {T : List (Addr × Str)}
theorem sc_is_integer : FnScope ["thing"] ["thing"] (defScope (top 1)) := ⟨rfl, rfl, rfl, by decide +kernel, rfl, by decide +kernel, by decide +kernel⟩
theorem w_is_integer (L : Lw K mg frL isL ssL xsL)  (f : Addr) (cdv : Value) (A : Around) (outer : List Env) (s : Shared) (H : Hp) (E : XK) (hr : Room 0 (A.deeper (envOfC "is_integer" (defScope (top 1)) s.heap.objs.size f cdv))) : DSs (bodyCx P w K mg base ["thing"] "is_integer" (defScope (top 1)) f cdv A outer s H E) T (fun cls d _ H => E cls d H) (defBody (top 1)) bd_is_integer :=
  (dss_one (ds_ret (de_and (de_isi kit_int (de_var rfl (vis_b rfl)) rfl (L.fr 0 _ rfl) rfl (L.fr 1 _ rfl) rfl) (de_one (de_not (de_isi kit_bool (de_var rfl (vis_b rfl)) rfl (L.fr 0 _ rfl) rfl (L.fr 2 _ rfl) rfl))))))
theorem sc_is_within : FnScope ["thing", "low", "high"] ["thing", "low", "high"] (defScope (top 2)) := ⟨rfl, rfl, rfl, by decide +kernel, rfl, by decide +kernel, by decide +kernel⟩
theorem w_is_within (L : Lw K mg frL isL ssL xsL) (F_is_integer : FnD P w K mg base T 1 "is_integer" 1 ["thing"] bd_is_integer) (f : Addr) (cdv : Value) (A : Around) (outer : List Env) (s : Shared) (H : Hp) (E : XK) (hr : Room 1 (A.deeper (envOfC "is_within" (defScope (top 2)) s.heap.objs.size f cdv))) : DSs (bodyCx P w K mg base ["thing", "low", "high"] "is_within" (defScope (top 2)) f cdv A outer s H E) T (fun cls d _ H => E cls d H) (defBody (top 2)) bd_is_within :=
  (dss_one (ds_ret (de_and (de_v (dv_call0 (FnD.mono (k := 1) F_is_integer (by decide)) hr (takes_of rfl rfl rfl rfl) rfl (da_cons (de_var rfl (vis_b rfl)) da_nil))) (de_one (de_chn o_le o_le (de_var rfl (vis_b rfl)) (de_var rfl (vis_b rfl)) (de_var rfl (vis_b rfl)))))))
theorem sc_is_sized : FnScope ["thing", "low", "high"] ["thing", "low", "high"] (defScope (top 3)) := ⟨rfl, rfl, rfl, by decide +kernel, rfl, by decide +kernel, by decide +kernel⟩
theorem w_is_sized (L : Lw K mg frL isL ssL xsL)  (f : Addr) (cdv : Value) (A : Around) (outer : List Env) (s : Shared) (H : Hp) (E : XK) (hr : Room 0 (A.deeper (envOfC "is_sized" (defScope (top 3)) s.heap.objs.size f cdv))) : DSs (bodyCx P w K mg base ["thing", "low", "high"] "is_sized" (defScope (top 3)) f cdv A outer s H E) T (fun cls d _ H => E cls d H) (defBody (top 3)) bd_is_sized :=
  (dss_one (ds_ret (de_and (de_isi kit_tuple (de_var rfl (vis_b rfl)) rfl (L.fr 0 _ rfl) rfl (L.fr 3 _ rfl) rfl) (de_one (de_chn o_le o_le (de_var rfl (vis_b rfl)) (de_callB c_len rfl (L.fr 4 _ rfl) (by decide +kernel) (da_cons (de_var rfl (vis_b rfl)) da_nil)) (de_var rfl (vis_b rfl)))))))
theorem sc_is_team : FnScope ["thing"] ["thing"] (defScope (top 18)) := ⟨rfl, rfl, rfl, by decide +kernel, rfl, by decide +kernel, by decide +kernel⟩
theorem w_is_team (L : Lw K mg frL isL ssL xsL) (F_is_within : FnD P w K mg base T 2 "is_within" 3 ["thing", "low", "high"] bd_is_within) (F_is_sized : FnD P w K mg base T 1 "is_sized" 3 ["thing", "low", "high"] bd_is_sized) (f : Addr) (cdv : Value) (A : Around) (outer : List Env) (s : Shared) (H : Hp) (E : XK) (hr : Room 2 (A.deeper (envOfC "is_team" (defScope (top 18)) s.heap.objs.size f cdv))) : DSs (bodyCx P w K mg base ["thing"] "is_team" (defScope (top 18)) f cdv A outer s H E) T (fun cls d _ H => E cls d H) (defBody (top 18)) bd_is_team :=
  (dss_cons (ds_if (dt_w (dw_or (dt_not (dt_tru (de_v (dv_call0 (FnD.mono (k := 2) F_is_sized (by decide)) hr (takes_of rfl rfl rfl rfl) rfl (da_cons (de_var rfl (vis_b rfl)) (da_cons de_int (da_cons de_int da_nil))))))) (dw_or (dt_not (dt_tru (de_v (dv_call0 (FnD.mono (k := 2) F_is_within (by decide)) hr (takes_of rfl rfl rfl rfl) rfl (da_cons (de_ix (de_var rfl (vis_b rfl)) de_int) (da_cons de_int (da_cons (de_globI rfl (L.is 0 _ _ rfl)) da_nil))))))) (dw_or1 (dt_not (dt_tru (de_v (dv_call0 (FnD.mono (k := 2) F_is_within (by decide)) hr (takes_of rfl rfl rfl rfl) rfl (da_cons (de_ix (de_var rfl (vis_b rfl)) de_int) (da_cons de_int (da_cons (de_globI rfl (L.is 1 _ _ rfl)) da_nil))))))))))) (dss_one (ds_ret de_bl)) dss_nil) (dss_one (ds_ret (de_v (dv_call0 (FnD.mono (k := 2) F_is_within (by decide)) hr (takes_of rfl rfl rfl rfl) rfl (da_cons (de_ix (de_var rfl (vis_b rfl)) de_int) (da_cons de_int (da_cons (de_globI rfl (L.is 2 _ _ rfl)) da_nil))))))))
theorem sc_check_spare : FnScope ["spare"] ["spare"] (defScope (top 19)) := ⟨rfl, rfl, rfl, by decide +kernel, rfl, by decide +kernel, by decide +kernel⟩
theorem w_check_spare (L : Lw K mg frL isL ssL xsL) (F_is_within : FnD P w K mg base T 2 "is_within" 3 ["thing", "low", "high"] bd_is_within) (f : Addr) (cdv : Value) (A : Around) (outer : List Env) (s : Shared) (H : Hp) (E : XK) (hr : Room 2 (A.deeper (envOfC "check_spare" (defScope (top 19)) s.heap.objs.size f cdv))) : DSs (bodyCx P w K mg base ["spare"] "check_spare" (defScope (top 19)) f cdv A outer s H E) T (fun cls d _ H => E cls d H) (defBody (top 19)) bd_check_spare :=
  (dss_one (ds_if (dt_not (dt_tru (de_v (dv_call0 (FnD.mono (k := 2) F_is_within (by decide)) hr (takes_of rfl rfl rfl rfl) rfl (da_cons (de_var rfl (vis_b rfl)) (da_cons de_int (da_cons (de_globI rfl (L.is 3 _ _ rfl)) da_nil))))))) (dss_one (ds_raise0 (L.xs 1 _ rfl) rfl rfl (takes_of rfl rfl rfl rfl))) dss_nil))
theorem sc_check_teams : FnScope ["teams", "spare", "team"] ["teams", "spare"] (defScope (top 20)) := ⟨rfl, rfl, rfl, by decide +kernel, rfl, by decide +kernel, by decide +kernel⟩
theorem w_check_teams (L : Lw K mg frL isL ssL xsL) (F_is_sized : FnD P w K mg base T 1 "is_sized" 3 ["thing", "low", "high"] bd_is_sized) (F_is_team : FnD P w K mg base T 3 "is_team" 1 ["thing"] bd_is_team) (F_check_spare : FnD P w K mg base T 3 "check_spare" 1 ["spare"] bd_check_spare) (f : Addr) (cdv : Value) (A : Around) (outer : List Env) (s : Shared) (H : Hp) (E : XK) (hr : Room 3 (A.deeper (envOfC "check_teams" (defScope (top 20)) s.heap.objs.size f cdv))) : DSs (bodyCx P w K mg base ["teams", "spare", "team"] "check_teams" (defScope (top 20)) f cdv A outer s H E) T (fun cls d _ H => E cls d H) (defBody (top 20)) bd_check_teams :=
  (dss_cons (ds_if (dt_w (dw_or (dt_not (dt_tru (de_v (dv_call0 (FnD.mono (k := 3) F_is_sized (by decide)) hr (takes_of rfl rfl rfl rfl) rfl (da_cons (de_var rfl (vis_b rfl)) (da_cons de_int (da_cons (de_globI rfl (L.is 4 _ _ rfl)) da_nil))))))) (dw_or1 (dt_not (dt_tru (de_callB (c_allA rfl) rfl (L.fr 5 _ rfl) (by decide +kernel) (da_cons (de_frz (do_lc (own := [("team", 2)]) rfl sc_check_teams.nd (di_seq (de_var rfl (vis_b rfl))) (blkOk_by rfl) ⟨fun s H C cl fp => (dg_nm sc_check_teams.nd rfl (loc_b rfl) (by decide)), fun s H C cl fp => dts_nil, fun s H C cl fp => (de_v (dv_call0 (FnD.mono (k := 3) F_is_team (by decide)) hr LamX.takes0 rfl (da_cons (de_var rfl (vis_b rfl)) da_nil)))⟩ noj_items)) da_nil))))))) (dss_one (ds_raise0 (L.xs 3 _ rfl) rfl rfl (takes_of rfl rfl rfl rfl))) dss_nil) (dss_one (ds_drop (de_v (dv_call0 (FnD.mono (k := 3) F_check_spare (by decide)) hr (takes_of rfl rfl rfl rfl) rfl (da_cons (de_var rfl (vis_b rfl)) da_nil))))))
theorem sc_raw_air_left : FnScope ["team", "minutes"] ["team", "minutes"] (defScope (top 21)) := ⟨rfl, rfl, rfl, by decide +kernel, rfl, by decide +kernel, by decide +kernel⟩
theorem w_raw_air_left (L : Lw K mg frL isL ssL xsL)  (f : Addr) (cdv : Value) (A : Around) (outer : List Env) (s : Shared) (H : Hp) (E : XK) (hr : Room 0 (A.deeper (envOfC "raw_air_left" (defScope (top 21)) s.heap.objs.size f cdv))) : DSs (bodyCx P w K mg base ["team", "minutes"] "raw_air_left" (defScope (top 21)) f cdv A outer s H E) T (fun cls d _ H => E cls d H) (defBody (top 21)) bd_raw_air_left :=
  (dss_one (ds_ret (de_callB (c_maxA rfl (rm2 hr)) rfl (L.fr 6 _ rfl) (by decide +kernel) (da_cons de_int (da_cons (de_bin o_sub (de_ix (de_var rfl (vis_b rfl)) de_int) (de_binA o_mul o_rep (de_ix (de_var rfl (vis_b rfl)) de_int) (de_var rfl (vis_b rfl)))) da_nil)))))
theorem sc_raw_stay : FnScope ["team", "spare", "units", "use", "way", "minutes"] ["team", "spare"] (defScope (top 22)) := ⟨rfl, rfl, rfl, by decide +kernel, rfl, by decide +kernel, by decide +kernel⟩
theorem w_raw_stay (L : Lw K mg frL isL ssL xsL)  (f : Addr) (cdv : Value) (A : Around) (outer : List Env) (s : Shared) (H : Hp) (E : XK) (hr : Room 0 (A.deeper (envOfC "raw_stay" (defScope (top 22)) s.heap.objs.size f cdv))) : DSs (bodyCx P w K mg base ["team", "spare", "units", "use", "way", "minutes"] "raw_stay" (defScope (top 22)) f cdv A outer s H E) T (fun cls d _ H => E cls d H) (defBody (top 22)) bd_raw_stay :=
  (dss_cons (ds_asg (vs := [2, 3, 4]) (de_var rfl (vis_b rfl)) (dg_tp rfl (dgs_cons (dg_nm sc_raw_stay.nd rfl (loc_b rfl) (by decide)) (dgs_cons (dg_nm sc_raw_stay.nd rfl (loc_b rfl) (by decide)) (dgs_cons (dg_nm sc_raw_stay.nd rfl (loc_b rfl) (by decide)) dgs_nil))))) (dss_cons (ds_set sc_raw_stay.nd rfl (loc_b rfl) (de_bin o_sub (de_bin o_div (de_bin o_sub (de_var rfl (vis_b rfl)) (de_var rfl (vis_b rfl))) (de_var rfl (vis_b rfl))) (de_binA o_mul o_rep de_int (de_var rfl (vis_b rfl))))) (dss_one (ds_ret (de_if (dt_cmp o_lt (de_var rfl (vis_b rfl)) de_int (nomark _)) de_non (de_var rfl (vis_b rfl)))))))
theorem sc_stays_of : FnScope ["teams", "spare", "found", "team", "stay"] ["teams", "spare"] (defScope (top 23)) := ⟨rfl, rfl, rfl, by decide +kernel, rfl, by decide +kernel, by decide +kernel⟩
theorem w_stays_of (L : Lw K mg frL isL ssL xsL) (F_raw_stay : FnD P w K mg base T 1 "raw_stay" 2 ["team", "spare", "units", "use", "way", "minutes"] bd_raw_stay) (f : Addr) (cdv : Value) (A : Around) (outer : List Env) (s : Shared) (H : Hp) (E : XK) (hr : Room 1 (A.deeper (envOfC "stays_of" (defScope (top 23)) s.heap.objs.size f cdv))) : DSs (bodyCx P w K mg base ["teams", "spare", "found", "team", "stay"] "stays_of" (defScope (top 23)) f cdv A outer s H E) T (fun cls d _ H => E cls d H) (defBody (top 23)) bd_stays_of :=
  (dss_cons (ds_setO sc_stays_of.nd rfl (loc_b rfl) (do_lst da_nil)) (dss_cons (ds_for (vs := [3]) (passes_of rfl) rfl (di_seq (de_var rfl (vis_b rfl))) (dg_nm sc_stays_of.nd rfl (loc_b rfl) (by decide)) (dss_cons (ds_set sc_stays_of.nd rfl (loc_b rfl) (de_v (dv_call0 (FnD.mono (k := 1) F_raw_stay (by decide)) hr (takes_of rfl rfl rfl rfl) rfl (da_cons (de_var rfl (vis_b rfl)) (da_cons (de_var rfl (vis_b rfl)) da_nil))))) (dss_one (ds_drop (de_meth F.slot_list_append m_append rfl (vis_b rfl) (da_cons (de_if (dt_cmp o_is (de_var rfl (vis_b rfl)) de_non (nomark _)) de_int (de_var rfl (vis_b rfl))) da_nil)))))) (dss_one (ds_ret (de_var rfl (vis_b rfl))))))
theorem sc_check_pause_of : FnScope ["pause"] ["pause"] (defScope (top 24)) := ⟨rfl, rfl, rfl, by decide +kernel, rfl, by decide +kernel, by decide +kernel⟩
theorem w_check_pause_of (L : Lw K mg frL isL ssL xsL) (F_is_within : FnD P w K mg base T 2 "is_within" 3 ["thing", "low", "high"] bd_is_within) (f : Addr) (cdv : Value) (A : Around) (outer : List Env) (s : Shared) (H : Hp) (E : XK) (hr : Room 2 (A.deeper (envOfC "check_pause_of" (defScope (top 24)) s.heap.objs.size f cdv))) : DSs (bodyCx P w K mg base ["pause"] "check_pause_of" (defScope (top 24)) f cdv A outer s H E) T (fun cls d _ H => E cls d H) (defBody (top 24)) bd_check_pause_of :=
  (dss_one (ds_if (dt_not (dt_tru (de_v (dv_call0 (FnD.mono (k := 2) F_is_within (by decide)) hr (takes_of rfl rfl rfl rfl) rfl (da_cons (de_var rfl (vis_b rfl)) (da_cons de_int (da_cons (de_globI rfl (L.is 5 _ _ rfl)) da_nil))))))) (dss_one (ds_raise0 (L.xs 1 _ rfl) rfl rfl (takes_of rfl rfl rfl rfl))) dss_nil))
theorem sc_raw_lacking : FnScope ["teams", "spare", "pause", "stays", "team", "stay"] ["teams", "spare", "pause"] (defScope (top 25)) := ⟨rfl, rfl, rfl, by decide +kernel, rfl, by decide +kernel, by decide +kernel⟩
theorem w_raw_lacking (L : Lw K mg frL isL ssL xsL) (F_stays_of : FnD P w K mg base T 2 "stays_of" 2 ["teams", "spare", "found", "team", "stay"] bd_stays_of) (f : Addr) (cdv : Value) (A : Around) (outer : List Env) (s : Shared) (H : Hp) (E : XK) (hr : Room 2 (A.deeper (envOfC "raw_lacking" (defScope (top 25)) s.heap.objs.size f cdv))) : DSs (bodyCx P w K mg base ["teams", "spare", "pause", "stays", "team", "stay"] "raw_lacking" (defScope (top 25)) f cdv A outer s H E) T (fun cls d _ H => E cls d H) (defBody (top 25)) bd_raw_lacking :=
  (dss_cons (ds_set sc_raw_lacking.nd rfl (loc_b rfl) (de_v (dv_call0 (FnD.mono (k := 2) F_stays_of (by decide)) hr (takes_of rfl rfl rfl rfl) rfl (da_cons (de_var rfl (vis_b rfl)) (da_cons (de_var rfl (vis_b rfl)) da_nil))))) (dss_cons (ds_if (dt_cmp (o_in (rm2 hr)) de_int (de_var rfl (vis_b rfl)) (by rfl)) (dss_one (ds_ret de_non)) dss_nil) (dss_one (ds_ret (de_callTy c_tup rfl (L.fr 3 _ rfl) (by decide +kernel) (da_cons (de_frz (do_lc (own := [("team", 4), ("stay", 5)]) rfl sc_raw_lacking.nd (di_zip rfl (L.fr 7 _ rfl) (da_cons (de_var rfl (vis_b rfl)) (da_cons (de_var rfl (vis_b rfl)) da_nil))) (blkOk_by rfl) ⟨fun s H C cl fp => (dg_tp rfl (dgs_cons (dg_nm sc_raw_lacking.nd rfl (loc_b rfl) (by decide)) (dgs_cons (dg_nm sc_raw_lacking.nd rfl (loc_b rfl) (by decide)) dgs_nil))), fun s H C cl fp => dts_nil, fun s H C cl fp => (de_callB (c_maxA rfl (rm2 hr)) rfl (L.fr 6 _ rfl) (by decide +kernel) (da_cons de_int (da_cons (de_binA o_add o_cat (de_bin o_sub (de_binA o_add o_cat (de_binA o_mul o_rep de_int (de_ix (de_var rfl (vis_b rfl)) de_int)) (de_var rfl (vis_b rfl))) (de_callB (c_sum rfl) rfl (L.fr 8 _ rfl) (by decide +kernel) (da_cons (de_var rfl (vis_b rfl)) da_nil))) (de_var rfl (vis_b rfl))) da_nil)))⟩ noj_zip)) da_nil))))))
theorem sc_lacking_minutes : FnScope ["teams", "spare", "pause"] ["teams", "spare", "pause"] (defScope (top 26)) := ⟨rfl, rfl, rfl, by decide +kernel, rfl, by decide +kernel, by decide +kernel⟩
theorem w_lacking_minutes (L : Lw K mg frL isL ssL xsL) (F_check_teams : FnD P w K mg base T 4 "check_teams" 2 ["teams", "spare", "team"] bd_check_teams) (F_check_pause_of : FnD P w K mg base T 3 "check_pause_of" 1 ["pause"] bd_check_pause_of) (F_raw_lacking : FnD P w K mg base T 3 "raw_lacking" 3 ["teams", "spare", "pause", "stays", "team", "stay"] bd_raw_lacking) (f : Addr) (cdv : Value) (A : Around) (outer : List Env) (s : Shared) (H : Hp) (E : XK) (hr : Room 4 (A.deeper (envOfC "lacking_minutes" (defScope (top 26)) s.heap.objs.size f cdv))) : DSs (bodyCx P w K mg base ["teams", "spare", "pause"] "lacking_minutes" (defScope (top 26)) f cdv A outer s H E) T (fun cls d _ H => E cls d H) (defBody (top 26)) bd_lacking_minutes :=
  (dss_cons (ds_drop (de_v (dv_call0 (FnD.mono (k := 4) F_check_teams (by decide)) hr (takes_of rfl rfl rfl rfl) rfl (da_cons (de_var rfl (vis_b rfl)) (da_cons (de_var rfl (vis_b rfl)) da_nil))))) (dss_cons (ds_drop (de_v (dv_call0 (FnD.mono (k := 4) F_check_pause_of (by decide)) hr (takes_of rfl rfl rfl rfl) rfl (da_cons (de_var rfl (vis_b rfl)) da_nil)))) (dss_one (ds_ret (de_v (dv_call0 (FnD.mono (k := 4) F_raw_lacking (by decide)) hr (takes_of rfl rfl rfl rfl) rfl (da_cons (de_var rfl (vis_b rfl)) (da_cons (de_var rfl (vis_b rfl)) (da_cons (de_var rfl (vis_b rfl)) da_nil)))))))))
theorem sc_turns_for_ever : FnScope ["teams", "spare", "pause", "lacks"] ["teams", "spare", "pause"] (defScope (top 27)) := ⟨rfl, rfl, rfl, by decide +kernel, rfl, by decide +kernel, by decide +kernel⟩
theorem w_turns_for_ever (L : Lw K mg frL isL ssL xsL) (F_check_teams : FnD P w K mg base T 4 "check_teams" 2 ["teams", "spare", "team"] bd_check_teams) (F_check_pause_of : FnD P w K mg base T 3 "check_pause_of" 1 ["pause"] bd_check_pause_of) (F_raw_lacking : FnD P w K mg base T 3 "raw_lacking" 3 ["teams", "spare", "pause", "stays", "team", "stay"] bd_raw_lacking) (f : Addr) (cdv : Value) (A : Around) (outer : List Env) (s : Shared) (H : Hp) (E : XK) (hr : Room 4 (A.deeper (envOfC "turns_for_ever" (defScope (top 27)) s.heap.objs.size f cdv))) : DSs (bodyCx P w K mg base ["teams", "spare", "pause", "lacks"] "turns_for_ever" (defScope (top 27)) f cdv A outer s H E) T (fun cls d _ H => E cls d H) (defBody (top 27)) bd_turns_for_ever :=
  (dss_cons (ds_drop (de_v (dv_call0 (FnD.mono (k := 4) F_check_teams (by decide)) hr (takes_of rfl rfl rfl rfl) rfl (da_cons (de_var rfl (vis_b rfl)) (da_cons (de_var rfl (vis_b rfl)) da_nil))))) (dss_cons (ds_drop (de_v (dv_call0 (FnD.mono (k := 4) F_check_pause_of (by decide)) hr (takes_of rfl rfl rfl rfl) rfl (da_cons (de_var rfl (vis_b rfl)) da_nil)))) (dss_cons (ds_set sc_turns_for_ever.nd rfl (loc_b rfl) (de_v (dv_call0 (FnD.mono (k := 4) F_raw_lacking (by decide)) hr (takes_of rfl rfl rfl rfl) rfl (da_cons (de_var rfl (vis_b rfl)) (da_cons (de_var rfl (vis_b rfl)) (da_cons (de_var rfl (vis_b rfl)) da_nil)))))) (dss_one (ds_ret (de_and (de_cmp o_isnot (de_var rfl (vis_b rfl)) de_non (nomark _)) (de_one (de_not (de_callB (c_anyA rfl) rfl (L.fr 9 _ rfl) (by decide +kernel) (da_cons (de_var rfl (vis_b rfl)) da_nil))))))))))
theorem sc_check_board : FnScope ["teams", "board", "number", "minute", "pair"] ["teams", "board"] (defScope (top 28)) := ⟨rfl, rfl, rfl, by decide +kernel, rfl, by decide +kernel, by decide +kernel⟩
theorem w_check_board (L : Lw K mg frL isL ssL xsL) (F_is_within : FnD P w K mg base T 2 "is_within" 3 ["thing", "low", "high"] bd_is_within) (F_is_sized : FnD P w K mg base T 1 "is_sized" 3 ["thing", "low", "high"] bd_is_sized) (f : Addr) (cdv : Value) (A : Around) (outer : List Env) (s : Shared) (H : Hp) (E : XK) (hr : Room 2 (A.deeper (envOfC "check_board" (defScope (top 28)) s.heap.objs.size f cdv))) : DSs (bodyCx P w K mg base ["teams", "board", "number", "minute", "pair"] "check_board" (defScope (top 28)) f cdv A outer s H E) T (fun cls d _ H => E cls d H) (defBody (top 28)) bd_check_board :=
  (dss_cons (ds_if (dt_w (dw_or (dt_not (dt_tru (de_v (dv_call0 (FnD.mono (k := 2) F_is_sized (by decide)) hr (takes_of rfl rfl rfl rfl) rfl (da_cons (de_var rfl (vis_b rfl)) (da_cons de_int (da_cons (de_callB c_len rfl (L.fr 4 _ rfl) (by decide +kernel) (da_cons (de_var rfl (vis_b rfl)) da_nil)) da_nil))))))) (dw_or1 (dt_not (dt_tru (de_callB (c_allA rfl) rfl (L.fr 5 _ rfl) (by decide +kernel) (da_cons (de_frz (do_lc (own := [("pair", 4)]) rfl sc_check_board.nd (di_seq (de_var rfl (vis_b rfl))) (blkOk_by rfl) ⟨fun s H C cl fp => (dg_nm sc_check_board.nd rfl (loc_b rfl) (by decide)), fun s H C cl fp => dts_nil, fun s H C cl fp => (de_v (dv_call0 (FnD.mono (k := 2) F_is_sized (by decide)) hr LamX.takes0 rfl (da_cons (de_var rfl (vis_b rfl)) (da_cons de_int (da_cons de_int da_nil)))))⟩ noj_items)) da_nil))))))) (dss_one (ds_raise0 (L.xs 2 _ rfl) rfl rfl (takes_of rfl rfl rfl rfl))) dss_nil) (dss_cons (ds_for (vs := [2, 3]) (passes_of rfl) rfl (di_seq (de_var rfl (vis_b rfl))) (dg_tp rfl (dgs_cons (dg_nm sc_check_board.nd rfl (loc_b rfl) (by decide)) (dgs_cons (dg_nm sc_check_board.nd rfl (loc_b rfl) (by decide)) dgs_nil))) (dss_one (ds_if (dt_w (dw_or (dt_not (dt_tru (de_v (dv_call0 (FnD.mono (k := 2) F_is_within (by decide)) hr (takes_of rfl rfl rfl rfl) rfl (da_cons (de_var rfl (vis_b rfl)) (da_cons de_int (da_cons (de_bin o_sub (de_callB c_len rfl (L.fr 4 _ rfl) (by decide +kernel) (da_cons (de_var rfl (vis_b rfl)) da_nil)) de_int) da_nil))))))) (dw_or1 (dt_not (dt_tru (de_v (dv_call0 (FnD.mono (k := 2) F_is_within (by decide)) hr (takes_of rfl rfl rfl rfl) rfl (da_cons (de_var rfl (vis_b rfl)) (da_cons de_int (da_cons (de_globI rfl (L.is 6 _ _ rfl)) da_nil)))))))))) (dss_one (ds_raise0 (L.xs 2 _ rfl) rfl rfl (takes_of rfl rfl rfl rfl))) dss_nil))) (dss_one (ds_if (dt_cmp (o_ne (rm1 hr)) (de_lenDc (own := [("pair", 4)]) (cv := .bl true) rfl sc_check_board.nd rfl (L.fr 4 _ rfl) (di_seq (de_var rfl (vis_b rfl))) (blkOk_by rfl) ⟨fun s H C cl fp => (dg_nm sc_check_board.nd rfl (loc_b rfl) (by decide)), fun s H C cl fp => dts_nil, fun s H C cl fp => (de_ix (de_var rfl (vis_b rfl)) de_int)⟩ noj_items (fun s H C cl fp => pe_bl)) (de_callB c_len rfl (L.fr 4 _ rfl) (by decide +kernel) (da_cons (de_var rfl (vis_b rfl)) da_nil)) (nomark _)) (dss_one (ds_raise0 (L.xs 2 _ rfl) rfl rfl (takes_of rfl rfl rfl rfl))) dss_nil))))
theorem sc_board_row : FnScope ["team", "spare", "gone", "stay", "left", "word"] ["team", "spare", "gone"] (defScope (top 29)) := ⟨rfl, rfl, rfl, by decide +kernel, rfl, by decide +kernel, by decide +kernel⟩
theorem w_board_row (L : Lw K mg frL isL ssL xsL) (F_raw_air_left : FnD P w K mg base T 1 "raw_air_left" 2 ["team", "minutes"] bd_raw_air_left) (F_raw_stay : FnD P w K mg base T 1 "raw_stay" 2 ["team", "spare", "units", "use", "way", "minutes"] bd_raw_stay) (f : Addr) (cdv : Value) (A : Around) (outer : List Env) (s : Shared) (H : Hp) (E : XK) (hr : Room 1 (A.deeper (envOfC "board_row" (defScope (top 29)) s.heap.objs.size f cdv))) : DSs (bodyCx P w K mg base ["team", "spare", "gone", "stay", "left", "word"] "board_row" (defScope (top 29)) f cdv A outer s H E) T (fun cls d _ H => E cls d H) (defBody (top 29)) bd_board_row :=
  (dss_cons (ds_set sc_board_row.nd rfl (loc_b rfl) (de_v (dv_call0 (FnD.mono (k := 1) F_raw_stay (by decide)) hr (takes_of rfl rfl rfl rfl) rfl (da_cons (de_var rfl (vis_b rfl)) (da_cons (de_var rfl (vis_b rfl)) da_nil))))) (dss_cons (ds_if (dt_cmp o_is (de_var rfl (vis_b rfl)) de_non (nomark _)) (dss_one (ds_ret (de_tup (da_cons (de_v (dv_call0 (FnD.mono (k := 1) F_raw_air_left (by decide)) hr (takes_of rfl rfl rfl rfl) rfl (da_cons (de_var rfl (vis_b rfl)) (da_cons (de_var rfl (vis_b rfl)) da_nil)))) (da_cons de_int (da_cons de_str da_nil)))))) dss_nil) (dss_cons (ds_set sc_board_row.nd rfl (loc_b rfl) (de_bin o_sub (de_binA o_add o_cat (de_ix (de_var rfl (vis_b rfl)) de_int) (de_var rfl (vis_b rfl))) (de_var rfl (vis_b rfl)))) (dss_cons (ds_set sc_board_row.nd rfl (loc_b rfl) (de_if (dt_cmp o_gt (de_var rfl (vis_b rfl)) de_int (nomark _)) de_str (de_if (dt_cmp (o_eq (rm1 hr)) (de_var rfl (vis_b rfl)) de_int (nomark _)) de_str de_str))) (dss_one (ds_ret (de_tup (da_cons (de_v (dv_call0 (FnD.mono (k := 1) F_raw_air_left (by decide)) hr (takes_of rfl rfl rfl rfl) rfl (da_cons (de_var rfl (vis_b rfl)) (da_cons (de_var rfl (vis_b rfl)) da_nil)))) (da_cons (de_callB (c_maxA rfl (rm2 hr)) rfl (L.fr 6 _ rfl) (by decide +kernel) (da_cons de_int (da_cons (de_var rfl (vis_b rfl)) da_nil))) (da_cons (de_var rfl (vis_b rfl)) da_nil))))))))))
theorem sc_board_told : FnScope ["teams", "spare", "board", "now", "number", "minute"] ["teams", "spare", "board", "now"] (defScope (top 30)) := ⟨rfl, rfl, rfl, by decide +kernel, rfl, by decide +kernel, by decide +kernel⟩
theorem w_board_told (L : Lw K mg frL isL ssL xsL) (F_is_within : FnD P w K mg base T 2 "is_within" 3 ["thing", "low", "high"] bd_is_within) (F_check_teams : FnD P w K mg base T 4 "check_teams" 2 ["teams", "spare", "team"] bd_check_teams) (F_check_board : FnD P w K mg base T 3 "check_board" 2 ["teams", "board", "number", "minute", "pair"] bd_check_board) (F_board_row : FnD P w K mg base T 2 "board_row" 3 ["team", "spare", "gone", "stay", "left", "word"] bd_board_row) (f : Addr) (cdv : Value) (A : Around) (outer : List Env) (s : Shared) (H : Hp) (E : XK) (hr : Room 4 (A.deeper (envOfC "board_told" (defScope (top 30)) s.heap.objs.size f cdv))) : DSs (bodyCx P w K mg base ["teams", "spare", "board", "now", "number", "minute"] "board_told" (defScope (top 30)) f cdv A outer s H E) T (fun cls d _ H => E cls d H) (defBody (top 30)) bd_board_told :=
  (dss_cons (ds_drop (de_v (dv_call0 (FnD.mono (k := 4) F_check_teams (by decide)) hr (takes_of rfl rfl rfl rfl) rfl (da_cons (de_var rfl (vis_b rfl)) (da_cons (de_var rfl (vis_b rfl)) da_nil))))) (dss_cons (ds_drop (de_v (dv_call0 (FnD.mono (k := 4) F_check_board (by decide)) hr (takes_of rfl rfl rfl rfl) rfl (da_cons (de_var rfl (vis_b rfl)) (da_cons (de_var rfl (vis_b rfl)) da_nil))))) (dss_cons (ds_if (dt_w (dw_or (dt_not (dt_tru (de_v (dv_call0 (FnD.mono (k := 4) F_is_within (by decide)) hr (takes_of rfl rfl rfl rfl) rfl (da_cons (de_var rfl (vis_b rfl)) (da_cons de_int (da_cons (de_globI rfl (L.is 6 _ _ rfl)) da_nil))))))) (dw_or1 (dt_tru (de_callB (c_anyA rfl) rfl (L.fr 9 _ rfl) (by decide +kernel) (da_cons (de_frz (do_lc (own := [("number", 4), ("minute", 5)]) rfl sc_board_told.nd (di_seq (de_var rfl (vis_b rfl))) (blkOk_by rfl) ⟨fun s H C cl fp => (dg_tp rfl (dgs_cons (dg_nm sc_board_told.nd rfl (loc_b rfl) (by decide)) (dgs_cons (dg_nm sc_board_told.nd rfl (loc_b rfl) (by decide)) dgs_nil))), fun s H C cl fp => dts_nil, fun s H C cl fp => (de_cmp o_gt (de_var rfl (vis_b rfl)) (de_var rfl (vis_b rfl)) (nomark _))⟩ noj_items)) da_nil)))))) (dss_one (ds_raise0 (L.xs 4 _ rfl) rfl rfl (takes_of rfl rfl rfl rfl))) dss_nil) (dss_one (ds_ret (de_callTy c_tup rfl (L.fr 3 _ rfl) (by decide +kernel) (da_cons (de_frz (do_lc (own := [("number", 4), ("minute", 5)]) rfl sc_board_told.nd (di_seq (de_var rfl (vis_b rfl))) (blkOk_by rfl) ⟨fun s H C cl fp => (dg_tp rfl (dgs_cons (dg_nm sc_board_told.nd rfl (loc_b rfl) (by decide)) (dgs_cons (dg_nm sc_board_told.nd rfl (loc_b rfl) (by decide)) dgs_nil))), fun s H C cl fp => dts_nil, fun s H C cl fp => (de_v (dv_call0 (FnD.mono (k := 4) F_board_row (by decide)) hr LamX.takes0 rfl (da_cons (de_ix (de_var rfl (vis_b rfl)) (de_var rfl (vis_b rfl))) (da_cons (de_var rfl (vis_b rfl)) (da_cons (de_bin o_sub (de_var rfl (vis_b rfl)) (de_var rfl (vis_b rfl))) da_nil)))))⟩ noj_items)) da_nil)))))))
theorem sc_next_to_turn : FnScope ["teams", "spare", "board", "stays", "turns", "number", "minute", "stay", "pair", "turn"] ["teams", "spare", "board"] (defScope (top 31)) := ⟨rfl, rfl, rfl, by decide +kernel, rfl, by decide +kernel, by decide +kernel⟩
theorem w_next_to_turn (L : Lw K mg frL isL ssL xsL) (F_check_teams : FnD P w K mg base T 4 "check_teams" 2 ["teams", "spare", "team"] bd_check_teams) (F_raw_stay : FnD P w K mg base T 1 "raw_stay" 2 ["team", "spare", "units", "use", "way", "minutes"] bd_raw_stay) (F_check_board : FnD P w K mg base T 3 "check_board" 2 ["teams", "board", "number", "minute", "pair"] bd_check_board) (f : Addr) (cdv : Value) (A : Around) (outer : List Env) (s : Shared) (H : Hp) (E : XK) (hr : Room 4 (A.deeper (envOfC "next_to_turn" (defScope (top 31)) s.heap.objs.size f cdv))) : DSs (bodyCx P w K mg base ["teams", "spare", "board", "stays", "turns", "number", "minute", "stay", "pair", "turn"] "next_to_turn" (defScope (top 31)) f cdv A outer s H E) T (fun cls d _ H => E cls d H) (defBody (top 31)) bd_next_to_turn :=
  (dss_cons (ds_drop (de_v (dv_call0 (FnD.mono (k := 4) F_check_teams (by decide)) hr (takes_of rfl rfl rfl rfl) rfl (da_cons (de_var rfl (vis_b rfl)) (da_cons (de_var rfl (vis_b rfl)) da_nil))))) (dss_cons (ds_drop (de_v (dv_call0 (FnD.mono (k := 4) F_check_board (by decide)) hr (takes_of rfl rfl rfl rfl) rfl (da_cons (de_var rfl (vis_b rfl)) (da_cons (de_var rfl (vis_b rfl)) da_nil))))) (dss_cons (ds_setLcO (own := [("number", 5), ("minute", 6)]) rfl sc_next_to_turn.nd rfl rfl (sw_true rfl rfl rfl rfl) (di_seq (de_var rfl (vis_b rfl))) (blkOk_by rfl) ⟨fun s H C cl fp => (dg_tp rfl (dgs_cons (dg_nm sc_next_to_turn.nd rfl (loc_b rfl) (by decide)) (dgs_cons (dg_nm sc_next_to_turn.nd rfl (loc_b rfl) (by decide)) dgs_nil))), fun s H C cl fp => dts_nil, fun s H C cl fp => (de_v (dv_call0 (FnD.mono (k := 4) F_raw_stay (by decide)) hr LamX.takes0 rfl (da_cons (de_ix (de_var rfl (vis_b rfl)) (de_var rfl (vis_b rfl))) (da_cons (de_var rfl (vis_b rfl)) da_nil))))⟩ noj_items) (dss_cons (ds_if (dt_w (dw_or (dt_cmp (o_eq (rm1 hr)) (de_callB c_len rfl (L.fr 4 _ rfl) (by decide +kernel) (da_cons (de_var rfl (vis_b rfl)) da_nil)) de_int (nomark _)) (dw_or1 (dt_cmp (o_in (rm2 hr)) de_non (de_var rfl (vis_b rfl)) (by rfl))))) (dss_one (ds_ret de_non)) dss_nil) (dss_cons (ds_set sc_next_to_turn.nd rfl (loc_b rfl) (de_frz (do_lc (own := [("number", 5), ("minute", 6), ("stay", 7)]) rfl sc_next_to_turn.nd (di_zip rfl (L.fr 7 _ rfl) (da_cons (de_var rfl (vis_b rfl)) (da_cons (de_var rfl (vis_b rfl)) da_nil))) (blkOk_by rfl) ⟨fun s H C cl fp => (dg_tp rfl (dgs_cons (dg_tp rfl (dgs_cons (dg_nm sc_next_to_turn.nd rfl (loc_b rfl) (by decide)) (dgs_cons (dg_nm sc_next_to_turn.nd rfl (loc_b rfl) (by decide)) dgs_nil))) (dgs_cons (dg_nm sc_next_to_turn.nd rfl (loc_b rfl) (by decide)) dgs_nil))), fun s H C cl fp => dts_nil, fun s H C cl fp => (de_binA o_add o_cat (de_binA o_add o_cat (de_var rfl (vis_b rfl)) (de_ix (de_ix (de_var rfl (vis_b rfl)) (de_var rfl (vis_b rfl))) de_int)) (de_var rfl (vis_b rfl)))⟩ noj_zip))) (dss_one (ds_ret (de_tup (da_cons (de_callB (c_minA rfl (rm2 hr)) rfl (L.fr 10 _ rfl) (by decide +kernel) (da_cons (de_var rfl (vis_b rfl)) da_nil)) (da_cons (de_callTy c_tup rfl (L.fr 3 _ rfl) (by decide +kernel) (da_cons (de_frz (do_callB c_sorted rfl (L.fr 11 _ rfl) (by decide +kernel) (da_cons (de_frz (do_lc (own := [("pair", 8), ("turn", 9)]) rfl sc_next_to_turn.nd (di_zip rfl (L.fr 7 _ rfl) (da_cons (de_var rfl (vis_b rfl)) (da_cons (de_var rfl (vis_b rfl)) da_nil))) (blkOk_by rfl) ⟨fun s H C cl fp => (dg_tp rfl (dgs_cons (dg_nm sc_next_to_turn.nd rfl (loc_b rfl) (by decide)) (dgs_cons (dg_nm sc_next_to_turn.nd rfl (loc_b rfl) (by decide)) dgs_nil))), fun s H C cl fp => (dts_one (dt_cmp (o_eq (rm1 hr)) (de_var rfl (vis_b rfl)) (de_callB (c_minA rfl (rm2 hr)) rfl (L.fr 10 _ rfl) (by decide +kernel) (da_cons (de_var rfl (vis_b rfl)) da_nil)) (nomark _))), fun s H C cl fp => (de_ix (de_var rfl (vis_b rfl)) de_int)⟩ noj_zip)) da_nil))) da_nil)) da_nil))))))))))
theorem sc__law_hand : FnScope ["script", "cells", "cell"] ["script"] (defScope (top 33)) := ⟨rfl, rfl, rfl, by decide +kernel, rfl, by decide +kernel, by decide +kernel⟩
theorem w__law_hand (L : Lw K mg frL isL ssL xsL)  (f : Addr) (cdv : Value) (A : Around) (outer : List Env) (s : Shared) (H : Hp) (E : XK) (hr : Room 0 (A.deeper (envOfC "_law_hand" (defScope (top 33)) s.heap.objs.size f cdv))) : DSs (bodyCx P w K mg base ["script", "cells", "cell"] "_law_hand" (defScope (top 33)) f cdv A outer s H E) T (fun cls d _ H => E cls d H) (defBody (top 33)) bd__law_hand :=
  (dss_cons (ds_setLcO (own := [("cell", 2)]) rfl sc__law_hand.nd rfl rfl (sw_true rfl rfl rfl rfl) (di_seq (de_sl (de_var rfl (vis_b rfl)) dp_none (dp_some de_int))) (blkOk_by rfl) ⟨fun s H C cl fp => (dg_nm sc__law_hand.nd rfl (loc_b rfl) (by decide)), fun s H C cl fp => dts_nil, fun s H C cl fp => (de_bin o_mod (de_callTy c_int rfl (L.fr 1 _ rfl) (by decide +kernel) (da_cons (de_callB c_abs rfl (L.fr 12 _ rfl) (by decide +kernel) (da_cons (de_callTy c_int rfl (L.fr 1 _ rfl) (by decide +kernel) (da_cons (de_var rfl (vis_b rfl)) da_nil)) da_nil)) da_nil)) (de_bin o_pow de_int de_int))⟩ noj_items) (dss_one (ds_retO (do_lst (da_cons (de_var rfl (vis_b rfl)) (da_cons de_int (da_cons de_int (da_cons (de_binA o_add o_cat de_int (de_binA o_mul o_rep de_int (de_callB c_len rfl (L.fr 4 _ rfl) (by decide +kernel) (da_cons (de_var rfl (vis_b rfl)) da_nil)))) (da_cons de_int da_nil)))))))))
theorem sc__law_draw : FnScope ["hand", "many", "cell", "digit", "number"] ["hand", "many"] (defScope (top 34)) := ⟨rfl, rfl, rfl, by decide +kernel, rfl, by decide +kernel, by decide +kernel⟩
theorem w__law_draw (L : Lw K mg frL isL ssL xsL)  (f : Addr) (cdv : Value) (A : Around) (outer : List Env) (s : Shared) (H : Hp) (E : XK) (hr : Room 0 (A.deeper (envOfC "_law_draw" (defScope (top 34)) s.heap.objs.size f cdv))) : DSs (bodyCx P w K mg base ["hand", "many", "cell", "digit", "number"] "_law_draw" (defScope (top 34)) f cdv A outer s H E) T (fun cls d _ H => E cls d H) (defBody (top 34)) bd__law_draw :=
  (dss_cons (ds_if (dt_w (dw_and (dt_cmp (o_eq (rm1 hr)) (de_ix (de_var rfl (vis_b rfl)) de_int) de_int (nomark _)) (dw_and1 (dt_cmp o_lt (de_ix (de_var rfl (vis_b rfl)) de_int) (de_callB c_len rfl (L.fr 4 _ rfl) (by decide +kernel) (da_cons (de_ix (de_var rfl (vis_b rfl)) de_int) da_nil)) (nomark _))))) (dss_cons (ds_set sc__law_draw.nd rfl (loc_b rfl) (de_ix (de_ix (de_var rfl (vis_b rfl)) de_int) (de_ix (de_var rfl (vis_b rfl)) de_int))) (dss_cons (ds_setS rfl (vis_b rfl) (de_binA o_add o_cat (de_ix (de_var rfl (vis_b rfl)) de_int) de_int) de_int) (dss_cons (ds_setS rfl (vis_b rfl) (de_bin o_mod (de_callTy c_int rfl (L.fr 1 _ rfl) (by decide +kernel) (da_cons (de_binA o_add o_cat (de_binA o_add o_cat (de_binA o_mul o_rep (de_ix (de_var rfl (vis_b rfl)) de_int) de_int) (de_binA o_mul o_rep (de_var rfl (vis_b rfl)) de_int)) de_int) da_nil)) de_int) de_int) (dss_one (ds_if (dt_cmp o_ge (de_var rfl (vis_b rfl)) (de_bin o_pow de_int de_int) (nomark _)) (dss_one (ds_setS rfl (vis_b rfl) (de_var rfl (vis_b rfl)) de_int)) dss_nil))))) dss_nil) (dss_cons (ds_if (dt_cmp o_gt (de_ix (de_var rfl (vis_b rfl)) de_int) de_int (nomark _)) (dss_cons (ds_set sc__law_draw.nd rfl (loc_b rfl) (de_bin o_mod (de_callTy c_int rfl (L.fr 1 _ rfl) (by decide +kernel) (da_cons (de_ix (de_var rfl (vis_b rfl)) de_int) da_nil)) (de_var rfl (vis_b rfl)))) (dss_cons (ds_setS rfl (vis_b rfl) (de_bin o_div (de_ix (de_var rfl (vis_b rfl)) de_int) (de_var rfl (vis_b rfl))) de_int) (dss_one (ds_ret (de_var rfl (vis_b rfl)))))) dss_nil) (dss_cons (ds_setS rfl (vis_b rfl) (de_binA o_add o_cat (de_ix (de_var rfl (vis_b rfl)) de_int) de_int) de_int) (dss_cons (ds_set sc__law_draw.nd rfl (loc_b rfl) (de_bin o_mod (de_callTy c_int rfl (L.fr 1 _ rfl) (by decide +kernel) (da_cons (de_binA o_mul o_rep (de_callTy c_int rfl (L.fr 1 _ rfl) (by decide +kernel) (da_cons (de_binA o_add o_cat (de_ix (de_var rfl (vis_b rfl)) de_int) (de_binA o_mul o_rep de_int (de_ix (de_var rfl (vis_b rfl)) de_int))) da_nil)) de_int) da_nil)) de_int)) (dss_cons (ds_set sc__law_draw.nd rfl (loc_b rfl) (de_bin o_mod (de_callTy c_int rfl (L.fr 1 _ rfl) (by decide +kernel) (da_cons (de_binA o_mul o_rep (de_var rfl (vis_b rfl)) (de_binA o_add o_cat (de_bin o_div (de_var rfl (vis_b rfl)) de_int) de_int)) da_nil)) de_int)) (dss_cons (ds_set sc__law_draw.nd rfl (loc_b rfl) (de_bin o_mod (de_callTy c_int rfl (L.fr 1 _ rfl) (by decide +kernel) (da_cons (de_binA o_mul o_rep (de_var rfl (vis_b rfl)) (de_binA o_add o_cat (de_bin o_div (de_var rfl (vis_b rfl)) de_int) de_int)) da_nil)) de_int)) (dss_one (ds_ret (de_bin o_mod (de_callTy c_int rfl (L.fr 1 _ rfl) (by decide +kernel) (da_cons (de_bin o_div (de_var rfl (vis_b rfl)) de_int) da_nil)) (de_var rfl (vis_b rfl)))))))))))
theorem sc__law_any : FnScope ["hand", "some"] ["hand", "some"] (defScope (top 35)) := ⟨rfl, rfl, rfl, by decide +kernel, rfl, by decide +kernel, by decide +kernel⟩
theorem w__law_any (L : Lw K mg frL isL ssL xsL) (F__law_draw : FnD P w K mg base T 1 "_law_draw" 2 ["hand", "many", "cell", "digit", "number"] bd__law_draw) (f : Addr) (cdv : Value) (A : Around) (outer : List Env) (s : Shared) (H : Hp) (E : XK) (hr : Room 1 (A.deeper (envOfC "_law_any" (defScope (top 35)) s.heap.objs.size f cdv))) : DSs (bodyCx P w K mg base ["hand", "some"] "_law_any" (defScope (top 35)) f cdv A outer s H E) T (fun cls d _ H => E cls d H) (defBody (top 35)) bd__law_any :=
  (dss_one (ds_ret (de_ix (de_var rfl (vis_b rfl)) (de_v (dv_call1 0 (FnD.mono (k := 1) F__law_draw (by decide)) hr (takes_of rfl rfl rfl rfl) rfl (da_cons (de_var rfl (vis_b rfl)) (da_cons (de_callB c_len rfl (L.fr 4 _ rfl) (by decide +kernel) (da_cons (de_var rfl (vis_b rfl)) da_nil)) da_nil)))))))
theorem sc__law_team : FnScope ["hand"] ["hand"] (defScope (top 36)) := ⟨rfl, rfl, rfl, by decide +kernel, rfl, by decide +kernel, by decide +kernel⟩
theorem w__law_team (L : Lw K mg frL isL ssL xsL) (F__law_draw : FnD P w K mg base T 1 "_law_draw" 2 ["hand", "many", "cell", "digit", "number"] bd__law_draw) (f : Addr) (cdv : Value) (A : Around) (outer : List Env) (s : Shared) (H : Hp) (E : XK) (hr : Room 1 (A.deeper (envOfC "_law_team" (defScope (top 36)) s.heap.objs.size f cdv))) : DSs (bodyCx P w K mg base ["hand"] "_law_team" (defScope (top 36)) f cdv A outer s H E) T (fun cls d _ H => E cls d H) (defBody (top 36)) bd__law_team :=
  (dss_one (ds_ret (de_tup (da_cons (de_binA o_add o_cat de_int (de_v (dv_call1 0 (FnD.mono (k := 1) F__law_draw (by decide)) hr (takes_of rfl rfl rfl rfl) rfl (da_cons (de_var rfl (vis_b rfl)) (da_cons de_int da_nil))))) (da_cons (de_binA o_add o_cat de_int (de_v (dv_call1 0 (FnD.mono (k := 1) F__law_draw (by decide)) hr (takes_of rfl rfl rfl rfl) rfl (da_cons (de_var rfl (vis_b rfl)) (da_cons de_int da_nil))))) (da_cons (de_v (dv_call1 0 (FnD.mono (k := 1) F__law_draw (by decide)) hr (takes_of rfl rfl rfl rfl) rfl (da_cons (de_var rfl (vis_b rfl)) (da_cons de_int da_nil)))) da_nil))))))
theorem sc__law_stay : FnScope ["team", "spare", "found", "minutes"] ["team", "spare"] (defScope (top 37)) := ⟨rfl, rfl, rfl, by decide +kernel, rfl, by decide +kernel, by decide +kernel⟩
theorem w__law_stay (L : Lw K mg frL isL ssL xsL)  (f : Addr) (cdv : Value) (A : Around) (outer : List Env) (s : Shared) (H : Hp) (E : XK) (hr : Room 0 (A.deeper (envOfC "_law_stay" (defScope (top 37)) s.heap.objs.size f cdv))) : DSs (bodyCx P w K mg base ["team", "spare", "found", "minutes"] "_law_stay" (defScope (top 37)) f cdv A outer s H E) T (fun cls d _ H => E cls d H) (defBody (top 37)) bd__law_stay :=
  (dss_cons (ds_set sc__law_stay.nd rfl (loc_b rfl) de_non) (dss_cons (ds_for (vs := [3]) (passes_of rfl) rfl (di_range1 rfl (L.fr 13 _ rfl) (da_cons de_int da_nil)) (dg_nm sc__law_stay.nd rfl (loc_b rfl) (by decide)) (dss_one (ds_if (dt_cmp o_ge (de_bin o_sub (de_ix (de_var rfl (vis_b rfl)) de_int) (de_binA o_mul o_rep (de_ix (de_var rfl (vis_b rfl)) de_int) (de_binA o_add o_cat (de_binA o_mul o_rep de_int (de_ix (de_var rfl (vis_b rfl)) de_int)) (de_var rfl (vis_b rfl))))) (de_var rfl (vis_b rfl)) (nomark _)) (dss_one (ds_set sc__law_stay.nd rfl (loc_b rfl) (de_var rfl (vis_b rfl)))) dss_nil))) (dss_one (ds_ret (de_var rfl (vis_b rfl))))))
theorem sc__law_turn : FnScope ["team", "spare", "found", "minute"] ["team", "spare"] (defScope (top 38)) := ⟨rfl, rfl, rfl, by decide +kernel, rfl, by decide +kernel, by decide +kernel⟩
theorem w__law_turn (L : Lw K mg frL isL ssL xsL) (F__law_stay : FnD P w K mg base T 1 "_law_stay" 2 ["team", "spare", "found", "minutes"] bd__law_stay) (f : Addr) (cdv : Value) (A : Around) (outer : List Env) (s : Shared) (H : Hp) (E : XK) (hr : Room 1 (A.deeper (envOfC "_law_turn" (defScope (top 38)) s.heap.objs.size f cdv))) : DSs (bodyCx P w K mg base ["team", "spare", "found", "minute"] "_law_turn" (defScope (top 38)) f cdv A outer s H E) T (fun cls d _ H => E cls d H) (defBody (top 38)) bd__law_turn :=
  (dss_cons (ds_set sc__law_turn.nd rfl (loc_b rfl) de_non) (dss_cons (ds_for (vs := [3]) (passes_of rfl) rfl (di_range1 rfl (L.fr 13 _ rfl) (da_cons de_int da_nil)) (dg_nm sc__law_turn.nd rfl (loc_b rfl) (by decide)) (dss_one (ds_if (dt_cmp o_ge (de_bin o_sub (de_ix (de_var rfl (vis_b rfl)) de_int) (de_binA o_mul o_rep (de_ix (de_var rfl (vis_b rfl)) de_int) (de_binA o_add o_cat (de_var rfl (vis_b rfl)) (de_callB (c_minA rfl (rm2 hr)) rfl (L.fr 10 _ rfl) (by decide +kernel) (da_cons (de_var rfl (vis_b rfl)) (da_cons (de_ix (de_var rfl (vis_b rfl)) de_int) da_nil)))))) (de_var rfl (vis_b rfl)) (nomark _)) (dss_one (ds_set sc__law_turn.nd rfl (loc_b rfl) (de_var rfl (vis_b rfl)))) dss_nil))) (dss_one (ds_ret (de_if (dt_cmp o_is (de_v (dv_call0 (FnD.mono (k := 1) F__law_stay (by decide)) hr (takes_of rfl rfl rfl rfl) rfl (da_cons (de_var rfl (vis_b rfl)) (da_cons (de_var rfl (vis_b rfl)) da_nil)))) de_non (nomark _)) de_non (de_var rfl (vis_b rfl)))))))
theorem sc__law_bad_teams : FnScope ["hand", "some"] ["hand"] (defScope (top 39)) := ⟨rfl, rfl, rfl, by decide +kernel, rfl, by decide +kernel, by decide +kernel⟩
theorem w__law_bad_teams (L : Lw K mg frL isL ssL xsL) (F__law_any : FnD P w K mg base T 2 "_law_any" 2 ["hand", "some"] bd__law_any) (f : Addr) (cdv : Value) (A : Around) (outer : List Env) (s : Shared) (H : Hp) (E : XK) (hr : Room 2 (A.deeper (envOfC "_law_bad_teams" (defScope (top 39)) s.heap.objs.size f cdv))) : DSs (bodyCx P w K mg base ["hand", "some"] "_law_bad_teams" (defScope (top 39)) f cdv A outer s H E) T (fun cls d _ H => E cls d H) (defBody (top 39)) bd__law_bad_teams :=
  (dss_cons (ds_set sc__law_bad_teams.nd rfl (loc_b rfl) (de_frz (do_lst (da_cons de_non (da_cons (de_tup da_nil) (da_cons (de_frz (do_lst (da_cons (de_tup (da_cons de_int (da_cons de_int (da_cons de_int da_nil)))) da_nil))) (da_cons (de_tup (da_cons (de_tup (da_cons de_int (da_cons de_int (da_cons de_int da_nil)))) da_nil)) (da_cons (de_tup (da_cons (de_tup (da_cons de_int (da_cons de_int (da_cons de_int da_nil)))) da_nil)) (da_cons (de_tup (da_cons (de_tup (da_cons de_int (da_cons de_int (da_cons de_int da_nil)))) da_nil)) (da_cons (de_tup (da_cons (de_tup (da_cons de_int (da_cons de_int (da_cons de_int da_nil)))) da_nil)) (da_cons (de_tup (da_cons (de_tup (da_cons de_int (da_cons de_int (da_cons de_int da_nil)))) da_nil)) (da_cons (de_tup (da_cons (de_tup (da_cons de_int (da_cons de_int da_nil))) da_nil)) da_nil)))))))))))) (dss_one (ds_ret (de_v (dv_call1 0 (FnD.mono (k := 2) F__law_any (by decide)) hr (takes_of rfl rfl rfl rfl) rfl (da_cons (de_var rfl (vis_b rfl)) (da_cons (de_binA o_add o_cat (de_var rfl (vis_b rfl)) (de_frz (do_lst (da_cons (de_tup (da_cons (de_tup (da_cons de_bl (da_cons de_int (da_cons de_int da_nil)))) da_nil)) (da_cons (de_binA o_mul o_rep (de_tup (da_cons (de_tup (da_cons de_int (da_cons de_int (da_cons de_int da_nil)))) da_nil)) de_int) (da_cons de_int (da_cons (de_tup (da_cons de_int (da_cons de_int (da_cons de_int da_nil)))) da_nil))))))) da_nil)))))))
theorem sc__law_bad_spare : FnScope ["hand"] ["hand"] (defScope (top 40)) := ⟨rfl, rfl, rfl, by decide +kernel, rfl, by decide +kernel, by decide +kernel⟩
theorem w__law_bad_spare (L : Lw K mg frL isL ssL xsL) (F__law_any : FnD P w K mg base T 2 "_law_any" 2 ["hand", "some"] bd__law_any) (f : Addr) (cdv : Value) (A : Around) (outer : List Env) (s : Shared) (H : Hp) (E : XK) (hr : Room 2 (A.deeper (envOfC "_law_bad_spare" (defScope (top 40)) s.heap.objs.size f cdv))) : DSs (bodyCx P w K mg base ["hand"] "_law_bad_spare" (defScope (top 40)) f cdv A outer s H E) T (fun cls d _ H => E cls d H) (defBody (top 40)) bd__law_bad_spare :=
  (dss_one (ds_ret (de_v (dv_call1 0 (FnD.mono (k := 2) F__law_any (by decide)) hr (takes_of rfl rfl rfl rfl) rfl (da_cons (de_var rfl (vis_b rfl)) (da_cons (de_frz (do_lst (da_cons (de_neg de_int) (da_cons de_int (da_cons de_non (da_cons de_bl (da_cons de_str da_nil))))))) da_nil))))))
theorem sc__law_lacking : FnScope ["teams", "spare", "pause", "stays", "team", "stay"] ["teams", "spare", "pause"] (defScope (top 42)) := ⟨rfl, rfl, rfl, by decide +kernel, rfl, by decide +kernel, by decide +kernel⟩
theorem w__law_lacking (L : Lw K mg frL isL ssL xsL) (F__law_stay : FnD P w K mg base T 1 "_law_stay" 2 ["team", "spare", "found", "minutes"] bd__law_stay) (f : Addr) (cdv : Value) (A : Around) (outer : List Env) (s : Shared) (H : Hp) (E : XK) (hr : Room 1 (A.deeper (envOfC "_law_lacking" (defScope (top 42)) s.heap.objs.size f cdv))) : DSs (bodyCx P w K mg base ["teams", "spare", "pause", "stays", "team", "stay"] "_law_lacking" (defScope (top 42)) f cdv A outer s H E) T (fun cls d _ H => E cls d H) (defBody (top 42)) bd__law_lacking :=
  (dss_cons (ds_set sc__law_lacking.nd rfl (loc_b rfl) (de_frz (do_lc (own := [("team", 4)]) rfl sc__law_lacking.nd (di_seq (de_var rfl (vis_b rfl))) (blkOk_by rfl) ⟨fun s H C cl fp => (dg_nm sc__law_lacking.nd rfl (loc_b rfl) (by decide)), fun s H C cl fp => dts_nil, fun s H C cl fp => (de_or (de_v (dv_call0 (FnD.mono (k := 1) F__law_stay (by decide)) hr LamX.takes0 rfl (da_cons (de_var rfl (vis_b rfl)) (da_cons (de_var rfl (vis_b rfl)) da_nil)))) (de_one de_int))⟩ noj_items))) (dss_cons (ds_if (dt_cmp (o_in (rm2 hr)) de_int (de_var rfl (vis_b rfl)) (by rfl)) (dss_one (ds_ret de_non)) dss_nil) (dss_one (ds_ret (de_callTy c_tup rfl (L.fr 3 _ rfl) (by decide +kernel) (da_cons (de_frz (do_lc (own := [("team", 4), ("stay", 5)]) rfl sc__law_lacking.nd (di_zip rfl (L.fr 7 _ rfl) (da_cons (de_var rfl (vis_b rfl)) (da_cons (de_var rfl (vis_b rfl)) da_nil))) (blkOk_by rfl) ⟨fun s H C cl fp => (dg_tp rfl (dgs_cons (dg_nm sc__law_lacking.nd rfl (loc_b rfl) (by decide)) (dgs_cons (dg_nm sc__law_lacking.nd rfl (loc_b rfl) (by decide)) dgs_nil))), fun s H C cl fp => dts_nil, fun s H C cl fp => (de_callB (c_maxA rfl (rm2 hr)) rfl (L.fr 6 _ rfl) (by decide +kernel) (da_cons de_int (da_cons (de_binA o_add o_cat (de_bin o_sub (de_binA o_add o_cat (de_binA o_mul o_rep de_int (de_ix (de_var rfl (vis_b rfl)) de_int)) (de_var rfl (vis_b rfl))) (de_callB (c_sum rfl) rfl (L.fr 8 _ rfl) (by decide +kernel) (da_cons (de_var rfl (vis_b rfl)) da_nil))) (de_var rfl (vis_b rfl))) da_nil)))⟩ noj_zip)) da_nil))))))
theorem sc__law_board : FnScope ["teams", "spare", "board", "now", "found", "number", "minute", "units", "turn", "team", "inside"] ["teams", "spare", "board", "now"] (defScope (top 43)) := ⟨rfl, rfl, rfl, by decide +kernel, rfl, by decide +kernel, by decide +kernel⟩
theorem w__law_board (L : Lw K mg frL isL ssL xsL) (F__law_turn : FnD P w K mg base T 2 "_law_turn" 2 ["team", "spare", "found", "minute"] bd__law_turn) (f : Addr) (cdv : Value) (A : Around) (outer : List Env) (s : Shared) (H : Hp) (E : XK) (hr : Room 2 (A.deeper (envOfC "_law_board" (defScope (top 43)) s.heap.objs.size f cdv))) : DSs (bodyCx P w K mg base ["teams", "spare", "board", "now", "found", "number", "minute", "units", "turn", "team", "inside"] "_law_board" (defScope (top 43)) f cdv A outer s H E) T (fun cls d _ H => E cls d H) (defBody (top 43)) bd__law_board :=
  (dss_cons (ds_setO sc__law_board.nd rfl (loc_b rfl) (do_lst da_nil)) (dss_cons (ds_for (vs := [5, 6]) (passes_of rfl) rfl (di_seq (de_var rfl (vis_b rfl))) (dg_tp rfl (dgs_cons (dg_nm sc__law_board.nd rfl (loc_b rfl) (by decide)) (dgs_cons (dg_nm sc__law_board.nd rfl (loc_b rfl) (by decide)) dgs_nil))) (dss_cons (ds_par2 rfl sc__law_board.nd rfl rfl (by decide) rfl rfl (dav_d (de_ix (de_var rfl (vis_b rfl)) (de_var rfl (vis_b rfl))) (dav_d (de_bin o_sub (de_var rfl (vis_b rfl)) (de_var rfl (vis_b rfl))) dav_nil))) (dss_cons (ds_par2 rfl sc__law_board.nd rfl rfl (by decide) rfl rfl (dav_d (de_callB (c_maxA rfl (rm2 hr)) rfl (L.fr 6 _ rfl) (by decide +kernel) (da_cons de_int (da_cons (de_bin o_sub (de_ix (de_var rfl (vis_b rfl)) de_int) (de_binA o_mul o_rep (de_ix (de_var rfl (vis_b rfl)) de_int) (de_var rfl (vis_b rfl)))) da_nil))) (dav_d (de_v (dv_call0 (FnD.mono (k := 2) F__law_turn (by decide)) hr (takes_of rfl rfl rfl rfl) rfl (da_cons (de_var rfl (vis_b rfl)) (da_cons (de_var rfl (vis_b rfl)) da_nil)))) dav_nil))) (dss_one (ds_if (dt_w (dw_or (dt_cmp o_is (de_var rfl (vis_b rfl)) de_non (nomark _)) (dw_or1 (dt_cmp o_lt (de_var rfl (vis_b rfl)) (de_var rfl (vis_b rfl)) (nomark _))))) (dss_one (ds_drop (de_meth F.slot_list_append m_append rfl (vis_b rfl) (da_cons (de_tup (da_cons (de_var rfl (vis_b rfl)) (da_cons de_int (da_cons de_str da_nil)))) da_nil)))) (dss_one (ds_drop (de_meth F.slot_list_append m_append rfl (vis_b rfl) (da_cons (de_tup (da_cons (de_var rfl (vis_b rfl)) (da_cons (de_bin o_sub (de_var rfl (vis_b rfl)) (de_var rfl (vis_b rfl))) (da_cons (de_if (dt_cmp o_gt (de_var rfl (vis_b rfl)) (de_var rfl (vis_b rfl)) (nomark _)) de_str de_str) da_nil)))) da_nil))))))))) (dss_one (ds_ret (de_callTy c_tup rfl (L.fr 3 _ rfl) (by decide +kernel) (da_cons (de_var rfl (vis_b rfl)) da_nil))))))
theorem sc__law_refused_right : FnScope ["hand", "teams", "spare", "none", "bad", "far", "odd", "said"] ["hand", "teams", "spare"] (defScope (top 44)) := ⟨rfl, rfl, rfl, by decide +kernel, rfl, by decide +kernel, by decide +kernel⟩
theorem w__law_refused_right (L : Lw K mg frL isL ssL xsL) (F_lacking_minutes : FnD P w K mg base T 5 "lacking_minutes" 3 ["teams", "spare", "pause"] bd_lacking_minutes) (F_turns_for_ever : FnD P w K mg base T 5 "turns_for_ever" 3 ["teams", "spare", "pause", "lacks"] bd_turns_for_ever) (F_board_told : FnD P w K mg base T 5 "board_told" 4 ["teams", "spare", "board", "now", "number", "minute"] bd_board_told) (F_next_to_turn : FnD P w K mg base T 5 "next_to_turn" 3 ["teams", "spare", "board", "stays", "turns", "number", "minute", "stay", "pair", "turn"] bd_next_to_turn) (F__law_any : FnD P w K mg base T 2 "_law_any" 2 ["hand", "some"] bd__law_any) (F__law_bad_teams : FnD P w K mg base T 3 "_law_bad_teams" 1 ["hand", "some"] bd__law_bad_teams) (F__law_bad_spare : FnD P w K mg base T 3 "_law_bad_spare" 1 ["hand"] bd__law_bad_spare) (f : Addr) (cdv : Value) (A : Around) (outer : List Env) (s : Shared) (H : Hp) (E : XK) (hr : Room 7 (A.deeper (envOfC "_law_refused_right" (defScope (top 44)) s.heap.objs.size f cdv))) (S_law_said : SaidD (bodyCx P w K mg base ["hand", "teams", "spare", "none", "bad", "far", "odd", "said"] "_law_refused_right" (defScope (top 44)) f cdv A outer s H E) T 5 "_law_said" said_law_said) {c Pt : Addr} (TB : LamX.TabB base mg c Pt) (hcode : cdv = .ref c) (hmT : (Pt, (bodyCx P w K mg base ["hand", "teams", "spare", "none", "bad", "far", "odd", "said"] "_law_refused_right" (defScope (top 44)) f cdv A outer s H E).env.qual ++ "<lambda>") ∈ T) (hu : ∀ p ∈ T, p.1 = Pt → p.2 = (bodyCx P w K mg base ["hand", "teams", "spare", "none", "bad", "far", "odd", "said"] "_law_refused_right" (defScope (top 44)) f cdv A outer s H E).env.qual ++ "<lambda>") : DSs (bodyCx P w K mg base ["hand", "teams", "spare", "none", "bad", "far", "odd", "said"] "_law_refused_right" (defScope (top 44)) f cdv A outer s H E) T (fun cls d _ H => E cls d H) (defBody (top 44)) bd__law_refused_right :=
  (dss_cons (ds_asg (vs := [3, 4]) (de_tup (da_cons (de_v (dv_call1 0 (FnD.mono (k := 7) F__law_bad_teams (by decide)) hr (takes_of rfl rfl rfl rfl) rfl (da_cons (de_var rfl (vis_b rfl)) da_nil))) (da_cons (de_v (dv_call1 0 (FnD.mono (k := 7) F__law_bad_spare (by decide)) hr (takes_of rfl rfl rfl rfl) rfl (da_cons (de_var rfl (vis_b rfl)) da_nil))) da_nil))) (dg_tp rfl (dgs_cons (dg_nm sc__law_refused_right.nd rfl (loc_b rfl) (by decide)) (dgs_cons (dg_nm sc__law_refused_right.nd rfl (loc_b rfl) (by decide)) dgs_nil)))) (dss_cons (ds_set sc__law_refused_right.nd rfl (loc_b rfl) (de_v (dv_call1 0 (FnD.mono (k := 7) F__law_any (by decide)) hr (takes_of rfl rfl rfl rfl) rfl (da_cons (de_var rfl (vis_b rfl)) (da_cons (de_frz (do_lst (da_cons (de_neg de_int) (da_cons de_int (da_cons de_non (da_cons de_bl da_nil)))))) da_nil))))) (dss_cons (ds_set sc__law_refused_right.nd rfl (loc_b rfl) (de_v (dv_call1 0 (FnD.mono (k := 7) F__law_any (by decide)) hr (takes_of rfl rfl rfl rfl) rfl (da_cons (de_var rfl (vis_b rfl)) (da_cons (de_frz (do_lst (da_cons de_non (da_cons (de_frz (do_lst (da_cons (de_tup (da_cons de_int (da_cons de_int da_nil))) da_nil))) (da_cons (de_tup (da_cons (de_tup (da_cons de_int (da_cons de_int da_nil))) da_nil)) (da_cons (de_tup (da_cons (de_tup (da_cons de_int (da_cons de_int da_nil))) da_nil)) (da_cons (de_tup (da_cons (de_tup (da_cons de_int (da_cons de_int da_nil))) (da_cons (de_tup (da_cons de_int (da_cons de_int da_nil))) da_nil))) (da_cons (de_tup (da_cons (de_tup (da_cons de_int da_nil)) da_nil)) (da_cons (de_tup (da_cons (de_tup (da_cons de_int (da_cons de_bl da_nil))) da_nil)) (da_cons de_int da_nil)))))))))) da_nil))))) (dss_cons (ds_setO sc__law_refused_right.nd rfl (loc_b rfl) (do_lst (da_cons (de_said (k := 5) S_law_said rfl TB hcode hmT hu hr (LamX.lamS_by rfl) (fun A outer s H E f c2 hr2 => (de_v (dv_call0 (FnD.mono (k := 5) F_lacking_minutes (by decide)) hr2 (takes_of rfl rfl rfl rfl) rfl (da_cons (de_var rfl (vis_b rfl)) (da_cons (de_var rfl (vis_b rfl)) (da_cons (de_var rfl (vis_b rfl)) da_nil))))))) da_nil))) (dss_cons (ds_drop (de_meth F.slot_list_append m_append rfl (vis_b rfl) (da_cons (de_said (k := 5) S_law_said rfl TB hcode hmT hu hr (LamX.lamS_by rfl) (fun A outer s H E f c2 hr2 => (de_v (dv_call0 (FnD.mono (k := 5) F_turns_for_ever (by decide)) hr2 (takes_of rfl rfl rfl rfl) rfl (da_cons (de_var rfl (vis_b rfl)) (da_cons (de_var rfl (vis_b rfl)) (da_cons (de_var rfl (vis_b rfl)) da_nil))))))) da_nil))) (dss_cons (ds_setO sc__law_refused_right.nd rfl (loc_b rfl) (do_bin o_cat (de_var rfl (vis_b rfl)) (de_frz (do_lst (da_cons (de_said (k := 5) S_law_said rfl TB hcode hmT hu hr (LamX.lamS_by rfl) (fun A outer s H E f c2 hr2 => (de_v (dv_call0 (FnD.mono (k := 5) F_lacking_minutes (by decide)) hr2 (takes_of rfl rfl rfl rfl) rfl (da_cons (de_var rfl (vis_b rfl)) (da_cons (de_var rfl (vis_b rfl)) (da_cons (de_var rfl (vis_b rfl)) da_nil))))))) da_nil))))) (dss_cons (ds_setO sc__law_refused_right.nd rfl (loc_b rfl) (do_bin o_cat (de_var rfl (vis_b rfl)) (de_frz (do_lst (da_cons (de_said (k := 5) S_law_said rfl TB hcode hmT hu hr (LamX.lamS_by rfl) (fun A outer s H E f c2 hr2 => (de_v (dv_call0 (FnD.mono (k := 5) F_board_told (by decide)) hr2 (takes_of rfl rfl rfl rfl) rfl (da_cons (de_var rfl (vis_b rfl)) (da_cons (de_var rfl (vis_b rfl)) (da_cons (de_var rfl (vis_b rfl)) (da_cons de_non da_nil)))))))) da_nil))))) (dss_cons (ds_setO sc__law_refused_right.nd rfl (loc_b rfl) (do_bin o_cat (de_var rfl (vis_b rfl)) (de_frz (do_lst (da_cons (de_said (k := 5) S_law_said rfl TB hcode hmT hu hr (LamX.lamS_by rfl) (fun A outer s H E f c2 hr2 => (de_v (dv_call0 (FnD.mono (k := 5) F_board_told (by decide)) hr2 (takes_of rfl rfl rfl rfl) rfl (da_cons (de_var rfl (vis_b rfl)) (da_cons (de_var rfl (vis_b rfl)) (da_cons (de_var rfl (vis_b rfl)) (da_cons de_non da_nil)))))))) da_nil))))) (dss_cons (ds_setO sc__law_refused_right.nd rfl (loc_b rfl) (do_bin o_cat (de_var rfl (vis_b rfl)) (de_frz (do_lst (da_cons (de_said (k := 5) S_law_said rfl TB hcode hmT hu hr (LamX.lamS_by rfl) (fun A outer s H E f c2 hr2 => (de_v (dv_call0 (FnD.mono (k := 5) F_next_to_turn (by decide)) hr2 (takes_of rfl rfl rfl rfl) rfl (da_cons (de_var rfl (vis_b rfl)) (da_cons (de_var rfl (vis_b rfl)) (da_cons (de_var rfl (vis_b rfl)) da_nil))))))) da_nil))))) (dss_cons (ds_drop (de_meth F.slot_list_append m_append rfl (vis_b rfl) (da_cons (de_said (k := 5) S_law_said rfl TB hcode hmT hu hr (LamX.lamS_by rfl) (fun A outer s H E f c2 hr2 => (de_v (dv_call0 (FnD.mono (k := 5) F_board_told (by decide)) hr2 (takes_of rfl rfl rfl rfl) rfl (da_cons (de_var rfl (vis_b rfl)) (da_cons (de_var rfl (vis_b rfl)) (da_cons (de_tup (da_cons (de_tup (da_cons de_int (da_cons de_int da_nil))) da_nil)) (da_cons (de_v (dv_call1 0 (FnD.mono (k := 5) F__law_any (by decide)) hr2 (takes_of rfl rfl rfl rfl) rfl (da_cons (de_var rfl (vis_b rfl)) (da_cons (de_frz (do_lst (da_cons de_int (da_cons de_int (da_cons (de_neg de_int) (da_cons de_non (da_cons de_bl da_nil))))))) da_nil)))) da_nil)))))))) da_nil))) (dss_one (ds_ret (de_cmp (o_eq (rm1 hr)) (de_var rfl (vis_b rfl)) (de_frz (do_lst (da_cons de_str (da_cons de_str (da_cons de_str (da_cons de_str (da_cons de_str (da_cons de_str (da_cons de_str da_nil))))))))) (nomark _))))))))))))))
theorem sc_law : FnScope ["script", "hand", "turn", "due", "first", "turns_here", "now", "board", "left", "more", "lacks", "spare", "pause", "teams", "team", "minute", "one", "a", "b"] ["script"] (defScope (top 45)) := ⟨rfl, rfl, rfl, by decide +kernel, rfl, by decide +kernel, by decide +kernel⟩
theorem w_law (L : Lw K mg frL isL ssL xsL) (F_lacking_minutes : FnD P w K mg base T 5 "lacking_minutes" 3 ["teams", "spare", "pause"] bd_lacking_minutes) (F_turns_for_ever : FnD P w K mg base T 5 "turns_for_ever" 3 ["teams", "spare", "pause", "lacks"] bd_turns_for_ever) (F_board_told : FnD P w K mg base T 5 "board_told" 4 ["teams", "spare", "board", "now", "number", "minute"] bd_board_told) (F_next_to_turn : FnD P w K mg base T 5 "next_to_turn" 3 ["teams", "spare", "board", "stays", "turns", "number", "minute", "stay", "pair", "turn"] bd_next_to_turn) (F__law_hand : FnD P w K mg base T 1 "_law_hand" 1 ["script", "cells", "cell"] bd__law_hand) (F__law_draw : FnD P w K mg base T 1 "_law_draw" 2 ["hand", "many", "cell", "digit", "number"] bd__law_draw) (F__law_team : FnD P w K mg base T 2 "_law_team" 1 ["hand"] bd__law_team) (F__law_turn : FnD P w K mg base T 2 "_law_turn" 2 ["team", "spare", "found", "minute"] bd__law_turn) (F__law_lacking : FnD P w K mg base T 2 "_law_lacking" 3 ["teams", "spare", "pause", "stays", "team", "stay"] bd__law_lacking) (F__law_board : FnD P w K mg base T 3 "_law_board" 4 ["teams", "spare", "board", "now", "found", "number", "minute", "units", "turn", "team", "inside"] bd__law_board) (F__law_refused_right : FnD P w K mg base T 8 "_law_refused_right" 3 ["hand", "teams", "spare", "none", "bad", "far", "odd", "said"] bd__law_refused_right) (f : Addr) (cdv : Value) (A : Around) (outer : List Env) (s : Shared) (H : Hp) (E : XK) (hr : Room 8 (A.deeper (envOfC "law" (defScope (top 45)) s.heap.objs.size f cdv))) : DSs (bodyCx P w K mg base ["script", "hand", "turn", "due", "first", "turns_here", "now", "board", "left", "more", "lacks", "spare", "pause", "teams", "team", "minute", "one", "a", "b"] "law" (defScope (top 45)) f cdv A outer s H E) T (fun cls d _ H => E cls d H) (defBody (top 45)) bd_law :=
  (dss_cons (ds_setO sc_law.nd rfl (loc_b rfl) (do_v (dv_call0 (FnD.mono (k := 8) F__law_hand (by decide)) hr (takes_of rfl rfl rfl rfl) rfl (da_cons (de_var rfl (vis_b rfl)) da_nil)))) (dss_cons (ds_for (vs := [2]) (passes_of rfl) rfl (di_range1 rfl (L.fr 13 _ rfl) (da_cons de_int da_nil)) (dg_nm sc_law.nd rfl (loc_b rfl) (by decide)) (dss_cons (ds_set sc_law.nd rfl (loc_b rfl) (de_callTy c_tup rfl (L.fr 3 _ rfl) (by decide +kernel) (da_cons (de_frz (do_lc (own := [("team", 14)]) rfl sc_law.nd (di_range1 rfl (L.fr 13 _ rfl) (da_cons (de_binA o_add o_cat de_int (de_v (dv_call1 0 (FnD.mono (k := 8) F__law_draw (by decide)) hr (takes_of rfl rfl rfl rfl) rfl (da_cons (de_var rfl (vis_b rfl)) (da_cons de_int da_nil))))) da_nil)) (blkOk_by rfl) ⟨fun s H C cl fp => (dg_nm sc_law.nd rfl (loc_b rfl) (by decide)), fun s H C cl fp => dts_nil, fun s H C cl fp => (de_v (dv_call1 0 (FnD.mono (k := 8) F__law_team (by decide)) hr LamX.takes0 rfl (da_cons (de_var rfl (vis_b rfl)) da_nil)))⟩ noj_range1)) da_nil))) (dss_cons (ds_asg (vs := [11, 12]) (de_tup (da_cons (de_v (dv_call1 0 (FnD.mono (k := 8) F__law_draw (by decide)) hr (takes_of rfl rfl rfl rfl) rfl (da_cons (de_var rfl (vis_b rfl)) (da_cons de_int da_nil)))) (da_cons (de_v (dv_call1 0 (FnD.mono (k := 8) F__law_draw (by decide)) hr (takes_of rfl rfl rfl rfl) rfl (da_cons (de_var rfl (vis_b rfl)) (da_cons de_int da_nil)))) da_nil))) (dg_tp rfl (dgs_cons (dg_nm sc_law.nd rfl (loc_b rfl) (by decide)) (dgs_cons (dg_nm sc_law.nd rfl (loc_b rfl) (by decide)) dgs_nil)))) (dss_cons (ds_set sc_law.nd rfl (loc_b rfl) (de_v (dv_call0 (FnD.mono (k := 8) F__law_lacking (by decide)) hr (takes_of rfl rfl rfl rfl) rfl (da_cons (de_var rfl (vis_b rfl)) (da_cons (de_var rfl (vis_b rfl)) (da_cons (de_var rfl (vis_b rfl)) da_nil)))))) (dss_cons (ds_if (dt_cmp (o_ne (rm1 hr)) (de_v (dv_call0 (FnD.mono (k := 8) F_lacking_minutes (by decide)) hr (takes_of rfl rfl rfl rfl) rfl (da_cons (de_var rfl (vis_b rfl)) (da_cons (de_var rfl (vis_b rfl)) (da_cons (de_var rfl (vis_b rfl)) da_nil))))) (de_var rfl (vis_b rfl)) (nomark _)) (dss_one (ds_ret de_bl)) dss_nil) (dss_cons (ds_if (dt_cmp (o_ne (rm1 hr)) (de_v (dv_call0 (FnD.mono (k := 8) F_turns_for_ever (by decide)) hr (takes_of rfl rfl rfl rfl) rfl (da_cons (de_var rfl (vis_b rfl)) (da_cons (de_var rfl (vis_b rfl)) (da_cons (de_var rfl (vis_b rfl)) da_nil))))) (de_and (de_cmp o_isnot (de_var rfl (vis_b rfl)) de_non (nomark _)) (de_one (de_cmp (o_eq (rm1 hr)) (de_callB (c_maxA rfl (rm2 hr)) rfl (L.fr 6 _ rfl) (by decide +kernel) (da_cons (de_var rfl (vis_b rfl)) da_nil)) de_int (nomark _)))) (nomark _)) (dss_one (ds_ret de_bl)) dss_nil) (dss_cons (ds_set sc_law.nd rfl (loc_b rfl) (de_v (dv_call0 (FnD.mono (k := 8) F_lacking_minutes (by decide)) hr (takes_of rfl rfl rfl rfl) rfl (da_cons (de_binA o_add o_cat (de_var rfl (vis_b rfl)) (de_tup (da_cons (de_tup (da_cons de_int (da_cons de_int (da_cons de_int da_nil)))) da_nil))) (da_cons (de_var rfl (vis_b rfl)) (da_cons (de_var rfl (vis_b rfl)) da_nil)))))) (dss_cons (ds_if (dt_w (dw_and (dt_cmp o_isnot (de_var rfl (vis_b rfl)) de_non (nomark _)) (dw_and1 (dt_not (dt_tru (de_callB (c_allA rfl) rfl (L.fr 5 _ rfl) (by decide +kernel) (da_cons (de_frz (do_lc (own := [("a", 17), ("b", 18)]) rfl sc_law.nd (di_zip rfl (L.fr 7 _ rfl) (da_cons (de_var rfl (vis_b rfl)) (da_cons (de_var rfl (vis_b rfl)) da_nil))) (blkOk_by rfl) ⟨fun s H C cl fp => (dg_tp rfl (dgs_cons (dg_nm sc_law.nd rfl (loc_b rfl) (by decide)) (dgs_cons (dg_nm sc_law.nd rfl (loc_b rfl) (by decide)) dgs_nil))), fun s H C cl fp => dts_nil, fun s H C cl fp => (de_cmp o_ge (de_var rfl (vis_b rfl)) (de_var rfl (vis_b rfl)) (nomark _))⟩ noj_zip)) da_nil))))))) (dss_one (ds_ret de_bl)) dss_nil) (dss_cons (ds_par2 rfl sc_law.nd rfl rfl (by decide) rfl rfl (dav_o (do_lstRg rfl rfl (L.fr 14 _ rfl) rfl (L.fr 13 _ rfl) (de_callB c_len rfl (L.fr 4 _ rfl) (by decide +kernel) (da_cons (de_var rfl (vis_b rfl)) da_nil))) (dav_o (do_lst da_nil) dav_nil))) (dss_cons (ds_while 64 (passes_of rfl) (dt_w (dw_and (dt_cmp (o_ne (rm1 hr)) (de_var rfl (vis_b rfl)) (de_frz (do_lst da_nil)) (nomark _)) (dw_and1 (dt_cmp o_gt (de_v (dv_call1 0 (FnD.mono (k := 8) F__law_draw (by decide)) hr (takes_of rfl rfl rfl rfl) rfl (da_cons (de_var rfl (vis_b rfl)) (da_cons de_int da_nil)))) de_int (nomark _))))) (dss_one (ds_drop (de_meth F.slot_list_append m_append rfl (vis_b rfl) (da_cons (de_tup (da_cons (de_meth F.slot_list_pop m_pop rfl (vis_b rfl) (da_cons (de_v (dv_call1 0 (FnD.mono (k := 8) F__law_draw (by decide)) hr (takes_of rfl rfl rfl rfl) rfl (da_cons (de_var rfl (vis_b rfl)) (da_cons (de_callB c_len rfl (L.fr 4 _ rfl) (by decide +kernel) (da_cons (de_var rfl (vis_b rfl)) da_nil)) da_nil)))) da_nil)) (da_cons (de_v (dv_call1 0 (FnD.mono (k := 8) F__law_draw (by decide)) hr (takes_of rfl rfl rfl rfl) rfl (da_cons (de_var rfl (vis_b rfl)) (da_cons de_int da_nil)))) da_nil))) da_nil))))) (dss_cons (ds_set sc_law.nd rfl (loc_b rfl) (de_callTy c_tup rfl (L.fr 3 _ rfl) (by decide +kernel) (da_cons (de_var rfl (vis_b rfl)) da_nil))) (dss_cons (ds_set sc_law.nd rfl (loc_b rfl) (de_binA o_add o_cat (de_callB (c_maxA rfl (rm2 hr)) rfl (L.fr 6 _ rfl) (by decide +kernel) (da_cons (de_binA o_add o_cat (de_frz (do_lst (da_cons de_int da_nil))) (de_frz (do_lc (own := [("team", 14), ("minute", 15)]) rfl sc_law.nd (di_var rfl (vis_b rfl)) (blkOk_by rfl) ⟨fun s H C cl fp => (dg_tp rfl (dgs_cons (dg_nm sc_law.nd rfl (loc_b rfl) (by decide)) (dgs_cons (dg_nm sc_law.nd rfl (loc_b rfl) (by decide)) dgs_nil))), fun s H C cl fp => dts_nil, fun s H C cl fp => (de_var rfl (vis_b rfl))⟩ (noj_var (by decide))))) da_nil)) (de_v (dv_call1 0 (FnD.mono (k := 8) F__law_draw (by decide)) hr (takes_of rfl rfl rfl rfl) rfl (da_cons (de_var rfl (vis_b rfl)) (da_cons de_int da_nil)))))) (dss_cons (ds_if (dt_cmp (o_ne (rm1 hr)) (de_v (dv_call0 (FnD.mono (k := 8) F_board_told (by decide)) hr (takes_of rfl rfl rfl rfl) rfl (da_cons (de_var rfl (vis_b rfl)) (da_cons (de_var rfl (vis_b rfl)) (da_cons (de_var rfl (vis_b rfl)) (da_cons (de_var rfl (vis_b rfl)) da_nil)))))) (de_v (dv_call0 (FnD.mono (k := 8) F__law_board (by decide)) hr (takes_of rfl rfl rfl rfl) rfl (da_cons (de_var rfl (vis_b rfl)) (da_cons (de_var rfl (vis_b rfl)) (da_cons (de_var rfl (vis_b rfl)) (da_cons (de_var rfl (vis_b rfl)) da_nil)))))) (nomark _)) (dss_one (ds_ret de_bl)) dss_nil) (dss_cons (ds_setLcO (own := [("team", 14), ("minute", 15)]) rfl sc_law.nd rfl rfl (sw_true rfl rfl rfl rfl) (di_var rfl (vis_b rfl)) (blkOk_by rfl) ⟨fun s H C cl fp => (dg_tp rfl (dgs_cons (dg_nm sc_law.nd rfl (loc_b rfl) (by decide)) (dgs_cons (dg_nm sc_law.nd rfl (loc_b rfl) (by decide)) dgs_nil))), fun s H C cl fp => dts_nil, fun s H C cl fp => (de_tup (da_cons (de_var rfl (vis_b rfl)) (da_cons (de_v (dv_call0 (FnD.mono (k := 8) F__law_turn (by decide)) hr LamX.takes0 rfl (da_cons (de_ix (de_var rfl (vis_b rfl)) (de_var rfl (vis_b rfl))) (da_cons (de_var rfl (vis_b rfl)) da_nil)))) (da_cons (de_var rfl (vis_b rfl)) da_nil))))⟩ (noj_var (by decide))) (dss_cons (ds_set sc_law.nd rfl (loc_b rfl) de_non) (dss_cons (ds_if (dt_w (dw_and (dt_cmp (o_ne (rm1 hr)) (de_var rfl (vis_b rfl)) (de_tup da_nil) (nomark _)) (dw_and1 (dt_not (dt_tru (de_callB (c_anyA rfl) rfl (L.fr 9 _ rfl) (by decide +kernel) (da_cons (de_frz (do_lc (own := [("team", 14), ("one", 16), ("minute", 15)]) rfl sc_law.nd (di_seq (de_var rfl (vis_b rfl))) (blkOk_by rfl) ⟨fun s H C cl fp => (dg_tp rfl (dgs_cons (dg_nm sc_law.nd rfl (loc_b rfl) (by decide)) (dgs_cons (dg_nm sc_law.nd rfl (loc_b rfl) (by decide)) (dgs_cons (dg_nm sc_law.nd rfl (loc_b rfl) (by decide)) dgs_nil)))), fun s H C cl fp => dts_nil, fun s H C cl fp => (de_cmp o_is (de_var rfl (vis_b rfl)) de_non (nomark _))⟩ noj_items)) da_nil))))))) (dss_cons (ds_set sc_law.nd rfl (loc_b rfl) (de_callB (c_minA rfl (rm2 hr)) rfl (L.fr 10 _ rfl) (by decide +kernel) (da_cons (de_frz (do_lc (own := [("team", 14), ("one", 16), ("minute", 15)]) rfl sc_law.nd (di_seq (de_var rfl (vis_b rfl))) (blkOk_by rfl) ⟨fun s H C cl fp => (dg_tp rfl (dgs_cons (dg_nm sc_law.nd rfl (loc_b rfl) (by decide)) (dgs_cons (dg_nm sc_law.nd rfl (loc_b rfl) (by decide)) (dgs_cons (dg_nm sc_law.nd rfl (loc_b rfl) (by decide)) dgs_nil)))), fun s H C cl fp => dts_nil, fun s H C cl fp => (de_binA o_add o_cat (de_var rfl (vis_b rfl)) (de_var rfl (vis_b rfl)))⟩ noj_items)) da_nil))) (dss_one (ds_set sc_law.nd rfl (loc_b rfl) (de_tup (da_cons (de_var rfl (vis_b rfl)) (da_cons (de_callTy c_tup rfl (L.fr 3 _ rfl) (by decide +kernel) (da_cons (de_frz (do_callB c_sorted rfl (L.fr 11 _ rfl) (by decide +kernel) (da_cons (de_frz (do_lc (own := [("team", 14), ("one", 16), ("minute", 15)]) rfl sc_law.nd (di_seq (de_var rfl (vis_b rfl))) (blkOk_by rfl) ⟨fun s H C cl fp => (dg_tp rfl (dgs_cons (dg_nm sc_law.nd rfl (loc_b rfl) (by decide)) (dgs_cons (dg_nm sc_law.nd rfl (loc_b rfl) (by decide)) (dgs_cons (dg_nm sc_law.nd rfl (loc_b rfl) (by decide)) dgs_nil)))), fun s H C cl fp => (dts_one (dt_cmp (o_eq (rm1 hr)) (de_binA o_add o_cat (de_var rfl (vis_b rfl)) (de_var rfl (vis_b rfl))) (de_var rfl (vis_b rfl)) (nomark _))), fun s H C cl fp => (de_var rfl (vis_b rfl))⟩ noj_items)) da_nil))) da_nil)) da_nil)))))) dss_nil) (dss_cons (ds_if (dt_cmp (o_ne (rm1 hr)) (de_v (dv_call0 (FnD.mono (k := 8) F_next_to_turn (by decide)) hr (takes_of rfl rfl rfl rfl) rfl (da_cons (de_var rfl (vis_b rfl)) (da_cons (de_var rfl (vis_b rfl)) (da_cons (de_var rfl (vis_b rfl)) da_nil))))) (de_var rfl (vis_b rfl)) (nomark _)) (dss_one (ds_ret de_bl)) dss_nil) (dss_one (ds_if (dt_not (dt_tru (de_v (dv_call1 0 (FnD.mono (k := 8) F__law_refused_right (by decide)) hr (takes_of rfl rfl rfl rfl) rfl (da_cons (de_var rfl (vis_b rfl)) (da_cons (de_var rfl (vis_b rfl)) (da_cons (de_var rfl (vis_b rfl)) da_nil))))))) (dss_one (ds_ret de_bl)) dss_nil))))))))))))))))))) (dss_cons (ds_set sc_law.nd rfl (loc_b rfl) (de_tup (da_cons (de_tup (da_cons de_int (da_cons de_int (da_cons de_int da_nil)))) da_nil))) (dss_cons (ds_if (dt_cmp (o_ne (rm1 hr)) (de_v (dv_call0 (FnD.mono (k := 8) F_board_told (by decide)) hr (takes_of rfl rfl rfl rfl) rfl (da_cons (de_var rfl (vis_b rfl)) (da_cons de_int (da_cons (de_tup (da_cons (de_tup (da_cons de_int (da_cons de_int da_nil))) da_nil)) (da_cons de_int da_nil)))))) (de_tup (da_cons (de_tup (da_cons de_int (da_cons de_int (da_cons de_str da_nil)))) da_nil)) (nomark _)) (dss_one (ds_ret de_bl)) dss_nil) (dss_one (ds_ret (de_cmp (o_eq (rm1 hr)) (de_v (dv_call0 (FnD.mono (k := 8) F_next_to_turn (by decide)) hr (takes_of rfl rfl rfl rfl) rfl (da_cons (de_var rfl (vis_b rfl)) (da_cons de_int (da_cons (de_tup (da_cons (de_tup (da_cons de_int (da_cons de_int da_nil))) da_nil)) da_nil))))) (de_tup (da_cons de_int (da_cons (de_tup (da_cons de_int da_nil)) da_nil))) (nomark _))))))))
end
section
variable {X : Cx} {T : List (Addr × Str)}
theorem sc__law_said : FnScope ["call", "error", "some"] ["call"] (defScope (top 41)) := ⟨rfl, rfl, rfl, by decide +kernel, rfl, by decide +kernel, by decide +kernel⟩
theorem ws_law_said_0 (L : Lw X.K X.mg frL isL ssL xsL) (hx : exB clsL pairL X.K = true) (hgl : ∀ (i : Nat) x, gloL[i]? = some x → X.mg x = some (.ref (He.ga X.K x))) (hr : Room 1 X.A) (g : Addr) (cdg : Value) (s : Shared) (H : Hp) (a : Addr) (oe : Obj) (pn : List (Addr × Obj)) (hz : Zc (.ref (He.ga X.K "NoNumber")) none oe) (hf : ∃ vs, oe.data = .fields vs) (st : List Stmt) (hst : st = (match defBody (top 41) with
  | .Try _ [.ExceptHandler _ _ b _] _ _ _ :: _ => b
  | _ => [])) :
    DSs (Cx.suite (cxOf C8.CX0 X.prog X.w X.K X.mg X.base ["call", "error", "some"] "_law_said" (defScope (top 41)) g cdg X.A X.stack s H C8.E0).nox a ((a, oe) :: pn)) T Wno st (sd_law_said_0 a) := by
  subst hst
  have Ec := exB_cl hx 0 (x := "NoNumber") rfl
  exact (dss_cons (ds_set sc__law_said.nd rfl (loc_b rfl) (de_frz (do_lst (da_cons (de_isEo Ec.1 hz hf rfl (vis_b rfl) rfl (hgl 1 _ rfl) (exB_pair hx 0 rfl) rfl (L.fr 0 _ rfl)) (da_cons (de_isEo Ec.1 hz hf rfl (vis_b rfl) rfl (hgl 2 _ rfl) (exB_pair hx 1 rfl) rfl (L.fr 0 _ rfl)) (da_cons (de_isEo Ec.1 hz hf rfl (vis_b rfl) rfl (hgl 3 _ rfl) (exB_pair hx 2 rfl) rfl (L.fr 0 _ rfl)) da_nil)))))) (dss_cons (ds_set sc__law_said.nd rfl (loc_b rfl) (de_binA o_add o_cat (de_var rfl (vis_b rfl)) (de_frz (do_lst (da_cons (de_isEo Ec.1 hz hf rfl (vis_b rfl) rfl (hgl 4 _ rfl) (exB_pair hx 3 rfl) rfl (L.fr 0 _ rfl)) da_nil))))) (dss_cons (ds_if (dt_w (dw_or (dt_cmp (o_ne (rmS1 (env := envOfC "_law_said" (defScope (top 41)) s.heap.objs.size g cdg) hr)) (de_mb F.slot_list_count (m_count (rmS2 (env := envOfC "_law_said" (defScope (top 41)) s.heap.objs.size g cdg) hr)) ty_list (de_var rfl (vis_b rfl)) (da_cons de_bl da_nil) PySem.F.plainAttrs_list) de_int (nomark _)) (dw_or1 (dt_not (dt_tru (de_isEb Ec.1 hz hf rfl (vis_b rfl) rfl (L.fr 15 _ rfl) (by decide +kernel) Ec.2 rfl (L.fr 0 _ rfl))))))) (dss_one (ds_ret de_str)) dss_nil) (dss_one (ds_ret (de_ix (de_frz (do_lst (da_cons de_str (da_cons de_str (da_cons de_str (da_cons de_str da_nil)))))) (de_mb F.slot_list_index (m_index (rmS2 (env := envOfC "_law_said" (defScope (top 41)) s.heap.objs.size g cdg) hr)) ty_list (de_var rfl (vis_b rfl)) (da_cons de_bl da_nil) PySem.F.plainAttrs_list)))))))
theorem run_law_said_0 (a : Addr) : ∃ env', sd_law_said_0 a (envX 3 1 a) = .ok (.ret (.d (.str "number"))) env' := by
  have h : wp (sd_law_said_0 a) (envX 3 1 a) (fun fl _ => fl = .ret (.d (.str "number"))) (fun _ _ => False) := by
    unfold sd_law_said_0 envX
    simp [sizeLine_eq, gAddA, gOr, gAdd, gCat, gCount, gNe, gIndex, gIx, atI, ixN, truD, isLst, SeqAt.shaped, PyData.canLay0, PyData.canLayAll0, PyData.depth, PyData.depthAll, PyData.eqv, List.findIdx?_cons, List.countP_cons]
  obtain ⟨v, env', e, rfl⟩ := wp_ok h
  exact ⟨env', e⟩
theorem ws_law_said_1 (L : Lw X.K X.mg frL isL ssL xsL) (hx : exB clsL pairL X.K = true) (hgl : ∀ (i : Nat) x, gloL[i]? = some x → X.mg x = some (.ref (He.ga X.K x))) (hr : Room 1 X.A) (g : Addr) (cdg : Value) (s : Shared) (H : Hp) (a : Addr) (oe : Obj) (pn : List (Addr × Obj)) (hz : Zc (.ref (He.ga X.K "NoStand")) none oe) (hf : ∃ vs, oe.data = .fields vs) (st : List Stmt) (hst : st = (match defBody (top 41) with
  | .Try _ [.ExceptHandler _ _ b _] _ _ _ :: _ => b
  | _ => [])) :
    DSs (Cx.suite (cxOf C8.CX0 X.prog X.w X.K X.mg X.base ["call", "error", "some"] "_law_said" (defScope (top 41)) g cdg X.A X.stack s H C8.E0).nox a ((a, oe) :: pn)) T Wno st (sd_law_said_1 a) := by
  subst hst
  have Ec := exB_cl hx 1 (x := "NoStand") rfl
  exact (dss_cons (ds_set sc__law_said.nd rfl (loc_b rfl) (de_frz (do_lst (da_cons (de_isEo Ec.1 hz hf rfl (vis_b rfl) rfl (hgl 1 _ rfl) (exB_pair hx 4 rfl) rfl (L.fr 0 _ rfl)) (da_cons (de_isEo Ec.1 hz hf rfl (vis_b rfl) rfl (hgl 2 _ rfl) (exB_pair hx 5 rfl) rfl (L.fr 0 _ rfl)) (da_cons (de_isEo Ec.1 hz hf rfl (vis_b rfl) rfl (hgl 3 _ rfl) (exB_pair hx 6 rfl) rfl (L.fr 0 _ rfl)) da_nil)))))) (dss_cons (ds_set sc__law_said.nd rfl (loc_b rfl) (de_binA o_add o_cat (de_var rfl (vis_b rfl)) (de_frz (do_lst (da_cons (de_isEo Ec.1 hz hf rfl (vis_b rfl) rfl (hgl 4 _ rfl) (exB_pair hx 7 rfl) rfl (L.fr 0 _ rfl)) da_nil))))) (dss_cons (ds_if (dt_w (dw_or (dt_cmp (o_ne (rmS1 (env := envOfC "_law_said" (defScope (top 41)) s.heap.objs.size g cdg) hr)) (de_mb F.slot_list_count (m_count (rmS2 (env := envOfC "_law_said" (defScope (top 41)) s.heap.objs.size g cdg) hr)) ty_list (de_var rfl (vis_b rfl)) (da_cons de_bl da_nil) PySem.F.plainAttrs_list) de_int (nomark _)) (dw_or1 (dt_not (dt_tru (de_isEb Ec.1 hz hf rfl (vis_b rfl) rfl (L.fr 15 _ rfl) (by decide +kernel) Ec.2 rfl (L.fr 0 _ rfl))))))) (dss_one (ds_ret de_str)) dss_nil) (dss_one (ds_ret (de_ix (de_frz (do_lst (da_cons de_str (da_cons de_str (da_cons de_str (da_cons de_str da_nil)))))) (de_mb F.slot_list_index (m_index (rmS2 (env := envOfC "_law_said" (defScope (top 41)) s.heap.objs.size g cdg) hr)) ty_list (de_var rfl (vis_b rfl)) (da_cons de_bl da_nil) PySem.F.plainAttrs_list)))))))
theorem run_law_said_1 (a : Addr) : ∃ env', sd_law_said_1 a (envX 3 1 a) = .ok (.ret (.d (.str "stand"))) env' := by
  have h : wp (sd_law_said_1 a) (envX 3 1 a) (fun fl _ => fl = .ret (.d (.str "stand"))) (fun _ _ => False) := by
    unfold sd_law_said_1 envX
    simp [sizeLine_eq, gAddA, gOr, gAdd, gCat, gCount, gNe, gIndex, gIx, atI, ixN, truD, isLst, SeqAt.shaped, PyData.canLay0, PyData.canLayAll0, PyData.depth, PyData.depthAll, PyData.eqv, List.findIdx?_cons, List.countP_cons]
  obtain ⟨v, env', e, rfl⟩ := wp_ok h
  exact ⟨env', e⟩
theorem ws_law_said_2 (L : Lw X.K X.mg frL isL ssL xsL) (hx : exB clsL pairL X.K = true) (hgl : ∀ (i : Nat) x, gloL[i]? = some x → X.mg x = some (.ref (He.ga X.K x))) (hr : Room 1 X.A) (g : Addr) (cdg : Value) (s : Shared) (H : Hp) (a : Addr) (oe : Obj) (pn : List (Addr × Obj)) (hz : Zc (.ref (He.ga X.K "NoTeams")) none oe) (hf : ∃ vs, oe.data = .fields vs) (st : List Stmt) (hst : st = (match defBody (top 41) with
  | .Try _ [.ExceptHandler _ _ b _] _ _ _ :: _ => b
  | _ => [])) :
    DSs (Cx.suite (cxOf C8.CX0 X.prog X.w X.K X.mg X.base ["call", "error", "some"] "_law_said" (defScope (top 41)) g cdg X.A X.stack s H C8.E0).nox a ((a, oe) :: pn)) T Wno st (sd_law_said_2 a) := by
  subst hst
  have Ec := exB_cl hx 2 (x := "NoTeams") rfl
  exact (dss_cons (ds_set sc__law_said.nd rfl (loc_b rfl) (de_frz (do_lst (da_cons (de_isEo Ec.1 hz hf rfl (vis_b rfl) rfl (hgl 1 _ rfl) (exB_pair hx 8 rfl) rfl (L.fr 0 _ rfl)) (da_cons (de_isEo Ec.1 hz hf rfl (vis_b rfl) rfl (hgl 2 _ rfl) (exB_pair hx 9 rfl) rfl (L.fr 0 _ rfl)) (da_cons (de_isEo Ec.1 hz hf rfl (vis_b rfl) rfl (hgl 3 _ rfl) (exB_pair hx 10 rfl) rfl (L.fr 0 _ rfl)) da_nil)))))) (dss_cons (ds_set sc__law_said.nd rfl (loc_b rfl) (de_binA o_add o_cat (de_var rfl (vis_b rfl)) (de_frz (do_lst (da_cons (de_isEo Ec.1 hz hf rfl (vis_b rfl) rfl (hgl 4 _ rfl) (exB_pair hx 11 rfl) rfl (L.fr 0 _ rfl)) da_nil))))) (dss_cons (ds_if (dt_w (dw_or (dt_cmp (o_ne (rmS1 (env := envOfC "_law_said" (defScope (top 41)) s.heap.objs.size g cdg) hr)) (de_mb F.slot_list_count (m_count (rmS2 (env := envOfC "_law_said" (defScope (top 41)) s.heap.objs.size g cdg) hr)) ty_list (de_var rfl (vis_b rfl)) (da_cons de_bl da_nil) PySem.F.plainAttrs_list) de_int (nomark _)) (dw_or1 (dt_not (dt_tru (de_isEb Ec.1 hz hf rfl (vis_b rfl) rfl (L.fr 15 _ rfl) (by decide +kernel) Ec.2 rfl (L.fr 0 _ rfl))))))) (dss_one (ds_ret de_str)) dss_nil) (dss_one (ds_ret (de_ix (de_frz (do_lst (da_cons de_str (da_cons de_str (da_cons de_str (da_cons de_str da_nil)))))) (de_mb F.slot_list_index (m_index (rmS2 (env := envOfC "_law_said" (defScope (top 41)) s.heap.objs.size g cdg) hr)) ty_list (de_var rfl (vis_b rfl)) (da_cons de_bl da_nil) PySem.F.plainAttrs_list)))))))
theorem run_law_said_2 (a : Addr) : ∃ env', sd_law_said_2 a (envX 3 1 a) = .ok (.ret (.d (.str "teams"))) env' := by
  have h : wp (sd_law_said_2 a) (envX 3 1 a) (fun fl _ => fl = .ret (.d (.str "teams"))) (fun _ _ => False) := by
    unfold sd_law_said_2 envX
    simp [sizeLine_eq, gAddA, gOr, gAdd, gCat, gCount, gNe, gIndex, gIx, atI, ixN, truD, isLst, SeqAt.shaped, PyData.canLay0, PyData.canLayAll0, PyData.depth, PyData.depthAll, PyData.eqv, List.findIdx?_cons, List.countP_cons]
  obtain ⟨v, env', e, rfl⟩ := wp_ok h
  exact ⟨env', e⟩
theorem ws_law_said_3 (L : Lw X.K X.mg frL isL ssL xsL) (hx : exB clsL pairL X.K = true) (hgl : ∀ (i : Nat) x, gloL[i]? = some x → X.mg x = some (.ref (He.ga X.K x))) (hr : Room 1 X.A) (g : Addr) (cdg : Value) (s : Shared) (H : Hp) (a : Addr) (oe : Obj) (pn : List (Addr × Obj)) (hz : Zc (.ref (He.ga X.K "NoTime")) none oe) (hf : ∃ vs, oe.data = .fields vs) (st : List Stmt) (hst : st = (match defBody (top 41) with
  | .Try _ [.ExceptHandler _ _ b _] _ _ _ :: _ => b
  | _ => [])) :
    DSs (Cx.suite (cxOf C8.CX0 X.prog X.w X.K X.mg X.base ["call", "error", "some"] "_law_said" (defScope (top 41)) g cdg X.A X.stack s H C8.E0).nox a ((a, oe) :: pn)) T Wno st (sd_law_said_3 a) := by
  subst hst
  have Ec := exB_cl hx 3 (x := "NoTime") rfl
  exact (dss_cons (ds_set sc__law_said.nd rfl (loc_b rfl) (de_frz (do_lst (da_cons (de_isEo Ec.1 hz hf rfl (vis_b rfl) rfl (hgl 1 _ rfl) (exB_pair hx 12 rfl) rfl (L.fr 0 _ rfl)) (da_cons (de_isEo Ec.1 hz hf rfl (vis_b rfl) rfl (hgl 2 _ rfl) (exB_pair hx 13 rfl) rfl (L.fr 0 _ rfl)) (da_cons (de_isEo Ec.1 hz hf rfl (vis_b rfl) rfl (hgl 3 _ rfl) (exB_pair hx 14 rfl) rfl (L.fr 0 _ rfl)) da_nil)))))) (dss_cons (ds_set sc__law_said.nd rfl (loc_b rfl) (de_binA o_add o_cat (de_var rfl (vis_b rfl)) (de_frz (do_lst (da_cons (de_isEo Ec.1 hz hf rfl (vis_b rfl) rfl (hgl 4 _ rfl) (exB_pair hx 15 rfl) rfl (L.fr 0 _ rfl)) da_nil))))) (dss_cons (ds_if (dt_w (dw_or (dt_cmp (o_ne (rmS1 (env := envOfC "_law_said" (defScope (top 41)) s.heap.objs.size g cdg) hr)) (de_mb F.slot_list_count (m_count (rmS2 (env := envOfC "_law_said" (defScope (top 41)) s.heap.objs.size g cdg) hr)) ty_list (de_var rfl (vis_b rfl)) (da_cons de_bl da_nil) PySem.F.plainAttrs_list) de_int (nomark _)) (dw_or1 (dt_not (dt_tru (de_isEb Ec.1 hz hf rfl (vis_b rfl) rfl (L.fr 15 _ rfl) (by decide +kernel) Ec.2 rfl (L.fr 0 _ rfl))))))) (dss_one (ds_ret de_str)) dss_nil) (dss_one (ds_ret (de_ix (de_frz (do_lst (da_cons de_str (da_cons de_str (da_cons de_str (da_cons de_str da_nil)))))) (de_mb F.slot_list_index (m_index (rmS2 (env := envOfC "_law_said" (defScope (top 41)) s.heap.objs.size g cdg) hr)) ty_list (de_var rfl (vis_b rfl)) (da_cons de_bl da_nil) PySem.F.plainAttrs_list)))))))
theorem run_law_said_3 (a : Addr) : ∃ env', sd_law_said_3 a (envX 3 1 a) = .ok (.ret (.d (.str "time"))) env' := by
  have h : wp (sd_law_said_3 a) (envX 3 1 a) (fun fl _ => fl = .ret (.d (.str "time"))) (fun _ _ => False) := by
    unfold sd_law_said_3 envX
    simp [sizeLine_eq, gAddA, gOr, gAdd, gCat, gCount, gNe, gIndex, gIx, atI, ixN, truD, isLst, SeqAt.shaped, PyData.canLay0, PyData.canLayAll0, PyData.depth, PyData.depthAll, PyData.eqv, List.findIdx?_cons, List.countP_cons]
  obtain ⟨v, env', e, rfl⟩ := wp_ok h
  exact ⟨env', e⟩
end
end K71
end

/- M71a -/
section
set_option maxHeartbeats 4000000
namespace K71
open PySem PySem.Spec PyProof.Rows L2 DL

def intD : PyData → Bool
  | .int _ => true
  | _ => false
def withinD (d : PyData) (lo hi : Int) : Bool := match d with
  | .int i => decide (lo ≤ i) && decide (i ≤ hi)
  | _ => false
def sizedD (d : PyData) (lo hi : Int) : Bool := match d with
  | .tuple xs => decide (lo ≤ (xs.length : Int)) && decide ((xs.length : Int) ≤ hi)
  | _ => false
theorem s_is_integer (d : PyData) : Ans bd_is_integer 1 [.d d] (.bool (intD d)) := by
  apply ans_of
  unfold bd_is_integer startE
  cases d <;> simp [DL.isInt, DL.isBool, truD, intD]
theorem s_is_within (d : PyData) (lo hi : Int) : Ans bd_is_within 3 [.d d, .d (.int lo), .d (.int hi)] (.bool (withinD d lo hi)) := by
  apply ans_of
  unfold bd_is_within startE
  simp
  refine wp_ans (s_is_integer d) rfl ?_
  cases d with
  | int i => by_cases h : lo ≤ i <;> simp [intD, truD, withinD, gLe, h]
  | _ => simp [intD, truD, withinD]
theorem s_is_sized (d : PyData) (lo hi : Int) : Ans bd_is_sized 3 [.d d, .d (.int lo), .d (.int hi)] (.bool (sizedD d lo hi)) := by
  apply ans_of
  unfold bd_is_sized startE
  cases d with
  | tuple xs => by_cases h : lo ≤ (xs.length : Int) <;> simp [DL.isTup, truD, sizedD, gLe, gLen, h]
  | _ => simp [DL.isTup, truD, sizedD]
def teamD (d : PyData) : Bool := match d with
  | .tuple [u, s, w] => withinD u 1 300 && withinD s 1 20 && withinD w 0 20
  | _ => false
theorem s_is_team (d : PyData) : Ans bd_is_team 1 [.d d] (.bool (teamD d)) := by
  apply ans_of
  unfold bd_is_team startE
  simp
  refine wp_ans (s_is_sized d 3 3) rfl ?_
  cases d with
  | tuple xs =>
    match xs with
    | [u, s, w] =>
      simp [sizedD, truD, gIx, atI, ixN]
      refine wp_ans (s_is_within u 1 300) rfl ?_
      simp [truD]
      cases hu : withinD u 1 300
      · simp [teamD, hu]
      · simp [gIx, atI, ixN]
        refine wp_ans (s_is_within s 1 20) rfl ?_
        simp [truD]
        cases hs : withinD s 1 20
        · simp [teamD, hu, hs]
        · simp [gIx, atI, ixN]
          refine wp_ans (s_is_within w 0 20) rfl ?_
          simp [teamD, hu, hs]
    | [] => simp [sizedD, truD, teamD]
    | [_] => simp [sizedD, truD, teamD]
    | [_, _] => simp [sizedD, truD, teamD]
    | _ :: _ :: _ :: _ :: r =>
      have : ¬ ((r.length : Int) + 1 + 1 + 1 + 1 ≤ 3) := by omega
      simp [sizedD, truD, teamD, this]
  | _ => simp [sizedD, truD, teamD]
theorem s_check_spare (d : PyData) (h : withinD d 0 100 = true) : Don bd_check_spare 1 [.d d] := by
  apply don_of
  unfold bd_check_spare startE
  simp
  refine wp_ans (s_is_within d 0 100) rfl ?_
  simp [truD, h]
theorem r_check_spare (d : PyData) (h : withinD d 0 100 = false) : Rai bd_check_spare 1 [.d d] "NoNumber" := by
  apply rai_of
  unfold bd_check_spare startE
  simp
  refine wp_ans (s_is_within d 0 100) rfl ?_
  simp [truD, h]
end K71
end

/- M71b -/
section
set_option maxHeartbeats 4000000
namespace K71
open PySem PySem.Spec PyProof.Rows L2 DL

structure Tm where
  u : Int
  s : Int
  w : Int
def Tm.d (t : Tm) : PyData := .tuple [.int t.u, .int t.s, .int t.w]
/-- in bounds -/
structure Tm.Ok (t : Tm) : Prop where
  u1 : 1 ≤ t.u
  u2 : t.u ≤ 100
  s1 : 1 ≤ t.s
  s2 : t.s ≤ 6
  w1 : 0 ≤ t.w
  w2 : t.w ≤ 5
theorem Tm.Ok.team {t : Tm} (h : t.Ok) : teamD t.d = true := by
  obtain ⟨h1, h2, h3, h4, h5, h6⟩ := h
  simp only [Tm.d, teamD, withinD, Bool.and_eq_true, decide_eq_true_eq]
  omega
def tmsD (ts : List Tm) : PyData := .tuple (ts.map Tm.d)
/-- the stay, by the code's own words -/
def stayI (t : Tm) (sp : Int) : Int := (t.u - sp) / t.s - 2 * t.w
def stayD (t : Tm) (sp : Int) : PyData := if stayI t sp < 0 then .none else .int (stayI t sp)
theorem small_of {i : Int} (h1 : -1000000 ≤ i) (h2 : i ≤ 1000000) : DL.small64 i = true := by
  unfold DL.small64
  simp only [Bool.and_eq_true, decide_eq_true_eq]
  constructor <;> omega
theorem s_raw_stay (t : Tm) (sp : Int) (h : t.Ok) : Ans bd_raw_stay 6 [.d t.d, .d (.int sp)] (stayD t sp) := by
  have h1 : (0 : Int) < t.s := by have := h.s1; omega
  have h2 : t.s < 1073741824 := by have := h.s2; omega
  apply ans_of
  unfold bd_raw_stay startE Tm.d
  simp [DL.gSub, DL.gDiv, gMulA, gOr, gMul, h1, h2, small_of (i := 2) (by omega) (by omega), gLt]
  unfold stayD stayI
  by_cases hs : (t.u - sp) / t.s - 2 * t.w < 0
  · simp [hs]
  · simp [hs]
theorem stay_iff (t : Tm) (sp m : Int) (h : t.Ok) : sp ≤ t.u - t.s * (2 * t.w + m) ↔ m ≤ stayI t sp := by
  have h1 : (0 : Int) < t.s := by have := h.s1; omega
  unfold stayI
  rw [show (m ≤ (t.u - sp) / t.s - 2 * t.w) ↔ (2 * t.w + m ≤ (t.u - sp) / t.s) from by omega, Int.le_ediv_iff_mul_le h1, Int.mul_comm]
  omega
theorem stay_le (t : Tm) (sp : Int) (h : t.Ok) (hs : 0 ≤ sp) : stayI t sp ≤ 100 := by
  have h1 : (0 : Int) < t.s := by have := h.s1; omega
  have h3 : (t.u - sp) / t.s < 101 := Int.ediv_lt_of_lt_mul h1 (by have := h.s1; have := h.u2; omega)
  unfold stayI
  have := h.w1
  omega
/-- what a search of the last one finds -/
def lastOf (P : Int → Bool) : Nat → PyData
  | 0 => .none
  | n + 1 => if P (n : Int) then .int n else lastOf P n
theorem last_eq (P : Int → Bool) (q : Int) (n : Nat) (hP : ∀ i : Nat, i < n → (P i = true ↔ (i : Int) ≤ q)) : lastOf P n = if q < 0 ∨ n = 0 then .none else .int (min ((n : Int) - 1) q) := by
  induction n with
  | zero => simp [lastOf]
  | succ n ih =>
    have hn := hP n (Nat.lt_succ_self n)
    have ih := ih fun i hi => hP i (Nat.lt_succ_of_lt hi)
    unfold lastOf
    by_cases hc : (n : Int) ≤ q
    · rw [if_pos (hn.mpr hc), if_neg (by omega)]
      congr 1
      omega
    · rw [if_neg (fun z => hc (hn.mp z)), ih]
      by_cases h0 : q < 0
      · rw [if_pos (.inl h0), if_pos (.inl h0)]
      · rw [if_neg (by omega), if_neg (by omega)]
        congr 1
        omega
theorem range_get {n i : Nat} {d : PyData} (hd : ((List.range n).map fun i : Nat => PyData.int (0 + (i : Int)))[i]? = some d) : d = .int i ∧ i < n := by
  rw [List.getElem?_map] at hd
  cases q : (List.range n)[i]? with
  | none => rw [q] at hd; cases hd
  | some k =>
    rw [q] at hd
    cases hd
    obtain ⟨hk1, hk2⟩ := List.getElem?_eq_some_iff.mp q
    have : k = i := by simpa using hk2.symm
    subst this
    exact ⟨by simp, by simpa using hk1⟩
theorem s_law_stay (t : Tm) (sp : Int) (h : t.Ok) (hs : 0 ≤ sp) : Ans bd__law_stay 4 [.d t.d, .d (.int sp)] (stayD t sp) := by
  have hw := small_of (i := t.s) (by have := h.s1; omega) (by have := h.s2; omega)
  have h2 := small_of (i := 2) (by omega) (by omega)
  apply ans_of
  unfold bd__law_stay startE
  simp only [wp_sSeq, wp_sSet, wp_mC, wp_leakD, wp_sto, wp_sFor, wp_mRange1, wp_mCons, wp_mNil, wp_getCons, wp_getNil, wp_getD]
  refine ⟨by omega, ?_⟩
  refine wp_for (fun i e => ∃ x : Option PyData, e = [some (.d t.d), some (.d (.int sp)), some (.d (lastOf (fun m => decide (m ≤ stayI t sp)) i)), x.map .d]) ⟨none, rfl⟩ (fun i d e hd hI => ?_) (fun e hI => ?_)
  · obtain ⟨x, rfl⟩ := hI
    obtain ⟨rfl, _⟩ := range_get hd
    have := stay_iff t sp i h
    by_cases hc : (i : Int) ≤ stayI t sp
    · have hp := this.mpr hc
      rcases x with _ | x <;> simp [Tm.d, gIx, atI, ixN, DL.gSub, gMulA, gAddA, gOr, gMul, gAdd, gGe, hw, h2, hp, lastOf, hc] <;> exact ⟨some (.int i), rfl⟩
    · have hn : ¬ sp ≤ t.u - t.s * (2 * t.w + i) := fun z => hc (this.mp z)
      rcases x with _ | x <;> simp [Tm.d, gIx, atI, ixN, DL.gSub, gMulA, gAddA, gOr, gMul, gAdd, gGe, hw, h2, hn, lastOf, hc] <;> exact ⟨some (.int i), rfl⟩
  · obtain ⟨x, rfl⟩ := hI
    have hle := stay_le t sp h hs
    rw [last_eq _ (stayI t sp) _ (fun i _ => by simp)]
    simp
    unfold stayD
    by_cases h1 : stayI t sp < 0
    · simp [h1]
    · simp [h1]
      omega
end K71
end

/- M71c -/
section
set_option maxHeartbeats 4000000
namespace K71
open PySem PySem.Spec PyProof.Rows L2 DL

/-- the minute of turning -/
def turnD (t : Tm) (sp : Int) : PyData := if stayI t sp < 0 then .none else .int (t.w + stayI t sp)
theorem turn_iff (t : Tm) (sp m : Int) (h : t.Ok) (h0 : 0 ≤ m) (hs : 0 ≤ stayI t sp) : sp ≤ t.u - t.s * (m + min m t.w) ↔ m ≤ t.w + stayI t sp := by
  have h1 : (0 : Int) < t.s := by have := h.s1; omega
  have hw := h.w1
  unfold stayI at hs ⊢
  rw [show sp ≤ t.u - t.s * (m + min m t.w) ↔ (m + min m t.w) * t.s ≤ t.u - sp from by rw [Int.mul_comm]; omega, ← Int.le_ediv_iff_mul_le h1]
  omega
theorem stayD_isNone (t : Tm) (sp : Int) : gIs (stayD t sp) .none = some (.bool (decide (stayI t sp < 0))) := by
  unfold stayD
  by_cases h : stayI t sp < 0 <;> simp [h, gIs]
theorem s_law_turn (t : Tm) (sp : Int) (h : t.Ok) (hs : 0 ≤ sp) : Ans bd__law_turn 4 [.d t.d, .d (.int sp)] (turnD t sp) := by
  have hw := small_of (i := t.s) (by have := h.s1; omega) (by have := h.s2; omega)
  have h2 := small_of (i := 2) (by omega) (by omega)
  apply ans_of
  unfold bd__law_turn startE
  simp only [wp_sSeq, wp_sSet, wp_mC, wp_leakD, wp_sto, wp_sFor, wp_mRange1, wp_mCons, wp_mNil, wp_getCons, wp_getNil, wp_getD]
  refine ⟨by omega, ?_⟩
  refine wp_for (fun i e => ∃ x : Option PyData, e = [some (.d t.d), some (.d (.int sp)), some (.d (lastOf (fun m => decide (sp ≤ t.u - t.s * (m + min m t.w))) i)), x.map .d]) ⟨none, rfl⟩ (fun i d e hd hI => ?_) (fun e hI => ?_)
  · obtain ⟨x, rfl⟩ := hI
    obtain ⟨rfl, _⟩ := range_get hd
    have hm : (if t.w < (i : Int) then t.w else (i : Int)) = min (i : Int) t.w := by
      by_cases q : t.w < (i : Int)
      · rw [if_pos q]; omega
      · rw [if_neg q]; omega
    by_cases hc : sp ≤ t.u - t.s * (i + min (i : Int) t.w)
    · rcases x with _ | x <;> simp [Tm.d, gIx, atI, ixN, DL.gSub, gMulA, gAddA, gOr, gMul, gAdd, gGe, gMinA, gMin, hw, h2, hm, lastOf, hc] <;> exact ⟨some (.int i), rfl⟩
    · rcases x with _ | x <;> simp [Tm.d, gIx, atI, ixN, DL.gSub, gMulA, gAddA, gOr, gMul, gAdd, gGe, gMinA, gMin, hw, h2, hm, lastOf, hc] <;> exact ⟨some (.int i), rfl⟩
  · obtain ⟨x, rfl⟩ := hI
    have hle := stay_le t sp h hs
    simp
    refine wp_ans (s_law_stay t sp h hs) rfl ?_
    simp [stayD_isNone]
    unfold turnD
    by_cases h1 : stayI t sp < 0
    · simp [h1]
    · have h3 := h.w2
      have h4 := h.w1
      rw [last_eq _ (t.w + stayI t sp) _ (fun i _ => by simp only [decide_eq_true_eq]; exact turn_iff t sp i h (by omega) (by omega))]
      simp [h1]
      rw [if_neg (by omega)]
      congr 1
      omega
def airI (t : Tm) (m : Int) : Int := if t.u - t.s * m > 0 then t.u - t.s * m else 0
theorem s_raw_air_left (t : Tm) (m : Int) (h : t.Ok) : Ans bd_raw_air_left 2 [.d t.d, .d (.int m)] (.int (airI t m)) := by
  have hw := small_of (i := t.s) (by have := h.s1; omega) (by have := h.s2; omega)
  apply ans_of
  unfold bd_raw_air_left startE
  simp [Tm.d, gIx, atI, ixN, DL.gSub, gMulA, gOr, gMul, gMaxA, gMax, hw, airI]
/-- a row of the board -/
def rowD (t : Tm) (sp gone : Int) : PyData := if stayI t sp < 0 ∨ t.w + stayI t sp < gone then .tuple [.int (airI t gone), .int 0, .str "late"] else
  .tuple [.int (airI t gone), .int (t.w + stayI t sp - gone), .str (if t.w + stayI t sp > gone then "in" else "turn")]
theorem s_board_row (t : Tm) (sp gone : Int) (h : t.Ok) : Ans bd_board_row 6 [.d t.d, .d (.int sp), .d (.int gone)] (rowD t sp gone) := by
  have hw := small_of (i := t.s) (by have := h.s1; omega) (by have := h.s2; omega)
  apply ans_of
  unfold bd_board_row startE
  simp
  refine wp_ans (s_raw_stay t sp h) rfl ?_
  simp [stayD_isNone]
  by_cases h1 : stayI t sp < 0
  · simp [h1]
    refine wp_ans (s_raw_air_left t gone h) rfl ?_
    simp [rowD, h1, sizeLine_eq]
  · have e : stayD t sp = .int (stayI t sp) := by unfold stayD; rw [if_neg h1]
    simp [h1, e]
    simp [Tm.d, gIx, atI, ixN, DL.gSub, gAddA, gOr, gAdd, gGt]
    by_cases h2 : gone < t.w + stayI t sp
    · simp [h2]
      refine wp_ans (s_raw_air_left t gone h) rfl ?_
      simp [rowD, h1, sizeLine_eq, gMaxA, gMax]
      have z : ¬ t.w + stayI t sp < gone := by omega
      simp [z, h2]
    · by_cases h3 : t.w + stayI t sp = gone
      · have z : t.w + stayI t sp - gone = 0 := by omega
        simp [h2, z, gEq, SeqAt.shaped, PyData.canLay0, PyData.depth, PyData.eqv]
        refine wp_ans (s_raw_air_left t gone h) rfl ?_
        have y : ¬ t.w + stayI t sp < gone := by omega
        simp [rowD, h1, sizeLine_eq, gMaxA, gMax, y, h2, z]
      · have z : ¬ t.w + stayI t sp - gone = 0 := by omega
        simp [h2, z, gEq, SeqAt.shaped, PyData.canLay0, PyData.depth, PyData.eqv]
        refine wp_ans (s_raw_air_left t gone h) rfl ?_
        have y : t.w + stayI t sp < gone := by omega
        have y2 : ¬ 0 < t.w + stayI t sp - gone := by omega
        simp [rowD, h1, sizeLine_eq, gMaxA, gMax, y, h2, z, y2]
end K71
end

/- M71d -/
section
set_option maxHeartbeats 4000000
namespace K71
open PySem PySem.Spec PyProof.Rows L2 DL

def stay0 (sp : Int) (t : Tm) : Int := if stayI t sp < 0 then 0 else stayI t sp
def lackI (ts : List Tm) (sp pause : Int) (t : Tm) : Int := if 2 * t.w + pause - (ts.map (stay0 sp)).sum + stay0 sp t > 0 then 2 * t.w + pause - (ts.map (stay0 sp)).sum + stay0 sp t else 0
def lackD (ts : List Tm) (sp pause : Int) : PyData := if 0 ∈ ts.map (stay0 sp) then .none else .tuple ((ts.map (lackI ts sp pause)).map .int)
theorem lay_ints : ∀ ns : List Int, PyData.canLayAll0 (ns.map .int) = true
  | [] => rfl
  | n :: ns => by simp [PyData.canLayAll0, PyData.canLay0, lay_ints ns]
theorem shaped_ints (ns : List Int) : SeqAt.shaped (.list (ns.map .int)) = true := by
  have h := depth_ints ns
  simp [SeqAt.shaped, PyData.canLay0, PyData.depth, lay_ints ns]
  omega
theorem shaped_tints (ns : List Int) : SeqAt.shaped (.tuple (ns.map .int)) = true := by
  have h := depth_ints ns
  simp [SeqAt.shaped, PyData.canLay0, PyData.depth, lay_ints ns]
  omega
theorem any_zero (ns : List Int) (k : Int) : ((ns.map PyData.int).any fun z => PyData.eqv z (.int k)) = decide (k ∈ ns) := by
  rw [List.any_map]
  rw [Bool.eq_iff_iff, List.any_eq_true, decide_eq_true_eq]
  constructor
  · rintro ⟨x, hx, h⟩
    have : x = k := by simpa [PyData.eqv] using h
    exact this ▸ hx
  · intro h
    exact ⟨k, h, by simp [PyData.eqv]⟩
theorem gIn_ints (ns : List Int) (k : Int) : gIn (.int k) (.list (ns.map .int)) = some (.bool (decide (k ∈ ns))) := by
  have h1 : SeqAt.shaped (.int k) = true := by simp [SeqAt.shaped, PyData.canLay0, PyData.depth]
  show (if SeqAt.shaped (.int k) && SeqAt.shaped (.list (ns.map .int)) then some (PyData.bool ((ns.map PyData.int).any fun z => PyData.eqv z (.int k))) else none) = _
  rw [h1, shaped_ints, any_zero]
  rfl
theorem tm_get {ts : List Tm} {i : Nat} {d : PyData} (h : (ts.map Tm.d)[i]? = some d) : ∃ t, ts[i]? = some t ∧ d = t.d := by
  rw [List.getElem?_map] at h
  cases q : ts[i]? with
  | none => rw [q] at h; cases h
  | some t => rw [q] at h; cases h; exact ⟨t, rfl, rfl⟩
theorem s_stays_of (ts : List Tm) (sp : Int) (h : ∀ t ∈ ts, t.Ok) (hl : ts.length ≤ 8) : Ans bd_stays_of 5 [.d (tmsD ts), .d (.int sp)] (.list ((ts.map (stay0 sp)).map .int)) := by
  apply ans_of
  unfold bd_stays_of startE tmsD
  simp [sizeLine_eq, seqI]
  refine wp_for (fun i e => ∃ x y : Option PyData, i ≤ ts.length ∧ e = [some (.d (.tuple (ts.map Tm.d))), some (.d (.int sp)), some (.own false (((ts.take i).map (stay0 sp)).map .int)), x.map .d, y.map .d]) ⟨none, none, Nat.zero_le _, rfl⟩ (fun i d e hd hI => ?_) (fun e hI => ?_)
  · obtain ⟨x, y, _, rfl⟩ := hI
    obtain ⟨t, ht, rfl⟩ := tm_get hd
    have hlt := (List.getElem?_eq_some_iff.mp ht).1
    have ho := h t (List.mem_of_getElem? ht)
    have hle : (ts.take i).length < 16777216 := by rw [List.length_take]; omega
    have e1 : (ts.take (i + 1)) = ts.take i ++ [t] := by rw [List.take_add_one, ht]; rfl
    have fin : ∀ (z : PyData) (k : Int), stay0 sp t = k → (∃ x y : Option PyData, i + 1 ≤ ts.length ∧ [some (EV.d (.tuple (ts.map Tm.d))), some (.d (.int sp)), some (.own false (((ts.take i).map (stay0 sp)).map .int ++ [.int k])), some (.d t.d), some (.d z)] = [some (.d (.tuple (ts.map Tm.d))), some (.d (.int sp)), some (.own false (((ts.take (i + 1)).map (stay0 sp)).map .int)), x.map .d, y.map .d]) := fun z k hk => ⟨some t.d, some z, hlt, by rw [e1]; simp [hk]⟩
    rcases x with _ | x <;> rcases y with _ | y <;> simp <;> (
      refine wp_ans (s_raw_stay t sp ho) rfl ?_
      simp [stayD_isNone]
      by_cases h1 : stayI t sp < 0
      · have hk : stay0 sp t = 0 := by unfold stay0; rw [if_pos h1]
        simp [h1, fAppend, sizeLine_eq]
        refine ⟨by omega, ?_⟩
        have := fin (stayD t sp) 0 hk
        simpa using this
      · have hk : stay0 sp t = stayI t sp := by unfold stay0; rw [if_neg h1]
        have he : stayD t sp = .int (stayI t sp) := by unfold stayD; rw [if_neg h1]
        simp [h1, he, fAppend, sizeLine_eq]
        refine ⟨by omega, ?_⟩
        have := fin (.int (stayI t sp)) (stayI t sp) hk
        simpa using this)
  · obtain ⟨x, y, _, rfl⟩ := hI
    simp
/-- the rows of lacking minutes, from the stays -/
theorem zip_stays (ts : List Tm) (sp : Int) : zipD (ts.map Tm.d) ((ts.map (stay0 sp)).map .int) = ts.map fun t => .tuple [t.d, .int (stay0 sp t)] := by
  induction ts with
  | nil => rfl
  | cons t ts ih =>
    unfold zipD at ih ⊢
    simp only [List.map_cons, List.zipWith_cons_cons, List.cons.injEq, true_and]
    exact ih
def lackF (S pause : Int) : PyData → PyData
  | .tuple [.tuple [_, _, .int w], .int st] => .int (if 2 * w + pause - S + st > 0 then 2 * w + pause - S + st else 0)
  | _ => .none
theorem lack_comp {E : Er → En → Prop} {Q : List PyData → En → Prop} (ts : List Tm) (sp pause : Int) (x0 x1 : Option EV) (h : ∀ t ∈ ts, t.Ok) (hl : ts.length ≤ 8)
    (q : Q ((ts.map (lackI ts sp pause)).map .int) [x0, x1, some (.d (.int pause)), some (.d (.list ((ts.map (stay0 sp)).map .int))), none, none]) :
    wp (lcRun [4, 5] (gTp 2 (gCons' (gNm 4) (gCons' (gNm 5) gNil'))) mYes (mCall gMaxA (mCons (mC (.int 0)) (mCons (mBin gAddA (mBin DL.gSub (mBin gAddA (mBin gMulA (mC (.int 2)) (mBin gIx (mVar 4) (mC (.int 2)))) (mVar 2)) (mCall gSum (mCons (mVar 3) mNil))) (mVar 5)) mNil))) (.fix (ts.map fun t => .tuple [t.d, .int (stay0 sp t)])))
      [x0, x1, some (.d (.int pause)), some (.d (.list ((ts.map (stay0 sp)).map .int))), none, none] Q E := by
  have h2 := small_of (i := 2) (by omega) (by omega)
  refine wp_lc_map (lackF (ts.map (stay0 sp)).sum pause) rfl (by rw [List.length_map, sizeLine_eq]; omega) (fun d hd acc ha => ?_) ?_
  · obtain ⟨t, ht, rfl⟩ := List.mem_map.mp hd
    simp [-List.map_map, wipeE, Tm.d, gIx, atI, ixN, gMulA, gAddA, gOr, gMul, gAdd, DL.gSub, gSum, gMaxA, gMax, h2, noOwn, lackF, ha]
  · have e : List.map (lackF (ts.map (stay0 sp)).sum pause) (ts.map fun t => .tuple [t.d, .int (stay0 sp t)]) = (ts.map (lackI ts sp pause)).map .int := by
      rw [List.map_map, List.map_map]
      apply List.map_congr_left
      intro t _
      rfl
    rw [e]
    exact q
theorem s_raw_lacking (ts : List Tm) (sp pause : Int) (h : ∀ t ∈ ts, t.Ok) (hl : ts.length ≤ 8) : Ans bd_raw_lacking 6 [.d (tmsD ts), .d (.int sp), .d (.int pause)] (lackD ts sp pause) := by
  apply ans_of
  unfold bd_raw_lacking startE
  simp
  refine wp_ans (s_stays_of ts sp h hl) rfl ?_
  simp only [wp_leakD]
  simp [-List.map_map, -List.mem_map, gIn_ints]
  unfold lackD
  by_cases h0 : 0 ∈ ts.map (stay0 sp)
  · simp [-List.map_map, -List.mem_map, h0]
  · simp [-List.map_map, -List.mem_map, h0]
    unfold tmsD
    simp [-List.map_map, -List.mem_map, zipS, seqB, zip_stays]
    refine lack_comp ts sp pause _ _ h hl ?_
    simp [DL.gTup]
theorem s_law_lacking (ts : List Tm) (sp pause : Int) (h : ∀ t ∈ ts, t.Ok) (hl : ts.length ≤ 8) (hs : 0 ≤ sp) : Ans bd__law_lacking 6 [.d (tmsD ts), .d (.int sp), .d (.int pause)] (lackD ts sp pause) := by
  apply ans_of
  unfold bd__law_lacking startE
  simp [tmsD, seqI]
  refine wp_lc_map (fun d => match d with
    | .tuple [.int u, .int s, .int w] => .int (stay0 sp ⟨u, s, w⟩)
    | _ => .none) rfl (by rw [List.length_map, sizeLine_eq]; omega) (fun d hd acc ha => ?_) ?_
  · obtain ⟨t, ht, rfl⟩ := List.mem_map.mp hd
    simp [wipeE]
    refine wp_ans (s_law_stay t sp (h t ht) hs) rfl ?_
    by_cases h1 : stayI t sp < 0
    · have e : stayD t sp = .none := by unfold stayD; rw [if_pos h1]
      simp [e, truD, ha, noOwn, wipeE, Tm.d, stay0, h1]
    · have e : stayD t sp = .int (stayI t sp) := by unfold stayD; rw [if_neg h1]
      by_cases h3 : stayI t sp = 0
      · simp [e, truD, ha, noOwn, wipeE, Tm.d, stay0, h1, h3]
      · simp [e, truD, ha, noOwn, wipeE, Tm.d, stay0, h1, h3]
  · have e : List.map (fun d => match d with
      | .tuple [.int u, .int s, .int w] => PyData.int (stay0 sp ⟨u, s, w⟩)
      | _ => .none) (ts.map Tm.d) = (ts.map (stay0 sp)).map .int := by
      rw [List.map_map, List.map_map]
      apply List.map_congr_left
      intro t _
      rfl
    rw [e]
    simp [-List.map_map, -List.mem_map, gIn_ints]
    unfold lackD
    by_cases h0 : 0 ∈ ts.map (stay0 sp)
    · simp [-List.map_map, -List.mem_map, h0]
    · simp [-List.map_map, -List.mem_map, h0]
      simp [-List.map_map, -List.mem_map, zipS, seqB, zip_stays]
      refine lack_comp ts sp pause _ _ h hl ?_
      simp [DL.gTup]
end K71
end

/- M71e -/
section
set_option maxHeartbeats 4000000
namespace K71
open PySem PySem.Spec PyProof.Rows L2 DL

def teamsOk (d : PyData) : Bool := match d with
  | .tuple xs => decide (1 ≤ xs.length) && decide (xs.length ≤ 8) && xs.all teamD
  | _ => false
theorem all_bools {α : Type} (xs : List α) (f : α → Bool) : gAllA [.list (xs.map fun x => .bool (f x))] = some (.bool (xs.all f)) := by
  have h1 : (xs.map fun x => PyData.bool (f x)).all flatD = true := by
    rw [List.all_map, List.all_eq_true]
    intro x _
    rfl
  show (if (xs.map fun x => PyData.bool (f x)).all flatD then some (PyData.bool ((xs.map fun x => PyData.bool (f x)).all PyData.truthy)) else none) = _
  rw [if_pos h1, List.all_map]
  rfl
theorem any_bools {α : Type} (xs : List α) (f : α → Bool) : gAnyA [.list (xs.map fun x => .bool (f x))] = some (.bool (xs.any f)) := by
  have h1 : (xs.map fun x => PyData.bool (f x)).all flatD = true := by
    rw [List.all_map, List.all_eq_true]
    intro x _
    rfl
  show (if (xs.map fun x => PyData.bool (f x)).all flatD then some (PyData.bool ((xs.map fun x => PyData.bool (f x)).any PyData.truthy)) else none) = _
  rw [if_pos h1, List.any_map]
  rfl
/-- what a check does -/
theorem s_check_teams {Q : Fl → En → Prop} {E : Er → En → Prop} (d sp : PyData) (q : ∀ e, teamsOk d = true → withinD sp 0 100 = true → Q .next e) (r1 : ∀ e, teamsOk d = false → E ⟨"NoTeams", none⟩ e) (r2 : ∀ e, teamsOk d = true → withinD sp 0 100 = false → E ⟨"NoNumber", none⟩ e) :
    wp bd_check_teams (startE 3 [.d d, .d sp]) Q E := by
  unfold bd_check_teams startE
  simp
  refine wp_ans (s_is_sized d 1 8) rfl ?_
  simp [truD]
  cases hz : sizedD d 1 8
  · simp
    refine r1 _ ?_
    unfold sizedD at hz
    unfold teamsOk
    cases d with
    | tuple xs =>
      dsimp only at hz ⊢
      rw [Bool.and_eq_false_iff] at hz
      rcases hz with h | h
      · have : decide (1 ≤ xs.length) = false := by rw [decide_eq_false_iff_not] at h ⊢; omega
        rw [this]; rfl
      · have : decide (xs.length ≤ 8) = false := by rw [decide_eq_false_iff_not] at h ⊢; omega
        rw [this]; simp
    | _ => rfl
  · cases d with
    | tuple xs =>
      have hz' : 1 ≤ xs.length ∧ xs.length ≤ 8 := by
        simp [sizedD] at hz
        omega
      simp [seqI]
      refine wp_lc_map (fun x => .bool (teamD x)) rfl (by rw [sizeLine_eq]; omega) (fun x hx acc ha => ?_) ?_
      · simp [wipeE]
        refine wp_ans (s_is_team x) rfl ?_
        simp [ha, noOwn, wipeE]
      · have e : teamsOk (.tuple xs) = xs.all teamD := by
          unfold teamsOk
          dsimp only
          rw [decide_eq_true hz'.1, decide_eq_true hz'.2]
          rfl
        rw [all_bools]
        cases ht : xs.all teamD
        · simp [truD]
          exact r1 _ (e.trans ht)
        · simp [truD]
          have et := e.trans ht
          cases hs : withinD sp 0 100
          · exact wp_rai (r_check_spare sp hs) rfl (r2 _ et hs)
          · exact wp_don (s_check_spare sp hs) rfl (q _ et hs)
    | _ => cases hz
theorem s_check_pause {Q : Fl → En → Prop} {E : Er → En → Prop} (d : PyData) (q : ∀ e, withinD d 0 60 = true → Q .next e) (r : ∀ e, withinD d 0 60 = false → E ⟨"NoNumber", none⟩ e) : wp bd_check_pause_of (startE 1 [.d d]) Q E := by
  unfold bd_check_pause_of startE
  simp
  refine wp_ans (s_is_within d 0 60) rfl ?_
  simp [truD]
  cases h : withinD d 0 60
  · simp; exact r _ h
  · simp; exact q _ h
theorem tms_ok {ts : List Tm} (h : ∀ t ∈ ts, t.Ok) (h1 : 1 ≤ ts.length) (h2 : ts.length ≤ 8) : teamsOk (tmsD ts) = true := by
  unfold teamsOk tmsD
  dsimp only
  rw [List.length_map, decide_eq_true h1, decide_eq_true h2, List.all_map]
  simp only [Bool.true_and, List.all_eq_true]
  exact fun t ht => (h t ht).team
theorem s_lacking_minutes (ts : List Tm) (sp pause : Int) (h : ∀ t ∈ ts, t.Ok) (h1 : 1 ≤ ts.length) (h2 : ts.length ≤ 8) (hs : withinD (.int sp) 0 100 = true) (hp : withinD (.int pause) 0 60 = true) : Ans bd_lacking_minutes 3 [.d (tmsD ts), .d (.int sp), .d (.int pause)] (lackD ts sp pause) := by
  apply ans_of
  unfold bd_lacking_minutes
  simp [startE]
  rw [wp_fin]
  refine ⟨rfl, s_check_teams _ _ (fun e _ _ => ?_) (fun e z => ?_) (fun e _ z => ?_)⟩
  · simp
    rw [wp_fin]
    refine ⟨rfl, s_check_pause _ (fun e _ => ?_) (fun e z => ?_)⟩
    · simp
      refine wp_ans (s_raw_lacking ts sp pause h h2) rfl ?_
      simp
    · rw [hp] at z; cases z
  · rw [tms_ok h h1 h2] at z; cases z
  · rw [hs] at z; cases z
def everD (ts : List Tm) (sp pause : Int) : Bool := !decide (0 ∈ ts.map (stay0 sp)) && !(ts.map (lackI ts sp pause)).any fun n => n != 0
theorem any_ints (ns : List Int) : gAnyA [.tuple (ns.map .int)] = some (.bool (ns.any fun n => n != 0)) := by
  have h1 : (ns.map PyData.int).all flatD = true := by
    rw [List.all_map, List.all_eq_true]
    intro x _
    rfl
  show (if (ns.map PyData.int).all flatD then some (PyData.bool ((ns.map PyData.int).any PyData.truthy)) else none) = _
  rw [if_pos h1, List.any_map]
  rfl
theorem s_turns_for_ever (ts : List Tm) (sp pause : Int) (h : ∀ t ∈ ts, t.Ok) (h1 : 1 ≤ ts.length) (h2 : ts.length ≤ 8) (hs : withinD (.int sp) 0 100 = true) (hp : withinD (.int pause) 0 60 = true) : Ans bd_turns_for_ever 4 [.d (tmsD ts), .d (.int sp), .d (.int pause)] (.bool (everD ts sp pause)) := by
  apply ans_of
  unfold bd_turns_for_ever
  simp [startE]
  rw [wp_fin]
  refine ⟨rfl, s_check_teams _ _ (fun e _ _ => ?_) (fun e z => ?_) (fun e _ z => ?_)⟩
  · simp
    rw [wp_fin]
    refine ⟨rfl, s_check_pause _ (fun e _ => ?_) (fun e z => ?_)⟩
    · simp
      refine wp_ans (s_raw_lacking ts sp pause h h2) rfl ?_
      unfold lackD everD
      by_cases h0 : 0 ∈ ts.map (stay0 sp)
      · rw [if_pos h0, decide_eq_true h0]
        simp [gIsNot, truD]
      · rw [if_neg h0, decide_eq_false h0]
        simp [-List.map_map, gIsNot, truD, any_ints]
    · rw [hp] at z; cases z
  · rw [tms_ok h h1 h2] at z; cases z
  · rw [hs] at z; cases z
end K71
end

/- M71f -/
section
set_option maxHeartbeats 4000000
namespace K71
open PySem PySem.Spec PyProof.Rows L2 DL

/-- the hand's shape -/
def HI (ds : List PyData) : Prop := ∃ (cs : List Int) (at_ r sd ct : Int), ds = [.list (cs.map .int), .int at_, .int r, .int sd, .int ct] ∧ 0 ≤ at_ ∧ 0 ≤ r ∧ ∀ c ∈ cs, 0 ≤ c
theorem atI_nat {α : Type} {l : List α} {i : Int} (h1 : 0 ≤ i) (h2 : i < l.length) : atI l i = l[i.toNat]? := by
  unfold atI ixN
  rw [if_pos h1, if_pos h2]
  rfl
theorem HI.mk {cs : List Int} {at_ r sd ct : Int} (h1 : 0 ≤ at_) (h2 : 0 ≤ r) (h3 : ∀ c ∈ cs, 0 ≤ c) : HI [.list (cs.map .int), .int at_, .int r, .int sd, .int ct] := ⟨cs, at_, r, sd, ct, rfl, h1, h2, h3⟩
theorem s_draw {ds : List PyData} {many : Int} (hi : HI ds) (h1 : 0 < many) (h2 : many < 1073741824) : wp bd__law_draw (startE 5 [.own true ds, .d (.int many)]) (fun fl e => ∃ r ds', fl = .ret (.d (.int r)) ∧ e[0]? = some (some (.own true ds')) ∧ HI ds' ∧ 0 ≤ r ∧ r < many) (fun _ _ => False) := by
  unfold bd__law_draw startE
  rw [wp_sSeq]
  refine wp_mono (Q := fun fl e => fl = .next ∧ ∃ (ds' : List PyData) (x : Option PyData), HI ds' ∧ e = [some (.own true ds'), some (.d (.int many)), x.map .d, none, none]) ?_ ?_ (fun _ _ z => z)
  · obtain ⟨cs, at_, r, sd, ct, rfl, a1, a2, a3⟩ := hi
    simp [gIx, atI, ixN, gEq, SeqAt.shaped, PyData.canLay0, PyData.depth, PyData.eqv, gLt, gLen]
    by_cases hr : r = 0
    · simp [hr]
      by_cases hlt : at_ < (cs.length : Int)
      · have hn : at_.toNat < cs.length := by omega
        have hc := a3 _ (List.getElem_mem hn)
        simp [hlt, a1, hn, gAddA, gOr, gAdd, gMulA, gMul, DL.small64, gInt, gMod, fSet, ixN, gPow, gGe, isLst]
        by_cases hb : (1000000000000000000 : Int) ≤ cs[at_.toNat]
        · simp [hb, fSet, ixN]
          exact ⟨_, HI.mk (by omega) hc a3, rfl, some (.int cs[at_.toNat]), rfl⟩
        · simp [hb]
          exact ⟨_, HI.mk (by omega) (by omega) a3, rfl, some (.int cs[at_.toNat]), rfl⟩
      · simp [hlt]
        exact ⟨_, HI.mk a1 (by omega) a3, rfl, none, rfl⟩
    · simp [hr]
      exact ⟨_, HI.mk a1 a2 a3, rfl, none, rfl⟩
  · rintro fl e ⟨rfl, ds', x, hi, rfl⟩
    obtain ⟨cs, at_, r, sd, ct, rfl, a1, a2, a3⟩ := hi
    have sm : ∀ i : Int, 0 ≤ i → i < 2147483647 → DL.small64 i = true := fun i p q => by
      unfold DL.small64
      simp only [Bool.and_eq_true, decide_eq_true_eq]
      constructor <;> omega
    have m1 : ∀ k : Int, 0 ≤ k % 2147483647 := fun k => Int.emod_nonneg k (by omega)
    have m2 : ∀ k : Int, k % 2147483647 < 2147483647 := fun k => Int.emod_lt_of_pos k (by omega)
    rw [wp_sSeq]
    refine wp_mono (Q := fun fl e => (fl = .next ∧ e = [some (.own true [.list (cs.map .int), .int at_, .int r, .int sd, .int ct]), some (.d (.int many)), x.map .d, none, none]) ∨ ∃ r ds', fl = .ret (.d (.int r)) ∧ e[0]? = some (some (.own true ds')) ∧ HI ds' ∧ 0 ≤ r ∧ r < many) ?_ ?_ (fun _ _ z => z)
    · by_cases hr : 0 < r
      · rcases x with _ | x <;> (
          simp [gIx, atI, ixN, gGt, gInt, gMod, DL.gDiv, fSet, h1, h2, hr]
          exact ⟨HI.mk a1 (Int.ediv_nonneg a2 (by omega)) a3, Int.emod_nonneg _ (by omega), Int.emod_lt_of_pos _ h1⟩)
      · rcases x with _ | x <;> simp [gIx, atI, ixN, gGt, hr]
    · rintro fl e (⟨rfl, rfl⟩ | ⟨r', ds', rfl, hh⟩)
      · dsimp only
        rw [wp_sSeq]
        refine wp_mono (Q := fun fl e => fl = .next ∧ e = [some (.own true [.list (cs.map .int), .int at_, .int r, .int sd, .int (ct + 1)]), some (.d (.int many)), x.map .d, none, none]) ?_ ?_ (fun _ _ z => z)
        · rcases x with _ | x <;> simp [gIx, atI, ixN, gAddA, gOr, gAdd, fSet]
        · rintro fl e ⟨rfl, rfl⟩
          dsimp only
          rw [wp_sSeq]
          refine wp_mono (Q := fun fl e => fl = .next ∧ ∃ n : Int, 0 ≤ n ∧ n < 2147483647 ∧ e = [some (.own true [.list (cs.map .int), .int at_, .int r, .int sd, .int (ct + 1)]), some (.d (.int many)), x.map .d, none, some (.d (.int n))]) ?_ ?_ (fun _ _ z => z)
          · rcases x with _ | x <;> (
              simp [gIx, atI, ixN, gAddA, gMulA, gOr, gAdd, gMul, gInt, gMod, sm 7919 (by omega) (by omega), sm 40692 (by omega) (by omega)]
              exact ⟨m1 _, m2 _⟩)
          · rintro fl e ⟨rfl, n, n1, n2, rfl⟩
            dsimp only
            rw [wp_sSeq]
            refine wp_mono (Q := fun fl e => fl = .next ∧ ∃ n : Int, 0 ≤ n ∧ n < 2147483647 ∧ e = [some (.own true [.list (cs.map .int), .int at_, .int r, .int sd, .int (ct + 1)]), some (.d (.int many)), x.map .d, none, some (.d (.int n))]) ?_ ?_ (fun _ _ z => z)
            · rcases x with _ | x <;> (
                simp [gAddA, gMulA, gOr, gAdd, gMul, gInt, gMod, DL.gDiv, sm n n1 n2]
                exact ⟨m1 _, m2 _⟩)
            · rintro fl e ⟨rfl, n, n1, n2, rfl⟩
              dsimp only
              rw [wp_sSeq]
              refine wp_mono (Q := fun fl e => fl = .next ∧ ∃ n : Int, 0 ≤ n ∧ n < 2147483647 ∧ e = [some (.own true [.list (cs.map .int), .int at_, .int r, .int sd, .int (ct + 1)]), some (.d (.int many)), x.map .d, none, some (.d (.int n))]) ?_ ?_ (fun _ _ z => z)
              · have k1 : ∀ k : Int, 0 ≤ k % 2147483563 := fun k => Int.emod_nonneg k (by omega)
                have k2 : ∀ k : Int, k % 2147483563 < 2147483647 := fun k => by
                  have := Int.emod_lt_of_pos k (show (0 : Int) < 2147483563 by omega)
                  omega
                rcases x with _ | x <;> (
                  simp [gAddA, gMulA, gOr, gAdd, gMul, gInt, gMod, DL.gDiv, sm n n1 n2]
                  exact ⟨k1 _, k2 _⟩)
              · rintro fl e ⟨rfl, n, n1, n2, rfl⟩
                dsimp only
                rcases x with _ | x <;> (
                  simp [gInt, gMod, DL.gDiv, h1]
                  exact ⟨HI.mk a1 a2 a3, Int.emod_nonneg _ (by omega), Int.emod_lt_of_pos _ h1⟩)
      · exact ⟨r', ds', rfl, hh⟩
end K71
end

/- M71g -/
section
set_option maxHeartbeats 4000000
namespace K71
open PySem PySem.Spec PyProof.Rows L2 DL

theorem back_some {env e : En} {i j : Nat} {b c : Bool} {ds es : List PyData} (e0 : e[j]? = some (some (.own c es))) (he : env[i]? = some (some (.own b ds))) : backE (some (j, i)) env e = env.set i (some (.own b es)) := by
  show (match e[j]?, env[i]? with
    | some (some (.own _ es)), some (some (.own b _)) => env.set i (some (.own b es))
    | _, _ => env) = _
  rw [e0, he]
section
variable {env : En} {E : Er → En → Prop} {Q : RVl → En → Prop} {i : Nat} {b : Bool} {ds : List PyData}
theorem wp_drawn {many : Int} (hi : HI ds) (he : env[i]? = some (some (.own b ds))) (h1 : 0 < many) (h2 : many < 1073741824) (q : ∀ r ds', HI ds' → 0 ≤ r → r < many → Q (.d (.int r)) (env.set i (some (.own b ds')))) : wp (fin 2 bd__law_draw 5 [.own true ds, .d (.int many)] (some (0, i))) env Q E := by
  rw [wp_fin]
  refine ⟨rfl, wp_mono (s_draw hi h1 h2) (fun fl e h => ?_) fun _ _ z => z.elim⟩
  obtain ⟨r, ds', rfl, e0, hi', a, c⟩ := h
  dsimp only
  rw [back_some e0 he]
  exact q r ds' hi' a c
/-- one of a list -/
theorem wp_anyone {xs : List PyData} (hi : HI ds) (he : env[i]? = some (some (.own b ds))) (h1 : 0 < xs.length) (h2 : xs.length ≤ 1000) (q : ∀ x ds', HI ds' → x ∈ xs → Q (.d x) (env.set i (some (.own b ds')))) : wp (fin 2 bd__law_any 2 [.own true ds, .d (.list xs)] (some (0, i))) env Q E := by
  rw [wp_fin]
  refine ⟨rfl, ?_⟩
  unfold bd__law_any
  simp [startE, gLen]
  refine wp_drawn hi rfl (by omega) (by omega) fun r ds' hi' a c => ?_
  have hr : r.toNat < xs.length := by omega
  simp [gIx, atI, ixN, a, c, hr]
  rw [back_some (b := b) (es := ds') rfl he]
  exact q _ ds' hi' (List.getElem_mem hr)
/-- a team -/
theorem wp_team (hi : HI ds) (he : env[i]? = some (some (.own b ds))) (q : ∀ (t : Tm) ds', HI ds' → t.Ok → Q (.d t.d) (env.set i (some (.own b ds')))) : wp (fin 1 bd__law_team 1 [.own true ds] (some (0, i))) env Q E := by
  rw [wp_fin]
  refine ⟨rfl, ?_⟩
  unfold bd__law_team
  simp [startE]
  refine wp_drawn hi rfl (by omega) (by omega) fun r1 d1 i1 a1 c1 => ?_
  simp
  refine wp_drawn i1 rfl (by omega) (by omega) fun r2 d2 i2 a2 c2 => ?_
  simp
  refine wp_drawn i2 rfl (by omega) (by omega) fun r3 d3 i3 a3 c3 => ?_
  simp [gAddA, gOr, gAdd, sizeLine_eq]
  rw [back_some (b := b) (es := d3) rfl he]
  exact q ⟨1 + r1, 1 + r2, r3⟩ d3 i3 ⟨by show (1 : Int) ≤ 1 + r1; omega, by show 1 + r1 ≤ 100; omega, by show (1 : Int) ≤ 1 + r2; omega, by show 1 + r2 ≤ 6; omega, a3, by show r3 ≤ 5; omega⟩
end
end K71
end

/- M71h -/
section
set_option maxHeartbeats 4000000
namespace K71
open PySem PySem.Spec PyProof.Rows L2 DL

@[simp] theorem wp_mSl63 {m : M Vl} {env : En} {Q : Vl → En → Prop} {E : Er → En → Prop} {k : Int} : wp (mSl m none (some (mC (.int k)))) env Q E ↔ wp m env (fun v e => wp v.get e (fun d e => opt (gSl d none (some k)) fun z => Q (.d z) e) E) E := by
  unfold mSl mPart
  simp only [wp_bind, wp_pure, wp_mC, wp_Mopt, opt_map]
theorem cut63 {ds : List PyData} (h : ds.length ≤ 63) : cutD ds none (some 63) = ds := by
  apply cutD_full
  refine ⟨rfl, ?_⟩
  have := HT.sIx_nat ds.length ds.length 63
  have e : HT.sIx ds.length ds.length (some 63) = min 63 ds.length := this
  rw [e]
  omega
def cellF (d : PyData) : PyData := match d with
  | .int n => .int ((if n < 0 then -n else n) % 1000000000000000000000000000000000000)
  | _ => .none
theorem s_hand (ns : List Int) (h : ns.length ≤ 63) : wp bd__law_hand (startE 3 [.d (.list (ns.map .int))]) (fun fl _ => ∃ ds, fl = .ret (.o ds) ∧ HI ds) (fun _ _ => False) := by
  unfold bd__law_hand
  simp [-List.map_map, startE, gSl, seqI]
  rw [cut63 (by simpa using h)]
  have key : ∀ n : Int, 0 ≤ (if n < 0 then -n else n) % 1000000000000000000000000000000000000 := fun n => Int.emod_nonneg _ (by omega)
  refine wp_lc_map cellF rfl (by rw [List.length_map, sizeLine_eq]; omega) (fun d hd acc ha => ?_) ?_
  · obtain ⟨n, hn, rfl⟩ := List.mem_map.mp hd
    simp [wipeE, gInt, gAbs, gPow, gMod, ha, noOwn, cellF]
  · have e : List.map cellF (ns.map PyData.int) = (ns.map fun n => (if n < 0 then -n else n) % 1000000000000000000000000000000000000).map PyData.int := by
      rw [List.map_map, List.map_map]
      rfl
    rw [e]
    simp [-List.map_map, gLen, gAddA, gOr, gAdd, gMulA, gMul, DL.small64, sizeLine_eq]
    refine HI.mk (Int.le_refl 0) (Int.le_refl 0) fun c hc => ?_
    obtain ⟨n, _, rfl⟩ := List.mem_map.mp hc
    exact key n
end K71
end

/- M71i -/
section
set_option maxHeartbeats 4000000
namespace K71
open PySem PySem.Spec PyProof.Rows L2 DL

theorem gNe_int (a b : Int) : gNe (.int a) (.int b) = some (.bool (!(a == b))) := rfl
theorem gEq_int (a b : Int) : gEq (.int a) (.int b) = some (.bool (a == b)) := rfl
def pairD (p : Int × Int) : PyData := .tuple [.int p.1, .int p.2]
def boardD (ps : List (Int × Int)) : PyData := .tuple (ps.map pairD)
structure BOk (k : Nat) (ps : List (Int × Int)) : Prop where
  len : ps.length ≤ k
  num : ∀ p ∈ ps, 0 ≤ p.1 ∧ p.1 < k
  min : ∀ p ∈ ps, 0 ≤ p.2 ∧ p.2 ≤ 400
  nd : (ps.map (·.1)).Nodup
def keyF : PyData → Key
  | .tuple [.int a, _] => .inl a
  | _ => .inl 0
theorem keys_len (ps : List (Int × Int)) (h : (ps.map (·.1)).Nodup) : ((ps.map pairD).foldl (fun a d => addK a (keyF d)) []).length = ps.length := by
  have e : (ps.map pairD).foldl (fun a d => addK a (keyF d)) [] = (ps.map fun p => (Sum.inl p.1 : Key)).foldl addK [] := by
    rw [List.foldl_map, List.foldl_map]
    rfl
  rw [e, foldl_addK]
  · simp
  · rw [List.nil_append]
    have : (ps.map fun p => (Sum.inl p.1 : Key)) = (ps.map (·.1)).map Sum.inl := by rw [List.map_map]; rfl
    rw [this]
    exact h.map Sum.inl fun a b hab e => hab (Sum.inl.inj e)
theorem s_check_board (xs : List PyData) (ps : List (Int × Int)) (h : BOk xs.length ps) (hk : xs.length ≤ 8) : Don bd_check_board 5 [.d (.tuple xs), .d (boardD ps)] := by
  have hl := h.len
  apply don_of
  unfold bd_check_board boardD
  simp [startE, gLen]
  refine wp_ans (s_is_sized _ 0 xs.length) rfl ?_
  have e1 : sizedD (.tuple (ps.map pairD)) 0 xs.length = true := by
    simp [sizedD]
    omega
  simp [truD, e1, seqI]
  refine wp_lc_map (fun _ => .bool true) rfl (by rw [List.length_map, sizeLine_eq]; omega) (fun d hd acc ha => ?_) ?_
  · obtain ⟨p, hp, rfl⟩ := List.mem_map.mp hd
    simp [wipeE]
    refine wp_ans (s_is_sized (pairD p) 2 2) rfl ?_
    simp [ha, noOwn, pairD, sizedD, wipeE]
  · rw [all_bools (ps.map pairD) (fun _ => true)]
    simp [truD]
    refine wp_for (fun _ e => ∃ x y : Option PyData, e = [some (.d (.tuple xs)), some (.d (.tuple (ps.map pairD))), x.map .d, y.map .d, none]) ⟨none, none, rfl⟩ (fun i d e hd hI => ?_) (fun e hI => ?_)
    · obtain ⟨x, y, rfl⟩ := hI
      have hm := List.mem_of_getElem? hd
      obtain ⟨p, hp, rfl⟩ := List.mem_map.mp hm
      obtain ⟨n1, n2⟩ := h.num p hp
      obtain ⟨m1, m2⟩ := h.min p hp
      rcases x with _ | x <;> rcases y with _ | y <;> (
        simp [pairD, DL.gSub]
        refine wp_ans (s_is_within (.int p.1) 0 (xs.length - 1)) rfl ?_
        have e2 : withinD (.int p.1) 0 (xs.length - 1) = true := by
          simp [withinD]
          omega
        simp [truD, e2]
        refine wp_ans (s_is_within (.int p.2) 0 400) rfl ?_
        have e3 : withinD (.int p.2) 0 400 = true := by
          simp [withinD]
          omega
        simp [truD, e3]
        exact ⟨⟨some (.int p.1), rfl⟩, ⟨some (.int p.2), rfl⟩⟩)
    · obtain ⟨x, y, rfl⟩ := hI
      have nv : noOwn [4] [some (EV.d (.tuple xs)), some (.d (.tuple (ps.map pairD))), x.map EV.d, y.map .d, none] = true := by
        rcases x with _ | x <;> rcases y with _ | y <;> rfl
      rcases x with _ | x <;> rcases y with _ | y <;> (
        simp [seqI]
        refine wp_dc_map keyF rfl (by rw [List.length_map, sizeLine_eq]; omega) (fun d hd acc ha => ?_) ?_
        · obtain ⟨p, hp, rfl⟩ := List.mem_map.mp hd
          simp [wipeE, pairD, gIx, atI, ixN, keyD, ha, noOwn, keyF]
        · rw [keys_len ps h.nd]
          simp [gNe_int])
end K71
end

/- M71j -/
section
set_option maxHeartbeats 4000000
namespace K71
open PySem PySem.Spec PyProof.Rows L2 DL

def tmAt (ts : List Tm) (n : Int) : Tm := ts.getD n.toNat ⟨0, 0, 0⟩
theorem tmAt_mem {ts : List Tm} {n : Int} (h1 : 0 ≤ n) (h2 : n < ts.length) : tmAt ts n ∈ ts := by
  unfold tmAt
  have : n.toNat < ts.length := by omega
  rw [List.getD_eq_getElem?_getD, List.getElem?_eq_getElem this]
  exact List.getElem_mem this
theorem gIx_tm {ts : List Tm} {n : Int} (h1 : 0 ≤ n) (h2 : n < ts.length) : gIx (.tuple (ts.map Tm.d)) (.int n) = some (tmAt ts n).d := by
  show atI (ts.map Tm.d) n = _
  have hl : n.toNat < ts.length := by omega
  rw [atI_nat h1 (by rw [List.length_map]; exact h2), List.getElem?_map]
  unfold tmAt
  rw [List.getD_eq_getElem?_getD, List.getElem?_eq_getElem hl]
  rfl
def toldD (ts : List Tm) (sp : Int) (ps : List (Int × Int)) (now : Int) : PyData := .tuple (ps.map fun p => rowD (tmAt ts p.1) sp (now - p.2))
def pairF (f : Int × Int → PyData) : PyData → PyData
  | .tuple [.int a, .int b] => f (a, b)
  | _ => .none
theorem map_pairF (ps : List (Int × Int)) (f : Int × Int → PyData) : (ps.map pairD).map (pairF f) = ps.map f := by
  rw [List.map_map]
  rfl
theorem s_board_told (ts : List Tm) (sp : Int) (ps : List (Int × Int)) (now : Int) (h : ∀ t ∈ ts, t.Ok) (h1 : 1 ≤ ts.length) (h2 : ts.length ≤ 8) (hs : withinD (.int sp) 0 100 = true) (hb : BOk ts.length ps) (hn : 0 ≤ now) (hn2 : now ≤ 400) (hp : ∀ p ∈ ps, p.2 ≤ now) :
    Ans bd_board_told 6 [.d (tmsD ts), .d (.int sp), .d (boardD ps), .d (.int now)] (toldD ts sp ps now) := by
  have hl := hb.len
  apply ans_of
  unfold bd_board_told
  simp [startE]
  rw [wp_fin]
  refine ⟨rfl, s_check_teams _ _ (fun e _ _ => ?_) (fun e z => ?_) (fun e _ z => ?_)⟩
  · simp
    refine wp_don (s_check_board (ts.map Tm.d) ps (by rw [List.length_map]; exact hb) (by rw [List.length_map]; exact h2)) rfl ?_
    simp
    refine wp_ans (s_is_within (.int now) 0 400) rfl ?_
    have e1 : withinD (.int now) 0 400 = true := by
      simp [withinD]
      omega
    simp [truD, e1]
    unfold boardD
    simp [seqI]
    refine wp_lc_map (pairF fun p => .bool false) rfl (by rw [List.length_map, sizeLine_eq]; omega) (fun d hd acc ha => ?_) ?_
    · obtain ⟨p, hpm, rfl⟩ := List.mem_map.mp hd
      have q := hp p hpm
      have q' : ¬ now < p.2 := by omega
      simp [wipeE, pairD, gGt, ha, noOwn, pairF, q']
    · rw [map_pairF, any_bools ps fun _ => false]
      simp [truD, seqI]
      refine wp_lc_map (pairF fun p => rowD (tmAt ts p.1) sp (now - p.2)) rfl (by rw [List.length_map, sizeLine_eq]; omega) (fun d hd acc ha => ?_) ?_
      · obtain ⟨p, hpm, rfl⟩ := List.mem_map.mp hd
        obtain ⟨n1, n2⟩ := hb.num p hpm
        simp [wipeE, pairD, tmsD, gIx_tm n1 n2, DL.gSub]
        refine wp_ans (s_board_row _ sp (now - p.2) (h _ (tmAt_mem n1 n2))) rfl ?_
        simp [ha, noOwn, wipeE, pairF]
      · rw [map_pairF]
        simp [DL.gTup, toldD]
  · rw [tms_ok h h1 h2] at z; cases z
  · rw [hs] at z; cases z
end K71
end

/- M71k -/
section
set_option maxHeartbeats 4000000
namespace K71
open PySem PySem.Spec PyProof.Rows L2 DL

theorem ex_d (a : PyData) : (∃ x : Option PyData, some (EV.d a) = x.map EV.d) = True := eq_true ⟨some a, rfl⟩
theorem turnD_isNone (t : Tm) (sp : Int) : gIs (turnD t sp) .none = some (.bool (decide (stayI t sp < 0))) := by
  unfold turnD
  by_cases h : stayI t sp < 0 <;> simp [h, gIs]
theorem s_law_board (ts : List Tm) (sp : Int) (ps : List (Int × Int)) (now : Int) (h : ∀ t ∈ ts, t.Ok) (h2 : ts.length ≤ 8) (hs : 0 ≤ sp) (hb : BOk ts.length ps) : Ans bd__law_board 11 [.d (tmsD ts), .d (.int sp), .d (boardD ps), .d (.int now)] (toldD ts sp ps now) := by
  have hl := hb.len
  apply ans_of
  unfold bd__law_board
  simp [startE, sizeLine_eq, boardD, seqI]
  refine wp_for (fun i e => ∃ a b c d f g : Option PyData, e = [some (.d (tmsD ts)), some (.d (.int sp)), some (.d (.tuple (ps.map pairD))), some (.d (.int now)), some (.own false ((ps.take i).map fun p => rowD (tmAt ts p.1) sp (now - p.2))), a.map .d, b.map .d, c.map .d, d.map .d, f.map .d, g.map .d]) ⟨none, none, none, none, none, none, rfl⟩ (fun i x e hd hI => ?_) (fun e hI => ?_)
  · obtain ⟨a, b, c, d, f, g, rfl⟩ := hI
    have hm := List.mem_of_getElem? hd
    rw [List.getElem?_map] at hd
    cases hpi : ps[i]? with
    | none => rw [hpi] at hd; cases hd
    | some p =>
      rw [hpi] at hd
      cases hd
      have hpm := List.mem_of_getElem? hpi
      obtain ⟨n1, n2⟩ := hb.num p hpm
      have ho := h _ (tmAt_mem n1 n2)
      have hw := small_of (i := (tmAt ts p.1).s) (by have := ho.s1; omega) (by have := ho.s2; omega)
      have e1 : ps.take (i + 1) = ps.take i ++ [p] := by rw [List.take_add_one, hpi]; rfl
      have hlen : ((ps.take i).map fun p => rowD (tmAt ts p.1) sp (now - p.2)).length < sizeLine := by rw [List.length_map, List.length_take, sizeLine_eq]; omega
      generalize hacc : ((ps.take i).map fun p => rowD (tmAt ts p.1) sp (now - p.2)) = acc at hlen
      have st : wp (gTp 2 (gCons' (gNm 5) (gCons' (gNm 6) gNil')) (pairD p)) [some (EV.d (tmsD ts)), some (.d (.int sp)), some (.d (.tuple (ps.map pairD))), some (.d (.int now)), some (.own false acc), a.map .d, b.map .d, c.map .d, d.map .d, f.map .d, g.map .d] (fun _ e => e = [some (EV.d (tmsD ts)), some (.d (.int sp)), some (.d (.tuple (ps.map pairD))), some (.d (.int now)), some (.own false acc), some (.d (.int p.1)), some (.d (.int p.2)), c.map .d, d.map .d, f.map .d, g.map .d]) (fun _ _ => False) := by
        rcases a with _ | a <;> rcases b with _ | b <;> simp [pairD]
      refine wp_mono st (fun _ e he => ?_) (fun _ _ z => z)
      subst he
      rw [wp_sSeq]
      refine wp_mono (Q := fun fl e => fl = .next ∧ e = [some (EV.d (tmsD ts)), some (.d (.int sp)), some (.d (.tuple (ps.map pairD))), some (.d (.int now)), some (.own false acc), some (.d (.int p.1)), some (.d (.int p.2)), c.map .d, d.map .d, some (.d (tmAt ts p.1).d), some (.d (.int (now - p.2)))]) ?_ ?_ (fun _ _ z => z)
      · rcases f with _ | f <;> rcases g with _ | g <;> simp [tmsD, gIx_tm n1 n2, DL.gSub]
      rintro fl e ⟨rfl, rfl⟩
      dsimp only
      rw [wp_sSeq]
      refine wp_mono (Q := fun fl e => fl = .next ∧ e = [some (EV.d (tmsD ts)), some (.d (.int sp)), some (.d (.tuple (ps.map pairD))), some (.d (.int now)), some (.own false acc), some (.d (.int p.1)), some (.d (.int p.2)), some (.d (.int (airI (tmAt ts p.1) (now - p.2)))), some (.d (turnD (tmAt ts p.1) sp)), some (.d (tmAt ts p.1).d), some (.d (.int (now - p.2)))]) ?_ ?_ (fun _ _ z => z)
      · simp [DL.gSub, gMulA, gOr, gMul, gMaxA, gMax, hw, show gIx (tmAt ts p.1).d (.int 0) = some (.int (tmAt ts p.1).u) from rfl, show gIx (tmAt ts p.1).d (.int 1) = some (.int (tmAt ts p.1).s) from rfl]
        refine wp_ans (s_law_turn _ sp ho hs) rfl ?_
        rcases c with _ | c <;> rcases d with _ | d <;> simp [airI]
      rintro fl e ⟨rfl, rfl⟩
      dsimp only
      by_cases q1 : stayI (tmAt ts p.1) sp < 0
      · simp [turnD_isNone, q1, hlen, sizeLine_eq]
        rw [show ∀ r, fAppend [r] acc = some (.none, acc ++ [r]) from fun r => by simp [fAppend, hlen]]
        simp [ex_d]
        rw [← List.map_take, e1, List.map_append, hacc]
        simp [rowD, q1]
      · have e2 : turnD (tmAt ts p.1) sp = .int ((tmAt ts p.1).w + stayI (tmAt ts p.1) sp) := by unfold turnD; rw [if_neg q1]
        rw [e2]
        by_cases q2 : (tmAt ts p.1).w + stayI (tmAt ts p.1) sp < now - p.2
        · simp [gIs, gLt, q2, hlen, sizeLine_eq]
          rw [show ∀ r, fAppend [r] acc = some (.none, acc ++ [r]) from fun r => by simp [fAppend, hlen]]
          simp [ex_d]
          rw [← List.map_take, e1, List.map_append, hacc]
          simp [rowD, q1, q2]
        · by_cases q3 : now - p.2 < (tmAt ts p.1).w + stayI (tmAt ts p.1) sp
          · simp [gIs, gLt, gGt, q2, q3, hlen, sizeLine_eq, DL.gSub]
            rw [show ∀ r, fAppend [r] acc = some (.none, acc ++ [r]) from fun r => by simp [fAppend, hlen]]
            simp [ex_d]
            rw [← List.map_take, e1, List.map_append, hacc]
            simp [rowD, q1, q2, q3]
          · simp [gIs, gLt, gGt, q2, q3, hlen, sizeLine_eq, DL.gSub]
            rw [show ∀ r, fAppend [r] acc = some (.none, acc ++ [r]) from fun r => by simp [fAppend, hlen]]
            simp [ex_d]
            rw [← List.map_take, e1, List.map_append, hacc]
            simp [rowD, q1, q2, q3]
  · obtain ⟨a, b, c, d, f, g, rfl⟩ := hI
    simp [DL.gTup, toldD]
end K71
end

/- M71l -/
section
set_option maxHeartbeats 4000000
namespace K71
open PySem PySem.Spec PyProof.Rows L2 DL

/-- the minute of turning of one on the board -/
def tnI (ts : List Tm) (sp : Int) (p : Int × Int) : Int := p.2 + (tmAt ts p.1).w + stayI (tmAt ts p.1) sp
def hurt (ts : List Tm) (sp : Int) (ps : List (Int × Int)) : Bool := ps.any fun p => decide (stayI (tmAt ts p.1) sp < 0)
def firstI (ts : List Tm) (sp : Int) (ps : List (Int × Int)) : Int := (minI (ps.map (tnI ts sp))).getD 0
def dueD (ts : List Tm) (sp : Int) (ps : List (Int × Int)) : PyData := if ps = [] ∨ hurt ts sp ps = true then .none else
  .tuple [.int (firstI ts sp ps), .tuple ((sortI ((ps.filter fun p => decide (tnI ts sp p = firstI ts sp ps)).map (·.1))).map .int)]
theorem min_first (ts : List Tm) (sp : Int) (ps : List (Int × Int)) (h : ps ≠ []) : gMinA [.list (ps.map fun p => .int (tnI ts sp p))] = some (.int (firstI ts sp ps)) := by
  have e : (ps.map fun p => PyData.int (tnI ts sp p)) = (ps.map (tnI ts sp)).map .int := by rw [List.map_map]; rfl
  rw [e]
  show ((toInts ((ps.map (tnI ts sp)).map .int)).bind fun ns => (minI ns).map PyData.int) = _
  rw [toInts_map]
  cases ps with
  | nil => exact absurd rfl h
  | cons p ps => rfl
theorem sorted_ints (ns : List Int) : gSorted [.list (ns.map .int)] = some ((sortI ns).map .int) := by
  show (toInts (ns.map .int)).map _ = _
  rw [toInts_map]
  rfl
/-- plain values lie within -/
theorem lay_flat : ∀ xs : List PyData, xs.all flatD = true → PyData.canLayAll0 xs = true ∧ PyData.depthAll xs ≤ 1
  | [], _ => ⟨rfl, Nat.zero_le _⟩
  | x :: xs, h => by
    rw [List.all_cons, Bool.and_eq_true] at h
    obtain ⟨a, b⟩ := lay_flat xs h.2
    cases x <;> first | (have z := h.1; simp [flatD] at z; done) | (refine ⟨by simp [PyData.canLayAll0, PyData.canLay0, a], Nat.max_le.mpr ⟨?_, b⟩⟩; simp [PyData.depth])
theorem shaped_flat (xs : List PyData) (h : xs.all flatD = true) : SeqAt.shaped (.list xs) = true := by
  obtain ⟨a, b⟩ := lay_flat xs h
  simp [SeqAt.shaped, PyData.canLay0, PyData.depth, a]
  omega
theorem any_none (ts : List Tm) (sp : Int) (ps : List (Int × Int)) : ((ps.map fun p => stayD (tmAt ts p.1) sp).any fun z => PyData.eqv z .none) = hurt ts sp ps := by
  rw [List.any_map]
  unfold hurt
  congr 1
  funext p
  show PyData.eqv (stayD (tmAt ts p.1) sp) .none = _
  unfold stayD
  by_cases h : stayI (tmAt ts p.1) sp < 0 <;> simp [h, PyData.eqv]
theorem gIn_stays (ts : List Tm) (sp : Int) (ps : List (Int × Int)) : gIn .none (.list (ps.map fun p => stayD (tmAt ts p.1) sp)) = some (.bool (hurt ts sp ps)) := by
  have h1 : SeqAt.shaped .none = true := by simp [SeqAt.shaped, PyData.canLay0, PyData.depth]
  have h2 : (ps.map fun p => stayD (tmAt ts p.1) sp).all flatD = true := by
    rw [List.all_map, List.all_eq_true]
    intro p _
    show flatD (stayD (tmAt ts p.1) sp) = true
    unfold stayD
    split <;> rfl
  show (if SeqAt.shaped .none && SeqAt.shaped (.list (ps.map fun p => stayD (tmAt ts p.1) sp)) then some (PyData.bool ((ps.map fun p => stayD (tmAt ts p.1) sp).any fun z => PyData.eqv z .none)) else none) = _
  rw [h1, shaped_flat _ h2, any_none]
  rfl
end K71
end

/- M71m -/
section
set_option maxHeartbeats 4000000
namespace K71
open PySem PySem.Spec PyProof.Rows L2 DL

theorem zip_map {α : Type} (xs : List α) (f g : α → PyData) : zipD (xs.map f) (xs.map g) = xs.map fun x => .tuple [f x, g x] := by
  induction xs with
  | nil => rfl
  | cons t ts ih =>
    unfold zipD at ih ⊢
    simp only [List.map_cons, List.zipWith_cons_cons, List.cons.injEq, true_and]
    exact ih
theorem hurt_none {ts : List Tm} {sp : Int} {ps : List (Int × Int)} (h : hurt ts sp ps = false) : ∀ p ∈ ps, stayD (tmAt ts p.1) sp = .int (stayI (tmAt ts p.1) sp) := by
  intro p hp
  unfold hurt at h
  rw [List.any_eq_false] at h
  have := h p hp
  unfold stayD
  rw [if_neg (by simpa using this)]
def turnF (ts : List Tm) (sp : Int) : PyData → PyData
  | .tuple [.tuple [.int a, .int b], _] => .int (tnI ts sp (a, b))
  | _ => .none
def pickF (m : Int) : PyData → Option PyData
  | .tuple [.tuple [.int a, _], .int t] => if t = m then some (.int a) else none
  | _ => none
theorem pick_eq (ts : List Tm) (sp m : Int) (ps : List (Int × Int)) : (ps.map fun p => PyData.tuple [pairD p, .int (tnI ts sp p)]).filterMap (pickF m) = ((ps.filter fun p => decide (tnI ts sp p = m)).map (·.1)).map .int := by
  induction ps with
  | nil => rfl
  | cons p ps ih =>
    rw [List.map_cons, List.filterMap_cons, List.filter_cons]
    by_cases q : tnI ts sp p = m
    · have e : pickF m (.tuple [pairD p, .int (tnI ts sp p)]) = some (.int p.1) := by show (if tnI ts sp p = m then _ else _) = _; rw [if_pos q]
      rw [e, ih, if_pos (decide_eq_true q)]
      rfl
    · have e : pickF m (.tuple [pairD p, .int (tnI ts sp p)]) = none := by show (if tnI ts sp p = m then _ else _) = _; rw [if_neg q]
      rw [e, ih, if_neg (by simpa using q)]
theorem s_next_to_turn (ts : List Tm) (sp : Int) (ps : List (Int × Int)) (h : ∀ t ∈ ts, t.Ok) (h1 : 1 ≤ ts.length) (h2 : ts.length ≤ 8) (hs : withinD (.int sp) 0 100 = true) (hb : BOk ts.length ps) :
    Ans bd_next_to_turn 10 [.d (tmsD ts), .d (.int sp), .d (boardD ps)] (dueD ts sp ps) := by
  have hl := hb.len
  apply ans_of
  unfold bd_next_to_turn
  simp [startE]
  rw [wp_fin]
  refine ⟨rfl, s_check_teams _ _ (fun e _ _ => ?_) (fun e z => ?_) (fun e _ z => ?_)⟩
  · simp
    refine wp_don (s_check_board (ts.map Tm.d) ps (by rw [List.length_map]; exact hb) (by rw [List.length_map]; exact h2)) rfl ?_
    simp [boardD, seqI]
    refine wp_lc_map (pairF fun p => stayD (tmAt ts p.1) sp) rfl (by rw [List.length_map, sizeLine_eq]; omega) (fun d hd acc ha => ?_) ?_
    · obtain ⟨p, hpm, rfl⟩ := List.mem_map.mp hd
      obtain ⟨n1, n2⟩ := hb.num p hpm
      simp [wipeE, pairD, tmsD, gIx_tm n1 n2]
      refine wp_ans (s_raw_stay _ sp (h _ (tmAt_mem n1 n2))) rfl ?_
      simp [ha, noOwn, wipeE, pairF]
    · rw [map_pairF]
      simp [-List.map_map, gLen, gEq_int, gIn_stays]
      unfold dueD
      by_cases h0 : ps = []
      · simp [h0]
      · cases hh : hurt ts sp ps
        · have e1 : (ps.map fun p => stayD (tmAt ts p.1) sp) = ps.map fun p => .int (stayI (tmAt ts p.1) sp) := List.map_congr_left (hurt_none hh)
          simp [-List.map_map, h0, e1, zipS, seqB, zip_map]
          refine wp_lc_map (turnF ts sp) rfl (by rw [List.length_map, sizeLine_eq]; omega) (fun d hd acc ha => ?_) ?_
          · obtain ⟨p, hpm, rfl⟩ := List.mem_map.mp hd
            obtain ⟨n1, n2⟩ := hb.num p hpm
            simp [wipeE, pairD, tmsD, gIx_tm n1 n2, show gIx (tmAt ts p.1).d (.int 2) = some (.int (tmAt ts p.1).w) from rfl, gAddA, gOr, gAdd, ha, noOwn, turnF, tnI]
          · have e2 : (ps.map fun p => PyData.tuple [pairD p, .int (stayI (tmAt ts p.1) sp)]).map (turnF ts sp) = ps.map fun p => .int (tnI ts sp p) := by
              rw [List.map_map]; rfl
            rw [e2]
            simp [-List.map_map, h0, min_first, zipS, seqB, zip_map]
            refine wp_lc_fm (pickF (firstI ts sp ps)) rfl (by rw [List.length_map, sizeLine_eq]; omega) (fun d hd acc ha => ?_) ?_
            · obtain ⟨p, hpm, rfl⟩ := List.mem_map.mp hd
              by_cases q : tnI ts sp p = firstI ts sp ps
              · simp [-List.map_map, wipeE, h0, min_first, gEq_int, q, pairD, gIx, atI, ixN, pickF, ha, noOwn]
              · simp [-List.map_map, wipeE, h0, min_first, gEq_int, q, pairD, pickF, ha, noOwn]
            · have e3 : (ps.map fun p => PyData.tuple [pairD p, .int (tnI ts sp p)]).filterMap (pickF (firstI ts sp ps)) = ((ps.filter fun p => decide (tnI ts sp p = firstI ts sp ps)).map (·.1)).map .int := pick_eq ts sp _ ps
              rw [e3]
              simp [-List.map_map, sorted_ints, DL.gTup, sizeLine_eq]
        · simp [h0]
  · rw [tms_ok h h1 h2] at z; cases z
  · rw [hs] at z; cases z
end K71
end

/- M71n -/
section
set_option maxHeartbeats 4000000
namespace K71
open PySem PySem.Spec PyProof.Rows L2 DL

theorem r_board_size (xs : List PyData) (d : PyData) (h : sizedD d 0 xs.length = false) : Rai bd_check_board 5 [.d (.tuple xs), .d d] "NoStand" := by
  apply rai_of
  unfold bd_check_board
  simp [startE, gLen]
  refine wp_ans (s_is_sized _ 0 xs.length) rfl ?_
  simp [truD, h]
theorem r_board_short (xs : List PyData) (x : PyData) (h1 : 1 ≤ xs.length) (h : sizedD x 2 2 = false) : Rai bd_check_board 5 [.d (.tuple xs), .d (.tuple [x])] "NoStand" := by
  apply rai_of
  unfold bd_check_board
  simp [startE, gLen]
  refine wp_ans (s_is_sized _ 0 xs.length) rfl ?_
  have e1 : sizedD (.tuple [x]) 0 xs.length = true := by
    simp [sizedD]
    omega
  simp [truD, e1, seqI]
  refine wp_lc_map (fun x => .bool (sizedD x 2 2)) rfl (by rw [sizeLine_eq]; simp) (fun d hd acc ha => ?_) ?_
  · simp [wipeE]
    refine wp_ans (s_is_sized d 2 2) rfl ?_
    simp [ha, noOwn, wipeE]
  · rw [all_bools]
    simp [truD, h]
theorem r_board_one (xs : List PyData) (a b : PyData) (h1 : 1 ≤ xs.length) (h : withinD a 0 (xs.length - 1) = false ∨ withinD b 0 400 = false) : Rai bd_check_board 5 [.d (.tuple xs), .d (.tuple [.tuple [a, b]])] "NoStand" := by
  apply rai_of
  unfold bd_check_board
  simp [startE, gLen]
  refine wp_ans (s_is_sized _ 0 xs.length) rfl ?_
  have e1 : sizedD (.tuple [.tuple [a, b]]) 0 xs.length = true := by
    simp [sizedD]
    omega
  simp [truD, e1, seqI]
  refine wp_lc_map (fun x => .bool (sizedD x 2 2)) rfl (by rw [sizeLine_eq]; simp) (fun d hd acc ha => ?_) ?_
  · simp [wipeE]
    refine wp_ans (s_is_sized d 2 2) rfl ?_
    simp [ha, noOwn, wipeE]
  · rw [all_bools]
    simp [truD, sizedD, DL.gSub]
    refine wp_ans (s_is_within a 0 (xs.length - 1)) rfl ?_
    cases ha : withinD a 0 (xs.length - 1)
    · simp [truD]
    · simp [truD]
      refine wp_ans (s_is_within b 0 400) rfl ?_
      rcases h with h | h
      · rw [ha] at h; cases h
      · simp [truD, h]
theorem r_board_twice (xs : List PyData) (h1 : 1 ≤ xs.length) : Rai bd_check_board 5 [.d (.tuple xs), .d (.tuple [.tuple [.int 0, .int 0], .tuple [.int 0, .int 1]])] "NoStand" := by
  by_cases hk : sizedD (.tuple [.tuple [.int 0, .int 0], .tuple [.int 0, .int 1]]) 0 xs.length = false
  · exact r_board_size xs _ hk
  · rw [Bool.not_eq_false] at hk
    have hw : ∀ k : Int, k = 0 ∨ k = 1 → withinD (.int k) 0 400 = true := by rintro k (rfl | rfl) <;> rfl
    have hn : withinD (.int 0) 0 (xs.length - 1) = true := by
      simp [withinD]
      omega
    apply rai_of
    unfold bd_check_board
    simp [startE, gLen]
    refine wp_ans (s_is_sized _ 0 xs.length) rfl ?_
    simp [truD, hk, seqI]
    refine wp_lc_map (fun x => .bool (sizedD x 2 2)) rfl (by rw [sizeLine_eq]; simp) (fun d hd acc ha => ?_) ?_
    · simp [wipeE]
      refine wp_ans (s_is_sized d 2 2) rfl ?_
      simp [ha, noOwn, wipeE]
    · rw [all_bools]
      generalize hps : ([PyData.tuple [.int 0, .int 0], .tuple [.int 0, .int 1]] : List PyData) = ps
      have hb : ps.map (fun x => sizedD x 2 2) = [true, true] := by rw [← hps]; rfl
      have hall : ps.all (fun x => sizedD x 2 2) = true := by rw [← hps]; rfl
      simp only [truD, hall, opt_some, Bool.not_true, wp_ite]
      simp
      refine wp_for (fun _ e => ∃ x y : Option PyData, e = [some (.d (.tuple xs)), some (.d (.tuple ps)), x.map .d, y.map .d, none]) ⟨none, none, rfl⟩ (fun i d e hd hI => ?_) (fun e hI => ?_)
      · obtain ⟨x, y, rfl⟩ := hI
        have hm := List.mem_of_getElem? hd
        obtain ⟨k, hk', rfl⟩ : ∃ k : Int, (k = 0 ∨ k = 1) ∧ d = .tuple [.int 0, .int k] := by
          rw [← hps] at hm
          simp only [List.mem_cons, List.mem_nil_iff, or_false] at hm
          rcases hm with rfl | rfl
          · exact ⟨0, .inl rfl, rfl⟩
          · exact ⟨1, .inr rfl, rfl⟩
        rcases x with _ | x <;> rcases y with _ | y <;> (
          simp [DL.gSub, gLen]
          refine wp_ans (s_is_within (.int 0) 0 (xs.length - 1)) rfl ?_
          simp [truD, hn]
          refine wp_ans (s_is_within (.int k) 0 400) rfl ?_
          simp [truD, hw k hk']
          exact ⟨⟨some (.int 0), rfl⟩, ⟨some (.int k), rfl⟩⟩)
      · obtain ⟨x, y, rfl⟩ := hI
        subst hps
        rcases x with _ | x <;> rcases y with _ | y <;> (
          simp [seqI, gLen]
          refine wp_dc_map keyF rfl (by rw [sizeLine_eq]; simp) (fun d hd acc ha => ?_) ?_
          · simp only [List.mem_cons, List.mem_nil_iff, or_false] at hd
            rcases hd with rfl | rfl <;> simp [wipeE, gIx, atI, ixN, keyD, ha, noOwn, keyF]
          · rw [show ([PyData.tuple [.int 0, .int 0], .tuple [.int 0, .int 1]].foldl (fun a d => addK a (keyF d)) []).length = 1 from rfl]
            simp [gNe_int])
def oddBoards : List PyData := [.none, .list [.tuple [.int 0, .int 0]], .tuple [.tuple [.int 9, .int 0]], .tuple [.tuple [.int 0, .int 401]], .tuple [.tuple [.int 0, .int 0], .tuple [.int 0, .int 1]], .tuple [.tuple [.int 0]], .tuple [.tuple [.int 0, .bool true]], .int 0]
theorem r_board_odd (xs : List PyData) (h1 : 1 ≤ xs.length) (h2 : xs.length ≤ 8) (d : PyData) (hd : d ∈ oddBoards) : Rai bd_check_board 5 [.d (.tuple xs), .d d] "NoStand" := by
  unfold oddBoards at hd
  simp only [List.mem_cons, List.mem_nil_iff, or_false] at hd
  rcases hd with rfl | rfl | rfl | rfl | rfl | rfl | rfl | rfl
  · exact r_board_size xs _ rfl
  · exact r_board_size xs _ rfl
  · refine r_board_one xs _ _ h1 (.inl ?_)
    simp [withinD]
    omega
  · exact r_board_one xs _ _ h1 (.inr rfl)
  · exact r_board_twice xs h1
  · exact r_board_short xs _ h1 rfl
  · exact r_board_one xs _ _ h1 (.inr rfl)
  · exact r_board_size xs _ rfl
end K71
end

/- M71o -/
section
set_option maxHeartbeats 4000000
namespace K71
open PySem PySem.Spec PyProof.Rows L2 DL

/-! the refusals -/
theorem r_lack_teams (d sp pause : PyData) (h : teamsOk d = false) : Rai bd_lacking_minutes 3 [.d d, .d sp, .d pause] "NoTeams" := by
  apply rai_of
  unfold bd_lacking_minutes
  simp [startE]
  rw [wp_fin]
  refine ⟨rfl, s_check_teams _ _ (fun e z _ => ?_) (fun e _ => rfl) (fun e z _ => ?_)⟩ <;> (rw [h] at z; cases z)
theorem r_lack_pause (d sp pause : PyData) (h : teamsOk d = true) (hs : withinD sp 0 100 = true) (hp : withinD pause 0 60 = false) : Rai bd_lacking_minutes 3 [.d d, .d sp, .d pause] "NoNumber" := by
  apply rai_of
  unfold bd_lacking_minutes
  simp [startE]
  rw [wp_fin]
  refine ⟨rfl, s_check_teams _ _ (fun e _ _ => ?_) (fun e z => ?_) (fun e _ z => rfl)⟩
  · simp
    rw [wp_fin]
    refine ⟨rfl, s_check_pause _ (fun e z => ?_) (fun e z => rfl)⟩
    rw [hp] at z; cases z
  · rw [h] at z; cases z
theorem r_ever_spare (d sp pause : PyData) (h : teamsOk d = true) (hs : withinD sp 0 100 = false) : Rai bd_turns_for_ever 4 [.d d, .d sp, .d pause] "NoNumber" := by
  apply rai_of
  unfold bd_turns_for_ever
  simp [startE]
  rw [wp_fin]
  refine ⟨rfl, s_check_teams _ _ (fun e _ z => ?_) (fun e z => ?_) (fun e _ z => rfl)⟩
  · rw [hs] at z; cases z
  · rw [h] at z; cases z
theorem r_told_spare (d sp board now : PyData) (h : teamsOk d = true) (hs : withinD sp 0 100 = false) : Rai bd_board_told 6 [.d d, .d sp, .d board, .d now] "NoNumber" := by
  apply rai_of
  unfold bd_board_told
  simp [startE]
  rw [wp_fin]
  refine ⟨rfl, s_check_teams _ _ (fun e _ z => ?_) (fun e z => ?_) (fun e _ z => rfl)⟩
  · rw [hs] at z; cases z
  · rw [h] at z; cases z
theorem r_told_stand (xs : List PyData) (sp board now : PyData) (h : teamsOk (.tuple xs) = true) (hs : withinD sp 0 100 = true) (hb : Rai bd_check_board 5 [.d (.tuple xs), .d board] "NoStand") : Rai bd_board_told 6 [.d (.tuple xs), .d sp, .d board, .d now] "NoStand" := by
  apply rai_of
  unfold bd_board_told
  simp [startE]
  rw [wp_fin]
  refine ⟨rfl, s_check_teams _ _ (fun e _ z => ?_) (fun e z => ?_) (fun e _ z => ?_)⟩
  · simp
    exact wp_rai hb rfl rfl
  · rw [h] at z; cases z
  · rw [hs] at z; cases z
theorem r_next_stand (xs : List PyData) (sp board : PyData) (h : teamsOk (.tuple xs) = true) (hs : withinD sp 0 100 = true) (hb : Rai bd_check_board 5 [.d (.tuple xs), .d board] "NoStand") : Rai bd_next_to_turn 10 [.d (.tuple xs), .d sp, .d board] "NoStand" := by
  apply rai_of
  unfold bd_next_to_turn
  simp [startE]
  rw [wp_fin]
  refine ⟨rfl, s_check_teams _ _ (fun e _ z => ?_) (fun e z => ?_) (fun e _ z => ?_)⟩
  · simp
    exact wp_rai hb rfl rfl
  · rw [h] at z; cases z
  · rw [hs] at z; cases z
theorem r_told_time (ts : List Tm) (sp now : PyData) (h : ∀ t ∈ ts, t.Ok) (h1 : 1 ≤ ts.length) (h2 : ts.length ≤ 8) (hs : withinD sp 0 100 = true) (hn : now = .int 4 ∨ withinD now 0 400 = false) : Rai bd_board_told 6 [.d (tmsD ts), .d sp, .d (.tuple [.tuple [.int 0, .int 5]]), .d now] "NoTime" := by
  have hb : BOk ts.length [(0, 5)] := ⟨h1, by simp; omega, by simp, by simp⟩
  apply rai_of
  unfold bd_board_told
  simp [startE]
  rw [wp_fin]
  refine ⟨rfl, s_check_teams _ _ (fun e _ z => ?_) (fun e z => ?_) (fun e _ z => ?_)⟩
  · simp
    refine wp_don (s_check_board (ts.map Tm.d) [(0, 5)] (by rw [List.length_map]; exact hb) (by rw [List.length_map]; exact h2)) rfl ?_
    simp
    refine wp_ans (s_is_within now 0 400) rfl ?_
    cases hw : withinD now 0 400
    · simp [truD]
    · rcases hn with rfl | hn
      · simp [truD, seqI]
        refine wp_lc_map (fun _ => .bool true) rfl (by rw [sizeLine_eq]; simp) (fun d hd acc ha => ?_) ?_
        · simp only [List.mem_cons, List.mem_nil_iff, or_false] at hd
          subst hd
          simp [wipeE, gGt, ha, noOwn]
        · rw [show ([PyData.tuple [.int 0, .int 5]].map fun _ => PyData.bool true) = ([()].map fun _ => PyData.bool true) from rfl, any_bools [()] fun _ => true]
          simp [truD]
      · rw [hw] at hn; cases hn
  · rw [tms_ok h h1 h2] at z; cases z
  · rw [hs] at z; cases z
end K71
end

/- M71p -/
section
set_option maxHeartbeats 4000000
namespace K71
open PySem PySem.Spec PyProof.Rows L2 DL

def badTeams : List PyData := [.none, .tuple [], .list [.tuple [.int 1, .int 1, .int 1]], .tuple [.tuple [.int 0, .int 1, .int 1]], .tuple [.tuple [.int 301, .int 1, .int 1]], .tuple [.tuple [.int 1, .int 0, .int 1]], .tuple [.tuple [.int 1, .int 21, .int 1]], .tuple [.tuple [.int 1, .int 1, .int 21]], .tuple [.tuple [.int 1, .int 1]],
  .tuple [.tuple [.bool true, .int 1, .int 1]], .tuple (List.replicate 9 (.tuple [.int 5, .int 5, .int 5])), .int 0, .tuple [.int 5, .int 5, .int 5]]
theorem bad_teams_bad : badTeams.all (fun d => !teamsOk d) = true := by decide
def badSpares : List PyData := [.int (-1), .int 101, .none, .bool true, .str "5"]
theorem bad_spares_bad : badSpares.all (fun d => !withinD d 0 100) = true := by decide
section
variable {env : En} {E : Er → En → Prop} {Q : RVl → En → Prop} {i : Nat} {b : Bool} {ds : List PyData}
theorem wp_bad_teams (hi : HI ds) (he : env[i]? = some (some (.own b ds))) (q : ∀ d ds', HI ds' → teamsOk d = false → Q (.d d) (env.set i (some (.own b ds')))) : wp (fin 1 bd__law_bad_teams 2 [.own true ds] (some (0, i))) env Q E := by
  rw [wp_fin]
  refine ⟨rfl, ?_⟩
  unfold bd__law_bad_teams
  rw [wp_sSeq]
  refine wp_mono (Q := fun fl e => fl = .next ∧ e = [some (.own true ds), some (.d (.list (badTeams.take 9)))]) ?_ ?_ (fun _ _ z => z)
  · simp (maxSteps := 10000000) [startE, sizeLine_eq]
    rfl
  rintro fl e ⟨rfl, rfl⟩
  dsimp only
  simp (maxSteps := 10000000) [sizeLine_eq, show gMulA (.tuple [.tuple [.int 5, .int 5, .int 5]]) (.int 9) = some (.tuple (List.replicate 9 (.tuple [.int 5, .int 5, .int 5]))) from rfl]
  refine (show opt (some (PyData.list badTeams)) _ from ?_)
  rw [opt_some]
  refine wp_anyone (xs := badTeams) hi rfl (by decide) (by decide) fun x ds' hi' hx => ?_
  dsimp only
  rw [back_some (b := b) (es := ds') rfl he]
  exact q x ds' hi' (by simpa using List.all_eq_true.mp bad_teams_bad x hx)
theorem wp_bad_spare (hi : HI ds) (he : env[i]? = some (some (.own b ds))) (q : ∀ d ds', HI ds' → withinD d 0 100 = false → Q (.d d) (env.set i (some (.own b ds')))) : wp (fin 1 bd__law_bad_spare 1 [.own true ds] (some (0, i))) env Q E := by
  rw [wp_fin]
  refine ⟨rfl, ?_⟩
  unfold bd__law_bad_spare
  simp [startE, sizeLine_eq]
  refine wp_anyone (xs := badSpares) hi rfl (by decide) (by decide) fun x ds' hi' hx => ?_
  simp
  rw [back_some (b := b) (es := ds') rfl he]
  exact q x ds' hi' (by simpa using List.all_eq_true.mp bad_spares_bad x hx)
end
end K71
end

/- M71q -/
section
set_option maxHeartbeats 4000000
namespace K71
open PySem PySem.Spec PyProof.Rows L2 DL

theorem said_number : said_law_said "NoNumber" = some (.str "number") := by rfl
theorem said_stand : said_law_said "NoStand" = some (.str "stand") := by rfl
theorem said_teams : said_law_said "NoTeams" = some (.str "teams") := by rfl
theorem said_time : said_law_said "NoTime" = some (.str "time") := by rfl
def fars : List PyData := [.int (-1), .int 61, .none, .bool true]
theorem fars_bad : fars.all (fun d => !withinD d 0 60) = true := by decide
def nows : List PyData := [.int 4, .int 401, .int (-1), .none, .bool true]
theorem nows_bad {d : PyData} (h : d ∈ nows) : d = .int 4 ∨ withinD d 0 400 = false := by
  unfold nows at h
  simp only [List.mem_cons, List.mem_nil_iff, or_false] at h
  rcases h with rfl | rfl | rfl | rfl | rfl
  · exact .inl rfl
  all_goals exact .inr rfl
section
variable {env : En} {E : Er → En → Prop} {Q : RVl → En → Prop} {i : Nat} {b : Bool} {ds : List PyData}
theorem wp_refused {ts : List Tm} {sp : Int} (h : ∀ t ∈ ts, t.Ok) (h1 : 1 ≤ ts.length) (h2 : ts.length ≤ 8) (hs : withinD (.int sp) 0 100 = true) (hi : HI ds) (he : env[i]? = some (some (.own b ds))) (q : ∀ ds', HI ds' → Q (.d (.bool true)) (env.set i (some (.own b ds')))) :
    wp (fin 3 bd__law_refused_right 8 [.own true ds, .d (tmsD ts), .d (.int sp)] (some (0, i))) env Q E := by
  have ht := tms_ok h h1 h2
  rw [wp_fin]
  refine ⟨rfl, ?_⟩
  unfold bd__law_refused_right
  rw [wp_sSeq]
  refine wp_mono (Q := fun fl e => fl = .next ∧ ∃ ds' none bad, HI ds' ∧ teamsOk none = false ∧ withinD bad 0 100 = false ∧ e = [some (.own true ds'), some (.d (tmsD ts)), some (.d (.int sp)), some (.d none), some (.d bad), Option.none, Option.none, Option.none]) ?_ ?_ (fun _ _ z => z)
  · simp [startE]
    refine wp_bad_teams hi rfl fun d1 ds1 i1 b1 => ?_
    simp
    refine wp_bad_spare i1 rfl fun d2 ds2 i2 b2 => ?_
    simp [sizeLine_eq]
    exact ⟨ds2, i2, d1, b1, d2, b2, rfl, rfl, rfl⟩
  rintro fl e ⟨rfl, ds1, none, bad, i1, b1, b2, rfl⟩
  dsimp only
  rw [wp_sSeq]
  refine wp_mono (Q := fun fl e => fl = .next ∧ ∃ ds' far, HI ds' ∧ withinD far 0 60 = false ∧ e = [some (.own true ds'), some (.d (tmsD ts)), some (.d (.int sp)), some (.d none), some (.d bad), some (.d far), Option.none, Option.none]) ?_ ?_ (fun _ _ z => z)
  · simp [sizeLine_eq]
    refine wp_anyone (xs := fars) i1 rfl (by decide) (by decide) fun x ds' hi' hx => ?_
    simp
    exact ⟨hi', by simpa using List.all_eq_true.mp fars_bad x hx⟩
  rintro fl e ⟨rfl, ds2, far, i2, b3, rfl⟩
  dsimp only
  rw [wp_sSeq]
  refine wp_mono (Q := fun fl e => fl = .next ∧ ∃ ds' odd, HI ds' ∧ odd ∈ oddBoards ∧ e = [some (.own true ds'), some (.d (tmsD ts)), some (.d (.int sp)), some (.d none), some (.d bad), some (.d far), some (.d odd), Option.none]) ?_ ?_ (fun _ _ z => z)
  · simp (maxSteps := 10000000) [sizeLine_eq]
    refine wp_anyone (xs := oddBoards) i2 rfl (by decide) (by decide) fun x ds' hi' hx => ?_
    simp
    exact ⟨hi', hx⟩
  rintro fl e ⟨rfl, ds3, odd, i3, b4, rfl⟩
  dsimp only
  have hb := r_board_odd (ts.map Tm.d) (by rw [List.length_map]; exact h1) (by rw [List.length_map]; exact h2) odd b4
  refine W_step fun K hK _ _ _ => ?_
  show wp _ _ _ _
  simp
  refine wp_rai (r_lack_teams none bad far b1) rfl ?_
  simp [said_teams, sizeLine_eq]
  refine hK _ ?_
  refine W_step fun K hK _ _ _ => ?_
  show wp _ _ _ _
  simp
  refine wp_rai (r_ever_spare (tmsD ts) bad far ht b2) rfl ?_
  simp [said_number, fAppend, sizeLine_eq]
  refine hK _ ?_
  refine W_step fun K hK _ _ _ => ?_
  show wp _ _ _ _
  simp
  refine wp_rai (r_lack_pause (tmsD ts) (.int sp) far ht hs b3) rfl ?_
  simp [said_number, gCat, sizeLine_eq]
  refine hK _ ?_
  refine W_step fun K hK _ _ _ => ?_
  show wp _ _ _ _
  simp
  refine wp_rai (r_told_spare (tmsD ts) bad odd .none ht b2) rfl ?_
  simp [said_number, gCat, sizeLine_eq]
  refine hK _ ?_
  refine W_step fun K hK _ _ _ => ?_
  show wp _ _ _ _
  simp
  refine wp_rai (r_told_stand (ts.map Tm.d) (.int sp) odd .none ht hs hb) rfl ?_
  simp [said_stand, gCat, sizeLine_eq]
  refine hK _ ?_
  refine W_step fun K hK _ _ _ => ?_
  show wp _ _ _ _
  simp
  refine wp_rai (r_next_stand (ts.map Tm.d) (.int sp) odd ht hs hb) rfl ?_
  simp [said_stand, gCat, sizeLine_eq]
  refine hK _ ?_
  refine W_step fun K hK _ _ _ => ?_
  show wp _ _ _ _
  simp [sizeLine_eq]
  refine wp_anyone (xs := nows) i3 rfl (by decide) (by decide) fun x ds' hi' hx => ?_
  simp
  refine wp_rai (r_told_time ts (.int sp) x h h1 h2 hs (nows_bad hx)) rfl ?_
  simp [said_time, fAppend, sizeLine_eq]
  refine hK _ ?_
  simp [sizeLine_eq]
  rw [back_some (b := b) (es := ds') rfl he]
  rw [gEq_selfL (by simp; decide +kernel)]
  exact q ds' hi'
end
end K71
end

/- M71r -/
section
set_option maxHeartbeats 4000000
namespace K71
open PySem PySem.Spec PyProof.Rows L2 DL

theorem lay_rowD (t : Tm) (sp g : Int) : Lay 2 (rowD t sp g) := by
  have h1 : PyData.strOk "late" = true := by decide +kernel
  have h2 : PyData.strOk "in" = true := by decide +kernel
  have h3 : PyData.strOk "turn" = true := by decide +kernel
  unfold rowD
  split
  · refine lay_tuple fun x hx => ?_
    simp at hx
    rcases hx with rfl | rfl | rfl <;> simp [h1]
  · refine lay_tuple fun x hx => ?_
    simp at hx
    rcases hx with rfl | rfl | rfl
    · simp
    · simp
    · split <;> simp [h2, h3]
theorem lay_ints' {n : Nat} (ns : List Int) : Lay (n + 1) (.tuple (ns.map .int)) := lay_tuple fun x hx => by
  obtain ⟨k, _, rfl⟩ := List.mem_map.mp hx
  simp
theorem lay_told (ts : List Tm) (sp : Int) (ps : List (Int × Int)) (now : Int) : Lay 60 (toldD ts sp ps now) := lay_tuple fun x hx => by
  obtain ⟨k, _, rfl⟩ := List.mem_map.mp hx
  exact (lay_rowD _ _ _).mono (by decide)
theorem lay_lack (ts : List Tm) (sp pause : Int) : Lay 60 (lackD ts sp pause) := by
  unfold lackD
  split
  · simp
  · exact lay_ints' _
theorem lay_due (ts : List Tm) (sp : Int) (ps : List (Int × Int)) : Lay 60 (dueD ts sp ps) := by
  unfold dueD
  split
  · simp
  · refine lay_tuple fun x hx => ?_
    simp only [List.mem_cons, List.mem_nil_iff, or_false] at hx
    rcases hx with rfl | rfl
    · simp
    · exact lay_ints' _
theorem lackD_none {ts : List Tm} {sp pause : Int} (h : 0 ∈ ts.map (stay0 sp)) : lackD ts sp pause = .none := if_pos h
theorem lackD_some {ts : List Tm} {sp pause : Int} (h : ¬ 0 ∈ ts.map (stay0 sp)) : lackD ts sp pause = .tuple ((ts.map (lackI ts sp pause)).map .int) := if_neg h
theorem stay0_pos (sp : Int) (t : Tm) : 0 ≤ stay0 sp t := by
  unfold stay0
  split <;> omega
theorem lack_pos (ts : List Tm) (sp pause : Int) (t : Tm) : 0 ≤ lackI ts sp pause t := by
  unfold lackI
  split <;> omega
def tE : Tm := ⟨90, 3, 2⟩
theorem tE_ok : tE.Ok := ⟨by decide, by decide, by decide, by decide, by decide, by decide⟩
theorem tE_stay {sp : Int} (h : sp ≤ 11) : 0 < stay0 sp tE := by
  have : 22 ≤ stayI tE sp := by
    unfold stayI tE
    show 22 ≤ (90 - sp) / 3 - 2 * 2
    omega
  unfold stay0
  rw [if_neg (by omega)]
  omega
theorem more_le (ts : List Tm) (sp pause : Int) (t : Tm) : lackI (ts ++ [tE]) sp pause t ≤ lackI ts sp pause t := by
  have := stay0_pos sp tE
  unfold lackI
  rw [List.map_append, List.sum_append]
  simp only [List.map_cons, List.map_nil, List.sum_cons, List.sum_nil]
  split <;> split <;> omega
theorem zip_more (ts : List Tm) (f g : Tm → Int) (y : Int) : zipD ((ts.map f).map .int) (((ts.map g) ++ [y]).map .int) = ts.map fun t => .tuple [.int (f t), .int (g t)] := by
  induction ts with
  | nil => rfl
  | cons t ts ih =>
    unfold zipD at ih ⊢
    simp only [List.map_cons, List.cons_append, List.zipWith_cons_cons, List.cons.injEq, true_and]
    exact ih
theorem max_zero (ts : List Tm) (f : Tm → Int) (hf : ∀ t, 0 ≤ f t) (h : 1 ≤ ts.length) : ∃ m : Int, gMaxA [.tuple ((ts.map f).map .int)] = some (.int m) ∧ (m = 0 ↔ (ts.map f).any (fun n => n != 0) = false) := by
  cases ts with
  | nil => simp at h
  | cons t ts =>
    refine ⟨(ts.map f).foldl max (f t), ?_, ?_⟩
    · show ((toInts (((t :: ts).map f).map .int)).bind fun ns => (maxI ns).map PyData.int) = _
      rw [toInts_map]
      rfl
    · obtain ⟨h1, h2⟩ := foldl_max (ts.map f) (f t)
      rw [List.any_eq_false]
      constructor
      · intro e x hx
        have := h2 x hx
        rw [e] at this
        obtain ⟨u, _, rfl⟩ := List.mem_map.mp (show x ∈ (t :: ts).map f from hx)
        have := hf u
        simp
        omega
      · intro e
        have := e _ h1
        simpa using this
theorem shaped_bool (b : Bool) : SeqAt.shaped (.bool b) = true := Lay.shaped (n := 0) lay_bool (by decide)
theorem gNe_bool (a b : Bool) : gNe (.bool a) (.bool b) = some (.bool (a != b)) := by
  rw [gNe_lay lay_bool lay_bool]
  cases a <;> cases b <;> rfl
theorem any_map {α : Type} (xs : List α) (f : α → PyData) (g : PyData → Bool) : (xs.map f).any g = xs.any fun x => g (f x) := by
  rw [List.any_map]; rfl
/-- a board is told in the right bounds -/
structure WI (k : Nat) (ls : List Int) (ps : List (Int × Int)) : Prop where
  nd : (ls ++ ps.map (·.1)).Nodup
  bd : ∀ x ∈ ls ++ ps.map (·.1), 0 ≤ x ∧ x < k
  mi : ∀ p ∈ ps, 0 ≤ p.2 ∧ p.2 < 30
  ln : ls.length + ps.length = k
theorem WI.ok {k : Nat} {ls : List Int} {ps : List (Int × Int)} (h : WI k ls ps) : BOk k ps where
  len := by have := h.ln; omega
  num := fun p hp => h.bd _ (List.mem_append_right _ (List.mem_map_of_mem hp))
  min := fun p hp => by have := h.mi p hp; omega
  nd := (List.nodup_append.mp h.nd).2.1
theorem WI.step {k : Nat} {ls : List Int} {ps : List (Int × Int)} (h : WI k ls ps) {i : Nat} (hi : i < ls.length) {m : Int} (hm : 0 ≤ m ∧ m < 30) : WI k (ls.eraseIdx i) (ps ++ [(ls[i], m)]) := by
  have pm : ((ls.eraseIdx i) ++ (ps ++ [(ls[i], m)]).map (·.1)).Perm (ls ++ ps.map (·.1)) := by
    rw [List.map_append, ← List.append_assoc]
    have h1 : ((ls.eraseIdx i ++ ps.map (·.1)) ++ [ls[i]]).Perm (ls[i] :: (ls.eraseIdx i ++ ps.map (·.1))) := List.perm_append_singleton _ _
    refine h1.trans ?_
    rw [← List.cons_append]
    refine List.Perm.append_right _ ?_
    rw [List.eraseIdx_eq_take_drop_succ]
    have h2 : (ls[i] :: (ls.take i ++ ls.drop (i + 1))).Perm (ls.take i ++ ls[i] :: ls.drop (i + 1)) := List.perm_middle.symm
    refine h2.trans ?_
    rw [← List.drop_eq_getElem_cons hi, List.take_append_drop]
  exact {
    nd := pm.nodup_iff.mpr h.nd
    bd := fun x hx => h.bd x (pm.mem_iff.mp hx)
    mi := fun p hp => by
      rcases List.mem_append.mp hp with hp | hp
      · exact h.mi p hp
      · simp at hp; subst hp; exact hm
    ln := by
      have := h.ln
      rw [List.length_eraseIdx_of_lt hi, List.length_append]
      simp
      omega }
theorem WI.start (k : Nat) : WI k ((List.range k).map fun i : Nat => (i : Int)) [] where
  nd := by
    simp only [List.map_nil, List.append_nil]
    exact (List.nodup_range).map _ fun a b hab e => hab (by omega)
  bd := fun x hx => by
    simp at hx
    obtain ⟨a, ha, rfl⟩ := hx
    omega
  mi := fun p hp => by simp at hp
  ln := by simp
end K71
end

/- M71s -/
section
set_option maxHeartbeats 0
namespace K71
open PySem PySem.Spec PyProof.Rows L2 DL

structure Sl where
  ds : List PyData
  x2 : Option PyData
  x3 : Option PyData
  x4 : Option PyData
  o5 : Option EV
  x6 : Option PyData
  x7 : Option PyData
  o8 : Option (List PyData)
  x9 : Option PyData
  x10 : Option PyData
  x11 : Option PyData
  x12 : Option PyData
  x13 : Option PyData
def EI (sc : PyData) (s : Sl) : En := [some (.d sc), some (.own false s.ds), s.x2.map .d, s.x3.map .d, s.x4.map .d, s.o5, s.x6.map .d, s.x7.map .d, s.o8.map (.own false), s.x9.map .d, s.x10.map .d, s.x11.map .d, s.x12.map .d, s.x13.map .d, none, none, none, none, none]
theorem range_i {n i : Nat} {d : PyData} (hd : ((List.range n).map fun i : Nat => PyData.int (0 + (i : Int)))[i]? = some d) : i < n := (range_get hd).2
def tZ : List Tm := [⟨100, 5, 4⟩]
theorem tZ_ok : ∀ t ∈ tZ, t.Ok := by
  intro t ht
  simp [tZ] at ht
  subst ht
  exact ⟨by decide, by decide, by decide, by decide, by decide, by decide⟩
theorem tZ_b : BOk tZ.length [(0, 3)] := ⟨by simp [tZ], by simp [tZ], by simp, by simp⟩
theorem tZ_told : Ans bd_board_told 6 [.d (.tuple [.tuple [.int 100, .int 5, .int 4]]), .d (.int 20), .d (.tuple [.tuple [.int 0, .int 3]]), .d (.int 15)] (.tuple [.tuple [.int 40, .int 0, .str "turn"]]) := by
  have t1 := s_board_told tZ 20 [(0, 3)] 15 tZ_ok (by simp [tZ]) (by simp [tZ]) (by rfl) tZ_b (by omega) (by omega) (by simp)
  have v1 : toldD tZ 20 [(0, 3)] 15 = .tuple [.tuple [.int 40, .int 0, .str "turn"]] := by simp [tZ, toldD, rowD, tmAt, stayI, airI]
  rw [v1] at t1
  exact t1
theorem tZ_due : Ans bd_next_to_turn 10 [.d (.tuple [.tuple [.int 100, .int 5, .int 4]]), .d (.int 20), .d (.tuple [.tuple [.int 0, .int 3]])] (.tuple [.int 15, .tuple [.int 0]]) := by
  have t2 := s_next_to_turn tZ 20 [(0, 3)] tZ_ok (by simp [tZ]) (by simp [tZ]) (by rfl) tZ_b
  have v2 : dueD tZ 20 [(0, 3)] = .tuple [.int 15, .tuple [.int 0]] := by simp [tZ, dueD, hurt, firstI, minI, tnI, tmAt, stayI, sortI]
  rw [v2] at t2
  exact t2
theorem last_wp {sc : PyData} {ds : List PyData} {x2 x3 x4 x6 x7 x9 x10 x11 x12 x13 : Option PyData} {o5 : Option EV} {o8 : Option (List PyData)} (hi : HI ds) (h5 : free (some o5)) : W (sSeq (sSet 13 (mTup (mCons (mTup (mCons (mC (.int 100)) (mCons (mC (.int 5)) (mCons (mC (.int 4)) mNil)))) mNil))) (sSeq (sIf (mTB (mBin gNe (asD (callR0 4 bd_board_told 6 (mCons (mVar 13) (mCons (mC (.int 20)) (mCons (mTup (mCons (mTup (mCons (mC (.int 0)) (mCons (mC (.int 3)) mNil))) mNil)) (mCons (mC (.int 15)) mNil)))))) (mTup (mCons (mTup (mCons (mC (.int 40)) (mCons (mC (.int 0)) (mCons (mC (.str "turn")) mNil)))) mNil)))) (sRet (mC (.bool false))) sNext) (sRet (mBin gEq (asD (callR0 3 bd_next_to_turn 10 (mCons (mVar 13) (mCons (mC (.int 20)) (mCons (mTup (mCons (mTup (mCons (mC (.int 0)) (mCons (mC (.int 3)) mNil))) mNil)) mNil))))) (mTup (mCons (mC (.int 15)) (mCons (mTup (mCons (mC (.int 0)) mNil)) mNil))))))) (EI sc ⟨ds, x2, x3, x4, o5, x6, x7, o8, x9, x10, x11, x12, x13⟩) (fun fl _ => fl = .ret (.d (.bool true))) (fun _ _ => False) := by
  have l1 : Lay 60 (.tuple [.tuple [.int 40, .int 0, .str "turn"]]) := by simp; decide +kernel
  have l2 : Lay 60 (.tuple [.int 15, .tuple [.int 0]]) := by simp
  refine W_cut (fun e => e = EI sc ⟨ds, x2, x3, x4, o5, x6, x7, o8, x9, x10, x11, x12, some (.tuple [.tuple [.int 100, .int 5, .int 4]])⟩) ?_ ?_
  · simp [EI, sizeLine_eq]
  rintro _ rfl
  refine W_cut (fun e => e = EI sc ⟨ds, x2, x3, x4, o5, x6, x7, o8, x9, x10, x11, x12, some (.tuple [.tuple [.int 100, .int 5, .int 4]])⟩) ?_ ?_
  · simp [EI, sizeLine_eq]
    rw [fin_of_ans (np := 4) tZ_told rfl]
    simp [gNe_selfL l1, sizeLine_eq]
  rintro _ rfl
  simp [EI, sizeLine_eq]
  rw [fin_of_ans (np := 3) tZ_due rfl]
  simp [gEq_selfL l2, sizeLine_eq]
theorem law_wp (ns : List Int) (h : ns.length ≤ 63) : W bd_law (startE 19 [.d (.list (ns.map .int))]) (fun fl _ => fl = .ret (.d (.bool true))) (fun _ _ => False) := by
  unfold bd_law
  generalize hsc : PyData.list (ns.map .int) = sc
  refine W_cut (fun e => ∃ ds', HI ds' ∧ e = EI sc ⟨ds', none, none, none, none, none, none, none, none, none, none, none, none⟩) ?_ ?_
  · simp
    rw [W_fin]
    refine ⟨rfl, ?_⟩
    subst hsc
    refine wp_mono (s_hand ns h) (fun fl e h => ?_) (fun _ _ z => z)
    obtain ⟨ds, rfl, hi⟩ := h
    simp
    exact ⟨ds, hi, rfl⟩
  clear hsc
  rintro _ ⟨ds0, hi0, rfl⟩
  refine W_cut (fun e => ∃ s', HI s'.ds ∧ free (some s'.o5) ∧ e = EI sc s') ?_ ?_
  · simp
    refine W_for (fun i e => ∃ s', HI s'.ds ∧ free (some s'.o5) ∧ e = EI sc s') ⟨_, hi0, free_none, rfl⟩ (fun i d e _ hI => ?_) (fun e hI => ⟨rfl, hI⟩)
    clear hi0 ds0
    obtain ⟨⟨ds, x2, x3, x4, o5, x6, x7, o8, x9, x10, x11, x12, x13⟩, hi, h5, rfl⟩ := hI
    dsimp only at h5
    rw [W_gNm, W_stoF]
    refine ⟨by simp [EI], ?_⟩
    show W _ (EI sc ⟨ds, some d, x3, x4, o5, x6, x7, o8, x9, x10, x11, x12, x13⟩) _ _
    -- teams
    refine W_cut (fun e => ∃ ds' ts, HI ds' ∧ (∀ t ∈ ts, Tm.Ok t) ∧ 1 ≤ ts.length ∧ ts.length ≤ 4 ∧ e = EI sc ⟨ds', some d, x3, x4, o5, x6, x7, o8, x9, x10, x11, x12, some (tmsD ts)⟩) ?_ ?_
    · simp [EI]
      refine wp_drawn hi rfl (by omega) (by omega) fun r ds' hi' a c => ?_
      simp [gAddA, gOr, gAdd]
      refine ⟨by omega, ?_⟩
      refine W_lc (fun i acc e => ∃ ds' ts, HI ds' ∧ (∀ t ∈ ts, Tm.Ok t) ∧ ts.length = i ∧ acc = ts.map Tm.d ∧ e = EI sc ⟨ds', some d, x3, x4, o5, x6, x7, o8, x9, x10, x11, x12, x13⟩) (by simp) ⟨ds', [], hi', by simp, rfl, rfl, by simp [EI]⟩ (fun j dj acc e hj hI => ?_) (fun acc e hI => ?_)
      · obtain ⟨ds2, ts, hi2, h1, rfl, rfl, rfl⟩ := hI
        have hlt := (List.getElem?_eq_some_iff.mp hj).1
        simp at hlt
        simp [EI]
        refine wp_team hi2 rfl fun t ds3 hi3 ht => ?_
        simp
        refine ⟨by rw [sizeLine_eq]; omega, ds3, hi3, ts ++ [t], ?_, by simp, by simp, rfl⟩
        intro u hu
        rcases List.mem_append.mp hu with hu | hu
        · exact h1 u hu
        · simp at hu; subst hu; exact ht
      · obtain ⟨ds2, ts, hi2, h1, h2, rfl, rfl⟩ := hI
        simp at h2
        simp [EI, restE, DL.gTup]
        exact ⟨ds2, hi2, ts, h1, by omega, by omega, rfl, rfl⟩
    clear hi ds
    rintro _ ⟨ds, ts, hi, hok, hl1, hl4, rfl⟩
    have hl8 : ts.length ≤ 8 := by omega
    -- spare, pause
    refine W_cut (fun e => ∃ ds' sp pause, HI ds' ∧ 0 ≤ sp ∧ sp < 12 ∧ 0 ≤ pause ∧ pause < 20 ∧ e = EI sc ⟨ds', some d, x3, x4, o5, x6, x7, o8, x9, x10, some (.int sp), some (.int pause), some (tmsD ts)⟩) ?_ ?_
    · simp [EI]
      refine wp_drawn hi rfl (by omega) (by omega) fun r ds' hi' a c => ?_
      simp
      refine wp_drawn hi' rfl (by omega) (by omega) fun r2 ds2 hi2 a2 c2 => ?_
      simp [sizeLine_eq]
      exact ⟨ds2, hi2, r, a, c, r2, a2, c2, rfl, rfl, rfl⟩
    clear hi ds
    rintro _ ⟨ds, sp, pause, hi, sp1, sp2, pa1, pa2, rfl⟩
    have hsp : withinD (.int sp) 0 100 = true := by simp [withinD]; omega
    have hpa : withinD (.int pause) 0 60 = true := by simp [withinD]; omega
    -- lacks
    refine W_cut (fun e => e = EI sc ⟨ds, some d, x3, x4, o5, x6, x7, o8, x9, some (lackD ts sp pause), some (.int sp), some (.int pause), some (tmsD ts)⟩) ?_ ?_
    · simp [EI]
      refine wp_ans (s_law_lacking ts sp pause hok hl8 sp1) rfl ?_
      simp
    rintro _ rfl
    refine W_cut (fun e => e = EI sc ⟨ds, some d, x3, x4, o5, x6, x7, o8, x9, some (lackD ts sp pause), some (.int sp), some (.int pause), some (tmsD ts)⟩) ?_ ?_
    · simp [EI]
      refine wp_ans (s_lacking_minutes ts sp pause hok hl1 hl8 hsp hpa) rfl ?_
      simp [gNe_selfL (lay_lack ts sp pause)]
    rintro _ rfl
    refine W_cut (fun e => e = EI sc ⟨ds, some d, x3, x4, o5, x6, x7, o8, x9, some (lackD ts sp pause), some (.int sp), some (.int pause), some (tmsD ts)⟩) ?_ ?_
    · simp [EI]
      refine wp_ans (s_turns_for_ever ts sp pause hok hl1 hl8 hsp hpa) rfl ?_
      by_cases h0 : 0 ∈ ts.map (stay0 sp)
      · rw [lackD_none h0]
        simp [gIsNot, truD, gNe_bool, everD, decide_eq_true h0, -List.mem_map]
      · obtain ⟨m, hm1, hm2⟩ := max_zero ts (lackI ts sp pause) (lack_pos ts sp pause) hl1
        rw [lackD_some h0]
        simp [gIsNot, truD, hm1, gEq_int, gNe_bool, everD, decide_eq_false h0, -List.mem_map, -List.map_map, -List.any_map]
        cases hb : (ts.map (lackI ts sp pause)).any fun n => n != 0
        · have : m = 0 := hm2.mpr hb
          simp [this]
        · have : ¬ m = 0 := fun z => by rw [hm2.mp z] at hb; cases hb
          simp [this]
    rintro _ rfl
    -- more
    have hokE : ∀ t ∈ ts ++ [tE], t.Ok := fun t ht => by
      rcases List.mem_append.mp ht with ht | ht
      · exact hok t ht
      · simp at ht; subst ht; exact tE_ok
    have hadd : gAddA (tmsD ts) (.tuple [.tuple [.int 90, .int 3, .int 2]]) = some (tmsD (ts ++ [tE])) := by
      simp only [tmsD, gAddA, gOr, gAdd, List.length_map, List.length_cons, List.length_nil, List.map_append]
      rw [if_pos (by rw [sizeLine_eq]; omega)]
      rfl
    refine W_cut (fun e => e = EI sc ⟨ds, some d, x3, x4, o5, x6, x7, o8, some (lackD (ts ++ [tE]) sp pause), some (lackD ts sp pause), some (.int sp), some (.int pause), some (tmsD ts)⟩) ?_ ?_
    · simp [EI, sizeLine_eq, hadd]
      refine wp_ans (s_lacking_minutes (ts ++ [tE]) sp pause hokE (by simp) (by simp; omega) hsp hpa) rfl ?_
      simp
    rintro _ rfl
    refine W_cut (fun e => e = EI sc ⟨ds, some d, x3, x4, o5, x6, x7, o8, some (lackD (ts ++ [tE]) sp pause), some (lackD ts sp pause), some (.int sp), some (.int pause), some (tmsD ts)⟩) ?_ ?_
    · by_cases h0 : 0 ∈ ts.map (stay0 sp)
      · rw [lackD_none h0]
        simp [EI, gIsNot]
      · have h0' : ¬ 0 ∈ (ts ++ [tE]).map (stay0 sp) := by
          rw [List.map_append, List.mem_append]
          rintro (z | z)
          · exact h0 z
          · have := tE_stay (sp := sp) (by omega)
            simp at z
            omega
        rw [lackD_some h0, lackD_some h0']
        have hz : zipS [.tuple ((ts.map (lackI ts sp pause)).map .int), .tuple (((ts ++ [tE]).map (lackI (ts ++ [tE]) sp pause)).map .int)] = some (.fix (ts.map fun t => .tuple [.int (lackI ts sp pause t), .int (lackI (ts ++ [tE]) sp pause t)])) := by
          rw [List.map_append (f := lackI (ts ++ [tE]) sp pause), List.map_cons, List.map_nil, ← zip_more ts (lackI ts sp pause) (lackI (ts ++ [tE]) sp pause) (lackI (ts ++ [tE]) sp pause tE)]
          rfl
        have hA : gIsNot (.tuple ((ts.map (lackI ts sp pause)).map .int)) .none = some (.bool true) := rfl
        generalize PyData.tuple ((ts.map (lackI ts sp pause)).map .int) = A at hz hA ⊢
        generalize PyData.tuple (((ts ++ [tE]).map (lackI (ts ++ [tE]) sp pause)).map .int) = B at hz ⊢
        simp [EI, hA, hz]
        refine W_lc_map (fun _ => .bool true) (by simp) (by rw [sizeLine_eq]; omega) (fun t ht => ?_) ?_
        · have := more_le ts sp pause t
          simp [gGe, this]
        · simp [truD, all_bools ts fun _ => true]
    rintro _ rfl
    -- left, board
    let EJ : List PyData → List Int → List (Int × Int) → En := fun ds ls ps => [some (.d sc), some (.own false ds), some (.d d), x3.map .d, x4.map .d, o5, x6.map .d, some (.own false (ps.map pairD)), some (.own false (ls.map .int)), some (.d (lackD (ts ++ [tE]) sp pause)), some (.d (lackD ts sp pause)), some (.d (.int sp)), some (.d (.int pause)), some (.d (tmsD ts)), none, none, none, none, none]
    refine W_cut (fun e => e = EJ ds ((List.range ts.length).map fun i : Nat => (i : Int)) []) ?_ ?_
    · simp [EI, EJ, tmsD, gLen, sizeLine_eq]
      omega
    rintro _ rfl
    refine W_cut (fun e => ∃ ds' ls ps, HI ds' ∧ WI ts.length ls ps ∧ e = EJ ds' ls ps) ?_ ?_
    · refine W_while (fun k e => ∃ ds' ls ps, HI ds' ∧ WI ts.length ls ps ∧ ls.length = k ∧ e = EJ ds' ls ps) (fun k e hI => ?_) 64 ts.length _ (by omega) ⟨ds, _, [], hi, WI.start _, by simp, rfl⟩
      obtain ⟨ds', ls, ps, hi', hw, rfl, rfl⟩ := hI
      have hls := hw.ln
      by_cases hl : ls = []
      · subst hl
        simp [EJ, sizeLine_eq, gNe_selfL (x := .list []) (by simp)]
        exact ⟨ds', hi', [], ps, hw, rfl, rfl, rfl⟩
      · have hne : gNe (.list (ls.map .int)) (.list []) = some (.bool true) := by
          rw [gNe_lay (by simp) (by simp)]
          cases ls with
          | nil => exact absurd rfl hl
          | cons l ls => simp [PyData.eqv, PyData.eqvAll]
        have hlen := List.length_pos_iff.mpr hl
        simp [EJ, sizeLine_eq, hne]
        refine wp_drawn hi' rfl (by omega) (by omega) fun r1 ds1 hi1 a1 c1 => ?_
        simp [gGt]
        by_cases hr : 0 < r1
        · simp [hr, gLen]
          refine wp_drawn hi1 rfl (by omega) (by omega) fun r2 ds2 hi2 a2 c2 => ?_
          have hr2 : r2.toNat < ls.length := by omega
          have hs : seqIndex? r2 ls.length = some r2.toNat := by
            simp [seqIndex?, a2, c2, show ¬ r2 < 0 from by omega]
          have hp : fPop [.int r2] (ls.map .int) = some (.int ls[r2.toNat], (ls.eraseIdx r2.toNat).map .int) := by
            show (if -(2 ^ 63) ≤ r2 ∧ r2 < 2 ^ 63 then (seqIndex? r2 (ls.map PyData.int).length).bind fun k => ((ls.map PyData.int)[k]?).map fun d => (d, (ls.map PyData.int).eraseIdx k) else none) = _
            rw [if_pos (by omega), List.length_map, hs]
            simp [hr2, List.eraseIdx_eq_take_drop_succ]
          simp [hp]
          refine wp_drawn hi2 rfl (by omega) (by omega) fun r3 ds3 hi3 a3 c3 => ?_
          have hpl : ps.length < sizeLine := by rw [sizeLine_eq]; omega
          simp [sizeLine_eq, fAppend]
          refine ⟨by omega, ls.length - 1, by omega, ds3, hi3, ls.eraseIdx r2.toNat, ps ++ [(ls[r2.toNat], r3)], hw.step hr2 ⟨a3, c3⟩, ?_, rfl, ?_, rfl⟩
          · rw [List.length_eraseIdx_of_lt hr2]
          · simp [pairD]
        · simp [hr]
          exact ⟨ds1, hi1, ls, ps, hw, rfl, rfl, rfl⟩
    clear hi
    rintro _ ⟨ds, ls, ps, hi, hw, rfl⟩
    have hb := hw.ok
    have hbl : ps.length ≤ 4 := by have := hw.ln; omega
    have hmi := hw.mi
    clear hw
    let EK : List PyData → Option PyData → Option PyData → Option PyData → Option EV → En := fun ds x3 x4 x6 o5 => [some (.d sc), some (.own false ds), some (.d d), x3.map .d, x4.map .d, o5, x6.map .d, some (.d (boardD ps)), some (.own false (ls.map .int)), some (.d (lackD (ts ++ [tE]) sp pause)), some (.d (lackD ts sp pause)), some (.d (.int sp)), some (.d (.int pause)), some (.d (tmsD ts)), none, none, none, none, none]
    refine W_cut (fun e => e = EK ds x3 x4 x6 o5) ?_ ?_
    · simp [EJ, EK, DL.gTup, boardD]
    rintro _ rfl
    refine W_cut (fun e => ∃ ds' now, HI ds' ∧ 0 ≤ now ∧ now ≤ 54 ∧ (∀ p ∈ ps, p.2 ≤ now) ∧ e = EK ds' x3 x4 (some (.int now)) o5) ?_ ?_
    · simp [EK, sizeLine_eq, boardD, seqI]
      refine W_lc_map (fun p => .int p.2) (by simp) (by rw [sizeLine_eq]; omega) (fun p hp => by simp [pairD]) ?_
      have hcat : gAddA (.list [.int 0]) (.list (ps.map fun p => PyData.int p.2)) = some (.list ((0 :: ps.map (·.2)).map .int)) := by
        simp [gAddA, gOr, gAdd, gCat, sizeLine_eq]
        omega
      have hmax : gMaxA [.list ((0 :: ps.map (·.2)).map .int)] = some (.int ((ps.map (·.2)).foldl max 0)) := by
        show ((toInts ((0 :: ps.map (·.2)).map PyData.int)).bind fun ns => (maxI ns).map PyData.int) = _
        rw [toInts_map]
        rfl
      obtain ⟨f1, f2⟩ := foldl_max (ps.map (·.2)) 0
      have f3 : (ps.map (·.2)).foldl max 0 < 30 := by
        rcases List.mem_cons.mp f1 with e | e
        · rw [e]; omega
        · obtain ⟨p, hp, e⟩ := List.mem_map.mp e
          rw [← e]; exact (hmi p hp).2
      have f4 := f2 0 List.mem_cons_self
      have f5 : ∀ p ∈ ps, p.2 ≤ (ps.map (·.2)).foldl max 0 := fun p hp => f2 _ (List.mem_cons_of_mem _ (List.mem_map_of_mem hp))
      generalize (ps.map (·.2)).foldl max 0 = m at hmax f3 f4 f5
      simp only [List.map_cons, List.map_map] at hmax
      simp [hcat, hmax]
      refine wp_drawn hi rfl (by omega) (by omega) fun r1 ds1 hi1 a1 c1 => ?_
      simp [gAddA, gOr, gAdd]
      exact ⟨ds1, hi1, m + r1, by omega, by omega, fun a b hp => by have := f5 _ hp; simp at this; omega, rfl, rfl⟩
    clear hi ds
    rintro _ ⟨ds, now, hi, hn0, hn1, hnp, rfl⟩
    refine W_cut (fun e => e = EK ds x3 x4 (some (.int now)) o5) ?_ ?_
    · simp [EK]
      refine wp_ans (s_board_told ts sp ps now hok hl1 hl8 hsp hb hn0 (by omega) hnp) rfl ?_
      simp
      refine wp_ans (s_law_board ts sp ps now hok hl8 sp1 hb) rfl ?_
      simp [gNe_selfL (lay_told ts sp ps now)]
    rintro _ rfl
    -- due
    refine W_cut (fun e => e = EK ds x3 x4 (some (.int now)) (some (.own false (ps.map fun p => .tuple [.int p.1, turnD (tmAt ts p.1) sp, .int p.2])))) ?_ ?_
    · simp [EK, boardD, seqI]
      refine W_lc_map (fun p => .tuple [.int p.1, turnD (tmAt ts p.1) sp, .int p.2]) (by simp) (by rw [sizeLine_eq]; omega) (fun p hp => ?_) ?_
      · obtain ⟨n1, n2⟩ := hb.num p hp
        simp [pairD, tmsD, gIx_tm n1 n2]
        refine wp_ans (s_law_turn _ sp (hok _ (tmAt_mem n1 n2)) sp1) rfl ?_
        simp [sizeLine_eq]
      · simp [h5]
    rintro _ rfl
    refine W_cut (fun e => e = EK ds (some .none) x4 (some (.int now)) (some (.own false (ps.map fun p => .tuple [.int p.1, turnD (tmAt ts p.1) sp, .int p.2])))) ?_ ?_
    · simp [EK]
    rintro _ rfl
    refine W_cut (fun e => ∃ x4 o5, free (some o5) ∧ e = EK ds (some (dueD ts sp ps)) x4 (some (.int now)) o5) ?_ ?_
    · by_cases h0 : ps = []
      · subst h0
        simp [EK, boardD, dueD, gNe_selfL (x := .tuple []) (by simp), sizeLine_eq]
        exact ⟨x4, rfl⟩
      · have hne : gNe (boardD ps) (.tuple []) = some (.bool true) := by
          rw [gNe_lay (by unfold boardD; refine lay_tuple (n := 59) fun x hx => ?_; obtain ⟨p, _, rfl⟩ := List.mem_map.mp hx; simp [pairD]) (by simp)]
          cases ps with
          | nil => exact absurd rfl h0
          | cons l ls => simp [boardD, PyData.eqv, PyData.eqvAll]
        simp [EK, hne, sizeLine_eq, seqI]
        refine W_lc_map (fun p => .bool (decide (stayI (tmAt ts p.1) sp < 0))) (by simp) (by rw [sizeLine_eq]; omega) (fun p hp => by simp [turnD_isNone]) ?_
        simp [any_bools, truD]
        cases hh : hurt ts sp ps
        · have hh' := hh
          unfold hurt at hh'
          have ht : ∀ p ∈ ps, turnD (tmAt ts p.1) sp = .int ((tmAt ts p.1).w + stayI (tmAt ts p.1) sp) := fun p hp => by
            rw [List.any_eq_false] at hh'
            have := hh' p hp
            unfold turnD
            rw [if_neg (by simpa using this)]
          have hd : dueD ts sp ps = .tuple [.int (firstI ts sp ps), .tuple ((sortI ((ps.filter fun p => decide (tnI ts sp p = firstI ts sp ps)).map (·.1))).map .int)] := by
            unfold dueD
            rw [if_neg]
            rintro (z | z)
            · exact h0 z
            · rw [hh] at z; cases z
          simp [hh', seqI]
          refine W_lc_map (fun p => .int (tnI ts sp p)) (by simp) (by rw [sizeLine_eq]; omega) (fun p hp => ?_) ?_
          · simp [ht p hp, gAddA, gOr, gAdd, tnI]
            omega
          simp [min_first ts sp ps h0, seqI]
          refine W_lc_fm (fun p => decide (tnI ts sp p = firstI ts sp ps)) (fun p => .int p.1) (by simp) (by rw [sizeLine_eq]; omega) (fun p hp => ?_) ?_
          · have e1 : (tmAt ts p.1).w + stayI (tmAt ts p.1) sp + p.2 = tnI ts sp p := by unfold tnI; omega
            simp [ht p hp, gAddA, gOr, gAdd, gEq_int, e1]
            by_cases z : tnI ts sp p = firstI ts sp ps <;> simp [z]
          have e2 : (ps.filter fun p => decide (tnI ts sp p = firstI ts sp ps)).map (fun p => PyData.int p.1) = ((ps.filter fun p => decide (tnI ts sp p = firstI ts sp ps)).map (·.1)).map .int := by rw [List.map_map]; rfl
          rw [e2]
          generalize hL : (ps.filter fun p => decide (tnI ts sp p = firstI ts sp ps)).map (·.1) = L at hd ⊢
          simp [sorted_ints, DL.gTup, sizeLine_eq, hd, -List.map_map]
          exact ⟨some (.int (firstI ts sp ps)), rfl⟩
        · have hh' := hh
          unfold hurt at hh'
          have hd : dueD ts sp ps = .none := by unfold dueD; rw [if_pos (.inr hh)]
          simp [hh', hd]
          exact ⟨x4, rfl⟩
    rintro _ ⟨x4, o5, h5, rfl⟩
    refine W_cut (fun e => e = EK ds (some (dueD ts sp ps)) x4 (some (.int now)) o5) ?_ ?_
    · simp [EK]
      refine wp_ans (s_next_to_turn ts sp ps hok hl1 hl8 hsp hb) rfl ?_
      simp [gNe_selfL (lay_due ts sp ps)]
    rintro _ rfl
    simp [EK]
    refine wp_refused hok hl1 hl8 hsp hi rfl fun ds1 hi1 => ?_
    simp [truD]
    exact ⟨⟨ds1, some d, some (dueD ts sp ps), x4, o5, some (.int now), some (boardD ps), some (ls.map .int), some (lackD (ts ++ [tE]) sp pause), some (lackD ts sp pause), some (.int sp), some (.int pause), some (tmsD ts)⟩, hi1, h5, rfl⟩
  rintro _ ⟨⟨ds, x2, x3, x4, o5, x6, x7, o8, x9, x10, x11, x12, x13⟩, hi, h5, rfl⟩
  exact last_wp hi h5
theorem law_true : ∀ ns : List Int, ns.length ≤ 63 → ∃ env', bd_law (startE 19 [.d (.list (ns.map .int))]) = .ok (.ret (.d (.bool true))) env' := fun ns h => by
  obtain ⟨v, e', h1, rfl⟩ := W_ok (law_wp ns h)
  exact ⟨e', h1⟩
end K71
end

/- H71 -/
section
set_option maxHeartbeats 0
namespace K71
open PySem PySem.Spec PyProof.Rows L2 DL
def d_is_integer : He.DefD := ⟨("is_integer", none), "is_integer", "is_integer", defArgs (top 1), defBody (top 1), defScope (top 1), [], []⟩
def d_is_within : He.DefD := ⟨("is_within", none), "is_within", "is_within", defArgs (top 2), defBody (top 2), defScope (top 2), [], []⟩
def d_is_sized : He.DefD := ⟨("is_sized", none), "is_sized", "is_sized", defArgs (top 3), defBody (top 3), defScope (top 3), [], []⟩
def d_is_team : He.DefD := ⟨("is_team", none), "is_team", "is_team", defArgs (top 18), defBody (top 18), defScope (top 18), [], []⟩
def d_check_spare : He.DefD := ⟨("check_spare", none), "check_spare", "check_spare", defArgs (top 19), defBody (top 19), defScope (top 19), [], []⟩
def d_check_teams : He.DefD := ⟨("check_teams", none), "check_teams", "check_teams", defArgs (top 20), defBody (top 20), defScope (top 20), [], []⟩
def d_raw_air_left : He.DefD := ⟨("raw_air_left", none), "raw_air_left", "raw_air_left", defArgs (top 21), defBody (top 21), defScope (top 21), [], []⟩
def d_raw_stay : He.DefD := ⟨("raw_stay", none), "raw_stay", "raw_stay", defArgs (top 22), defBody (top 22), defScope (top 22), [], []⟩
def d_stays_of : He.DefD := ⟨("stays_of", none), "stays_of", "stays_of", defArgs (top 23), defBody (top 23), defScope (top 23), [], []⟩
def d_check_pause_of : He.DefD := ⟨("check_pause_of", none), "check_pause_of", "check_pause_of", defArgs (top 24), defBody (top 24), defScope (top 24), [], []⟩
def d_raw_lacking : He.DefD := ⟨("raw_lacking", none), "raw_lacking", "raw_lacking", defArgs (top 25), defBody (top 25), defScope (top 25), [], []⟩
def d_lacking_minutes : He.DefD := ⟨("lacking_minutes", none), "lacking_minutes", "lacking_minutes", defArgs (top 26), defBody (top 26), defScope (top 26), [], []⟩
def d_turns_for_ever : He.DefD := ⟨("turns_for_ever", none), "turns_for_ever", "turns_for_ever", defArgs (top 27), defBody (top 27), defScope (top 27), [], []⟩
def d_check_board : He.DefD := ⟨("check_board", none), "check_board", "check_board", defArgs (top 28), defBody (top 28), defScope (top 28), [], []⟩
def d_board_row : He.DefD := ⟨("board_row", none), "board_row", "board_row", defArgs (top 29), defBody (top 29), defScope (top 29), [], []⟩
def d_board_told : He.DefD := ⟨("board_told", none), "board_told", "board_told", defArgs (top 30), defBody (top 30), defScope (top 30), [], []⟩
def d_next_to_turn : He.DefD := ⟨("next_to_turn", none), "next_to_turn", "next_to_turn", defArgs (top 31), defBody (top 31), defScope (top 31), [], []⟩
def d__law_hand : He.DefD := ⟨("_law_hand", none), "_law_hand", "_law_hand", defArgs (top 33), defBody (top 33), defScope (top 33), [], []⟩
def d__law_draw : He.DefD := ⟨("_law_draw", none), "_law_draw", "_law_draw", defArgs (top 34), defBody (top 34), defScope (top 34), [], []⟩
def d__law_any : He.DefD := ⟨("_law_any", none), "_law_any", "_law_any", defArgs (top 35), defBody (top 35), defScope (top 35), [], []⟩
def d__law_team : He.DefD := ⟨("_law_team", none), "_law_team", "_law_team", defArgs (top 36), defBody (top 36), defScope (top 36), [], []⟩
def d__law_stay : He.DefD := ⟨("_law_stay", none), "_law_stay", "_law_stay", defArgs (top 37), defBody (top 37), defScope (top 37), [], []⟩
def d__law_turn : He.DefD := ⟨("_law_turn", none), "_law_turn", "_law_turn", defArgs (top 38), defBody (top 38), defScope (top 38), [], []⟩
def d__law_bad_teams : He.DefD := ⟨("_law_bad_teams", none), "_law_bad_teams", "_law_bad_teams", defArgs (top 39), defBody (top 39), defScope (top 39), [], []⟩
def d__law_bad_spare : He.DefD := ⟨("_law_bad_spare", none), "_law_bad_spare", "_law_bad_spare", defArgs (top 40), defBody (top 40), defScope (top 40), [], []⟩
def d__law_said : He.DefD := ⟨("_law_said", none), "_law_said", "_law_said", defArgs (top 41), defBody (top 41), defScope (top 41), [], []⟩
def d__law_lacking : He.DefD := ⟨("_law_lacking", none), "_law_lacking", "_law_lacking", defArgs (top 42), defBody (top 42), defScope (top 42), [], []⟩
def d__law_board : He.DefD := ⟨("_law_board", none), "_law_board", "_law_board", defArgs (top 43), defBody (top 43), defScope (top 43), [], []⟩
def d__law_refused_right : He.DefD := ⟨("_law_refused_right", none), "_law_refused_right", "_law_refused_right", defArgs (top 44), defBody (top 44), defScope (top 44), [], []⟩
def d_law : He.DefD := ⟨("law", none), "law", "law", defArgs (top 45), defBody (top 45), defScope (top 45), [], []⟩
def fn : List He.DefD := [d_is_integer, d_is_within, d_is_sized, d_is_team, d_check_spare, d_check_teams, d_raw_air_left, d_raw_stay, d_stays_of, d_check_pause_of, d_raw_lacking, d_lacking_minutes, d_turns_for_ever, d_check_board, d_board_row, d_board_told, d_next_to_turn, d__law_hand, d__law_draw, d__law_any, d__law_team, d__law_stay, d__law_turn, d__law_bad_teams, d__law_bad_spare, d__law_said, d__law_lacking, d__law_board, d__law_refused_right, d_law]
def fnL : List Str := ["is_integer", "is_within", "is_sized", "is_team", "check_spare", "check_teams", "raw_air_left", "raw_stay", "stays_of", "check_pause_of", "raw_lacking", "lacking_minutes", "turns_for_ever", "check_board", "board_row", "board_told", "next_to_turn", "_law_hand", "_law_draw", "_law_any", "_law_team", "_law_stay", "_law_turn", "_law_bad_teams", "_law_bad_spare", "_law_said", "_law_lacking", "_law_board", "_law_refused_right", "law"]
def gsL : List Str := gloL ++ fnL
def fa : List He.Fa := faOf frL isL ssL xsL gsL exmL
def tf : List He.Defn := [("_law_refused_right", none)]
def kList : PySem.W.Frag → Bool := fun K => K.all fun q => match q.2 with
  | ⟨.type c, _, .seq _ _, sl⟩ => !decide (c = "list") || sl.isEmpty
  | _ => true
def ex : PySem.W.Frag → Bool := fun K => exB clsL pairL K && kList K
abbrev Rw : PySem.W.OpenRow := PySem.W.OpenLaw.row PySem.Challenge.rw_emberhall_k71_whole_rounds_of_teams_and
abbrev hk : PySem.W.Hook := He.hookX 5 fa fn [] tf ex
def ob (s : PySem.W.SharedT) : He.AlX := He.obsX 5 fa fn [] tf ex (HandSHeadRun.getT s)
theorem ob_eq (s : PySem.W.SharedT) : ob s = hk.obs s.abs := He.obsX_eq (HandSHeadRun.getT_eq s)
def loose0 : List Str := ["__name__", "is_integer", "is_within", "is_sized", "EmberError", "NoNumber", "NoStand", "NoTeams", "NoTime", "MOST_UNITS", "MOST_USE", "MOST_WAY", "MOST_SPARE", "MOST_TEAMS", "MOST_FILLING", "MOST_INSIDE", "is_team", "check_spare", "check_teams", "raw_air_left"]
def loose1 : List Str := ["raw_stay", "stays_of", "check_pause_of", "raw_lacking", "lacking_minutes", "turns_for_ever", "check_board", "board_row", "board_told", "next_to_turn", "_law_hand", "_law_draw", "_law_any", "_law_team", "_law_stay", "_law_turn", "_law_bad_teams", "_law_bad_spare", "_law_said", "_law_lacking"]
def loose2 : List Str := ["_law_board", "_law_refused_right"]
def loose : List Str := loose0 ++ loose1 ++ loose2
theorem run (w : World) : HandSHeadRun.RunEq Rw (PySem.W.view Rw.prog [45]) hk ob 4000 loose w := by
  intro os
  kernel_rfl
def LawTrue : Prop := ∀ ns : List Int, ns.length ≤ 63 → ∃ env', bd_law (startE 19 [.d (.list (ns.map .int))]) = .ok (.ret (.d (.bool true))) env'
section
variable {X : Cx} {T : List (Addr × Str)}
theorem saidD_law_said {k : Nat} {g : Addr} {fd : FuncData} (L : Lw X.K X.mg frL isL ssL xsL) (hx : exB clsL pairL X.K = true) (hgl : ∀ (i : Nat) x, gloL[i]? = some x → X.mg x = some (.ref (He.ga X.K x))) (hem : ∀ (i : Nat) x y, exmL[i]? = some (x, y) → PySem.W.exmOne X.K (.ref (He.ga X.K x)) (.ref (He.ga X.K y)) = some true) (hr : Room 1 X.A)
    (Fd : FunD X.K "_law_said" "_law_said" (defArgs (top 41)) (defBody (top 41)) (defScope (top 41)) [] [] g fd) (hmg : X.mg "_law_said" = some (.ref g)) : SaidD X T k "_law_said" said_law_said := by
  have hb := Fd.bindsN (ps := ["call"]) (fun _ _ _ _ _ _ us hl => match us, hl with | [_], _ => rfl)
  have kp := Fd.kp
  obtain ⟨oc, od, dV, kV, doc, pm, an, cdv, ct, osl, rfl, lk, hcd, _, _⟩ := Fd.ex
  refine ⟨g, oc, _, _, _, dV, kV, doc, pm, cdv, ct, an, od, osl, ["call", "error", "some"], "call", hmg, kp, lk, hcd, hb, sc__law_said, rfl, vis_b rfl, by decide, by decide, ?_⟩
  refine said_gives (sd := sd_law_said) (said := said_law_said) (i := 1) (e := "EmberError") (CS := He.ga X.K "EmberError") sc__law_said.nd rfl rfl rfl (hgl 0 _ rfl) (by decide) (fun f => rfl) (by decide) ?hexm ?hrun ?hsd
  case hexm =>
    intro y z D hs hm
    have hq := PySem.mem_of_lookup (show saidL_law_said.lookup y = some z from hs)
    simp only [saidL_law_said, List.mem_cons, Prod.mk.injEq, List.not_mem_nil, or_false] at hq
    rcases hq with ⟨rfl, rfl⟩ | ⟨rfl, rfl⟩ | ⟨rfl, rfl⟩ | ⟨rfl, rfl⟩
    · cases hm.symm.trans (hgl 1 _ rfl)
      exact hem 0 _ _ rfl
    · cases hm.symm.trans (hgl 2 _ rfl)
      exact hem 1 _ _ rfl
    · cases hm.symm.trans (hgl 3 _ rfl)
      exact hem 2 _ _ rfl
    · cases hm.symm.trans (hgl 4 _ rfl)
      exact hem 3 _ _ rfl
  case hrun =>
    intro a y z hs
    have hq := PySem.mem_of_lookup (show saidL_law_said.lookup y = some z from hs)
    simp only [saidL_law_said, List.mem_cons, Prod.mk.injEq, List.not_mem_nil, or_false] at hq
    rcases hq with ⟨rfl, rfl⟩ | ⟨rfl, rfl⟩ | ⟨rfl, rfl⟩ | ⟨rfl, rfl⟩
    · exact run_law_said_0 a
    · exact run_law_said_1 a
    · exact run_law_said_2 a
    · exact run_law_said_3 a
  case hsd =>
    intro s H a oe pn y z D hs hm hz hf
    have hq := PySem.mem_of_lookup (show saidL_law_said.lookup y = some z from hs)
    simp only [saidL_law_said, List.mem_cons, Prod.mk.injEq, List.not_mem_nil, or_false] at hq
    rcases hq with ⟨rfl, rfl⟩ | ⟨rfl, rfl⟩ | ⟨rfl, rfl⟩ | ⟨rfl, rfl⟩
    · cases hm.symm.trans (hgl 1 _ rfl)
      exact ws_law_said_0 L hx hgl hr g cdv s H a oe pn hz hf _ rfl
    · cases hm.symm.trans (hgl 2 _ rfl)
      exact ws_law_said_1 L hx hgl hr g cdv s H a oe pn hz hf _ rfl
    · cases hm.symm.trans (hgl 3 _ rfl)
      exact ws_law_said_2 L hx hgl hr g cdv s H a oe pn hz hf _ rfl
    · cases hm.symm.trans (hgl 4 _ rfl)
      exact ws_law_said_3 L hx hgl hr g cdv s H a oe pn hz hf _ rfl
end
abbrev Ql : PySem.W.OpenLaw := PySem.Challenge.rw_emberhall_k71_whole_rounds_of_teams_and
def qM : Str := (envOfC "_law_refused_right" (defScope (top 44)) 0 0 .none).qual ++ "<lambda>"
def tabL (K : PySem.W.Frag) : List (Addr × Str) := [((He.cT K ("_law_refused_right", none)).2, qM)]
theorem facts {w : World} {K : PySem.W.Frag} {h : Heap} {mg : Str → Option Value} {f : Addr} (HT : LawTrue) (KX : K.In h) (G : h.Ns mainGlobals mg) (hfa : mg "law" = some (.ref f)) (c : He.SaysX fa fn [] tf ex w h K) : LamX.LawAtS Ql w K (L2.CX Ql.prog w) 9 63 "script" mg f h := by
  have cf : ∀ f ∈ faOf frL isL ssL xsL gsL exmL, f.ok K = true := fun f hf => c.t.d.facts hf
  have L : Lw K mg frL isL ssL xsL := lw_of KX G cf
  have hg : ∀ (i : Nat) x, gsL[i]? = some x → mg x = some (.ref (He.ga K x)) := fun i x e => glo_of KX G cf i e
  have hgl : ∀ (i : Nat) x, gloL[i]? = some x → mg x = some (.ref (He.ga K x)) := fun i x e => hg i x (by
    have := (List.getElem?_eq_some_iff.mp e).1
    unfold gsL
    rw [List.getElem?_append_left this]
    exact e)
  have hem : ∀ (i : Nat) x y, exmL[i]? = some (x, y) → PySem.W.exmOne K (.ref (He.ga K x)) (.ref (He.ga K y)) = some true := fun i x y e => exm_of cf i e
  have hx : exB clsL pairL K = true := (Bool.and_eq_true_iff.mp c.more).1
  have hkl : kList K = true := (Bool.and_eq_true_iff.mp c.more).2
  obtain ⟨fd_is_integer, FF_is_integer⟩ := c.t.d.def_ 0 (d := d_is_integer) rfl
  obtain ⟨fd_is_within, FF_is_within⟩ := c.t.d.def_ 1 (d := d_is_within) rfl
  obtain ⟨fd_is_sized, FF_is_sized⟩ := c.t.d.def_ 2 (d := d_is_sized) rfl
  obtain ⟨fd_is_team, FF_is_team⟩ := c.t.d.def_ 3 (d := d_is_team) rfl
  obtain ⟨fd_check_spare, FF_check_spare⟩ := c.t.d.def_ 4 (d := d_check_spare) rfl
  obtain ⟨fd_check_teams, FF_check_teams⟩ := c.t.d.def_ 5 (d := d_check_teams) rfl
  obtain ⟨fd_raw_air_left, FF_raw_air_left⟩ := c.t.d.def_ 6 (d := d_raw_air_left) rfl
  obtain ⟨fd_raw_stay, FF_raw_stay⟩ := c.t.d.def_ 7 (d := d_raw_stay) rfl
  obtain ⟨fd_stays_of, FF_stays_of⟩ := c.t.d.def_ 8 (d := d_stays_of) rfl
  obtain ⟨fd_check_pause_of, FF_check_pause_of⟩ := c.t.d.def_ 9 (d := d_check_pause_of) rfl
  obtain ⟨fd_raw_lacking, FF_raw_lacking⟩ := c.t.d.def_ 10 (d := d_raw_lacking) rfl
  obtain ⟨fd_lacking_minutes, FF_lacking_minutes⟩ := c.t.d.def_ 11 (d := d_lacking_minutes) rfl
  obtain ⟨fd_turns_for_ever, FF_turns_for_ever⟩ := c.t.d.def_ 12 (d := d_turns_for_ever) rfl
  obtain ⟨fd_check_board, FF_check_board⟩ := c.t.d.def_ 13 (d := d_check_board) rfl
  obtain ⟨fd_board_row, FF_board_row⟩ := c.t.d.def_ 14 (d := d_board_row) rfl
  obtain ⟨fd_board_told, FF_board_told⟩ := c.t.d.def_ 15 (d := d_board_told) rfl
  obtain ⟨fd_next_to_turn, FF_next_to_turn⟩ := c.t.d.def_ 16 (d := d_next_to_turn) rfl
  obtain ⟨fd__law_hand, FF__law_hand⟩ := c.t.d.def_ 17 (d := d__law_hand) rfl
  obtain ⟨fd__law_draw, FF__law_draw⟩ := c.t.d.def_ 18 (d := d__law_draw) rfl
  obtain ⟨fd__law_any, FF__law_any⟩ := c.t.d.def_ 19 (d := d__law_any) rfl
  obtain ⟨fd__law_team, FF__law_team⟩ := c.t.d.def_ 20 (d := d__law_team) rfl
  obtain ⟨fd__law_stay, FF__law_stay⟩ := c.t.d.def_ 21 (d := d__law_stay) rfl
  obtain ⟨fd__law_turn, FF__law_turn⟩ := c.t.d.def_ 22 (d := d__law_turn) rfl
  obtain ⟨fd__law_bad_teams, FF__law_bad_teams⟩ := c.t.d.def_ 23 (d := d__law_bad_teams) rfl
  obtain ⟨fd__law_bad_spare, FF__law_bad_spare⟩ := c.t.d.def_ 24 (d := d__law_bad_spare) rfl
  obtain ⟨fd__law_said, FF__law_said⟩ := c.t.d.def_ 25 (d := d__law_said) rfl
  obtain ⟨fd__law_lacking, FF__law_lacking⟩ := c.t.d.def_ 26 (d := d__law_lacking) rfl
  obtain ⟨fd__law_board, FF__law_board⟩ := c.t.d.def_ 27 (d := d__law_board) rfl
  obtain ⟨fd__law_refused_right, FF__law_refused_right⟩ := c.t.d.def_ 28 (d := d__law_refused_right) rfl
  obtain ⟨fd_law, FF_law⟩ := c.t.d.def_ 29 (d := d_law) rfl
  have e := hfa.symm.trans (hg 34 "law" rfl)
  cases e
  refine ⟨fd_law, tf.map (He.cT K), spLaw (tabL K) K 63, ?_, ?_, ?_, ?_, ?_, ?_⟩
  · intro p hp
    obtain ⟨q, hq, rfl⟩ := List.mem_map.mp hp
    exact c.empty q hq
  · intro p hp
    obtain ⟨q, hq, rfl⟩ := List.mem_map.mp hp
    exact c.out q hq
  · intro p hp
    obtain ⟨q, hq, rfl⟩ := List.mem_map.mp hp
    exact PySem.W.codeHd_of_K KX (c.hd q hq)
  · exact fun s u => FF_law.bindsA (ps := ["script"]) (fun _ _ _ _ _ _ us hl => match us, hl with | [_], _ => rfl) s [u] rfl
  · intro H a ns hl _ ht hS
    refine ⟨a, ns, rfl, hl, hS, fun p hp => ?_, fun _ => rfl⟩
    rw [List.mem_singleton.mp hp]
    exact LamX.TabS.nil (ht (He.cT K ("_law_refused_right", none)) (List.mem_map.mpr ⟨_, List.mem_singleton.mpr rfl, rfl⟩))
  · intro base KB GB TB
    have f_is_integer : FnD Ql.prog w K mg base (tabL K) 1 "is_integer" 1 ["thing"] bd_is_integer := fnD_of FF_is_integer sc_is_integer (hg 5 _ rfl) (FF_is_integer.bindsN (ps := ["thing"]) (fun _ _ _ _ _ _ us hl => match us, hl with | [_], _ => rfl)) (fun cdv A outer s H E hr => w_is_integer L  _ cdv A outer s H E hr)
    have f_is_within : FnD Ql.prog w K mg base (tabL K) 2 "is_within" 3 ["thing", "low", "high"] bd_is_within := fnD_of FF_is_within sc_is_within (hg 6 _ rfl) (FF_is_within.bindsN (ps := ["thing", "low", "high"]) (fun _ _ _ _ _ _ us hl => match us, hl with | [_, _, _], _ => rfl)) (fun cdv A outer s H E hr => w_is_within L f_is_integer _ cdv A outer s H E hr)
    have f_is_sized : FnD Ql.prog w K mg base (tabL K) 1 "is_sized" 3 ["thing", "low", "high"] bd_is_sized := fnD_of FF_is_sized sc_is_sized (hg 7 _ rfl) (FF_is_sized.bindsN (ps := ["thing", "low", "high"]) (fun _ _ _ _ _ _ us hl => match us, hl with | [_, _, _], _ => rfl)) (fun cdv A outer s H E hr => w_is_sized L  _ cdv A outer s H E hr)
    have f_is_team : FnD Ql.prog w K mg base (tabL K) 3 "is_team" 1 ["thing"] bd_is_team := fnD_of FF_is_team sc_is_team (hg 8 _ rfl) (FF_is_team.bindsN (ps := ["thing"]) (fun _ _ _ _ _ _ us hl => match us, hl with | [_], _ => rfl)) (fun cdv A outer s H E hr => w_is_team L f_is_within f_is_sized _ cdv A outer s H E hr)
    have f_check_spare : FnD Ql.prog w K mg base (tabL K) 3 "check_spare" 1 ["spare"] bd_check_spare := fnD_of FF_check_spare sc_check_spare (hg 9 _ rfl) (FF_check_spare.bindsN (ps := ["spare"]) (fun _ _ _ _ _ _ us hl => match us, hl with | [_], _ => rfl)) (fun cdv A outer s H E hr => w_check_spare L f_is_within _ cdv A outer s H E hr)
    have f_check_teams : FnD Ql.prog w K mg base (tabL K) 4 "check_teams" 2 ["teams", "spare", "team"] bd_check_teams := fnD_of FF_check_teams sc_check_teams (hg 10 _ rfl) (FF_check_teams.bindsN (ps := ["teams", "spare"]) (fun _ _ _ _ _ _ us hl => match us, hl with | [_, _], _ => rfl)) (fun cdv A outer s H E hr => w_check_teams L f_is_sized f_is_team f_check_spare _ cdv A outer s H E hr)
    have f_raw_air_left : FnD Ql.prog w K mg base (tabL K) 1 "raw_air_left" 2 ["team", "minutes"] bd_raw_air_left := fnD_of FF_raw_air_left sc_raw_air_left (hg 11 _ rfl) (FF_raw_air_left.bindsN (ps := ["team", "minutes"]) (fun _ _ _ _ _ _ us hl => match us, hl with | [_, _], _ => rfl)) (fun cdv A outer s H E hr => w_raw_air_left L  _ cdv A outer s H E hr)
    have f_raw_stay : FnD Ql.prog w K mg base (tabL K) 1 "raw_stay" 2 ["team", "spare", "units", "use", "way", "minutes"] bd_raw_stay := fnD_of FF_raw_stay sc_raw_stay (hg 12 _ rfl) (FF_raw_stay.bindsN (ps := ["team", "spare"]) (fun _ _ _ _ _ _ us hl => match us, hl with | [_, _], _ => rfl)) (fun cdv A outer s H E hr => w_raw_stay L  _ cdv A outer s H E hr)
    have f_stays_of : FnD Ql.prog w K mg base (tabL K) 2 "stays_of" 2 ["teams", "spare", "found", "team", "stay"] bd_stays_of := fnD_of FF_stays_of sc_stays_of (hg 13 _ rfl) (FF_stays_of.bindsN (ps := ["teams", "spare"]) (fun _ _ _ _ _ _ us hl => match us, hl with | [_, _], _ => rfl)) (fun cdv A outer s H E hr => w_stays_of L f_raw_stay _ cdv A outer s H E hr)
    have f_check_pause_of : FnD Ql.prog w K mg base (tabL K) 3 "check_pause_of" 1 ["pause"] bd_check_pause_of := fnD_of FF_check_pause_of sc_check_pause_of (hg 14 _ rfl) (FF_check_pause_of.bindsN (ps := ["pause"]) (fun _ _ _ _ _ _ us hl => match us, hl with | [_], _ => rfl)) (fun cdv A outer s H E hr => w_check_pause_of L f_is_within _ cdv A outer s H E hr)
    have f_raw_lacking : FnD Ql.prog w K mg base (tabL K) 3 "raw_lacking" 3 ["teams", "spare", "pause", "stays", "team", "stay"] bd_raw_lacking := fnD_of FF_raw_lacking sc_raw_lacking (hg 15 _ rfl) (FF_raw_lacking.bindsN (ps := ["teams", "spare", "pause"]) (fun _ _ _ _ _ _ us hl => match us, hl with | [_, _, _], _ => rfl)) (fun cdv A outer s H E hr => w_raw_lacking L f_stays_of _ cdv A outer s H E hr)
    have f_lacking_minutes : FnD Ql.prog w K mg base (tabL K) 5 "lacking_minutes" 3 ["teams", "spare", "pause"] bd_lacking_minutes := fnD_of FF_lacking_minutes sc_lacking_minutes (hg 16 _ rfl) (FF_lacking_minutes.bindsN (ps := ["teams", "spare", "pause"]) (fun _ _ _ _ _ _ us hl => match us, hl with | [_, _, _], _ => rfl)) (fun cdv A outer s H E hr => w_lacking_minutes L f_check_teams f_check_pause_of f_raw_lacking _ cdv A outer s H E hr)
    have f_turns_for_ever : FnD Ql.prog w K mg base (tabL K) 5 "turns_for_ever" 3 ["teams", "spare", "pause", "lacks"] bd_turns_for_ever := fnD_of FF_turns_for_ever sc_turns_for_ever (hg 17 _ rfl) (FF_turns_for_ever.bindsN (ps := ["teams", "spare", "pause"]) (fun _ _ _ _ _ _ us hl => match us, hl with | [_, _, _], _ => rfl)) (fun cdv A outer s H E hr => w_turns_for_ever L f_check_teams f_check_pause_of f_raw_lacking _ cdv A outer s H E hr)
    have f_check_board : FnD Ql.prog w K mg base (tabL K) 3 "check_board" 2 ["teams", "board", "number", "minute", "pair"] bd_check_board := fnD_of FF_check_board sc_check_board (hg 18 _ rfl) (FF_check_board.bindsN (ps := ["teams", "board"]) (fun _ _ _ _ _ _ us hl => match us, hl with | [_, _], _ => rfl)) (fun cdv A outer s H E hr => w_check_board L f_is_within f_is_sized _ cdv A outer s H E hr)
    have f_board_row : FnD Ql.prog w K mg base (tabL K) 2 "board_row" 3 ["team", "spare", "gone", "stay", "left", "word"] bd_board_row := fnD_of FF_board_row sc_board_row (hg 19 _ rfl) (FF_board_row.bindsN (ps := ["team", "spare", "gone"]) (fun _ _ _ _ _ _ us hl => match us, hl with | [_, _, _], _ => rfl)) (fun cdv A outer s H E hr => w_board_row L f_raw_air_left f_raw_stay _ cdv A outer s H E hr)
    have f_board_told : FnD Ql.prog w K mg base (tabL K) 5 "board_told" 4 ["teams", "spare", "board", "now", "number", "minute"] bd_board_told := fnD_of FF_board_told sc_board_told (hg 20 _ rfl) (FF_board_told.bindsN (ps := ["teams", "spare", "board", "now"]) (fun _ _ _ _ _ _ us hl => match us, hl with | [_, _, _, _], _ => rfl)) (fun cdv A outer s H E hr => w_board_told L f_is_within f_check_teams f_check_board f_board_row _ cdv A outer s H E hr)
    have f_next_to_turn : FnD Ql.prog w K mg base (tabL K) 5 "next_to_turn" 3 ["teams", "spare", "board", "stays", "turns", "number", "minute", "stay", "pair", "turn"] bd_next_to_turn := fnD_of FF_next_to_turn sc_next_to_turn (hg 21 _ rfl) (FF_next_to_turn.bindsN (ps := ["teams", "spare", "board"]) (fun _ _ _ _ _ _ us hl => match us, hl with | [_, _, _], _ => rfl)) (fun cdv A outer s H E hr => w_next_to_turn L f_check_teams f_raw_stay f_check_board _ cdv A outer s H E hr)
    have f__law_hand : FnD Ql.prog w K mg base (tabL K) 1 "_law_hand" 1 ["script", "cells", "cell"] bd__law_hand := fnD_of FF__law_hand sc__law_hand (hg 22 _ rfl) (FF__law_hand.bindsN (ps := ["script"]) (fun _ _ _ _ _ _ us hl => match us, hl with | [_], _ => rfl)) (fun cdv A outer s H E hr => w__law_hand L  _ cdv A outer s H E hr)
    have f__law_draw : FnD Ql.prog w K mg base (tabL K) 1 "_law_draw" 2 ["hand", "many", "cell", "digit", "number"] bd__law_draw := fnD_of FF__law_draw sc__law_draw (hg 23 _ rfl) (FF__law_draw.bindsN (ps := ["hand", "many"]) (fun _ _ _ _ _ _ us hl => match us, hl with | [_, _], _ => rfl)) (fun cdv A outer s H E hr => w__law_draw L  _ cdv A outer s H E hr)
    have f__law_any : FnD Ql.prog w K mg base (tabL K) 2 "_law_any" 2 ["hand", "some"] bd__law_any := fnD_of FF__law_any sc__law_any (hg 24 _ rfl) (FF__law_any.bindsN (ps := ["hand", "some"]) (fun _ _ _ _ _ _ us hl => match us, hl with | [_, _], _ => rfl)) (fun cdv A outer s H E hr => w__law_any L f__law_draw _ cdv A outer s H E hr)
    have f__law_team : FnD Ql.prog w K mg base (tabL K) 2 "_law_team" 1 ["hand"] bd__law_team := fnD_of FF__law_team sc__law_team (hg 25 _ rfl) (FF__law_team.bindsN (ps := ["hand"]) (fun _ _ _ _ _ _ us hl => match us, hl with | [_], _ => rfl)) (fun cdv A outer s H E hr => w__law_team L f__law_draw _ cdv A outer s H E hr)
    have f__law_stay : FnD Ql.prog w K mg base (tabL K) 1 "_law_stay" 2 ["team", "spare", "found", "minutes"] bd__law_stay := fnD_of FF__law_stay sc__law_stay (hg 26 _ rfl) (FF__law_stay.bindsN (ps := ["team", "spare"]) (fun _ _ _ _ _ _ us hl => match us, hl with | [_, _], _ => rfl)) (fun cdv A outer s H E hr => w__law_stay L  _ cdv A outer s H E hr)
    have f__law_turn : FnD Ql.prog w K mg base (tabL K) 2 "_law_turn" 2 ["team", "spare", "found", "minute"] bd__law_turn := fnD_of FF__law_turn sc__law_turn (hg 27 _ rfl) (FF__law_turn.bindsN (ps := ["team", "spare"]) (fun _ _ _ _ _ _ us hl => match us, hl with | [_, _], _ => rfl)) (fun cdv A outer s H E hr => w__law_turn L f__law_stay _ cdv A outer s H E hr)
    have f__law_bad_teams : FnD Ql.prog w K mg base (tabL K) 3 "_law_bad_teams" 1 ["hand", "some"] bd__law_bad_teams := fnD_of FF__law_bad_teams sc__law_bad_teams (hg 28 _ rfl) (FF__law_bad_teams.bindsN (ps := ["hand"]) (fun _ _ _ _ _ _ us hl => match us, hl with | [_], _ => rfl)) (fun cdv A outer s H E hr => w__law_bad_teams L f__law_any _ cdv A outer s H E hr)
    have f__law_bad_spare : FnD Ql.prog w K mg base (tabL K) 3 "_law_bad_spare" 1 ["hand"] bd__law_bad_spare := fnD_of FF__law_bad_spare sc__law_bad_spare (hg 29 _ rfl) (FF__law_bad_spare.bindsN (ps := ["hand"]) (fun _ _ _ _ _ _ us hl => match us, hl with | [_], _ => rfl)) (fun cdv A outer s H E hr => w__law_bad_spare L f__law_any _ cdv A outer s H E hr)
    have f__law_lacking : FnD Ql.prog w K mg base (tabL K) 2 "_law_lacking" 3 ["teams", "spare", "pause", "stays", "team", "stay"] bd__law_lacking := fnD_of FF__law_lacking sc__law_lacking (hg 31 _ rfl) (FF__law_lacking.bindsN (ps := ["teams", "spare", "pause"]) (fun _ _ _ _ _ _ us hl => match us, hl with | [_, _, _], _ => rfl)) (fun cdv A outer s H E hr => w__law_lacking L f__law_stay _ cdv A outer s H E hr)
    have f__law_board : FnD Ql.prog w K mg base (tabL K) 3 "_law_board" 4 ["teams", "spare", "board", "now", "found", "number", "minute", "units", "turn", "team", "inside"] bd__law_board := fnD_of FF__law_board sc__law_board (hg 32 _ rfl) (FF__law_board.bindsN (ps := ["teams", "spare", "board", "now"]) (fun _ _ _ _ _ _ us hl => match us, hl with | [_, _, _, _], _ => rfl)) (fun cdv A outer s H E hr => w__law_board L f__law_turn _ cdv A outer s H E hr)
    have f__law_refused_right : FnD Ql.prog w K mg base (tabL K) 8 "_law_refused_right" 3 ["hand", "teams", "spare", "none", "bad", "far", "odd", "said"] bd__law_refused_right := fnD_ofC (p := ("_law_refused_right", none)) FF__law_refused_right sc__law_refused_right (hg 33 _ rfl) (FF__law_refused_right.bindsN (ps := ["hand", "teams", "spare"]) (fun _ _ _ _ _ _ us hl => match us, hl with | [_, _, _], _ => rfl)) (fun cdv A outer s H E hc hr => w__law_refused_right L f_lacking_minutes f_turns_for_ever f_board_told f_next_to_turn f__law_any f__law_bad_teams f__law_bad_spare _ cdv A outer s H E hr (saidD_law_said L hx hgl hem (hr.mono (by decide)) FF__law_said (hg 30 _ rfl)) (TB (He.cT K ("_law_refused_right", none)) (List.mem_map.mpr ⟨_, List.mem_singleton.mpr rfl, rfl⟩)) hc (List.mem_singleton.mpr rfl) (fun p hp _ => by rw [List.mem_singleton.mp hp] <;> rfl))
    refine FunD.ok FF_law sc_law (fun vs H Q E q => ?_) (fun cdv A outer s H vs Q E hr q => ⟨_, pss_ghost (w_law (T := tabL K) L f_lacking_minutes f_turns_for_ever f_board_told f_next_to_turn f__law_hand f__law_draw f__law_team f__law_turn f__law_lacking f__law_board f__law_refused_right _ cdv A outer s H E hr), ?_⟩)
    · obtain ⟨a, ns, rfl, _⟩ := q
      rfl
    · obtain ⟨a, ns, rfl, hl, hS, hT, hQ⟩ := q
      exact law_run (N := ["script", "hand", "turn", "due", "first", "turns_here", "now", "board", "left", "more", "lacks", "spare", "pause", "teams", "team", "minute", "one", "a", "b"]) (fun o its n e h1 h2 h3 => kList_ok hkl a o its n e h1 h2 h3) hS hT (HT ns hl) hQ
end K71
open PySem PySem.W PySem.Calls PyProof.Rows
theorem fin_K71 (HT : K71.LawTrue) : PySem.Challenge.rw_emberhall_k71_whole_rounds_of_teams_and.Holds := by
  w_on; o_law
  refine HandSHeadRun.head_any (r := OpenLaw.row PySem.Challenge.rw_emberhall_k71_whole_rounds_of_teams_and) (q := view (OpenLaw.row PySem.Challenge.rw_emberhall_k71_whole_rounds_of_teams_and).prog [45]) (H := K71.hk) (ob := K71.ob) (M := 4000) (loose := K71.loose) (d := HandSHeadRun.topDef (OpenLaw.row PySem.Challenge.rw_emberhall_k71_whole_rounds_of_teams_and).prog 45) (kwd := []) K71.ob_eq
    (by kernel_rfl) (fun s => by kernel_rfl) K71.run (by kernel_rfl) (by kernel_rfl) (by kernel_rfl) (by rfl) (by first | assumption | decide +kernel) (by decide +kernel) ⟨rfl, rfl, rfl, rfl, rfl, by decide +kernel⟩ ?hw ?hc
  case hw => w_witness2
  case hc =>
    refine LamX.walk_ofTsE (l := PySem.Challenge.rw_emberhall_k71_whole_rounds_of_teams_and) (n := 63) (k := 9) (x := "script") (CX := fun w => L2.CX PySem.Challenge.rw_emberhall_k71_whole_rounds_of_teams_and.prog w) rfl (by decide) (by kernel_rfl) ⟨rfl, by decide, by decide⟩ ?F (fun _ _ _ _ _ ⟨_, _, _, _, _, _, _, _, _, _, _, _, z⟩ => z)
    intro w mg fa h Y G hmg0
    obtain ⟨K, KX, c⟩ := Y
    have hmg : mg ("law" : PySem.Str) = some (.ref fa) := by
      have e : (HandSHeadRun.topDef (OpenLaw.row PySem.Challenge.rw_emberhall_k71_whole_rounds_of_teams_and).prog 45).name = ("law" : PySem.Str) := by kernel_rfl
      rw [← e]
      exact hmg0
    exact ⟨K, KX, K71.facts HT KX G hmg c⟩
end

theorem PySem.Challenge.cw_emberhall_k71_whole_rounds_of_teams_and_holds : PySem.Challenge.rw_emberhall_k71_whole_rounds_of_teams_and.Holds :=
  fin_K71 K71.law_true
