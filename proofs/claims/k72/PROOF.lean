import PyProof.Rows.All
import Wide.All
import OpenK.AllK
import Wide.FinOn
import HandS.Base
import HandS.Call
import HandS.List
import HandS.Comp
import HandS.Iter
import HandS.Exc
import HandS.ExcOwn
import HandS.TryOnly
import HandS.Lambda
import HandS.CallSlots
import HandS.Words
import HandS.WordsExc
import HandS.Defaults
import HandS.IsInst
import HandS.TupAny
import HandS.TupMul
import HandS.Flow
import HandS.Deep
import HandS.Wide
import HandS.Style
import HandS.Text
import HandS.SortInts
import HandS.More
import KE.GoesNew
import KE.GoesEnum
import KE.GoesMore
import HandS.Zip
import HandS.ExcIs
import HandS.HeadHook1
import HandS.DictComp
import HandS.WordsDict
import HandS.Conv
import KE.DataAny
import KE.DataFind
import KE.DataMinMax
import HandS.HeadHook2
import HandS.HeadHook3
import HandS.HeadHook4
import HandS.EndTab
import HandS.HeadWalk
import HandS.Dict
import KE.SortData
import KE.DataCmp
import HandS.SetFor
import HandS.Strs
import HandS.RaiseMore
import KE.KIntText
import HandS.TryMany
import KE.KTupSum
import KE.SortKeyed
import KE.SortCalls
import PySem.Challenge.RW_emberhall_k72_whole_bottles_given_or_bar
import HandS.Head0
import HandS.Head1
import HandS.Head2
import HandS.HeadEnd
import KE.KStateDown
set_option Elab.async false
set_option linter.all false
set_option maxRecDepth 100000
/- EL1 -/
section
set_option maxHeartbeats 4000000
/-! DL: a layer of data over HandS. Values are data (PyData, frozen in the heap) or lists owned by one slot. -/
namespace DL
open PySem PySem.Spec PyProof.Rows L2

/-! ### frozen data -/
/-- a list that stands in the written part -/
def KL (K : PySem.W.Frag) (a : Addr) (xs : List V) : Prop := ∃ (its : Array Value) (n : Nat), K.lookup a = some { cls := .type "list", data := .seq its n } ∧ its.size ≤ sizeLine ∧ Vals xs its.toList
def FzL (K : PySem.W.Frag) (H : Hp) (a : Addr) (xs : List V) : Prop := (∃ o, H a = some (.frz o (.lst xs))) ∨ KL K a xs
def RdL (K : PySem.W.Frag) (H : Hp) (a : Addr) (xs : List V) : Prop := Rd H a (.lst xs) ∨ KL K a xs
theorem RdL.sq {K : PySem.W.Frag} {H : Hp} {a : Addr} {xs : List V} (h : RdL K H a xs) : SqL K H a xs := by
  rcases h with h | ⟨its, n, h1, h2, h3⟩
  · exact .inl h
  · exact .inr ⟨_, its, n, h1, rfl, rfl, rfl, h2, h3⟩
def FzT (K : PySem.W.Frag) (H : Hp) (a : Addr) (xs : List V) : Prop := H a = some (.tup xs) ∨
    ∃ (o : Obj) (its : Array Value) (n : Nat), K.lookup a = some o ∧ o.cls = .type "tuple" ∧ o.data = .seq its n ∧ its.size ≤ sizeLine ∧ Vals xs its.toList
theorem FzL.rd {K : PySem.W.Frag} {H : Hp} {a : Addr} {xs : List V} (h : FzL K H a xs) : RdL K H a xs := by
  rcases h with h | h
  · exact .inl (.inr h)
  · exact .inr h
theorem FzL.sq {K : PySem.W.Frag} {H : Hp} {a : Addr} {xs : List V} (h : FzL K H a xs) : SqL K H a xs := h.rd.sq
theorem FzT.sq {K : PySem.W.Frag} {H : Hp} {a : Addr} {xs : List V} (h : FzT K H a xs) : SqT K H a xs := by
  rcases h with h | h
  · exact .inl (.inl h)
  · exact .inr h
mutual
inductive Dz (K : PySem.W.Frag) (H : Hp) : V → PyData → Prop
  | non : Dz K H .non .none
  | bl (b : Bool) : Dz K H (.bl b) (.bool b)
  | int (i : Int) : Dz K H (.int i) (.int i)
  | str (x : Str) : Dz K H (.str x) (.str x)
  | lst {a : Addr} {xs : List V} {ds : List PyData} : FzL K H a xs → DzAll K H xs ds → Dz K H (.ref a) (.list ds)
  | tup {a : Addr} {xs : List V} {ds : List PyData} : FzT K H a xs → DzAll K H xs ds → Dz K H (.ref a) (.tuple ds)
inductive DzAll (K : PySem.W.Frag) (H : Hp) : List V → List PyData → Prop
  | nil : DzAll K H [] []
  | cons {v : V} {vs : List V} {d : PyData} {ds : List PyData} : Dz K H v d → DzAll K H vs ds → DzAll K H (v :: vs) (d :: ds)
end
/-- what is frozen stays -/
structure Le (H H' : Hp) : Prop where
  t : ∀ a xs, H a = some (.tup xs) → H' a = some (.tup xs)
  f : ∀ a o u, H a = some (.frz o u) → H' a = some (.frz o u)
theorem Le.refl (H : Hp) : Le H H := ⟨fun _ _ h => h, fun _ _ _ h => h⟩
theorem Le.trans {H H1 H2 : Hp} (a : Le H H1) (b : Le H1 H2) : Le H H2 := ⟨fun c x h => b.t c x (a.t c x h), fun c o u h => b.f c o u (a.f c o u h)⟩
theorem Le.same {H H' : Hp} (e : Same H H') : Le H H' := ⟨fun a _ h => e a _ h, fun a _ _ h => e a _ h⟩
theorem FzL.le {K : PySem.W.Frag} {H H' : Hp} {a : Addr} {xs : List V} (e : Le H H') (h : FzL K H a xs) : FzL K H' a xs := by
  rcases h with ⟨o, h⟩ | h
  · exact .inl ⟨o, e.f _ _ _ h⟩
  · exact .inr h
theorem FzT.le {K : PySem.W.Frag} {H H' : Hp} {a : Addr} {xs : List V} (e : Le H H') (h : FzT K H a xs) : FzT K H' a xs := by
  rcases h with h | h
  · exact .inl (e.t _ _ h)
  · exact .inr h
section
variable {K : PySem.W.Frag} {H H' : Hp}
mutual
theorem Dz.le (e : Le H H') : ∀ (d : PyData) {v : V}, Dz K H v d → Dz K H' v d
  | .none, _, h => by cases h; exact .non
  | .bool b, _, h => by cases h; exact .bl b
  | .int i, _, h => by cases h; exact .int i
  | .str x, _, h => by cases h; exact .str x
  | .list ds, _, h => by
    cases h with
    | lst hs ha => exact .lst (hs.le e) (DzAll.le e ds ha)
  | .tuple ds, _, h => by
    cases h with
    | tup hs ha => exact .tup (hs.le e) (DzAll.le e ds ha)
  | .dict _, _, h => by cases h
theorem DzAll.le (e : Le H H') : ∀ (ds : List PyData) {vs : List V}, DzAll K H vs ds → DzAll K H' vs ds
  | [], _, h => by cases h; exact .nil
  | d :: ds, _, h => by
    cases h with
    | cons h1 h2 => exact .cons (Dz.le e d h1) (DzAll.le e ds h2)
end
mutual
theorem Dz.dp : ∀ (d : PyData) {v : V}, Dz K H v d → Dp K H v d
  | .none, _, h => by cases h; exact .non
  | .bool b, _, h => by cases h; exact .bl b
  | .int i, _, h => by cases h; exact .int i
  | .str x, _, h => by cases h; exact .str x
  | .list ds, _, h => by
    cases h with
    | lst hs ha => exact .lst hs.sq (DzAll.dp ds ha)
  | .tuple ds, _, h => by
    cases h with
    | tup hs ha => exact .tup hs.sq (DzAll.dp ds ha)
  | .dict _, _, h => by cases h
theorem DzAll.dp : ∀ (ds : List PyData) {vs : List V}, DzAll K H vs ds → DpAll K H vs ds
  | [], _, h => by cases h; exact .nil
  | d :: ds, _, h => by
    cases h with
    | cons h1 h2 => exact .cons (Dz.dp d h1) (DzAll.dp ds h2)
end
theorem DzAll.length : ∀ {vs : List V} {ds : List PyData}, DzAll K H vs ds → vs.length = ds.length
  | _, _, .nil => rfl
  | _, _, .cons _ t => congrArg Nat.succ (DzAll.length t)
theorem DzAll.get : ∀ {vs : List V} {ds : List PyData}, DzAll K H vs ds → ∀ {i : Nat} {d : PyData}, ds[i]? = some d → ∃ v, vs[i]? = some v ∧ Dz K H v d
  | _, _, .nil, i, d, e => by simp at e
  | _, _, .cons r t, 0, d, e => by simp at e; subst e; exact ⟨_, rfl, r⟩
  | _, _, .cons r t, i + 1, d, e => by
    obtain ⟨v, h1, h2⟩ := DzAll.get t (i := i) (d := d) (by simpa using e)
    exact ⟨v, by simpa using h1, h2⟩
theorem DzAll.getV : ∀ {vs : List V} {ds : List PyData}, DzAll K H vs ds → ∀ {i : Nat} {v : V}, vs[i]? = some v → ∃ d, ds[i]? = some d ∧ Dz K H v d
  | _, _, .nil, i, d, e => by simp at e
  | _, _, .cons r t, 0, d, e => by simp at e; subst e; exact ⟨_, rfl, r⟩
  | _, _, .cons r t, i + 1, v, e => by
    obtain ⟨d, h1, h2⟩ := DzAll.getV t (i := i) (v := v) (by simpa using e)
    exact ⟨d, by simpa using h1, h2⟩
theorem DzAll.append : ∀ {vs ws : List V} {ds es : List PyData}, DzAll K H vs ds → DzAll K H ws es → DzAll K H (vs ++ ws) (ds ++ es)
  | _, _, _, _, .nil, s => s
  | _, _, _, _, .cons r t, s => .cons r (DzAll.append t s)
theorem DzAll.set {v : V} {d : PyData} (r : Dz K H v d) : ∀ {vs : List V} {ds : List PyData} (i : Nat), DzAll K H vs ds → DzAll K H (vs.set i v) (ds.set i d)
  | _, _, _, .nil => .nil
  | _, _, 0, .cons _ t => .cons r t
  | _, _, i + 1, .cons q t => .cons q (DzAll.set r i t)
theorem DzAll.take : ∀ {vs : List V} {ds : List PyData} (n : Nat), DzAll K H vs ds → DzAll K H (vs.take n) (ds.take n)
  | _, _, 0, _ => .nil
  | _, _, _ + 1, .nil => .nil
  | _, _, n + 1, .cons r t => .cons r (DzAll.take n t)
theorem DzAll.drop : ∀ {vs : List V} {ds : List PyData} (n : Nat), DzAll K H vs ds → DzAll K H (vs.drop n) (ds.drop n)
  | _, _, 0, r => r
  | _, _, _ + 1, .nil => .nil
  | _, _, n + 1, .cons r t => DzAll.drop n t
theorem DzAll.eraseIdx : ∀ {vs : List V} {ds : List PyData} (i : Nat), DzAll K H vs ds → DzAll K H (vs.eraseIdx i) (ds.eraseIdx i)
  | _, _, _, .nil => .nil
  | _, _, 0, .cons _ t => t
  | _, _, i + 1, .cons q t => .cons q (DzAll.eraseIdx i t)
theorem DzAll.reverse : ∀ {vs : List V} {ds : List PyData}, DzAll K H vs ds → DzAll K H vs.reverse ds.reverse
  | _, _, .nil => .nil
  | _, _, .cons r t => by
    rw [List.reverse_cons, List.reverse_cons]
    exact (DzAll.reverse t).append (.cons r .nil)
theorem DzAll.rep {vs : List V} {ds : List PyData} (h : DzAll K H vs ds) : ∀ k : Nat, DzAll K H (List.replicate k vs).flatten (List.replicate k ds).flatten
  | 0 => .nil
  | k + 1 => by
    rw [List.replicate_succ, List.flatten_cons, List.replicate_succ, List.flatten_cons]
    exact h.append (DzAll.rep h k)
theorem DzAll.of_get : ∀ {vs : List V} {ds : List PyData}, vs.length = ds.length → (∀ (i : Nat) v d, vs[i]? = some v → ds[i]? = some d → Dz K H v d) → DzAll K H vs ds
  | [], [], _, _ => .nil
  | [], _ :: _, h, _ => by simp at h
  | _ :: _, [], h, _ => by simp at h
  | v :: vs, d :: ds, h, g => .cons (g 0 v d rfl rfl) (DzAll.of_get (by simpa using h) fun i x y h1 h2 => g (i + 1) x y (by simpa using h1) (by simpa using h2))
theorem DzAll.ints : ∀ {vs : List V} {ns : List Int}, DzAll K H vs (ns.map .int) → vs = ns.map V.int
  | _, [], h => by cases h; rfl
  | _, n :: ns, h => by
    cases h with
    | cons h1 h2 =>
      cases h1
      rw [List.map_cons, DzAll.ints h2]
theorem DzAll.of_ints : ∀ (ns : List Int), DzAll K H (ns.map V.int) (ns.map .int)
  | [] => .nil
  | n :: ns => .cons (.int n) (DzAll.of_ints ns)
theorem DzAll.bools : ∀ {vs : List V} {bs : List Bool}, DzAll K H vs (bs.map .bool) → vs = bs.map V.bl
  | _, [], h => by cases h; rfl
  | _, n :: ns, h => by
    cases h with
    | cons h1 h2 =>
      cases h1
      rw [List.map_cons, DzAll.bools h2]
theorem DzAll.strs : ∀ {vs : List V} {bs : List Str}, DzAll K H vs (bs.map .str) → vs = bs.map V.str
  | _, [], h => by cases h; rfl
  | _, n :: ns, h => by
    cases h with
    | cons h1 h2 =>
      cases h1
      rw [List.map_cons, DzAll.strs h2]
theorem DzAll.of_strs : ∀ (ns : List Str), DzAll K H (ns.map V.str) (ns.map .str)
  | [] => .nil
  | n :: ns => .cons (.str n) (DzAll.of_strs ns)
end

/-! ### environments -/
/-- an own object: a list, a dict of ints and texts, a dict of tuples of such -/
inductive OO where
  | l (ds : List PyData)
  | k (kvs : List (Key × PyData))
  | t (kvs : List (List Key × PyData))
  | f (kvs : List (Key × PyData))
def FK (K : PySem.W.Frag) (H : Hp) : HO → List (Key × PyData) → Prop
  | .dK kvs, es => kvs.map (·.1) = es.map (·.1) ∧ DzAll K H (kvs.map (·.2)) (es.map (·.2))
  | _, _ => False
def OOR (K : PySem.W.Frag) (H : Hp) : HO → OO → Prop
  | .lst xs, .l ds => DzAll K H xs ds
  | .dK kvs, .k es => kvs.map (·.1) = es.map (·.1) ∧ DzAll K H (kvs.map (·.2)) (es.map (·.2))
  | .dT kvs, .t es => kvs.map (·.1) = es.map (·.1) ∧ DzAll K H (kvs.map (·.2)) (es.map (·.2))
  | .frz _ u, .f es => FK K H u es
  | _, _ => False
/-- what may change -/
def Mo : HO → Prop
  | .lst _ => True
  | .dK _ => True
  | .dT _ => True
  | _ => False
theorem OOR.le {K : PySem.W.Frag} {H H' : Hp} (e : Le H H') {ho : HO} {o : OO} (h : OOR K H ho o) : OOR K H' ho o := by
  cases ho <;> cases o <;> first | exact h.elim | exact DzAll.le e _ h | exact ⟨h.1, DzAll.le e _ h.2⟩ | skip
  rename_i o u es
  cases u <;> first | exact h.elim | exact ⟨h.1, DzAll.le e _ h.2⟩
theorem OOR.ntbl {K : PySem.W.Frag} {H : Hp} {ho : HO} {o : OO} (h : OOR K H ho o) (ps : Array Value) : ho ≠ .tbl ps := by
  rintro rfl
  cases o <;> exact h.elim
theorem OOR.fk {K : PySem.W.Frag} {H : Hp} {ho : HO} {es : List (Key × PyData)} (h : OOR K H ho (.f es)) : ∃ o kvs, ho = .frz o (.dK kvs) ∧ kvs.map (·.1) = es.map (·.1) ∧ DzAll K H (kvs.map (·.2)) (es.map (·.2)) := by
  cases ho <;> first | exact h.elim | skip
  rename_i o u
  cases u <;> first | exact ⟨_, _, rfl, h⟩ | exact h.elim
theorem OOR.lst {K : PySem.W.Frag} {H : Hp} {ho : HO} {ds : List PyData} (h : OOR K H ho (.l ds)) : ∃ xs, ho = .lst xs ∧ DzAll K H xs ds := by
  cases ho <;> first | exact h.elim | exact ⟨_, rfl, h⟩
theorem OOR.dk {K : PySem.W.Frag} {H : Hp} {ho : HO} {es : List (Key × PyData)} (h : OOR K H ho (.k es)) : ∃ kvs, ho = .dK kvs ∧ kvs.map (·.1) = es.map (·.1) ∧ DzAll K H (kvs.map (·.2)) (es.map (·.2)) := by
  cases ho <;> first | exact h.elim | exact ⟨_, rfl, h⟩
theorem OOR.dt {K : PySem.W.Frag} {H : Hp} {ho : HO} {es : List (List Key × PyData)} (h : OOR K H ho (.t es)) : ∃ kvs, ho = .dT kvs ∧ kvs.map (·.1) = es.map (·.1) ∧ DzAll K H (kvs.map (·.2)) (es.map (·.2)) := by
  cases ho <;> first | exact h.elim | exact ⟨_, rfl, h⟩
theorem Mo.ntbl {ho : HO} (h : Mo ho) (ps : Array Value) : ho ≠ .tbl ps := by rintro rfl; exact h
theorem Mo.ntup {ho : HO} (h : Mo ho) (xs : List V) : ho ≠ .tup xs := by rintro rfl; exact h
theorem Mo.nfrz {ho : HO} (h : Mo ho) (o : Obj) (u : HO) : ho ≠ .frz o u := by rintro rfl; exact h
/-- what a slot holds: data, or an object of its own (b: lent by the caller) -/
inductive EV where
  | d (x : PyData)
  | own (b : Bool) (o : OO)
  | x (v : V)
abbrev En := List (Option EV)
/-- what is under construction -/
inductive PO where
  | l (xs : List V)
  | k (kvs : List (Key × V))
def PO.ho : PO → HO
  | .l xs => .lst xs
  | .k kvs => .dK kvs
theorem PO.ntbl (o : PO) (ps : Array Value) : o.ho ≠ .tbl ps := by cases o <;> exact fun z => by cases z
structure Ct where
  /-- tables of code objects -/
  T : List (Addr × Str)
  /-- the heap at the entry -/
  H0 : Hp
  /-- lists that were lent -/
  bk : Nat → Option Addr
  /-- lists under construction that no slot holds -/
  P : Addr → Option PO
/-- not kept -/
def Nk (H : Hp) (a : Addr) : Prop := ∀ o, H a = some o → ∃ ps, o = .tbl ps
structure Rel (K : PySem.W.Frag) (C : Ct) (H : Hp) (σ : L2.St) (env : En) : Prop where
  len : env.length = σ.length
  dat : ∀ (i : Nat) x, env[i]? = some (some (.d x)) → ∃ v, σ[i]? = some (some v) ∧ Dz K H v x
  own : ∀ (i : Nat) b ds, env[i]? = some (some (.own b ds)) → ∃ a ho, σ[i]? = some (some (.ref a)) ∧ H a = some ho ∧ OOR K H ho ds ∧ (if b then C.bk i = some a else Nk C.H0 a) ∧ C.P a = none
  opq : ∀ (i : Nat) v, env[i]? = some (some (.x v)) → σ[i]? = some (some v)
  bkd : ∀ (i : Nat) a, C.bk i = some a → ∃ ds, env[i]? = some (some (.own true ds))
  dis : ∀ (i j : Nat) b c ds es a, i ≠ j → env[i]? = some (some (.own b ds)) → env[j]? = some (some (.own c es)) → σ[i]? = some (some (.ref a)) → σ[j]? = some (some (.ref a)) → False
  keep : ∀ a o, C.H0 a = some o → (∀ j, C.bk j ≠ some a) → (∀ ps, o ≠ .tbl ps) → H a = some o
  prot : ∀ a o, C.P a = some o → H a = some o.ho
  tab : LamX.Tabs C.T H

/-- errors -/
structure Er where
  cls : Str
  arg : Option (Str × PyData)
inductive R (α : Type) where
  | ok (v : α) (env : En)
  | err (e : Er) (env : En)
  | stuck
abbrev M (α : Type) := En → R α
def M.pure {α : Type} (v : α) : M α := fun env => .ok v env
def M.bind {α β : Type} (m : M α) (k : α → M β) : M β := fun env => match m env with
  | .ok v env' => k v env'
  | .err e env' => .err e env'
  | .stuck => .stuck
def M.stuck {α : Type} : M α := fun _ => .stuck
def M.opt {α : Type} : Option α → M α
  | some v => M.pure v
  | none => M.stuck
instance : Monad M where
  pure := M.pure
  bind := M.bind
/-- an expression's value: data, or the list that slot i owns -/
inductive Vl where
  | d (x : PyData)
  | sl (i : Nat)
def VR (K : PySem.W.Frag) (σ : L2.St) (u : V) (H : Hp) : Vl → Prop
  | .d x => Dz K H u x
  | .sl i => σ[i]? = some (some u)
def ErR (K : PySem.W.Frag) (mg : Str → Option Value) (H : Hp) (e : Er) (cls : Value) (od : Option Addr) : Prop :=
  ∃ C, cls = .ref C ∧ mg e.cls = some (.ref C) ∧ match e.arg with
    | none => od = none
    | some (f, x) => ∃ dd v, od = some dd ∧ H dd = some (.xd [(f, v)]) ∧ Dz K H v x
section
variable (K : PySem.W.Frag) (mg : Str → Option Value) (C : Ct) (W : WX)
def Lf {α β : Type} (σ : L2.St) (H : Hp) (RV : β → Hp → α → En → Prop) (r : R α) (Q : β → Hp → Prop) : Prop := match r with
  | .ok v env' => ∀ u H', Rel K C H' σ env' → RV u H' v env' → Le H H' → Q u H'
  | .err e env' => ∀ cls od H', Rel K C H' σ env' → ErR K mg H' e cls od → Le H H' → W cls od σ H'
  | .stuck => False
end
def VRs (K : PySem.W.Frag) (σ : L2.St) (H : Hp) : List V → List Vl → Prop
  | [], [] => True
  | u :: us, v :: vs => VR K σ u H v ∧ VRs K σ H us vs
  | _, _ => False
/-- a new list, not yet given to a name -/
def OR (K : PySem.W.Frag) (C : Ct) (σ : L2.St) (u : V) (H : Hp) (ds : List PyData) (env : En) : Prop :=
  ∃ p xs, u = .ref p ∧ H p = some (.lst xs) ∧ DzAll K H xs ds ∧ Nk C.H0 p ∧ C.P p = none ∧ ∀ (i : Nat) b es, env[i]? = some (some (.own b es)) → σ[i]? ≠ some (some (.ref p))
section
variable (K : PySem.W.Frag) (mg : Str → Option Value) (C : Ct) (W : WX)
/-- the readings -/
def lift (m : M Vl) : TE := fun σ H Q => ∃ env, Rel K C H σ env ∧ Lf K mg C W σ H (fun u H v _ => VR K σ u H v) (m env) Q
def liftO (m : M (List PyData)) : TE := fun σ H Q => ∃ env, Rel K C H σ env ∧ Lf K mg C W σ H (OR K C σ) (m env) Q
def liftT (m : M Bool) : TT := fun σ H Q => ∃ env, Rel K C H σ env ∧ Lf K mg C W σ H (fun b _ v _ => b = v) (m env) Q
def liftA (m : M (List Vl)) : TA := fun σ H Q => ∃ env, Rel K C H σ env ∧ Lf K mg C W σ H (fun us H vs _ => VRs K σ H us vs) (m env) Q
end
theorem Rel.ownL {K : PySem.W.Frag} {C : Ct} {H : Hp} {σ : L2.St} {env : En} (r : Rel K C H σ env) (i : Nat) (b : Bool) (ds : List PyData) (h : env[i]? = some (some (.own b (.l ds)))) : ∃ a xs, σ[i]? = some (some (.ref a)) ∧ H a = some (.lst xs) ∧ DzAll K H xs ds ∧ (if b then C.bk i = some a else Nk C.H0 a) ∧ C.P a = none := by
  obtain ⟨a, ho, h1, h2, h3, h4⟩ := r.own i b _ h
  obtain ⟨xs, rfl, h5⟩ := h3.lst
  exact ⟨a, xs, h1, h2, h5, h4⟩
structure DE (X : Cx) (T : List (Addr × Str)) (W : WX) (e : Expr) (m : M Vl) : Prop where
  pe : ∀ C : Ct, C.T = T → PE X e (lift X.K X.mg C W m)
structure DO (X : Cx) (T : List (Addr × Str)) (W : WX) (e : Expr) (m : M (List PyData)) : Prop where
  pe : ∀ C : Ct, C.T = T → PE X e (liftO X.K X.mg C W m)
structure DT (X : Cx) (T : List (Addr × Str)) (W : WX) (e : Expr) (m : M Bool) : Prop where
  pt : ∀ C : Ct, C.T = T → PT X e (liftT X.K X.mg C W m)
structure DW (X : Cx) (T : List (Addr × Str)) (W : WX) (e : Expr) (m : M Bool) : Prop where
  pw : ∀ C : Ct, C.T = T → PW X e (liftT X.K X.mg C W m)
structure DA (X : Cx) (T : List (Addr × Str)) (W : WX) (es : List Expr) (m : M (List Vl)) : Prop where
  pa : ∀ C : Ct, C.T = T → PA X es (liftA X.K X.mg C W m)

section
variable {K : PySem.W.Frag} {mg : Str → Option Value} {C : Ct} {W : WX} {σ : L2.St} {H H' : Hp} {env : En}
theorem VR.le {u : V} {v : Vl} (e : Le H H') (h : VR K σ u H v) : VR K σ u H' v := by
  cases v with
  | d x => exact Dz.le e x h
  | sl i => exact h
theorem VRs.le (e : Le H H') : ∀ {us : List V} {vs : List Vl}, VRs K σ H us vs → VRs K σ H' us vs
  | [], [], _ => trivial
  | u :: us, v :: vs, h => ⟨VR.le e h.1, VRs.le e h.2⟩
  | [], _ :: _, h => h.elim
  | _ :: _, [], h => h.elim
theorem VRs.length : ∀ {us : List V} {vs : List Vl}, VRs K σ H us vs → us.length = vs.length
  | [], [], _ => rfl
  | u :: us, v :: vs, h => congrArg Nat.succ (VRs.length h.2)
  | [], _ :: _, h => h.elim
  | _ :: _, [], h => h.elim
/-- a heap that has grown -/
theorem Rel.grow (r : Rel K C H σ env) (e : Same H H') : Rel K C H' σ env where
  len := r.len
  dat := fun i x h => let ⟨v, h1, h2⟩ := r.dat i x h; ⟨v, h1, Dz.le (.same e) x h2⟩
  own := fun i b ds h => let ⟨a, xs, h1, h2, h3, h4⟩ := r.own i b ds h; ⟨a, xs, h1, e _ _ h2, OOR.le (.same e) h3, h4⟩
  bkd := r.bkd
  dis := r.dis
  keep := fun a o h1 h2 h3 => e _ _ (r.keep a o h1 h2 h3)
  prot := fun a xs h => e _ _ (r.prot a xs h)
  opq := r.opq
  tab := r.tab.ext e
theorem Rel.nk (r : Rel K C H σ env) {a : Addr} (h : Nk H a) : Nk C.H0 a := fun o e => by
  by_cases hk : ∀ j, C.bk j ≠ some a
  · by_cases ht : ∀ ps, o ≠ .tbl ps
    · exact h o (r.keep a o e hk ht)
    · exact Classical.byContradiction fun z => ht fun ps e2 => z ⟨ps, e2⟩
  · have : ∃ j, C.bk j = some a := Classical.byContradiction fun z => hk fun j e2 => z ⟨j, e2⟩
    obtain ⟨j, e2⟩ := this
    obtain ⟨ds, e3⟩ := r.bkd j a e2
    obtain ⟨a', xs, _, q2, q3, q4, _⟩ := r.own j true ds e3
    rw [if_pos rfl, e2] at q4
    cases q4
    obtain ⟨ps, e4⟩ := h _ q2
    exact absurd e4 (q3.ntbl ps)
theorem Rel.dom (r : Rel K C H σ env) (a : Addr) (h : H a = none) : Nk C.H0 a := r.nk fun o e => by
  rw [h] at e
  cases e
variable {α β γ δ : Type}
theorem Lf.mono {RV : β → Hp → α → En → Prop} {r : R α} {Q Q' : β → Hp → Prop} (h : Lf K mg C W σ H RV r Q) (e : Le H H') (q : ∀ u H, Q u H → Q' u H) : Lf K mg C W σ H' RV r Q' := by
  cases r with
  | ok v env' => exact fun u H2 r1 r2 l => q _ _ (h u H2 r1 r2 (e.trans l))
  | err x env' => exact fun cls od H2 r1 r2 l => h cls od H2 r1 r2 (e.trans l)
  | stuck => exact h.elim
theorem Lf.bind {RV : β → Hp → α → En → Prop} {RW : δ → Hp → γ → En → Prop} {m : M γ} {k : γ → M α} {Q : β → Hp → Prop} {Q1 : δ → Hp → Prop} (h : Lf K mg C W σ H RV (M.bind m k env) Q)
    (q : ∀ u H1 v env', Rel K C H1 σ env' → RW u H1 v env' → Le H H1 → Lf K mg C W σ H1 RV (k v env') Q → Q1 u H1) : Lf K mg C W σ H RW (m env) Q1 := by
  unfold M.bind at h
  cases e : m env with
  | ok v env' =>
    rw [e] at h
    exact fun u H1 r1 r2 l => q u H1 v env' r1 r2 l (Lf.mono (show Lf K mg C W σ H RV (k v env') Q from h) l fun _ _ z => z)
  | err x env' =>
    rw [e] at h
    exact h
  | stuck =>
    rw [e] at h
    exact h.elim
end

/-! ### reading a value -/
def Vl.get : Vl → M PyData
  | .d x => M.pure x
  | .sl i => fun env => match env[i]? with
    | some (some (.own _ (.l ds))) => .ok (.list ds) env
    | _ => .stuck
/-- data that may be read: frozen, or a list that a slot owns -/
def Rz (K : PySem.W.Frag) (H : Hp) (u : V) (d : PyData) : Prop := Dz K H u d ∨ ∃ a xs ds, u = .ref a ∧ d = .list ds ∧ H a = some (.lst xs) ∧ DzAll K H xs ds
section
variable {K : PySem.W.Frag} {mg : Str → Option Value} {C : Ct} {W : WX} {σ : L2.St} {H H' : Hp} {env : En} {α β : Type}
theorem Rz.dp {u : V} {d : PyData} (h : Rz K H u d) : Dp K H u d := by
  rcases h with h | ⟨a, xs, ds, rfl, rfl, h1, h2⟩
  · exact h.dp
  · exact .lst (SqL.of h1) h2.dp
theorem Rz.list {u : V} {ds : List PyData} (h : Rz K H u (.list ds)) : ∃ a xs, u = .ref a ∧ RdL K H a xs ∧ DzAll K H xs ds := by
  rcases h with h | ⟨a, xs, ds', rfl, e, h1, h2⟩
  · cases h with
    | lst h1 h2 => exact ⟨_, _, rfl, h1.rd, h2⟩
  · cases e
    exact ⟨a, xs, rfl, .inl (.inl h1), h2⟩
theorem Rz.tuple {u : V} {ds : List PyData} (h : Rz K H u (.tuple ds)) : ∃ a xs, u = .ref a ∧ FzT K H a xs ∧ DzAll K H xs ds := by
  rcases h with h | ⟨a, xs, ds', rfl, e, h1, h2⟩
  · cases h with
    | tup h1 h2 => exact ⟨_, _, rfl, h1, h2⟩
  · cases e
theorem Rz.int {u : V} {i : Int} (h : Rz K H u (.int i)) : u = .int i := by
  rcases h with h | ⟨a, xs, ds', rfl, e, h1, h2⟩
  · cases h; rfl
  · cases e
theorem Rz.bool {u : V} {i : Bool} (h : Rz K H u (.bool i)) : u = .bl i := by
  rcases h with h | ⟨a, xs, ds', rfl, e, h1, h2⟩
  · cases h; rfl
  · cases e
theorem Rz.str {u : V} {i : Str} (h : Rz K H u (.str i)) : u = .str i := by
  rcases h with h | ⟨a, xs, ds', rfl, e, h1, h2⟩
  · cases h; rfl
  · cases e
theorem Rz.non {u : V} (h : Rz K H u .none) : u = .non := by
  rcases h with h | ⟨a, xs, ds', rfl, e, h1, h2⟩
  · cases h; rfl
  · cases e
theorem Rz.nodict {u : V} {k : List (PyData × PyData)} (h : Rz K H u (.dict k)) : False := by
  rcases h with h | ⟨a, xs, ds', rfl, e, h1, h2⟩
  · cases h
  · cases e
theorem Lf.get {RV : β → Hp → α → En → Prop} {k : PyData → M α} {Q : β → Hp → Prop} {u : V} {v : Vl} (h : Lf K mg C W σ H RV (M.bind v.get k env) Q) (r : Rel K C H σ env) (hv : VR K σ u H v) :
    ∃ d, Rz K H u d ∧ Lf K mg C W σ H RV (k d env) Q := by
  cases v with
  | d x => exact ⟨x, .inl hv, h⟩
  | sl i =>
    unfold M.bind Vl.get at h
    dsimp only at h
    cases e : env[i]? with
    | none => rw [e] at h; exact h.elim
    | some o =>
      cases o with
      | none => rw [e] at h; exact h.elim
      | some ev =>
        cases ev with
        | d x => rw [e] at h; exact h.elim
        | x v => rw [e] at h; exact h.elim
        | own b oo =>
          cases oo with
          | k _ => rw [e] at h; exact h.elim
          | t _ => rw [e] at h; exact h.elim
          | f _ => rw [e] at h; exact h.elim
          | l ds =>
          rw [e] at h
          obtain ⟨a, xs, h1, h2, h3, _⟩ := r.ownL i b ds e
          have hv' : σ[i]? = some (some u) := hv
          rw [h1] at hv'
          cases hv'
          exact ⟨.list ds, .inr ⟨a, xs, ds, rfl, rfl, h2, h3⟩, h⟩
theorem Lf.opt {Q : VK} {o : Option PyData} (h : Lf K mg C W σ H (fun u H v _ => VR K σ u H v) (M.opt (o.map Vl.d) env) Q) (r : Rel K C H σ env) : ∃ d, o = some d ∧ ∀ z H', Same H H' → Dz K H' z d → Q z H' := by
  cases o with
  | none => exact h.elim
  | some d => exact ⟨d, rfl, fun z H' e hz => h z H' (r.grow e) hz (.same e)⟩
theorem Lf.optB {RV : β → Hp → α → En → Prop} {Q : β → Hp → Prop} {γ : Type} {o : Option γ} {k : γ → M α} (h : Lf K mg C W σ H RV (M.bind (M.opt o) k env) Q) : ∃ d, o = some d ∧ Lf K mg C W σ H RV (k d env) Q := by
  cases o with
  | none => exact h.elim
  | some d => exact ⟨d, rfl, h⟩
end
end DL
end

/- EL2 -/
section
set_option maxHeartbeats 4000000
namespace DL
open PySem PySem.Spec PyProof.Rows L2

/-! ### names, constants -/
def mVar (i : Nat) : M Vl := fun env => match env[i]? with
  | some (some (.d x)) => .ok (.d x) env
  | some (some (.own _ _)) => .ok (.sl i) env
  | _ => .stuck
def mC (x : PyData) : M Vl := fun env => .ok (.d x) env
section
variable {X : Cx} {C : Ct} {T : List (Addr × Str)} {W : WX} {pos : Pos}
theorem de_var {i : Nat} {x : Str} (hN : X.N[i]? = some x) (hv : Vis X.env.scope x) (hd : (x == ("__debug__" : Str)) = false := by decide) (hcd : (x == ("__classdict__" : Str)) = false := by decide) : DE X T W (.Name x pos) (mVar i) := by
  refine ⟨fun C hC => ⟨fun pins s σ H Q I h => ?_⟩⟩
  obtain ⟨env, r, h⟩ := h
  refine (pe_var (pos := pos) hN hv hd hcd).run pins s σ H Q I ?_
  unfold mVar at h
  cases e : env[i]? with
  | none => rw [e] at h; exact h.elim
  | some o =>
    cases o with
    | none => rw [e] at h; exact h.elim
    | some ev =>
      cases ev with
      | d x =>
        rw [e] at h
        obtain ⟨v, h1, h2⟩ := r.dat i x e
        exact ⟨v, h1, h v H r h2 (.refl H)⟩
      | x v => rw [e] at h; exact h.elim
      | own b ds =>
        rw [e] at h
        obtain ⟨a, xs, h1, h2, h3, _⟩ := r.own i b ds e
        exact ⟨.ref a, h1, h (.ref a) H r h1 (.refl H)⟩
theorem de_c {e : Expr} {x : PyData} {v : V} (he : PE X e (tC v)) (hz : ∀ H, Dz X.K H v x) : DE X T W e (mC x) := by
  refine ⟨fun C hC => ⟨fun pins s σ H Q I h => ?_⟩⟩
  obtain ⟨env, r, h⟩ := h
  exact he.run pins s σ H Q I (h v H r (hz H) (.refl H))
theorem de_int {i : Int} {j} : DE X T W (.Constant (.int i) j pos) (mC (.int i)) := de_c pe_int fun _ => .int i
theorem de_bl {b : Bool} {j} : DE X T W (.Constant (.bool b) j pos) (mC (.bool b)) := de_c pe_bl fun _ => .bl b
theorem de_non {j} : DE X T W (.Constant .none j pos) (mC .none) := de_c pe_non fun _ => .non
theorem de_str {x : Str} {j} : DE X T W (.Constant (.str x) j pos) (mC (.str x)) := de_c pe_str fun _ => .str x
theorem de_globI {x : Str} {i : Int} (hg : Gl X x) (hm : ∃ t, X.mg x = some (.int i t)) (hd : (x == ("__debug__" : Str)) = false := by decide) : DE X T W (.Name x pos) (mC (.int i)) := by
  obtain ⟨t, hm⟩ := hm
  exact de_c (v := .int i) (pe_glob hg hm ⟨t, rfl⟩ hd) fun _ => .int i
theorem de_globS {x z : Str} (hg : Gl X x) (hm : ∃ t, X.mg x = some (.str z t)) (hd : (x == ("__debug__" : Str)) = false := by decide) : DE X T W (.Name x pos) (mC (.str z)) := by
  obtain ⟨t, hm⟩ := hm
  exact de_c (v := .str z) (pe_glob hg hm ⟨t, rfl⟩ hd) fun _ => .str z
end

/-! ### ghost steps -/
def Ghost (X : Cx) (σ : L2.St) (P : Hp → Prop) (H : Hp) : Prop := ∀ pins s, Inv X pins σ H s → ∃ H', Inv X pins σ H' s ∧ P H'
theorem Ghost.now {X : Cx} {σ : L2.St} {P : Hp → Prop} {H : Hp} (h : P H) : Ghost X σ P H := fun _ _ I => ⟨H, I, h⟩
theorem Ghost.bind {X : Cx} {σ : L2.St} {P P' : Hp → Prop} {H : Hp} (h : Ghost X σ P H) (q : ∀ H', P H' → Ghost X σ P' H') : Ghost X σ P' H := fun pins s I =>
  let ⟨H1, I1, p1⟩ := h pins s I
  q H1 p1 pins s I1
theorem Ghost.imp {X : Cx} {σ : L2.St} {P P' : Hp → Prop} {H : Hp} (h : Ghost X σ P H) (q : ∀ H', P H' → P' H') : Ghost X σ P' H := h.bind fun H' p => .now (q H' p)
theorem Ghost.lock {X : Cx} {σ : L2.St} {P : Hp → Prop} {H : Hp} {a : Addr} {xs : List V} (h : H a = some (.lst xs)) (q : ∀ o, P (upd H a (.frz o (.lst xs)))) : Ghost X σ P H := fun pins s I =>
  let ⟨od, I1⟩ := I.lock h trivial
  ⟨_, I1, q od⟩
theorem ep_ghost {X : Cx} {pins : List (Addr × Obj)} {σ : L2.St} {Q : VK} {t : Sem Value} {M' : Model} {A : Around} {E : Value → Shared → Prop} {s : Shared} (h : wpAny M' A t (EP X pins σ fun v H1 => Ghost X σ (Q v) H1) E s) : wpAny M' A t (EP X pins σ Q) E s :=
  thn h fun _ s1 ⟨v, H1, I1, r, q⟩ => let ⟨H2, I2, q2⟩ := q pins s1 I1; ⟨v, H2, I2, r, q2⟩
theorem pe_ghost {X : Cx} {e : Expr} {t : TE} (h : PE X e t) : PE X e (fun σ H Q => t σ H fun v H1 => Ghost X σ (Q v) H1) := ⟨fun pins s σ H Q I hw => ep_ghost (h.run pins s σ H _ I hw)⟩

theorem Tabs.put {T : List (Addr × Str)} {H : Hp} {a : Addr} {ho : HO} {o : HO} (h : H a = some ho) (t : LamX.Tabs T H) (m : Mo ho := by trivial) : LamX.Tabs T (upd H a o) := fun p hp => by
  obtain ⟨ps, h1, h2, h3⟩ := t p hp
  refine ⟨ps, by rw [upd_ne (ne_of h1 h (by intro z; exact m.ntbl _ z.symm))]; exact h1, h2, fun pos cv hc => ?_⟩
  obtain ⟨c, e1, e2⟩ := h3 pos cv hc
  refine ⟨c, e1, ?_⟩
  rw [upd_ne (ne_of e2 h (by intro z; rw [← z] at m; exact m))]
  exact e2
theorem Le.put {H : Hp} {a : Addr} {ho : HO} {o : HO} (h : H a = some ho) (m : Mo ho := by trivial) : Le H (upd H a o) :=
  ⟨fun b ys e => by rw [upd_ne (ne_of e h (by intro z; exact m.ntup _ z.symm))]; exact e, fun b ob u e => by rw [upd_ne (ne_of e h (by intro z; exact m.nfrz _ _ z.symm))]; exact e⟩
theorem upd_none {H : Hp} {a b : Addr} {o : HO} (h : upd H a o b = none) : H b = none := by
  unfold upd at h
  split at h
  · cases h
  · exact h
theorem Same.new {H : Hp} {a : Addr} {o : HO} (h : H a = none) : Same H (upd H a o) := fun b u e => by rw [upd_ne (ne_of_none e h)]; exact e

section
variable {K : PySem.W.Frag} {mg : Str → Option Value} {C : Ct} {W : WX} {σ : L2.St} {H H' : Hp} {env : En}
theorem get_set {l : En} {i j : Nat} {x : Option EV} {y : Option EV} (h : (l.set i x)[j]? = some y) : (i = j ∧ y = x) ∨ (i ≠ j ∧ l[j]? = some y) := by
  by_cases e : i = j
  · subst e
    by_cases hi : i < l.length
    · rw [List.getElem?_set_self hi] at h
      exact .inl ⟨rfl, (Option.some.inj h).symm⟩
    · rw [List.getElem?_eq_none (by rw [List.length_set]; omega)] at h
      cases h
  · rw [List.getElem?_set_ne e] at h
    exact .inr ⟨e, h⟩
theorem Rel.domP (r : Rel K C H σ env) {p : Addr} (h : H p = none) : C.P p = none := by
  cases e : C.P p with
  | none => rfl
  | some xs => rw [r.prot p xs e] at h; cases h
/-- slot i's own list is frozen -/
theorem Rel.frz {i : Nat} {ds : List PyData} {a : Addr} {xs : List V} {o : Obj} (r : Rel K C H σ env) (e : env[i]? = some (some (.own false (.l ds)))) (h1 : σ[i]? = some (some (.ref a))) (h2 : H a = some (.lst xs)) (h3 : DzAll K H xs ds) (h4 : Nk C.H0 a) (h5 : C.P a = none) :
    Rel K C (upd H a (.frz o (.lst xs))) σ (env.set i (some (.d (.list ds)))) where
  len := by rw [List.length_set]; exact r.len
  dat := fun j x h => by
    have l : Le H (upd H a (.frz o (.lst xs))) := .put h2
    rcases get_set h with ⟨rfl, ex⟩ | ⟨hne, h⟩
    · cases ex
      exact ⟨_, h1, .lst (.inl ⟨o, upd_same⟩) (DzAll.le l ds h3)⟩
    · obtain ⟨v, q1, q2⟩ := r.dat j x h
      exact ⟨v, q1, Dz.le l x q2⟩
  own := fun j b es h => by
    rcases get_set h with ⟨rfl, ex⟩ | ⟨hne, h⟩
    · cases ex
    · obtain ⟨a', ys, q1, q2, q3, q4⟩ := r.own j b es h
      refine ⟨a', ys, q1, ?_, OOR.le (.put h2) q3, q4⟩
      rw [upd_ne]
      · exact q2
      · rintro rfl
        exact r.dis i j _ _ _ _ _ hne e h h1 q1
  bkd := fun j b h => by
    obtain ⟨es, q⟩ := r.bkd j b h
    refine ⟨es, ?_⟩
    by_cases hj : i = j
    · subst hj
      rw [e] at q
      cases q
    · rw [List.getElem?_set_ne hj]
      exact q
  dis := fun j k b c es fs a' hjk q1 q2 q3 q4 => by
    rcases get_set q1 with ⟨_, ex⟩ | ⟨_, q1⟩
    · cases ex
    · rcases get_set q2 with ⟨_, ex⟩ | ⟨_, q2⟩
      · cases ex
      · exact r.dis j k b c es fs a' hjk q1 q2 q3 q4
  keep := fun b u q1 q2 q3 => by
    rw [upd_ne]
    · exact r.keep b u q1 q2 q3
    · rintro rfl
      obtain ⟨ps, e⟩ := h4 _ q1
      exact q3 ps e
  prot := fun b zs q => by
    rw [upd_ne]
    · exact r.prot b zs q
    · rintro rfl
      rw [h5] at q
      cases q
  opq := fun j v h => by
    rcases get_set h with ⟨_, ex⟩ | ⟨_, h⟩
    · cases ex
    · exact r.opq j v h
  tab := Tabs.put h2 r.tab
/-- slot i's own list is rewritten -/
theorem Rel.putO {i : Nat} {b : Bool} {ds es : OO} {a : Addr} {xs ys : HO} (r : Rel K C H σ env) (e : env[i]? = some (some (.own b ds))) (h1 : σ[i]? = some (some (.ref a))) (h2 : H a = some xs) (m : Mo xs) (h3 : OOR K H ys es) (h4 : if b then C.bk i = some a else Nk C.H0 a) (h5 : C.P a = none) :
    Rel K C (upd H a ys) σ (env.set i (some (.own b es))) where
  len := by rw [List.length_set]; exact r.len
  dat := fun j x h => by
    rcases get_set h with ⟨rfl, ex⟩ | ⟨hne, h⟩
    · cases ex
    · obtain ⟨v, q1, q2⟩ := r.dat j x h
      exact ⟨v, q1, Dz.le (.put h2 m) x q2⟩
  own := fun j c fs h => by
    rcases get_set h with ⟨rfl, ex⟩ | ⟨hne, h⟩
    · cases ex
      exact ⟨a, ys, h1, upd_same, OOR.le (.put h2 m) h3, h4, h5⟩
    · obtain ⟨a', zs, q1, q2, q3, q4⟩ := r.own j c fs h
      refine ⟨a', zs, q1, ?_, OOR.le (.put h2 m) q3, q4⟩
      rw [upd_ne]
      · exact q2
      · rintro rfl
        exact r.dis i j _ _ _ _ _ hne e h h1 q1
  bkd := fun j c h => by
    obtain ⟨fs, q⟩ := r.bkd j c h
    by_cases hj : i = j
    · subst hj
      rw [e] at q
      cases q
      exact ⟨es, List.getElem?_set_self (List.getElem?_eq_some_iff.mp e).1⟩
    · exact ⟨fs, by rw [List.getElem?_set_ne hj]; exact q⟩
  dis := fun j k c d fs gs a' hjk q1 q2 q3 q4 => by
    have z1 : ∃ c' fs', env[j]? = some (some (.own c' fs')) := by
      rcases get_set q1 with ⟨rfl, ex⟩ | ⟨_, q1⟩
      · exact ⟨_, _, e⟩
      · exact ⟨_, _, q1⟩
    have z2 : ∃ c' fs', env[k]? = some (some (.own c' fs')) := by
      rcases get_set q2 with ⟨rfl, ex⟩ | ⟨_, q2⟩
      · exact ⟨_, _, e⟩
      · exact ⟨_, _, q2⟩
    obtain ⟨_, _, z1⟩ := z1
    obtain ⟨_, _, z2⟩ := z2
    exact r.dis j k _ _ _ _ a' hjk z1 z2 q3 q4
  keep := fun c u q1 q2 q3 => by
    rw [upd_ne]
    · exact r.keep c u q1 q2 q3
    · rintro rfl
      cases b with
      | true => exact q2 i h4
      | false =>
        have h4 : Nk C.H0 c := h4
        obtain ⟨ps, e⟩ := h4 _ q1
        exact q3 ps e
  prot := fun b zs q => by
    rw [upd_ne]
    · exact r.prot b zs q
    · rintro rfl
      rw [h5] at q
      cases q
  opq := fun j v h => by
    rcases get_set h with ⟨_, ex⟩ | ⟨_, h⟩
    · cases ex
    · exact r.opq j v h
  tab := Tabs.put h2 r.tab m
theorem Rel.put {i : Nat} {b : Bool} {ds es : List PyData} {a : Addr} {xs ys : List V} (r : Rel K C H σ env) (e : env[i]? = some (some (.own b (.l ds)))) (h1 : σ[i]? = some (some (.ref a))) (h2 : H a = some (.lst xs)) (h3 : DzAll K H ys es) (h4 : if b then C.bk i = some a else Nk C.H0 a) (h5 : C.P a = none) :
    Rel K C (upd H a (.lst ys)) σ (env.set i (some (.own b (.l es)))) := Rel.putO (ys := .lst ys) (es := .l es) r e h1 h2 trivial h3 h4 h5
end

/-! ### what is handed on: an own list is frozen first -/
def leak : Vl → M PyData
  | .d x => M.pure x
  | .sl i => fun env => match env[i]? with
    | some (some (.own false (.l ds))) => .ok (.list ds) (env.set i (some (.d (.list ds))))
    | _ => .stuck
def leakAll : List Vl → M (List PyData)
  | [] => M.pure []
  | v :: vs => M.bind (leak v) fun d => M.bind (leakAll vs) fun ds => M.pure (d :: ds)
/-- what stands apart from the own lists stays -/
def Off (H H' : Hp) (σ : L2.St) (env : En) : Prop := ∀ a o, H a = some o → (∀ (i : Nat) b ds, env[i]? = some (some (.own b ds)) → σ[i]? ≠ some (some (.ref a))) → H' a = some o
section
variable {X : Cx} {C : Ct} {T : List (Addr × Str)} {W : WX} {σ : L2.St} {H H' : Hp} {env env' : En}
theorem leak_ok {u : V} {v : Vl} {d : PyData} (r : Rel X.K C H σ env) (hv : VR X.K σ u H v) (e : leak v env = .ok d env') :
    Ghost X σ (fun H' => Rel X.K C H' σ env' ∧ Dz X.K H' u d ∧ Le H H' ∧ Off H H' σ env ∧ (∀ (i : Nat) b ds, env'[i]? = some (some (.own b ds)) → env[i]? = some (some (.own b ds)))) H := by
  cases v with
  | d x =>
    cases e
    exact .now ⟨r, hv, .refl H, fun _ _ h _ => h, fun _ _ _ h => h⟩
  | sl i =>
    unfold leak at e
    dsimp only at e
    split at e
    · rename_i ds q
      cases e
      obtain ⟨a, xs, h1, h2, h3, h4, h5⟩ := r.ownL i false ds q
      have hv' : σ[i]? = some (some u) := hv
      rw [h1] at hv'
      cases hv'
      refine .lock h2 fun o => ⟨r.frz q h1 h2 h3 h4 h5, ?_, .put h2, fun b u hb hn => ?_, fun j c es h => ?_⟩
      · exact .lst (.inl ⟨o, upd_same⟩) (DzAll.le (.put h2) ds h3)
      · rw [upd_ne]
        · exact hb
        · rintro rfl
          exact hn i _ _ q h1
      · rcases get_set h with ⟨_, ex⟩ | ⟨_, h⟩
        · cases ex
        · exact h
    · cases e
theorem leak_noerr {v : Vl} {x : Er} : leak v env ≠ .err x env' := by
  cases v with
  | d x => exact fun z => by cases z
  | sl i =>
    unfold leak
    dsimp only
    split <;> exact fun z => by cases z
theorem leakAll_noerr {x : Er} : ∀ {vs : List Vl} {env env' : En}, leakAll vs env ≠ .err x env'
  | [], _, _ => fun z => by cases z
  | v :: vs, env, env' => fun z => by
    unfold leakAll M.bind at z
    dsimp only at z
    cases e : leak v env with
    | ok d env1 =>
      rw [e] at z
      dsimp only at z
      cases e1 : leakAll vs env1 with
      | ok ds env2 => rw [e1] at z; cases z
      | err y env2 => exact leakAll_noerr e1
      | stuck => rw [e1] at z; cases z
    | err y env1 => exact leak_noerr e
    | stuck => rw [e] at z; cases z
theorem leakAll_ok : ∀ {us : List V} {vs : List Vl} {ds : List PyData} {H : Hp} {env env' : En}, Rel X.K C H σ env → VRs X.K σ H us vs → leakAll vs env = .ok ds env' →
    Ghost X σ (fun H' => Rel X.K C H' σ env' ∧ DzAll X.K H' us ds ∧ Le H H' ∧ Off H H' σ env ∧ (∀ (i : Nat) b es, env'[i]? = some (some (.own b es)) → env[i]? = some (some (.own b es)))) H
  | [], [], _, H, env, env', r, _, e => by
    cases e
    exact .now ⟨r, .nil, .refl H, fun _ _ h _ => h, fun _ _ _ h => h⟩
  | u :: us, v :: vs, ds, H, env, env', r, hv, e => by
    unfold leakAll M.bind at e
    dsimp only at e
    cases e0 : leak v env with
    | ok d env1 =>
      rw [e0] at e
      dsimp only at e
      cases e1 : leakAll vs env1 with
      | ok ds1 env2 =>
        rw [e1] at e
        cases e
        refine (leak_ok r hv.1 e0).bind fun H1 ⟨r1, z1, l1, o1, k1⟩ => ?_
        refine (leakAll_ok r1 (hv.2.le l1) e1).imp fun H2 ⟨r2, z2, l2, o2, k2⟩ => ⟨r2, .cons (Dz.le l2 d z1) z2, l1.trans l2, fun a o h hn => ?_, fun i b es h => k1 i b es (k2 i b es h)⟩
        exact o2 a o (o1 a o h hn) fun i b es h => hn i b es (k1 i b es h)
      | err y env2 => exact absurd e1 leakAll_noerr
      | stuck => rw [e1] at e; cases e
    | err y env1 => exact absurd e0 leak_noerr
    | stuck => rw [e0] at e; cases e
  | [], _ :: _, _, _, _, _, _, h, _ => h.elim
  | _ :: _, [], _, _, _, _, _, h, _ => h.elim
end
section
variable {X : Cx} {C : Ct} {T : List (Addr × Str)} {W : WX} {σ : L2.St} {H : Hp} {env : En} {α β : Type}
theorem Lf.leakAll {RV : β → Hp → α → En → Prop} {k : List PyData → M α} {Q : β → Hp → Prop} {us : List V} {vs : List Vl} (h : Lf X.K X.mg C W σ H RV (M.bind (leakAll vs) k env) Q) (r : Rel X.K C H σ env) (hv : VRs X.K σ H us vs) :
    ∃ ds env', leakAll vs env = .ok ds env' ∧ Lf X.K X.mg C W σ H RV (k ds env') Q := by
  unfold M.bind at h
  cases e : DL.leakAll vs env with
  | ok ds env' =>
    rw [e] at h
    exact ⟨ds, env', rfl, h⟩
  | err x env' => exact absurd e leakAll_noerr
  | stuck => rw [e] at h; exact h.elim
theorem Lf.leak {RV : β → Hp → α → En → Prop} {k : PyData → M α} {Q : β → Hp → Prop} {u : V} {v : Vl} (h : Lf X.K X.mg C W σ H RV (M.bind (leak v) k env) Q) (r : Rel X.K C H σ env) (hv : VR X.K σ u H v) :
    ∃ d env', leak v env = .ok d env' ∧ Lf X.K X.mg C W σ H RV (k d env') Q := by
  unfold M.bind at h
  cases e : DL.leak v env with
  | ok ds env' =>
    rw [e] at h
    exact ⟨ds, env', rfl, h⟩
  | err x env' => exact absurd e leak_noerr
  | stuck => rw [e] at h; exact h.elim
end

/-! ### two-place operations -/
def Op2 (X : Cx) (f : Value → Value → Sem Value) (g : PyData → PyData → Option PyData) : Prop :=
  ∀ (pins : List (Addr × Obj)) (s : Shared) (σ : L2.St) (H : Hp) (x y : V) (v u : Value) (dx dy dz : PyData), Inv X pins σ H s → RelV x v → RelV y u → Rz X.K H x dx → Rz X.K H y dy → g dx dy = some dz →
    ∀ Q : VK, (∀ z H', Same H H' → Dz X.K H' z dz → Q z H') → wpAny (model X.prog X.w) X.A (f v u) (EP X pins σ Q) X.xe s
/-- .. that make a list -/
def Op2L (X : Cx) (f : Value → Value → Sem Value) (g : PyData → PyData → Option (List PyData)) : Prop :=
  ∀ (pins : List (Addr × Obj)) (s : Shared) (σ : L2.St) (H : Hp) (x y : V) (v u : Value) (dx dy : PyData) (ds : List PyData), Inv X pins σ H s → RelV x v → RelV y u → Rz X.K H x dx → Rz X.K H y dy → g dx dy = some ds →
    ∀ Q : VK, (∀ p xs, H p = none → DzAll X.K H xs ds → Q (.ref p) (upd H p (.lst xs))) → wpAny (model X.prog X.w) X.A (f v u) (EP X pins σ Q) X.xe s
def r2 (K : PySem.W.Frag) (g : PyData → PyData → Option PyData) : R2 := fun x y H Q => ∃ dx dy dz, Rz K H x dx ∧ Rz K H y dy ∧ g dx dy = some dz ∧ ∀ z H', Same H H' → Dz K H' z dz → Q z H'
def r2L (K : PySem.W.Frag) (g : PyData → PyData → Option (List PyData)) : R2 := fun x y H Q => ∃ dx dy ds, Rz K H x dx ∧ Rz K H y dy ∧ g dx dy = some ds ∧ ∀ p xs, H p = none → DzAll K H xs ds → Q (.ref p) (upd H p (.lst xs))
def mBin (g : PyData → PyData → Option PyData) (ma mb : M Vl) : M Vl := M.bind ma fun va => M.bind mb fun vb => M.bind va.get fun x => M.bind vb.get fun y => M.opt ((g x y).map Vl.d)
def mBinL (g : PyData → PyData → Option (List PyData)) (ma mb : M Vl) : M (List PyData) := M.bind ma fun va => M.bind mb fun vb => M.bind va.get fun x => M.bind vb.get fun y => M.opt (g x y)
def mFrz (m : M (List PyData)) : M Vl := M.bind m fun ds => mC (.list ds)
section
variable {X : Cx} {C : Ct} {T : List (Addr × Str)} {W : WX} {a b c : Expr} {ma mb mc : M Vl} {pos : Pos} {g g' : PyData → PyData → Option PyData} {f f' : Value → Value → Sem Value}
theorem Op2.opR (h : Op2 X f g) : OpR X f (r2 X.K g) := fun pins s σ H x y v u Q I rx ry ⟨dx, dy, dz, h1, h2, h3, q⟩ => h pins s σ H x y v u dx dy dz I rx ry h1 h2 h3 Q q
theorem Op2L.opR {g : PyData → PyData → Option (List PyData)} (h : Op2L X f g) : OpR X f (r2L X.K g) := fun pins s σ H x y v u Q I rx ry ⟨dx, dy, dz, h1, h2, h3, q⟩ => h pins s σ H x y v u dx dy dz I rx ry h1 h2 h3 Q q
theorem lift_bin {σ : L2.St} {H : Hp} {Q : VK} (h : lift X.K X.mg C W (mBin g ma mb) σ H Q) : lift X.K X.mg C W ma σ H fun x H1 => lift X.K X.mg C W mb σ H1 fun y H2 => r2 X.K g x y H2 Q := by
  obtain ⟨env, r, h⟩ := h
  refine ⟨env, r, Lf.bind h fun u H1 va env1 r1 hv1 l1 h1 => ⟨env1, r1, Lf.bind h1 fun y H2 vb env2 r2 hv2 l2 h2 => ?_⟩⟩
  obtain ⟨dx, zx, h3⟩ := Lf.get h2 r2 (hv1.le l2)
  obtain ⟨dy, zy, h4⟩ := Lf.get h3 r2 hv2
  obtain ⟨dz, e, h5⟩ := Lf.opt h4 r2
  exact ⟨dx, dy, dz, zx, zy, e, h5⟩
theorem de_bin {op : Operator} (ho : Op2 X (binaryOp op) g) (ha : DE X T W a ma) (hb : DE X T W b mb) : DE X T W (.BinOp a op b pos) (mBin g ma mb) :=
  ⟨fun C hC => ⟨fun pins s σ H Q I h => (pe_op ho.opR (ha.pe C hC) (hb.pe C hC)).run pins s σ H Q I (lift_bin h)⟩⟩
theorem de_cmp {op : CmpOp} (ho : Op2 X (compareOp op) g) (ha : DE X T W a ma) (hb : DE X T W b mb) (hm : behindInMarks op b = false) : DE X T W (.Compare a [op] [b] pos) (mBin g ma mb) :=
  ⟨fun C hC => ⟨fun pins s σ H Q I h => (pe_cmpR ho.opR (ha.pe C hC) (hb.pe C hC) hm).run pins s σ H Q I (lift_bin h)⟩⟩
theorem do_bin {op : Operator} {g : PyData → PyData → Option (List PyData)} (ho : Op2L X (binaryOp op) g) (ha : DE X T W a ma) (hb : DE X T W b mb) : DO X T W (.BinOp a op b pos) (mBinL g ma mb) := by
  refine ⟨fun C hC => ⟨fun pins s σ H Q I h => (pe_op ho.opR (ha.pe C hC) (hb.pe C hC)).run pins s σ H Q I ?_⟩⟩
  obtain ⟨env, r, h⟩ := h
  refine ⟨env, r, Lf.bind h fun u H1 va env1 r1 hv1 l1 h1 => ⟨env1, r1, Lf.bind h1 fun y H2 vb env2 r2 hv2 l2 h2 => ?_⟩⟩
  obtain ⟨dx, zx, h3⟩ := Lf.get h2 r2 (hv1.le l2)
  obtain ⟨dy, zy, h4⟩ := Lf.get h3 r2 hv2
  cases e : g dx dy with
  | none => rw [e] at h4; exact h4.elim
  | some ds =>
    rw [e] at h4
    refine ⟨dx, dy, ds, zx, zy, e, fun p xs hp hz => ?_⟩
    have sm : Same H2 (upd H2 p (.lst xs)) := Same.new hp
    refine h4 (.ref p) _ (r2.grow sm) ⟨p, xs, rfl, upd_same, DzAll.le (.same sm) ds hz, r2.dom p hp, r2.domP hp, fun i b es q z => ?_⟩ (.same sm)
    obtain ⟨a', ys, q1, q2, _, _⟩ := r2.own i b es q
    rw [q1] at z
    cases z
    rw [hp] at q2
    cases q2
/-- an own list that is handed on at once -/
theorem de_frz {e : Expr} {m : M (List PyData)} (h : DO X T W e m) : DE X T W e (mFrz m) := by
  refine ⟨fun C hC => ⟨fun pins s σ H Q I hq => (pe_ghost (h.pe C hC)).run pins s σ H Q I ?_⟩⟩
  obtain ⟨env, r, hq⟩ := hq
  refine ⟨env, r, Lf.bind hq fun u H1 ds env1 r1 hv1 l1 h1 => ?_⟩
  obtain ⟨p, xs, rfl, h2, h3, h4, h6, h5⟩ := hv1
  refine .lock h2 fun o => ?_
  have l2 : Le H1 (upd H1 p (.frz o (.lst xs))) := .put h2
  refine h1 (.ref p) _ ?_ (.lst (.inl ⟨o, upd_same⟩) (DzAll.le l2 ds h3)) l2
  exact {
    len := r1.len
    dat := fun j x h => let ⟨v, q1, q2⟩ := r1.dat j x h; ⟨v, q1, Dz.le l2 x q2⟩
    own := fun j b es h => by
      obtain ⟨a', ys, q1, q2, q3, q4⟩ := r1.own j b es h
      refine ⟨a', ys, q1, ?_, OOR.le l2 q3, q4⟩
      rw [upd_ne]
      · exact q2
      · rintro rfl
        exact h5 j b es h q1
    bkd := r1.bkd
    dis := r1.dis
    keep := fun b u q1 q2 q3 => by
      rw [upd_ne]
      · exact r1.keep b u q1 q2 q3
      · rintro rfl
        obtain ⟨ps, e⟩ := h4 _ q1
        exact q3 ps e
    prot := fun b zs q => by
      rw [upd_ne]
      · exact r1.prot b zs q
      · rintro rfl
        rw [h6] at q
        cases q
    opq := r1.opq
    tab := Tabs.put h2 r1.tab }
end

/-! ### the operations' data -/
def gAdd : PyData → PyData → Option PyData
  | .int i, .int j => some (.int (i + j))
  | .str x, .str y => if x.length + y.length ≤ sizeLine then some (.str (x ++ y)) else none
  | .tuple xs, .tuple ys => if xs.length + ys.length ≤ sizeLine then some (.tuple (xs ++ ys)) else none
  | _, _ => none
def gCat : PyData → PyData → Option (List PyData)
  | .list xs, .list ys => if xs.length + ys.length ≤ sizeLine then some (xs ++ ys) else none
  | _, _ => none
def gSub : PyData → PyData → Option PyData
  | .int i, .int j => some (.int (i - j))
  | _, _ => none
def small64 (i : Int) : Bool := decide (-(2 ^ 64) < i) && decide (i < 2 ^ 64)
def gMul : PyData → PyData → Option PyData
  | .int i, .int j => if small64 i || small64 j then some (.int (i * j)) else none
  | .tuple xs, .int k => if !xs.isEmpty && decide (2 ≤ k) && decide (k ≤ 1000) && decide (xs.length ≤ 1000) then some (.tuple (List.replicate k.toNat xs).flatten) else none
  | _, _ => none
def gRep : PyData → PyData → Option (List PyData)
  | .list xs, .int k => if decide (-(2 ^ 63) ≤ k) && decide (k < 2 ^ 63) && decide (xs.length * k.toNat ≤ sizeLine) then some (List.replicate k.toNat xs).flatten else none
  | _, _ => none
def gDiv : PyData → PyData → Option PyData
  | .int i, .int j => if decide (0 < j) && decide (j < 1073741824) then some (.int (i / j)) else none
  | _, _ => none
def gMod : PyData → PyData → Option PyData
  | .int i, .int j => if 0 < j then some (.int (i % j)) else none
  | _, _ => none
def gPow : PyData → PyData → Option PyData
  | .int i, .int j => if decide (0 ≤ j) && decide (j ≤ 1000000) && decide (i.natAbs < 2 ^ 64) then some (.int (i ^ j.toNat)) else none
  | _, _ => none
def gEq : PyData → PyData → Option PyData := fun x y => if SeqAt.shaped x && SeqAt.shaped y then some (.bool (PyData.eqv x y)) else none
def gNe : PyData → PyData → Option PyData := fun x y => if SeqAt.shaped x && SeqAt.shaped y then some (.bool (!PyData.eqv x y)) else none
def gLt : PyData → PyData → Option PyData
  | .int i, .int j => some (.bool (decide (i < j)))
  | .str i, .str j => some (.bool (decide (i.cps.toList < j.cps.toList)))
  | _, _ => none
def gGt : PyData → PyData → Option PyData
  | .int i, .int j => some (.bool (decide (j < i)))
  | _, _ => none
def gLe : PyData → PyData → Option PyData
  | .int i, .int j => some (.bool (decide (i ≤ j)))
  | _, _ => none
def gGe : PyData → PyData → Option PyData
  | .int i, .int j => some (.bool (decide (j ≤ i)))
  | _, _ => none
def gIs : PyData → PyData → Option PyData
  | .bool i, .bool j => some (.bool (decide (i = j)))
  | .none, .none => some (.bool true)
  | .int _, .none => some (.bool false)
  | .bool _, .none => some (.bool false)
  | .str _, .none => some (.bool false)
  | .tuple _, .none => some (.bool false)
  | .list _, .none => some (.bool false)
  | _, _ => none
def gIsNot : PyData → PyData → Option PyData
  | .bool i, .bool j => some (.bool (!decide (i = j)))
  | .none, .none => some (.bool false)
  | .int _, .none => some (.bool true)
  | .bool _, .none => some (.bool true)
  | .str _, .none => some (.bool true)
  | .tuple _, .none => some (.bool true)
  | .list _, .none => some (.bool true)
  | _, _ => none
section
variable {X : Cx}
theorem gAdd_inv {dx dy dz : PyData} (e : gAdd dx dy = some dz) : (∃ i j, dx = .int i ∧ dy = .int j ∧ dz = .int (i + j)) ∨ (∃ x y, dx = .str x ∧ dy = .str y ∧ x.length + y.length ≤ sizeLine ∧ dz = .str (x ++ y)) ∨
    (∃ xs ys, dx = .tuple xs ∧ dy = .tuple ys ∧ xs.length + ys.length ≤ sizeLine ∧ dz = .tuple (xs ++ ys)) := by
  cases dx <;> cases dy <;> first
    | (exfalso; cases e; done)
    | (cases e; exact .inl ⟨_, _, rfl, rfl, rfl⟩)
    | (rename_i x y
       by_cases h : x.length + y.length ≤ sizeLine
       · simp only [gAdd, if_pos h, Option.some.injEq] at e
         first
           | exact .inr (.inl ⟨_, _, rfl, rfl, h, e.symm⟩)
           | exact .inr (.inr ⟨_, _, rfl, rfl, h, e.symm⟩)
       · simp only [gAdd, if_neg h] at e
         exact absurd e (by simp))
theorem o_add : Op2 X (binaryOp .Add) gAdd := by
  intro pins s σ H x y v u dx dy dz I rx ry hx hy e Q q
  rcases gAdd_inv e with ⟨i, j, rfl, rfl, rfl⟩ | ⟨i, j, rfl, rfl, hz, rfl⟩ | ⟨ds, es, rfl, rfl, hz, rfl⟩
  · cases hx.int; cases hy.int
    exact op_add pins s σ H _ _ v u Q I rx ry ⟨_, _, rfl, rfl, q _ H (.refl H) (.int _)⟩
  · cases hx.str; cases hy.str
    exact op_add_str pins s σ H _ _ v u Q I rx ry ⟨_, _, rfl, rfl, hz, q _ H (.refl H) (.str _)⟩
  · obtain ⟨a, xs, rfl, h1, h2⟩ := hx.tuple
    obtain ⟨b, ys, rfl, h3, h4⟩ := hy.tuple
    have e1 := h2.length
    have e2 := h4.length
    refine op_catA pins s σ H _ _ v u Q I rx ry ⟨a, b, xs, ys, rfl, rfl, h1.sq, h3.sq, by omega, fun hx => ?_, fun hx hy => ?_, fun hx hy p hp => ?_⟩
    · subst hx
      cases h2
      exact q _ H (.refl H) (.tup h3 h4)
    · subst hy
      cases h4
      rw [List.append_nil] at q
      exact q _ H (.refl H) (.tup h1 h2)
    · exact q _ _ (Same.new hp) (.tup (.inl upd_same) ((DzAll.le (.same (Same.new hp)) _ h2).append (DzAll.le (.same (Same.new hp)) _ h4)))
theorem Inv.rdL {pins : List (Addr × Obj)} {σ : L2.St} {H : Hp} {s : Shared} {l : Addr} {xs : List V} (I : Inv X pins σ H s) (hH : RdL X.K H l xs) : xs.length ≤ sizeLine ∧ ∃ (its : List Value) (n : Nat), Vals xs its ∧ xs.length = its.length ∧ s.heap.get? l = some { cls := .type "list", data := .seq its.toArray n } := by
  rcases hH with hH | ⟨its, n, h1, h2, h3⟩
  · obtain ⟨z, its, n, r, e⟩ := hH.ok I.hok
    exact ⟨z, its, n, r, r.length, e⟩
  · have e := h3.length
    refine ⟨?_, its.toList, n, h3, e, ?_⟩
    · rw [e, Array.length_toList]; exact h2
    · rw [Array.toArray_toList]; exact I.kIn _ _ h1
theorem o_cat : Op2L X (binaryOp .Add) gCat := by
  intro pins s σ H x y v u dx dy ds I rx ry hx hy e Q q
  unfold gCat at e
  split at e
  · rename_i ds es
    split at e
    · rename_i hz
      cases e
      obtain ⟨a, xs, rfl, h1, h2⟩ := hx.list
      obtain ⟨b, ys, rfl, h3, h4⟩ := hy.list
      have e1 := h2.length
      have e2 := h4.length
      cases rx
      cases ry
      obtain ⟨z, its, n, r, hl, e⟩ := Inv.rdL I h1
      obtain ⟨z2, its2, n2, r2, hl2, e2'⟩ := Inv.rdL I h3
      refine PySem.P.add_list e e2' ?_ (by rw [List.size_toArray, List.size_toArray]; omega)
      have ea : its.toArray ++ its2.toArray = (its ++ its2).toArray := by simp
      rw [ea]
      exact ⟨.ref _, _, I.lnew (t' := s.toks) (r.append r2) (by rw [List.length_append]; omega), rfl, q _ _ I.fresh (h2.append h4)⟩
    · cases e
  · cases e
theorem o_sub : Op2 X (binaryOp .Sub) gSub := by
  intro pins s σ H x y v u dx dy dz I rx ry hx hy e Q q
  unfold gSub at e
  split at e
  · cases e
    cases hx.int; cases hy.int
    exact op_sub pins s σ H _ _ v u Q I rx ry ⟨_, _, rfl, rfl, q _ H (.refl H) (.int _)⟩
  · cases e
theorem small64_iff {i : Int} (h : small64 i = true) : -(2 ^ 64) < i ∧ i < 2 ^ 64 := by
  unfold small64 at h
  rw [Bool.and_eq_true, decide_eq_true_eq, decide_eq_true_eq] at h
  exact h
theorem o_mul : Op2 X (binaryOp .Mult) gMul := by
  intro pins s σ H x y v u dx dy dz I rx ry hx hy e Q q
  unfold gMul at e
  split at e
  · split at e
    · rename_i hz
      cases e
      cases hx.int; cases hy.int
      refine op_mul pins s σ H _ _ v u Q I rx ry ⟨_, _, rfl, rfl, ?_, q _ H (.refl H) (.int _)⟩
      rw [Bool.or_eq_true] at hz
      exact hz.imp small64_iff small64_iff
    · cases e
  · rename_i ds k
    split at e
    · rename_i hz
      cases e
      rw [Bool.and_eq_true, Bool.and_eq_true, Bool.and_eq_true, decide_eq_true_eq, decide_eq_true_eq, decide_eq_true_eq] at hz
      obtain ⟨⟨⟨z1, z2⟩, z3⟩, z4⟩ := hz
      obtain ⟨a, xs, rfl, h1, h2⟩ := hx.tuple
      cases hy.int
      have e1 := h2.length
      refine op_repT pins s σ H _ _ v u Q I rx ry ⟨a, k, xs, rfl, rfl, h1.sq, ?_, z2, z3, by omega, fun p hp => ?_⟩
      · rintro rfl
        cases h2
        simp at z1
      · exact q _ _ (Same.new hp) (.tup (.inl upd_same) ((DzAll.le (.same (Same.new hp)) _ h2).rep _))
    · cases e
  · cases e
theorem o_rep : Op2L X (binaryOp .Mult) gRep := by
  intro pins s σ H x y v u dx dy ds I rx ry hx hy e Q q
  unfold gRep at e
  split at e
  · rename_i ds k
    split at e
    · rename_i hz
      cases e
      rw [Bool.and_eq_true, Bool.and_eq_true, decide_eq_true_eq, decide_eq_true_eq, decide_eq_true_eq] at hz
      obtain ⟨⟨h1, h2⟩, hz⟩ := hz
      obtain ⟨l, xs, rfl, h3, h4⟩ := hx.list
      cases hy.int
      have el := h4.length
      cases rx
      obtain ⟨t, rfl⟩ := ry
      obtain ⟨z, its, n, r, hl, e⟩ := Inv.rdL I h3
      have hlen : its.toArray.size * k.toNat ≤ sizeLine := by rw [List.size_toArray, ← hl, el]; exact hz
      have hcap : ¬ its.toArray.size * k.toNat > (2 ^ 63 - 1) / 8 := by
        have : (sizeLine : Nat) ≤ (2 ^ 63 - 1) / 8 := by decide
        omega
      have hfit : ¬ (!Builtin.List.listFitsIndex k) = true := by
        rw [fitsIndex_both h1 h2]
        exact Bool.false_ne_true
      have hlong : ¬ Builtin.List.listTooLong (its.toArray.size * k.toNat) = true := by
        rw [notLongL hlen]
        exact Bool.false_ne_true
      have hnew : List.foldl (fun x1 x2 => x1 ++ x2) #[] (List.replicate (if its.toArray.isEmpty = true then 0 else k.toNat) its.toArray) = (List.replicate k.toNat its).flatten.toArray := by
        have f0 : ∀ m : Nat, List.foldl (fun x1 x2 => x1 ++ x2) #[] (List.replicate m its.toArray) = (List.replicate m its).flatten.toArray := fun m => by
          have := foldl_rep its m []
          rw [List.nil_append] at this
          exact this
        rw [f0]
        cases its with
        | nil => simp
        | cons a r' => rw [if_neg (by simp)]
      refine wpAny_binaryOp_repeat_ref (T := "list") (U := "int") (by decide) ⟨_, e, rfl⟩ (fun s' => typeIs_int s' k t) noFill_list_mul F.fills_int_mul F.slot_int_rmul repeat_list F.slot_int_index.lookup
        (call_meets F.slot_int_rmul (typeIs_int s k t) F.entry_int_rmul (F.args_int_rmul_2 _ _) (int___rmul___int_list k t l its.toArray n)
          ⟨e, rfl, ⟨_, e, rfl⟩, call_meets F.slot_list_mul ⟨_, e, rfl⟩ F.entry_list_mul (F.args_list_mul_2 _ _) (AutoListH.list___mul___list_int_3 l its.toArray n k t hfit hcap hlong) ⟨e, ?_⟩⟩)
      rw [hnew]
      exact ⟨.ref _, _, I.lnew (t' := s.toks) (r.rep k.toNat) (by rw [PyProof.Rows.lm_len_rep_flat, Nat.mul_comm, el]; exact hz), rfl, q _ _ I.fresh (h4.rep _)⟩
    · cases e
  · cases e
theorem o_div : Op2 X (binaryOp .FloorDiv) gDiv := by
  intro pins s σ H x y v u dx dy dz I rx ry hx hy e Q q
  unfold gDiv at e
  split at e
  · split at e
    · rename_i hz
      cases e
      rw [Bool.and_eq_true, decide_eq_true_eq, decide_eq_true_eq] at hz
      cases hx.int; cases hy.int
      exact op_fdiv pins s σ H _ _ v u Q I rx ry ⟨_, _, rfl, rfl, hz, q _ H (.refl H) (.int _)⟩
    · cases e
  · cases e
theorem o_mod : Op2 X (binaryOp .Mod) gMod := by
  intro pins s σ H x y v u dx dy dz I rx ry hx hy e Q q
  unfold gMod at e
  split at e
  · split at e
    · rename_i hz
      cases e
      cases hx.int; cases hy.int
      exact op_mod pins s σ H _ _ v u Q I rx ry ⟨_, _, rfl, rfl, hz, q _ H (.refl H) (.int _)⟩
    · cases e
  · cases e
theorem o_pow : Op2 X (binaryOp .Pow) gPow := by
  intro pins s σ H x y v u dx dy dz I rx ry hx hy e Q q
  unfold gPow at e
  split at e
  · split at e
    · rename_i hz
      cases e
      rw [Bool.and_eq_true, Bool.and_eq_true, decide_eq_true_eq, decide_eq_true_eq, decide_eq_true_eq] at hz
      cases hx.int; cases hy.int
      exact op_pow pins s σ H _ _ v u Q I rx ry ⟨_, _, rfl, rfl, ⟨hz.1.1, hz.1.2, hz.2⟩, q _ H (.refl H) (.int _)⟩
    · cases e
  · cases e
theorem o_eq (hu : X.A.units + 64 < cLine) : Op2 X (compareOp .Eq) gEq := by
  intro pins s σ H x y v u dx dy dz I rx ry hx hy e Q q
  unfold gEq at e
  split at e
  · rename_i hz
    rw [Bool.and_eq_true] at hz
    cases e
    exact op_eqD hu pins s σ H _ _ v u Q I rx ry ⟨_, _, hx.dp, hy.dp, hz.1, hz.2, q _ H (.refl H) (.bl _)⟩
  · cases e
theorem o_ne (hu : X.A.units + 64 < cLine) : Op2 X (compareOp .NotEq) gNe := by
  intro pins s σ H x y v u dx dy dz I rx ry hx hy e Q q
  unfold gNe at e
  split at e
  · rename_i hz
    rw [Bool.and_eq_true] at hz
    cases e
    exact op_neD hu pins s σ H _ _ v u Q I rx ry ⟨_, _, hx.dp, hy.dp, hz.1, hz.2, q _ H (.refl H) (.bl _)⟩
  · cases e
theorem o_lt : Op2 X (compareOp .Lt) gLt := by
  intro pins s σ H x y v u dx dy dz I rx ry hx hy e Q q
  unfold gLt at e
  split at e
  · cases e
    cases hx.int; cases hy.int
    exact op_lt pins s σ H _ _ v u Q I rx ry ⟨_, _, rfl, rfl, q _ H (.refl H) (.bl _)⟩
  · cases e
    cases hx.str; cases hy.str
    exact op_lt_str pins s σ H _ _ v u Q I rx ry ⟨_, _, rfl, rfl, q _ H (.refl H) (.bl _)⟩
  · cases e
theorem o_gt : Op2 X (compareOp .Gt) gGt := by
  intro pins s σ H x y v u dx dy dz I rx ry hx hy e Q q
  unfold gGt at e
  split at e
  · cases e
    cases hx.int; cases hy.int
    exact op_gt pins s σ H _ _ v u Q I rx ry ⟨_, _, rfl, rfl, q _ H (.refl H) (.bl _)⟩
  · cases e
theorem o_le : Op2 X (compareOp .LtE) gLe := by
  intro pins s σ H x y v u dx dy dz I rx ry hx hy e Q q
  unfold gLe at e
  split at e
  · cases e
    cases hx.int; cases hy.int
    exact op_le pins s σ H _ _ v u Q I rx ry ⟨_, _, rfl, rfl, q _ H (.refl H) (.bl _)⟩
  · cases e
theorem o_ge : Op2 X (compareOp .GtE) gGe := by
  intro pins s σ H x y v u dx dy dz I rx ry hx hy e Q q
  unfold gGe at e
  split at e
  · cases e
    cases hx.int; cases hy.int
    exact op_ge pins s σ H _ _ v u Q I rx ry ⟨_, _, rfl, rfl, q _ H (.refl H) (.bl _)⟩
  · cases e
theorem o_is : Op2 X (compareOp .Is) gIs := by
  intro pins s σ H x y v u dx dy dz I rx ry hx hy e Q q
  unfold gIs at e
  split at e
  · cases e
    cases hx.bool; cases hy.bool
    exact op_isBl pins s σ H _ _ v u Q I rx ry ⟨_, _, rfl, rfl, q _ H (.refl H) (.bl _)⟩
  · cases e
    cases hx.non; cases hy.non
    exact op_isN pins s σ H _ _ v u Q I rx ry ⟨rfl, q _ H (.refl H) (.bl _)⟩
  · cases e
    cases hx.int; cases hy.non
    exact op_isN pins s σ H _ _ v u Q I rx ry ⟨rfl, q _ H (.refl H) (.bl _)⟩
  · cases e
    cases hx.bool; cases hy.non
    exact op_isN pins s σ H _ _ v u Q I rx ry ⟨rfl, q _ H (.refl H) (.bl _)⟩
  · cases e
    cases hx.str; cases hy.non
    exact op_isN pins s σ H _ _ v u Q I rx ry ⟨rfl, q _ H (.refl H) (.bl _)⟩
  · cases e
    obtain ⟨a, xs, rfl, h1, h2⟩ := hx.tuple
    cases hy.non
    exact op_isN pins s σ H _ _ v u Q I rx ry ⟨rfl, q _ H (.refl H) (.bl _)⟩
  · cases e
    obtain ⟨a, xs, rfl, h1, h2⟩ := hx.list
    cases hy.non
    exact op_isN pins s σ H _ _ v u Q I rx ry ⟨rfl, q _ H (.refl H) (.bl _)⟩
  · cases e
theorem o_isnot : Op2 X (compareOp .IsNot) gIsNot := by
  intro pins s σ H x y v u dx dy dz I rx ry hx hy e Q q
  unfold gIsNot at e
  split at e
  · cases e
    cases hx.bool; cases hy.bool
    exact op_notBl pins s σ H _ _ v u Q I rx ry ⟨_, _, rfl, rfl, q _ H (.refl H) (.bl _)⟩
  · cases e
    cases hx.non; cases hy.non
    exact op_notN pins s σ H _ _ v u Q I rx ry ⟨rfl, q _ H (.refl H) (.bl _)⟩
  · cases e
    cases hx.int; cases hy.non
    exact op_notN pins s σ H _ _ v u Q I rx ry ⟨rfl, q _ H (.refl H) (.bl _)⟩
  · cases e
    cases hx.bool; cases hy.non
    exact op_notN pins s σ H _ _ v u Q I rx ry ⟨rfl, q _ H (.refl H) (.bl _)⟩
  · cases e
    cases hx.str; cases hy.non
    exact op_notN pins s σ H _ _ v u Q I rx ry ⟨rfl, q _ H (.refl H) (.bl _)⟩
  · cases e
    obtain ⟨a, xs, rfl, h1, h2⟩ := hx.tuple
    cases hy.non
    exact op_notN pins s σ H _ _ v u Q I rx ry ⟨rfl, q _ H (.refl H) (.bl _)⟩
  · cases e
    obtain ⟨a, xs, rfl, h1, h2⟩ := hx.list
    cases hy.non
    exact op_notN pins s σ H _ _ v u Q I rx ry ⟨rfl, q _ H (.refl H) (.bl _)⟩
  · cases e
end
end DL
end

/- EL3 -/
section
set_option maxHeartbeats 4000000
namespace DL
open PySem PySem.Spec PyProof.Rows L2

/-! ### truth, tests -/
def truD : PyData → Option Bool
  | .none => some false
  | .bool b => some b
  | .int i => some (i != 0)
  | .str y => if y.length ≤ sizeLine then some ((y.length : Int) != 0) else none
  | .list xs => some (!xs.isEmpty)
  | .tuple xs => some (!xs.isEmpty)
  | .dict _ => none
def mTru (v : Vl) : M Bool := M.bind v.get fun d => M.opt (truD d)
def mTst (m : M Vl) : M Bool := M.bind m mTru
def mBoo (v : Vl) : M Bool := match v with
  | .d (.bool b) => M.pure b
  | _ => M.stuck
def mTB (m : M Vl) : M Bool := M.bind m mBoo
def mAnd (a b : M Bool) : M Bool := M.bind a fun c => if c = true then b else M.pure false
def mOr (a b : M Bool) : M Bool := M.bind a fun c => if c = true then M.pure true else b
def mNot (a : M Bool) : M Bool := M.bind a fun c => M.pure (!c)
def mIf {α : Type} (c : M Bool) (a b : M α) : M α := M.bind c fun k => if k = true then a else b
def mAndV (a b : M Vl) : M Vl := M.bind a fun v => M.bind (mTru v) fun k => if k = true then b else M.pure v
def mOrV (a b : M Vl) : M Vl := M.bind a fun v => M.bind (mTru v) fun k => if k = true then M.pure v else b
def mNotV (a : M Vl) : M Vl := M.bind a fun v => M.bind (mTru v) fun k => mC (.bool (!k))
def mChn (g g' : PyData → PyData → Option PyData) (ma mb mc : M Vl) : M Vl := M.bind ma fun va => M.bind mb fun vb => M.bind va.get fun x => M.bind vb.get fun y => M.bind (M.opt (g x y)) fun r => match r with
  | .bool true => M.bind mc fun vc => M.bind vb.get fun y => M.bind vc.get fun z => M.opt ((g' y z).map Vl.d)
  | .bool false => mC (.bool false)
  | _ => M.stuck
section
variable {X : Cx} {C : Ct} {T : List (Addr × Str)} {W : WX} {σ : L2.St} {H : Hp} {env : En}
theorem isEmpty_dz {K : PySem.W.Frag} {xs : List V} {ds : List PyData} (h : DzAll K H xs ds) : (!ds.isEmpty) = !xs.isEmpty := by cases h <;> rfl
theorem truV_of {u : V} {d : PyData} {k : Bool} (h : Rz X.K H u d) (e : truD d = some k) : TruV X.K u H k := by
  cases d with
  | none => cases h.non; cases e; rfl
  | bool b => cases h.bool; cases e; rfl
  | int i => cases h.int; cases e; rfl
  | str y =>
    cases h.str
    unfold truD at e
    dsimp only at e
    split at e
    · rename_i hz
      cases e
      exact ⟨hz, rfl⟩
    · cases e
  | list ds =>
    obtain ⟨a, xs, rfl, h1, h2⟩ := h.list
    cases e
    exact .inl ⟨xs, h1.sq, isEmpty_dz h2⟩
  | tuple ds =>
    obtain ⟨a, xs, rfl, h1, h2⟩ := h.tuple
    cases e
    exact .inr (.inl ⟨xs, h1.sq, isEmpty_dz h2⟩)
  | dict k => exact h.nodict.elim
theorem Lf.tru {α β : Type} {RV : β → Hp → α → En → Prop} {k : Bool → M α} {Q : β → Hp → Prop} {u : V} {v : Vl} (h : Lf X.K X.mg C W σ H RV (M.bind (mTru v) k env) Q) (r : Rel X.K C H σ env) (hv : VR X.K σ u H v) :
    ∃ b, TruV X.K u H b ∧ Lf X.K X.mg C W σ H RV (k b env) Q := by
  have h' : Lf X.K X.mg C W σ H RV (M.bind v.get (fun d => M.bind (M.opt (truD d)) k) env) Q := by
    have e : M.bind (mTru v) k env = M.bind v.get (fun d => M.bind (M.opt (truD d)) k) env := by
      unfold mTru M.bind
      dsimp only
      cases v.get env <;> rfl
    rw [← e]
    exact h
  obtain ⟨d, z, h1⟩ := Lf.get h' r hv
  obtain ⟨b, e, h2⟩ := Lf.optB h1
  exact ⟨b, truV_of z e, h2⟩
theorem M.bind_pure {α : Type} (m : M α) : M.bind m M.pure = m := by
  funext env
  unfold M.bind M.pure
  cases m env <;> rfl
theorem M.bind_assoc {α β γ : Type} (m : M α) (k : α → M β) (l : β → M γ) : M.bind (M.bind m k) l = M.bind m fun a => M.bind (k a) l := by
  funext env
  unfold M.bind
  cases m env <;> rfl
end
section
variable {X : Cx} {C : Ct} {T : List (Addr × Str)} {W : WX} {a b c : Expr} {rest : List Expr} {ma mb mc : M Vl} {ta tb : M Bool} {pos : Pos}
theorem dt_tru (ha : DE X T W a ma) (he : ∀ whole, isTrue a X.env whole = (do let v ← whole; standAt a.pos; holding [v] (truthy v)) := by intro _; rfl) : DT X T W a (mTst ma) := by
  refine ⟨fun C hC => ⟨fun pins s σ H Q I h => (pt_truth (ha.pe C hC) he).run pins s σ H Q I ?_⟩⟩
  obtain ⟨env, r, h⟩ := h
  refine ⟨env, r, Lf.bind h fun u H1 v env1 r1 hv l1 h1 => ?_⟩
  rw [← M.bind_pure (mTru v)] at h1
  obtain ⟨b, z, h2⟩ := Lf.tru h1 r1 hv
  exact ⟨b, z, h2 b H1 r1 rfl (.refl H1)⟩
theorem Lf.boo {K : PySem.W.Frag} {mg : Str → Option Value} {σ : L2.St} {H : Hp} {env : En} {Q : Bool → Hp → Prop} {u : V} {v : Vl} (h : Lf K mg C W σ H (fun b _ v _ => b = v) (mBoo v env) Q) (r : Rel K C H σ env) (hv : VR K σ u H v) : ∃ k, u = .bl k ∧ Q k H := by
  cases v with
  | sl i => exact h.elim
  | d x =>
    cases x with
    | bool b =>
      cases hv
      exact ⟨b, rfl, h b H r rfl (.refl H)⟩
    | _ => exact h.elim
theorem dt_cmp {op : CmpOp} {g : PyData → PyData → Option PyData} (ho : Op2 X (compareOp op) g) (ha : DE X T W a ma) (hb : DE X T W b mb) (hm : behindInMarks op b = false) : DT X T W (.Compare a [op] [b] pos) (mTB (mBin g ma mb)) := by
  refine ⟨fun C hC => ⟨fun pins s σ H Q I h => (pt_cmpR ho.opR (ha.pe C hC) (hb.pe C hC) hm).run pins s σ H Q I ?_⟩⟩
  obtain ⟨env, r, h⟩ := h
  have h2 : lift X.K X.mg C W (mBin g ma mb) σ H fun u H1 => ∃ k, u = .bl k ∧ Q k H1 := ⟨env, r, Lf.bind h fun u H1 v env1 r1 hv l1 h1 => Lf.boo h1 r1 hv⟩
  exact lift_bin h2
theorem lift_chn {g g' : PyData → PyData → Option PyData} {σ : L2.St} {H : Hp} {Q : VK} (h : lift X.K X.mg C W (mChn g g' ma mb mc) σ H Q) :
    tChain (r2 X.K g) (r2 X.K g') (lift X.K X.mg C W ma) (lift X.K X.mg C W mb) (lift X.K X.mg C W mc) σ H Q := by
  obtain ⟨env, r, h⟩ := h
  refine ⟨env, r, Lf.bind h fun u H1 va env1 r1 hv1 l1 h1 => ⟨env1, r1, Lf.bind h1 fun y H2 vb env2 r2' hv2 l2 h2 => ?_⟩⟩
  obtain ⟨dx, zx, h3⟩ := Lf.get h2 r2' (hv1.le l2)
  obtain ⟨dy, zy, h4⟩ := Lf.get h3 r2' hv2
  obtain ⟨dz, e, h5⟩ := Lf.optB h4
  refine ⟨dx, dy, dz, zx, zy, e, fun z H3 sm hz => ?_⟩
  have r3 := r2'.grow sm
  cases dz with
  | bool k =>
    cases hz
    refine ⟨k, rfl, ?_⟩
    cases k with
    | true =>
      rw [if_pos rfl]
      have h5 := Lf.mono h5 (.same sm) fun _ _ z => z
      refine ⟨env2, r3, Lf.bind h5 fun w H4 vc env4 r4 hv4 l4 h6 => ?_⟩
      obtain ⟨dy', zy', h7⟩ := Lf.get h6 r4 (hv2.le ((Le.same sm).trans l4))
      obtain ⟨dw, zw, h8⟩ := Lf.get h7 r4 hv4
      obtain ⟨dv, e2, h9⟩ := Lf.opt h8 r4
      exact ⟨dy', dw, dv, zy', zw, e2, h9⟩
    | false =>
      rw [if_neg (by decide)]
      exact h5 (.bl false) H3 r3 (.bl false) (.same sm)
  | _ => exact h5.elim
theorem de_chn {op op' : CmpOp} {g g' : PyData → PyData → Option PyData} (ho : Op2 X (compareOp op) g) (ho' : Op2 X (compareOp op') g') (ha : DE X T W a ma) (hb : DE X T W b mb) (hc : DE X T W c mc)
    (hm : lastMarks [op, op'] [b, c] = false := by with_unfolding_all rfl) : DE X T W (.Compare a [op, op'] [b, c] pos) (mChn g g' ma mb mc) :=
  ⟨fun C hC => ⟨fun pins s σ H Q I h => (pe_chain ho.opR ho'.opR (ha.pe C hC) (hb.pe C hC) (hc.pe C hC) hm).run pins s σ H Q I (lift_chn h)⟩⟩
theorem dt_chn {op op' : CmpOp} {g g' : PyData → PyData → Option PyData} (ho : Op2 X (compareOp op) g) (ho' : Op2 X (compareOp op') g') (ha : DE X T W a ma) (hb : DE X T W b mb) (hc : DE X T W c mc)
    (hm : lastMarks [op, op'] [b, c] = false := by with_unfolding_all rfl) : DT X T W (.Compare a [op, op'] [b, c] pos) (mTB (mChn g g' ma mb mc)) := by
  refine ⟨fun C hC => ⟨fun pins s σ H Q I h => (pt_chain ho.opR ho'.opR (ha.pe C hC) (hb.pe C hC) (hc.pe C hC) hm).run pins s σ H Q I ?_⟩⟩
  obtain ⟨env, r, h⟩ := h
  have h2 : lift X.K X.mg C W (mChn g g' ma mb mc) σ H fun u H1 => ∃ k, u = .bl k ∧ Q k H1 := ⟨env, r, Lf.bind h fun u H1 v env1 r1 hv l1 h1 => Lf.boo h1 r1 hv⟩
  exact lift_chn h2
theorem dt_w {e : Expr} {m : M Bool} (h : DW X T W e m) : DT X T W e m := ⟨fun C hC => (h.pw C hC).pt⟩
theorem dw_and1 (ha : DT X T W a ta) : DW X T W (.BoolOp .And [a] pos) ta := ⟨fun C hC => pw_and1 (ha.pt C hC)⟩
theorem dw_or1 (ha : DT X T W a ta) : DW X T W (.BoolOp .Or [a] pos) ta := ⟨fun C hC => pw_or1 (ha.pt C hC)⟩
theorem dw_and (ha : DT X T W a ta) (hb : DW X T W (.BoolOp .And (b :: rest) pos) tb) : DW X T W (.BoolOp .And (a :: b :: rest) pos) (mAnd ta tb) := by
  refine ⟨fun C hC => ⟨fun whole pins s σ H Q I h => (pw_and (ha.pt C hC) (hb.pw C hC)).run whole pins s σ H Q I ?_⟩⟩
  obtain ⟨env, r, h⟩ := h
  refine ⟨env, r, Lf.bind h fun c H1 v env1 r1 hv l1 h1 => ?_⟩
  subst hv
  cases c with
  | true => exact ⟨env1, r1, h1⟩
  | false => exact h1 false H1 r1 rfl (.refl H1)
theorem dw_or (ha : DT X T W a ta) (hb : DW X T W (.BoolOp .Or (b :: rest) pos) tb) : DW X T W (.BoolOp .Or (a :: b :: rest) pos) (mOr ta tb) := by
  refine ⟨fun C hC => ⟨fun whole pins s σ H Q I h => (pw_or (ha.pt C hC) (hb.pw C hC)).run whole pins s σ H Q I ?_⟩⟩
  obtain ⟨env, r, h⟩ := h
  refine ⟨env, r, Lf.bind h fun c H1 v env1 r1 hv l1 h1 => ?_⟩
  subst hv
  cases c with
  | true => exact h1 true H1 r1 rfl (.refl H1)
  | false => exact ⟨env1, r1, h1⟩
theorem dt_not (ha : DT X T W a ta) : DT X T W (.UnaryOp .Not a pos) (mNot ta) := by
  refine ⟨fun C hC => ⟨fun pins s σ H Q I h => (pt_not (ha.pt C hC)).run pins s σ H Q I ?_⟩⟩
  obtain ⟨env, r, h⟩ := h
  refine ⟨env, r, Lf.bind h fun c H1 v env1 r1 hv l1 h1 => ?_⟩
  subst hv
  exact h1 (!c) H1 r1 rfl (.refl H1)
theorem de_one {op} (h : DE X T W a ma) : DE X T W (.BoolOp op [a] pos) ma := ⟨fun C hC => pe_one (h.pe C hC)⟩
theorem de_and (ha : DE X T W a ma) (hb : DE X T W (.BoolOp .And (b :: rest) pos) mb) : DE X T W (.BoolOp .And (a :: b :: rest) pos) (mAndV ma mb) := by
  refine ⟨fun C hC => ⟨fun pins s σ H Q I h => (pe_andT (ha.pe C hC) (hb.pe C hC)).run pins s σ H Q I ?_⟩⟩
  obtain ⟨env, r, h⟩ := h
  refine ⟨env, r, Lf.bind h fun u H1 v env1 r1 hv l1 h1 => ?_⟩
  obtain ⟨k, z, h2⟩ := Lf.tru h1 r1 hv
  refine ⟨k, z, ?_⟩
  cases k with
  | true => exact ⟨env1, r1, h2⟩
  | false => exact h2 u H1 r1 hv (.refl H1)
theorem de_or (ha : DE X T W a ma) (hb : DE X T W (.BoolOp .Or (b :: rest) pos) mb) : DE X T W (.BoolOp .Or (a :: b :: rest) pos) (mOrV ma mb) := by
  refine ⟨fun C hC => ⟨fun pins s σ H Q I h => (pe_orT (ha.pe C hC) (hb.pe C hC)).run pins s σ H Q I ?_⟩⟩
  obtain ⟨env, r, h⟩ := h
  refine ⟨env, r, Lf.bind h fun u H1 v env1 r1 hv l1 h1 => ?_⟩
  obtain ⟨k, z, h2⟩ := Lf.tru h1 r1 hv
  refine ⟨k, z, ?_⟩
  cases k with
  | true => exact h2 u H1 r1 hv (.refl H1)
  | false => exact ⟨env1, r1, h2⟩
theorem de_not (ha : DE X T W a ma) : DE X T W (.UnaryOp .Not a pos) (mNotV ma) := by
  refine ⟨fun C hC => ⟨fun pins s σ H Q I h => (pe_notT (ha.pe C hC)).run pins s σ H Q I ?_⟩⟩
  obtain ⟨env, r, h⟩ := h
  refine ⟨env, r, Lf.bind h fun u H1 v env1 r1 hv l1 h1 => ?_⟩
  obtain ⟨k, z, h2⟩ := Lf.tru h1 r1 hv
  exact ⟨k, z, h2 (.bl (!k)) H1 r1 (.bl _) (.refl H1)⟩
theorem de_if (hc : DT X T W c ta) (ha : DE X T W a ma) (hb : DE X T W b mb) : DE X T W (.IfExp c a b pos) (mIf ta ma mb) := by
  refine ⟨fun C hC => ⟨fun pins s σ H Q I h => (pe_ifExp (hc.pt C hC) (ha.pe C hC) (hb.pe C hC)).run pins s σ H Q I ?_⟩⟩
  obtain ⟨env, r, h⟩ := h
  refine ⟨env, r, Lf.bind h fun k H1 v env1 r1 hv l1 h1 => ?_⟩
  subst hv
  cases k with
  | true => exact ⟨env1, r1, h1⟩
  | false => exact ⟨env1, r1, h1⟩
end

/-! ### arguments, displays -/
def mNil : M (List Vl) := M.pure []
def mCons (m : M Vl) (ms : M (List Vl)) : M (List Vl) := M.bind m fun v => M.bind ms fun vs => M.pure (v :: vs)
def mTup (m : M (List Vl)) : M Vl := M.bind m fun vs => M.bind (leakAll vs) fun ds => if ds.length ≤ sizeLine then mC (.tuple ds) else M.stuck
def mLst (m : M (List Vl)) : M (List PyData) := M.bind m fun vs => M.bind (leakAll vs) fun ds => if ds.length ≤ sizeLine then M.pure ds else M.stuck
section
variable {X : Cx} {C : Ct} {T : List (Addr × Str)} {W : WX} {e : Expr} {es : List Expr} {m : M Vl} {ms : M (List Vl)} {pos : Pos}
theorem da_nil : DA X T W [] mNil := by
  refine ⟨fun C hC => ⟨fun pos pins s σ H Q I h => pa_nil.run pos pins s σ H Q I ?_⟩⟩
  obtain ⟨env, r, h⟩ := h
  exact h [] H r trivial (.refl H)
theorem da_cons (he : DE X T W e m) (hs : DA X T W es ms) (hst : starEach (e :: es) X.env = (false, eval e X.env) :: starEach es X.env := by rfl) : DA X T W (e :: es) (mCons m ms) := by
  refine ⟨fun C hC => ⟨fun pos pins s σ H Q I h => (pa_cons (he.pe C hC) (hs.pa C hC) hst).run pos pins s σ H Q I ?_⟩⟩
  obtain ⟨env, r, h⟩ := h
  refine ⟨env, r, Lf.bind h fun u H1 v env1 r1 hv l1 h1 => ⟨env1, r1, Lf.bind h1 fun us H2 vs env2 r2' hvs l2 h2 => ?_⟩⟩
  exact h2 (u :: us) H2 r2' ⟨hv.le l2, hvs⟩ (.refl H2)
theorem leakAll_len : ∀ {vs : List Vl} {ds : List PyData} {env env' : En}, leakAll vs env = .ok ds env' → vs.length = ds.length
  | [], ds, env, env', e => by cases e; rfl
  | v :: vs, ds, env, env', e => by
    unfold leakAll M.bind at e
    dsimp only at e
    cases q : leak v env with
    | ok d env3 =>
      rw [q] at e
      dsimp only at e
      cases q2 : leakAll vs env3 with
      | ok ds' env4 =>
        rw [q2] at e
        cases e
        have := leakAll_len q2
        simp [this]
      | err y env4 => rw [q2] at e; cases e
      | stuck => rw [q2] at e; cases e
    | err y env3 => rw [q] at e; cases e
    | stuck => rw [q] at e; cases e
theorem de_tup {k} (h : DA X T W es ms) : DE X T W (.Tuple es k pos) (mTup ms) := by
  refine ⟨fun C hC => ⟨fun pins s σ H Q I hq => (pe_ghost (pe_tup (h.pa C hC))).run pins s σ H Q I ?_⟩⟩
  obtain ⟨env, r, hq⟩ := hq
  refine ⟨env, r, Lf.bind hq fun us H1 vs env1 r1 hv l1 h1 => ?_⟩
  obtain ⟨ds, env2, e1, h2⟩ := Lf.leakAll h1 r1 hv
  by_cases hz : ds.length ≤ sizeLine
  · rw [if_pos hz] at h2
    have el : us.length ≤ sizeLine := by
      have e2 := hv.length
      have e3 := leakAll_len e1
      omega
    refine ⟨el, fun p hp => ?_⟩
    have sm : Same H1 (upd H1 p (.tup us)) := Same.new hp
    refine (leakAll_ok (r1.grow sm) (hv.le (.same sm)) e1).imp fun H3 ⟨r3, z3, l3, _, _⟩ => ?_
    exact h2 (.ref p) H3 r3 (.tup (.inl (l3.t _ _ upd_same)) z3) ((Le.same sm).trans l3)
  · rw [if_neg hz] at h2
    exact h2.elim
theorem do_lst (h : DA X T W es ms) : DO X T W (.List es pos) (mLst ms) := by
  refine ⟨fun C hC => ⟨fun pins s σ H Q I hq => (pe_ghost (pe_lst (h.pa C hC))).run pins s σ H Q I ?_⟩⟩
  obtain ⟨env, r, hq⟩ := hq
  refine ⟨env, r, Lf.bind hq fun us H1 vs env1 r1 hv l1 h1 => ?_⟩
  obtain ⟨ds, env2, e1, h2⟩ := Lf.leakAll h1 r1 hv
  by_cases hz : ds.length ≤ sizeLine
  · rw [if_pos hz] at h2
    have el : us.length ≤ sizeLine := by
      have e2 := hv.length
      have e3 := leakAll_len e1
      omega
    refine ⟨el, fun p hp => ?_⟩
    have sm : Same H1 (upd H1 p (.lst us)) := Same.new hp
    refine (leakAll_ok (r1.grow sm) (hv.le (.same sm)) e1).imp fun H3 ⟨r3, z3, l3, o3, k3⟩ => ?_
    have np : ∀ (i : Nat) b es, env1[i]? = some (some (.own b es)) → σ[i]? ≠ some (some (.ref p)) := fun i b es q z => by
      obtain ⟨a', ys, q1, q2, _, _⟩ := r1.own i b es q
      rw [q1] at z
      cases z
      rw [hp] at q2
      cases q2
    exact h2 (.ref p) H3 r3 ⟨p, us, rfl, o3 p _ upd_same np, z3, r1.dom p hp, r1.domP hp, fun i b es q => np i b es (k3 i b es q)⟩ ((Le.same sm).trans l3)
  · rw [if_neg hz] at h2
    exact h2.elim
end

/-! ### subscripts -/
def gIx : PyData → PyData → Option PyData
  | .list xs, .int i => atI xs i
  | .tuple xs, .int i => atI xs i
  | .str z, .int i => if z.length ≤ sizeLine then (atI z.cps.toList i).map fun c => .str ⟨#[c]⟩ else none
  | _, _ => none
theorem atI_dz {K : PySem.W.Frag} {H : Hp} {xs : List V} {ds : List PyData} {i : Int} {d : PyData} (h : DzAll K H xs ds) (e : atI ds i = some d) : ∃ v, atI xs i = some v ∧ Dz K H v d := by
  unfold atI at e ⊢
  rw [h.length]
  cases q : ixN ds.length i with
  | none => rw [q] at e; cases e
  | some j =>
    rw [q] at e
    obtain ⟨v, h1, h2⟩ := h.get (show ds[j]? = some d from e)
    exact ⟨v, h1, h2⟩
theorem ix_d {X : Cx} : IxR X (r2 X.K gIx) := by
  intro value slice pins s σ H x y v u Q I rx ry h hs
  obtain ⟨dx, dy, dz, hx, hy, e, q⟩ := h
  refine ix_seq value slice pins s σ H x y v u Q I rx ry ?_ hs
  unfold gIx at e
  split at e
  · obtain ⟨a, xs, rfl, h1, h2⟩ := hx.list
    cases hy.int
    obtain ⟨w, e1, e2⟩ := atI_dz h2 e
    exact .inl ⟨a, xs, _, w, rfl, rfl, h1.sq, e1, q w H (.refl H) e2⟩
  · obtain ⟨a, xs, rfl, h1, h2⟩ := hx.tuple
    cases hy.int
    obtain ⟨w, e1, e2⟩ := atI_dz h2 e
    exact .inr (.inl ⟨a, xs, _, w, rfl, rfl, h1.sq, e1, q w H (.refl H) e2⟩)
  · rename_i z i
    split at e
    · rename_i hz
      cases hx.str
      cases hy.int
      cases q2 : atI z.cps.toList i with
      | none => rw [q2] at e; cases e
      | some c =>
        rw [q2] at e
        cases e
        exact .inr (.inr ⟨z, i, c, rfl, rfl, hz, q2, q _ H (.refl H) (.str _)⟩)
    · cases e
  · cases e
theorem de_ix {X : Cx} {W : WX} {a b : Expr} {ma mb : M Vl} {pos : Pos} (ha : DE X T W a ma) (hb : DE X T W b mb) (hs : PlainIx b := by intro _ _; rfl) : DE X T W (.Subscript a b pos) (mBin gIx ma mb) :=
  ⟨fun C hC => ⟨fun pins s σ H Q I h => (pe_ix ix_d (ha.pe C hC) (hb.pe C hC) hs).run pins s σ H Q I (lift_bin h)⟩⟩
end DL
end

/- EL4 -/
section
set_option maxHeartbeats 4000000
namespace DL
open PySem PySem.Spec PyProof.Rows L2

/-! ### calls of built-ins by values -/
def getAll : List Vl → M (List PyData)
  | [] => M.pure []
  | v :: vs => M.bind v.get fun d => M.bind (getAll vs) fun ds => M.pure (d :: ds)
def RzAll (K : PySem.W.Frag) (H : Hp) : List V → List PyData → Prop
  | [], [] => True
  | u :: us, d :: ds => Rz K H u d ∧ RzAll K H us ds
  | _, _ => False
def mCall (g : List PyData → Option PyData) (m : M (List Vl)) : M Vl := M.bind m fun vs => M.bind (getAll vs) fun ds => M.opt ((g ds).map Vl.d)
def mCallL (g : List PyData → Option (List PyData)) (m : M (List Vl)) : M (List PyData) := M.bind m fun vs => M.bind (getAll vs) fun ds => M.opt (g ds)
theorem Lf.getAll {K : PySem.W.Frag} {mg : Str → Option Value} {C : Ct} {W : WX} {σ : L2.St} {H : Hp} {env : En} {α β : Type} {RV : β → Hp → α → En → Prop} {Q : β → Hp → Prop} : ∀ {us : List V} {vs : List Vl} {k : List PyData → M α},
    Lf K mg C W σ H RV (M.bind (getAll vs) k env) Q → Rel K C H σ env → VRs K σ H us vs → ∃ ds, RzAll K H us ds ∧ Lf K mg C W σ H RV (k ds env) Q
  | [], [], k, h, r, hv => ⟨[], trivial, h⟩
  | u :: us, v :: vs, k, h, r, hv => by
    unfold DL.getAll at h
    rw [M.bind_assoc] at h
    obtain ⟨d, z, h1⟩ := Lf.get h r hv.1
    rw [M.bind_assoc] at h1
    obtain ⟨ds, zs, h2⟩ := Lf.getAll h1 r hv.2
    exact ⟨d :: ds, ⟨z, zs⟩, h2⟩
  | [], _ :: _, _, _, _, hv => hv.elim
  | _ :: _, [], _, _, _, hv => hv.elim
def CallD (X : Cx) (f : Value) (g : List PyData → Option PyData) : Prop :=
  ∀ (pins : List (Addr × Obj)) (s : Shared) (σ : L2.St) (H : Hp) (xs : List V) (us : List Value) (ds : List PyData) (d : PyData), Inv X pins σ H s → Vals xs us → RzAll X.K H xs ds → g ds = some d →
    ∀ Q : VK, (∀ z H', Same H H' → Dz X.K H' z d → Q z H') → wpAny (model X.prog X.w) X.A (call f us) (EP X pins σ Q) X.xe s
def CallDL (X : Cx) (f : Value) (g : List PyData → Option (List PyData)) : Prop :=
  ∀ (pins : List (Addr × Obj)) (s : Shared) (σ : L2.St) (H : Hp) (xs : List V) (us : List Value) (ds es : List PyData), Inv X pins σ H s → Vals xs us → RzAll X.K H xs ds → g ds = some es →
    ∀ Q : VK, (∀ p ys, H p = none → DzAll X.K H ys es → Q (.ref p) (upd H p (.lst ys))) → wpAny (model X.prog X.w) X.A (call f us) (EP X pins σ Q) X.xe s
def rD (K : PySem.W.Frag) (g : List PyData → Option PyData) : List V → Hp → VK → Prop := fun xs H Q => ∃ ds d, RzAll K H xs ds ∧ g ds = some d ∧ ∀ z H', Same H H' → Dz K H' z d → Q z H'
def rDL (K : PySem.W.Frag) (g : List PyData → Option (List PyData)) : List V → Hp → VK → Prop := fun xs H Q => ∃ ds es, RzAll K H xs ds ∧ g ds = some es ∧ ∀ p ys, H p = none → DzAll K H ys es → Q (.ref p) (upd H p (.lst ys))
theorem new_OR {K : PySem.W.Frag} {C : Ct} {σ : L2.St} {H : Hp} {env : En} {p : Addr} {xs : List V} {ds : List PyData} (r : Rel K C H σ env) (hp : H p = none) (hz : DzAll K H xs ds) : OR K C σ (.ref p) (upd H p (.lst xs)) ds env := by
  have sm : Same H (upd H p (.lst xs)) := Same.new hp
  refine ⟨p, xs, rfl, upd_same, DzAll.le (.same sm) ds hz, r.dom p hp, r.domP hp, fun i b es q z => ?_⟩
  obtain ⟨a', ys, q1, q2, _, _⟩ := r.own i b es q
  rw [q1] at z
  cases z
  rw [hp] at q2
  cases q2
section
variable {X : Cx} {C : Ct} {T : List (Addr × Str)} {W : WX} {e : Expr} {es : List Expr} {m : M (List Vl)} {p pos : Pos} {x : Str} {id : String}
theorem CallD.r {f : Value} {g : List PyData → Option PyData} (h : CallD X f g) : CallR X f (rD X.K g) := fun pins s σ H xs us Q I r ⟨ds, d, h1, h2, q⟩ => h pins s σ H xs us ds d I r h1 h2 Q q
theorem CallDL.r {f : Value} {g : List PyData → Option (List PyData)} (h : CallDL X f g) : CallR X f (rDL X.K g) := fun pins s σ H xs us Q I r ⟨ds, d, h1, h2, q⟩ => h pins s σ H xs us ds d I r h1 h2 Q q
theorem lift_call {g : List PyData → Option PyData} {σ : L2.St} {H : Hp} {Q : VK} (h : lift X.K X.mg C W (mCall g m) σ H Q) : tCB (rD X.K g) (liftA X.K X.mg C W m) σ H Q := by
  obtain ⟨env, r, h⟩ := h
  refine ⟨env, r, Lf.bind h fun us H1 vs env1 r1 hv l1 h1 => ?_⟩
  obtain ⟨ds, z, h2⟩ := Lf.getAll h1 r1 hv
  obtain ⟨d, e, h3⟩ := Lf.opt h2 r1
  exact ⟨ds, d, z, e, h3⟩
theorem lift_callL {g : List PyData → Option (List PyData)} {σ : L2.St} {H : Hp} {Q : VK} (h : liftO X.K X.mg C W (mCallL g m) σ H Q) : tCB (rDL X.K g) (liftA X.K X.mg C W m) σ H Q := by
  obtain ⟨env, r, h⟩ := h
  refine ⟨env, r, Lf.bind h fun us H1 vs env1 r1 hv l1 h1 => ?_⟩
  obtain ⟨ds, z, h2⟩ := Lf.getAll h1 r1 hv
  cases e : g ds with
  | none => rw [e] at h2; exact h2.elim
  | some es =>
    rw [e] at h2
    refine ⟨ds, es, z, e, fun p ys hp hz => ?_⟩
    exact h2 (.ref p) _ (r1.grow (Same.new hp)) (new_OR r1 hp hz) (.same (Same.new hp))
theorem de_callB {g : List PyData → Option PyData} (hc : CallD X (.builtin id) g) (hg : Gl X x) (hm : X.mg x = none) (hv : bootBuiltins x = some (.builtin id)) (ha : DA X T W (e :: es) m) (hn : x ≠ "__name__" := by decide) (hdb : (x == ("__debug__" : Str)) = false := by decide)
    (he : starEach (e :: es) X.env = (false, eval e X.env) :: starEach es X.env := by rfl) (hpl : (backTo pos (starEach es X.env)).any (·.1) = false := by rfl) : DE X T W (.Call (.Name x p) (e :: es) [] pos) (mCall g m) :=
  ⟨fun C hC => ⟨fun pins s σ H Q I h => (pe_callB hc.r hg hm hv (ha.pa C hC) hn hdb he hpl).run pins s σ H Q I (lift_call h)⟩⟩
theorem de_callTy {g : List PyData → Option PyData} (hc : CallD X (.type id) g) (hg : Gl X x) (hm : X.mg x = none) (hv : bootBuiltins x = some (.type id)) (ha : DA X T W (e :: es) m) (hn : x ≠ "__name__" := by decide) (hdb : (x == ("__debug__" : Str)) = false := by decide)
    (he : starEach (e :: es) X.env = (false, eval e X.env) :: starEach es X.env := by rfl) (hpl : (backTo pos (starEach es X.env)).any (·.1) = false := by rfl) : DE X T W (.Call (.Name x p) (e :: es) [] pos) (mCall g m) :=
  ⟨fun C hC => ⟨fun pins s σ H Q I h => (pe_callTy hc.r hg hm hv (ha.pa C hC) hn hdb he hpl).run pins s σ H Q I (lift_call h)⟩⟩
theorem do_callB {g : List PyData → Option (List PyData)} (hc : CallDL X (.builtin id) g) (hg : Gl X x) (hm : X.mg x = none) (hv : bootBuiltins x = some (.builtin id)) (ha : DA X T W (e :: es) m) (hn : x ≠ "__name__" := by decide) (hdb : (x == ("__debug__" : Str)) = false := by decide)
    (he : starEach (e :: es) X.env = (false, eval e X.env) :: starEach es X.env := by rfl) (hpl : (backTo pos (starEach es X.env)).any (·.1) = false := by rfl) : DO X T W (.Call (.Name x p) (e :: es) [] pos) (mCallL g m) :=
  ⟨fun C hC => ⟨fun pins s σ H Q I h => (pe_callB hc.r hg hm hv (ha.pa C hC) hn hdb he hpl).run pins s σ H Q I (lift_callL h)⟩⟩
theorem do_callTy {g : List PyData → Option (List PyData)} (hc : CallDL X (.type id) g) (hg : Gl X x) (hm : X.mg x = none) (hv : bootBuiltins x = some (.type id)) (ha : DA X T W (e :: es) m) (hn : x ≠ "__name__" := by decide) (hdb : (x == ("__debug__" : Str)) = false := by decide)
    (he : starEach (e :: es) X.env = (false, eval e X.env) :: starEach es X.env := by rfl) (hpl : (backTo pos (starEach es X.env)).any (·.1) = false := by rfl) : DO X T W (.Call (.Name x p) (e :: es) [] pos) (mCallL g m) :=
  ⟨fun C hC => ⟨fun pins s σ H Q I h => (pe_callTy hc.r hg hm hv (ha.pa C hC) hn hdb he hpl).run pins s σ H Q I (lift_callL h)⟩⟩
end

/-! ### the built-ins' data -/
def toInts : List PyData → Option (List Int)
  | [] => some []
  | .int i :: ds => (toInts ds).map (i :: ·)
  | _ :: _ => none
theorem toInts_eq : ∀ {ds : List PyData} {ns : List Int}, toInts ds = some ns → ds = ns.map .int
  | [], ns, e => by cases e; rfl
  | d :: ds, ns, e => by
    cases d with
    | int i =>
      unfold toInts at e
      cases q : toInts ds with
      | none => rw [q] at e; cases e
      | some ms =>
        rw [q] at e
        cases e
        rw [List.map_cons, toInts_eq q]
    | _ => cases e
@[simp] theorem toInts_map : ∀ ns : List Int, toInts (ns.map .int) = some ns
  | [] => rfl
  | n :: ns => by
    rw [List.map_cons]
    show (toInts (ns.map .int)).map (n :: ·) = _
    rw [toInts_map ns] <;> rfl
def toBools : List PyData → Option (List Bool)
  | [] => some []
  | .bool i :: ds => (toBools ds).map (i :: ·)
  | _ :: _ => none
theorem toBools_eq : ∀ {ds : List PyData} {ns : List Bool}, toBools ds = some ns → ds = ns.map .bool
  | [], ns, e => by cases e; rfl
  | d :: ds, ns, e => by
    cases d with
    | bool i =>
      unfold toBools at e
      cases q : toBools ds with
      | none => rw [q] at e; cases e
      | some ms =>
        rw [q] at e
        cases e
        rw [List.map_cons, toBools_eq q]
    | _ => cases e
@[simp] theorem toBools_map : ∀ ns : List Bool, toBools (ns.map .bool) = some ns
  | [] => rfl
  | n :: ns => by
    rw [List.map_cons]
    show (toBools (ns.map .bool)).map (n :: ·) = _
    rw [toBools_map ns] <;> rfl
def gLen : List PyData → Option PyData
  | [.list xs] => some (.int xs.length)
  | [.tuple xs] => some (.int xs.length)
  | [.str z] => if z.length ≤ sizeLine then some (.int z.length) else none
  | _ => none
def gAbs : List PyData → Option PyData
  | [.int i] => some (.int (if i < 0 then -i else i))
  | _ => none
def gInt : List PyData → Option PyData
  | [.int i] => some (.int i)
  | [.bool k] => some (.int (if k then 1 else 0))
  | [.str z] => if z.length ≤ 640 then (PySem.intText? z).map .int else none
  | _ => none
def gStr : List PyData → Option PyData
  | [.int i] => if i.natAbs.log2 < 1920 then some (.str (toString i)) else none
  | _ => none
def gTup : List PyData → Option PyData
  | [.list xs] => some (.tuple xs)
  | [.tuple xs] => some (.tuple xs)
  | _ => none
def gLst : List PyData → Option (List PyData)
  | [.list xs] => some xs
  | [.tuple xs] => some xs
  | _ => none
def gSum : List PyData → Option PyData
  | [.list xs] => (toInts xs).map fun ns => .int ns.sum
  | _ => none
def gAny : List PyData → Option PyData
  | [.list xs] => (toBools xs).map fun bs => .bool (bs.any id)
  | _ => none
def gAll : List PyData → Option PyData
  | [.list xs] => (toBools xs).map fun bs => .bool (bs.all id)
  | _ => none
def maxI : List Int → Option Int
  | [] => none
  | n :: ns => some (ns.foldl max n)
def minI : List Int → Option Int
  | [] => none
  | n :: ns => some (ns.foldl min n)
def gMax : List PyData → Option PyData
  | [.list xs] => (toInts xs).bind fun ns => (maxI ns).map .int
  | [.int i, .int j] => some (.int (if j > i then j else i))
  | _ => none
def gMin : List PyData → Option PyData
  | [.list xs] => (toInts xs).bind fun ns => (minI ns).map .int
  | [.int i, .int j] => some (.int (if j < i then j else i))
  | _ => none
def sortI (ns : List Int) : List Int := ns.mergeSort fun a b => decide (a ≤ b)
def gSorted : List PyData → Option (List PyData)
  | [.list xs] => (toInts xs).map fun ns => (sortI ns).map .int
  | _ => none
theorem foldl_max : ∀ (ns : List Int) (n : Int), ns.foldl max n ∈ n :: ns ∧ ∀ y ∈ n :: ns, y ≤ ns.foldl max n
  | [], n => ⟨List.mem_cons_self, fun y hy => by simp at hy; subst hy; exact Int.le_refl _⟩
  | m :: ns, n => by
    obtain ⟨h1, h2⟩ := foldl_max ns (max n m)
    refine ⟨?_, fun y hy => ?_⟩
    · rcases List.mem_cons.mp h1 with e | e
      · rw [List.foldl_cons, e]
        by_cases h : n ≤ m
        · rw [Int.max_eq_right h]; simp
        · rw [Int.max_eq_left (by omega)]; simp
      · exact List.mem_cons_of_mem _ (List.mem_cons_of_mem _ e)
    · have h3 := h2 (max n m) List.mem_cons_self
      rcases List.mem_cons.mp hy with e | hy
      · subst e; rw [List.foldl_cons]; omega
      · rcases List.mem_cons.mp hy with e | hy
        · subst e; rw [List.foldl_cons]; omega
        · exact h2 y (List.mem_cons_of_mem _ hy)
theorem foldl_min : ∀ (ns : List Int) (n : Int), ns.foldl min n ∈ n :: ns ∧ ∀ y ∈ n :: ns, ns.foldl min n ≤ y
  | [], n => ⟨List.mem_cons_self, fun y hy => by simp at hy; subst hy; exact Int.le_refl _⟩
  | m :: ns, n => by
    obtain ⟨h1, h2⟩ := foldl_min ns (min n m)
    refine ⟨?_, fun y hy => ?_⟩
    · rcases List.mem_cons.mp h1 with e | e
      · rw [List.foldl_cons, e]
        by_cases h : n ≤ m
        · rw [Int.min_eq_left h]; simp
        · rw [Int.min_eq_right (by omega)]; simp
      · exact List.mem_cons_of_mem _ (List.mem_cons_of_mem _ e)
    · have h3 := h2 (min n m) List.mem_cons_self
      rcases List.mem_cons.mp hy with e | hy
      · subst e; rw [List.foldl_cons]; omega
      · rcases List.mem_cons.mp hy with e | hy
        · subst e; rw [List.foldl_cons]; omega
        · exact h2 y (List.mem_cons_of_mem _ hy)
theorem sortI_perm (ns : List Int) : (sortI ns).Perm ns := List.mergeSort_perm _ _
theorem sortI_le (ns : List Int) : (sortI ns).Pairwise (· ≤ ·) := by
  have h := List.pairwise_mergeSort (le := fun a b : Int => decide (a ≤ b)) (fun a b c h1 h2 => by simp at *; omega) (fun a b => by simp; omega) ns
  exact h.imp fun h => by simpa using h
theorem sorted_one : ∀ {l m : List Int}, l.Perm m → l.Pairwise (· ≤ ·) → m.Pairwise (· ≤ ·) → l = m
  | [], m, h, _, _ => (List.nil_perm.mp h).symm
  | a :: l, [], h, _, _ => absurd h.length_eq (by simp)
  | a :: l, b :: m, h, hl, hm => by
    have h1 : a ∈ b :: m := h.subset List.mem_cons_self
    have h2 : b ∈ a :: l := h.symm.subset List.mem_cons_self
    have e : a = b := by
      rcases List.mem_cons.mp h1 with e | h1
      · exact e
      · rcases List.mem_cons.mp h2 with e | h2
        · exact e.symm
        · have := List.rel_of_pairwise_cons hl h2
          have := List.rel_of_pairwise_cons hm h1
          omega
    subst e
    rw [sorted_one (List.Perm.cons_inv h) (List.Pairwise.of_cons hl) (List.Pairwise.of_cons hm)]
section
variable {X : Cx}
theorem RzAll.one {K : PySem.W.Frag} {H : Hp} {xs : List V} {d : PyData} (h : RzAll K H xs [d]) : ∃ x, xs = [x] ∧ Rz K H x d := by
  match xs, h with
  | [x], h => exact ⟨x, rfl, h.1⟩
theorem RzAll.two {K : PySem.W.Frag} {H : Hp} {xs : List V} {d e : PyData} (h : RzAll K H xs [d, e]) : ∃ x y, xs = [x, y] ∧ Rz K H x d ∧ Rz K H y e := by
  match xs, h with
  | [x, y], h => exact ⟨x, y, rfl, h.1, h.2.1⟩
theorem c_len : CallD X (.builtin "len") gLen := by
  intro pins s σ H xs us ds d I r hz e Q q
  unfold gLen at e
  split at e
  · cases e
    obtain ⟨x, rfl, h⟩ := hz.one
    obtain ⟨a, ys, rfl, h1, h2⟩ := h.list
    refine call_len_seq pins s σ H _ us Q I r ⟨a, ys, rfl, .inl h1.sq, ?_⟩
    rw [h2.length]
    exact q _ H (.refl H) (.int _)
  · cases e
    obtain ⟨x, rfl, h⟩ := hz.one
    obtain ⟨a, ys, rfl, h1, h2⟩ := h.tuple
    refine call_len_seq pins s σ H _ us Q I r ⟨a, ys, rfl, .inr h1.sq, ?_⟩
    rw [h2.length]
    exact q _ H (.refl H) (.int _)
  · split at e
    · rename_i hs
      cases e
      obtain ⟨x, rfl, h⟩ := hz.one
      cases h.str
      exact call_len_str pins s σ H _ us Q I r ⟨_, rfl, hs, q _ H (.refl H) (.int _)⟩
    · cases e
  · cases e
theorem c_abs : CallD X (.builtin "abs") gAbs := by
  intro pins s σ H xs us ds d I r hz e Q q
  unfold gAbs at e
  split at e
  · cases e
    obtain ⟨x, rfl, h⟩ := hz.one
    cases h.int
    exact call_abs pins s σ H _ us Q I r ⟨_, rfl, q _ H (.refl H) (.int _)⟩
  · cases e
theorem c_int : CallD X (.type "int") gInt := by
  intro pins s σ H xs us ds d I r hz e Q q
  unfold gInt at e
  split at e
  · cases e
    obtain ⟨x, rfl, h⟩ := hz.one
    cases h.int
    exact call_int1 pins s σ H _ us Q I r (.inl ⟨_, rfl, q _ H (.refl H) (.int _)⟩)
  · cases e
    obtain ⟨x, rfl, h⟩ := hz.one
    cases h.bool
    exact call_int1 pins s σ H _ us Q I r (.inr ⟨_, rfl, q _ H (.refl H) (.int _)⟩)
  · rename_i z
    split at e
    · rename_i hs
      obtain ⟨x, rfl, h⟩ := hz.one
      cases h.str
      cases q2 : PySem.intText? z with
      | none => rw [q2] at e; cases e
      | some n =>
        rw [q2] at e
        cases e
        exact call_int_str pins s σ H _ us Q I r ⟨_, _, rfl, q2, hs, q _ H (.refl H) (.int _)⟩
    · cases e
  · cases e
theorem c_str : CallD X (.type "str") gStr := by
  intro pins s σ H xs us ds d I r hz e Q q
  unfold gStr at e
  split at e
  · split at e
    · rename_i hs
      cases e
      obtain ⟨x, rfl, h⟩ := hz.one
      cases h.int
      exact call_str_int pins s σ H _ us Q I r ⟨_, rfl, hs, q _ H (.refl H) (.str _)⟩
    · cases e
  · cases e
theorem c_tup : CallD X (.type "tuple") gTup := by
  intro pins s σ H xs us ds d I r hz e Q q
  unfold gTup at e
  split at e
  · cases e
    obtain ⟨x, rfl, h⟩ := hz.one
    obtain ⟨a, ys, rfl, h1, h2⟩ := h.list
    refine call_tuple_of pins s σ H _ us Q I r ⟨a, ys, rfl, .inl ⟨h1.sq, fun l hl => ?_⟩⟩
    exact q _ _ (Same.new hl) (.tup (.inl upd_same) (DzAll.le (.same (Same.new hl)) _ h2))
  · cases e
    obtain ⟨x, rfl, h⟩ := hz.one
    obtain ⟨a, ys, rfl, h1, h2⟩ := h.tuple
    exact call_tuple_of pins s σ H _ us Q I r ⟨a, ys, rfl, .inr ⟨h1.sq, q _ H (.refl H) (.tup h1 h2)⟩⟩
  · cases e
theorem c_lst : CallDL X (.type "list") gLst := by
  intro pins s σ H xs us ds d I r hz e Q q
  unfold gLst at e
  split at e
  · cases e
    obtain ⟨x, rfl, h⟩ := hz.one
    obtain ⟨a, ys, rfl, h1, h2⟩ := h.list
    exact call_list_of pins s σ H _ us Q I r ⟨a, ys, rfl, .inl h1.sq, fun l hl => q l ys hl h2⟩
  · cases e
    obtain ⟨x, rfl, h⟩ := hz.one
    obtain ⟨a, ys, rfl, h1, h2⟩ := h.tuple
    exact call_list_of pins s σ H _ us Q I r ⟨a, ys, rfl, .inr h1.sq, fun l hl => q l ys hl h2⟩
  · cases e
theorem Rz.ints {K : PySem.W.Frag} {H : Hp} {u : V} {ds : List PyData} {ns : List Int} (h : Rz K H u (.list ds)) (e : toInts ds = some ns) : ∃ a, u = .ref a ∧ SqL K H a (ns.map V.int) := by
  obtain ⟨a, ys, rfl, h1, h2⟩ := h.list
  rw [toInts_eq e] at h2
  rw [DzAll.ints h2] at h1
  exact ⟨a, rfl, h1.sq⟩
theorem Rz.bools {K : PySem.W.Frag} {H : Hp} {u : V} {ds : List PyData} {ns : List Bool} (h : Rz K H u (.list ds)) (e : toBools ds = some ns) : ∃ a, u = .ref a ∧ SqL K H a (ns.map V.bl) := by
  obtain ⟨a, ys, rfl, h1, h2⟩ := h.list
  rw [toBools_eq e] at h2
  rw [DzAll.bools h2] at h1
  exact ⟨a, rfl, h1.sq⟩
theorem c_sum (hc : X.calm = true) : CallD X (.builtin "sum") gSum := by
  intro pins s σ H xs us ds d I r hz e Q q
  unfold gSum at e
  split at e
  · rename_i es
    obtain ⟨x, rfl, h⟩ := hz.one
    cases q2 : toInts es with
    | none => rw [q2] at e; cases e
    | some ns =>
      rw [q2] at e
      cases e
      obtain ⟨a, rfl, h1⟩ := h.ints q2
      exact cr_sum hc pins s σ H _ us Q I r ⟨a, ns, rfl, h1, q _ H (.refl H) (.int _)⟩
  · cases e
theorem c_any (hc : X.calm = true) : CallD X (.builtin "any") gAny := by
  intro pins s σ H xs us ds d I r hz e Q q
  unfold gAny at e
  split at e
  · rename_i es
    obtain ⟨x, rfl, h⟩ := hz.one
    cases q2 : toBools es with
    | none => rw [q2] at e; cases e
    | some ns =>
      rw [q2] at e
      cases e
      obtain ⟨a, rfl, h1⟩ := h.bools q2
      exact cr_any hc pins s σ H _ us Q I r ⟨a, ns, rfl, h1, q _ H (.refl H) (.bl _)⟩
  · cases e
theorem c_all (hc : X.calm = true) : CallD X (.builtin "all") gAll := by
  intro pins s σ H xs us ds d I r hz e Q q
  unfold gAll at e
  split at e
  · rename_i es
    obtain ⟨x, rfl, h⟩ := hz.one
    cases q2 : toBools es with
    | none => rw [q2] at e; cases e
    | some ns =>
      rw [q2] at e
      cases e
      obtain ⟨a, rfl, h1⟩ := h.bools q2
      exact cr_all hc pins s σ H _ us Q I r ⟨a, ns, rfl, h1, q _ H (.refl H) (.bl _)⟩
  · cases e
theorem c_max (hc : X.calm = true) : CallD X (.builtin "max") gMax := by
  intro pins s σ H xs us ds d I r hz e Q q
  unfold gMax at e
  split at e
  · rename_i es
    obtain ⟨x, rfl, h⟩ := hz.one
    cases q2 : toInts es with
    | none => rw [q2] at e; cases e
    | some ns =>
      rw [q2] at e
      cases ns with
      | nil => cases e
      | cons n ns =>
        cases e
        obtain ⟨a, rfl, h1⟩ := h.ints q2
        refine cr_max hc pins s σ H _ us Q I r ⟨a, n :: ns, rfl, h1, by simp, fun m hm hy => ?_⟩
        obtain ⟨z1, z2⟩ := foldl_max ns n
        have e1 := hy _ z1
        have e2 := z2 m hm
        rw [show m = ns.foldl max n by omega]
        exact q _ H (.refl H) (.int _)
  · cases e
    obtain ⟨x, y, rfl, h, h'⟩ := hz.two
    cases h.int; cases h'.int
    exact call_max2 hc pins s σ H _ us Q I r ⟨_, _, rfl, q _ H (.refl H) (.int _)⟩
  · cases e
theorem c_min (hc : X.calm = true) : CallD X (.builtin "min") gMin := by
  intro pins s σ H xs us ds d I r hz e Q q
  unfold gMin at e
  split at e
  · rename_i es
    obtain ⟨x, rfl, h⟩ := hz.one
    cases q2 : toInts es with
    | none => rw [q2] at e; cases e
    | some ns =>
      rw [q2] at e
      cases ns with
      | nil => cases e
      | cons n ns =>
        cases e
        obtain ⟨a, rfl, h1⟩ := h.ints q2
        refine cr_min hc pins s σ H _ us Q I r ⟨a, n :: ns, rfl, h1, by simp, fun m hm hy => ?_⟩
        obtain ⟨z1, z2⟩ := foldl_min ns n
        have e1 := hy _ z1
        have e2 := z2 m hm
        rw [show m = ns.foldl min n by omega]
        exact q _ H (.refl H) (.int _)
  · cases e
    obtain ⟨x, y, rfl, h, h'⟩ := hz.two
    cases h.int; cases h'.int
    exact call_min2 hc pins s σ H _ us Q I r ⟨_, _, rfl, q _ H (.refl H) (.int _)⟩
  · cases e
theorem c_sorted : CallDL X (.builtin "sorted") gSorted := by
  intro pins s σ H xs us ds d I r hz e Q q
  unfold gSorted at e
  split at e
  · rename_i es
    obtain ⟨x, rfl, h⟩ := hz.one
    cases q2 : toInts es with
    | none => rw [q2] at e; cases e
    | some ns =>
      rw [q2] at e
      cases e
      obtain ⟨a, rfl, h1⟩ := h.ints q2
      refine cr_sortedI pins s σ H _ us Q I r ⟨a, ns, rfl, h1, fun ns' p hp hs hn => ?_⟩
      rw [sorted_one (hp.trans (sortI_perm ns).symm) hs (sortI_le ns)]
      exact q p _ hn (DzAll.of_ints _)
  · cases e
end

/-! ### isinstance -/
def tyName : PyData → String
  | .none => "NoneType"
  | .bool _ => "bool"
  | .int _ => "int"
  | .str _ => "str"
  | .list _ => "list"
  | .tuple _ => "tuple"
  | .dict _ => "dict"
def isInt : PyData → Bool
  | .int _ => true
  | .bool _ => true
  | _ => false
def isBool : PyData → Bool
  | .bool _ => true
  | _ => false
def isStr : PyData → Bool
  | .str _ => true
  | _ => false
def isTup : PyData → Bool
  | .tuple _ => true
  | _ => false
def isLst : PyData → Bool
  | .list _ => true
  | _ => false
def mIsi (g : PyData → Bool) (m : M Vl) : M Vl := M.bind m fun v => M.bind v.get fun d => mC (.bool (g d))
theorem tyX_of {K : PySem.W.Frag} {H : Hp} {u : V} {d : PyData} (h : Rz K H u d) : TyX K H u (.type (tyName d)) := by
  cases d with
  | none => cases h.non; exact .base .non
  | bool b => cases h.bool; exact .base (.bl b)
  | int i => cases h.int; exact .base (.int i)
  | str y => cases h.str; exact .base (.str y)
  | list ds =>
    obtain ⟨a, xs, rfl, h1, h2⟩ := h.list
    rcases h1 with (h1 | ⟨o, h1⟩) | ⟨its, n, h1, _⟩
    · exact .base (.lst h1)
    · exact .base (.frz h1)
    · exact .kList h1 rfl
  | tuple ds =>
    obtain ⟨a, xs, rfl, h1, h2⟩ := h.tuple
    rcases h1 with h1 | ⟨o, its, n, h1, h3, _⟩
    · exact .base (.tup h1)
    · exact .kTuple h1 h3
  | dict k => exact h.nodict.elim
theorem kit_int : ∀ (d : PyData), (∀ k, d ≠ .dict k) → kitB (tyName d) "int" = some (isInt d)
  | .none, _ => (by decide +kernel : kitB "NoneType" "int" = some false)
  | .bool _, _ => (by decide +kernel : kitB "bool" "int" = some true)
  | .int _, _ => (by decide +kernel : kitB "int" "int" = some true)
  | .str _, _ => (by decide +kernel : kitB "str" "int" = some false)
  | .list _, _ => (by decide +kernel : kitB "list" "int" = some false)
  | .tuple _, _ => (by decide +kernel : kitB "tuple" "int" = some false)
  | .dict k, h => absurd rfl (h k)
theorem kit_bool : ∀ (d : PyData), (∀ k, d ≠ .dict k) → kitB (tyName d) "bool" = some (isBool d)
  | .none, _ => (by decide +kernel : kitB "NoneType" "bool" = some false)
  | .bool _, _ => (by decide +kernel : kitB "bool" "bool" = some true)
  | .int _, _ => (by decide +kernel : kitB "int" "bool" = some false)
  | .str _, _ => (by decide +kernel : kitB "str" "bool" = some false)
  | .list _, _ => (by decide +kernel : kitB "list" "bool" = some false)
  | .tuple _, _ => (by decide +kernel : kitB "tuple" "bool" = some false)
  | .dict k, h => absurd rfl (h k)
theorem kit_str : ∀ (d : PyData), (∀ k, d ≠ .dict k) → kitB (tyName d) "str" = some (isStr d)
  | .none, _ => (by decide +kernel : kitB "NoneType" "str" = some false)
  | .bool _, _ => (by decide +kernel : kitB "bool" "str" = some false)
  | .int _, _ => (by decide +kernel : kitB "int" "str" = some false)
  | .str _, _ => (by decide +kernel : kitB "str" "str" = some true)
  | .list _, _ => (by decide +kernel : kitB "list" "str" = some false)
  | .tuple _, _ => (by decide +kernel : kitB "tuple" "str" = some false)
  | .dict k, h => absurd rfl (h k)
theorem kit_tuple : ∀ (d : PyData), (∀ k, d ≠ .dict k) → kitB (tyName d) "tuple" = some (isTup d)
  | .none, _ => (by decide +kernel : kitB "NoneType" "tuple" = some false)
  | .bool _, _ => (by decide +kernel : kitB "bool" "tuple" = some false)
  | .int _, _ => (by decide +kernel : kitB "int" "tuple" = some false)
  | .str _, _ => (by decide +kernel : kitB "str" "tuple" = some false)
  | .list _, _ => (by decide +kernel : kitB "list" "tuple" = some false)
  | .tuple _, _ => (by decide +kernel : kitB "tuple" "tuple" = some true)
  | .dict k, h => absurd rfl (h k)
theorem kit_list : ∀ (d : PyData), (∀ k, d ≠ .dict k) → kitB (tyName d) "list" = some (isLst d)
  | .none, _ => (by decide +kernel : kitB "NoneType" "list" = some false)
  | .bool _, _ => (by decide +kernel : kitB "bool" "list" = some false)
  | .int _, _ => (by decide +kernel : kitB "int" "list" = some false)
  | .str _, _ => (by decide +kernel : kitB "str" "list" = some false)
  | .list _, _ => (by decide +kernel : kitB "list" "list" = some true)
  | .tuple _, _ => (by decide +kernel : kitB "tuple" "list" = some false)
  | .dict k, h => absurd rfl (h k)
section
variable {X : Cx} {C : Ct} {T : List (Addr × Str)} {W : WX} {e : Expr} {m : M Vl} {p p2 pos : Pos} {Ty : String}
theorem de_isi {g : PyData → Bool} (hT : ∀ d, (∀ k, d ≠ PyData.dict k) → kitB (tyName d) Ty = some (g d)) (he : DE X T W e m) (hg : Gl X "isinstance") (hm : X.mg "isinstance" = none) (hg2 : Gl X Ty) (hm2 : X.mg Ty = none) (hv : bootBuiltins Ty = some (.type Ty)) (hn : (Ty : Str) ≠ "__name__" := by decide) (hdb : ((Ty : Str) == ("__debug__" : Str)) = false := by decide)
    (hs : starEach [e, .Name Ty p2] X.env = (false, eval e X.env) :: starEach [.Name Ty p2] X.env := by rfl) : DE X T W (.Call (.Name "isinstance" p) [e, .Name Ty p2] [] pos) (mIsi g m) := by
  refine ⟨fun C hC => ⟨fun pins s σ H Q I h => (pe_callB call_isi hg hm boot_isinstance (pa_cons (he.pe C hC) (pa_cons (pe_bltn (v := .ty Ty) hg2 hm2 hv rfl hn hdb) pa_nil) hs) (he := hs)).run pins s σ H Q I ?_⟩⟩
  obtain ⟨env, r, h⟩ := h
  refine ⟨env, r, Lf.bind h fun u H1 v env1 r1 hv l1 h1 => ?_⟩
  obtain ⟨d, z, h2⟩ := Lf.get h1 r1 hv
  have hk := hT d fun k e => by subst e; exact z.nodict
  exact ⟨u, .ty Ty, .type (tyName d), .type Ty, g d, rfl, .ty Ty, tyX_of z, kit_ty hk, h2 (.bl (g d)) H1 r1 (.bl _) (.refl H1)⟩
end
end DL
end

/- EL5 -/
section
set_option maxHeartbeats 4000000
namespace DL
open PySem PySem.Spec PyProof.Rows L2

/-! ### lists and tuples as sources -/
def IterOf (b : Bool) (h : Heap) (it a : Addr) (i : Nat) : Prop := match b with
  | true => h.IsTupleIter it a i
  | false => h.IsListIter it a i
def SeqOf (b : Bool) (h : Heap) (a : Addr) (items : Array Value) : Prop := match b with
  | true => h.IsTuple a items
  | false => h.IsList a items
def Sqb (b : Bool) (K : PySem.W.Frag) (H : Hp) (a : Addr) (xs : List V) : Prop := match b with
  | true => SqT K H a xs
  | false => SqL K H a xs
def seqItObj (b : Bool) (a : Addr) : Obj := match b with
  | true => { cls := .type "tuple_iterator", data := .fields #[.ref a, .int 0 0] }
  | false => { cls := .type "list_iterator", data := .fields #[.ref a, .int 0 0] }
theorem begins_seq (b : Bool) (a : Addr) (items : Array Value) : Begins (.ref a) (seqItObj b a) fun h => SeqOf b h a items := by
  cases b with
  | true => exact begins_tuple a items
  | false => exact begins_list a items
theorem draws_seq (b : Bool) {prog : Program} {w : World} {A : Around} (hh : A.handled = none) (it l : Addr) (hne : l ≠ it) (items : Array Value) :
    Draws prog w A it [it, l] items.size (fun i v => items[i]? = some v) (fun i h => IterOf b h it l i ∧ SeqOf b h l items) := by
  cases b with
  | true => exact Draws.tuple hh it l hne items
  | false => exact Draws.list hh it l hne items
theorem iterOf_begin (b : Bool) {h : Heap} {it a : Addr} (e : h.get? it = some (seqItObj b a)) : IterOf b h it a 0 := by
  cases b with
  | true => exact ⟨_, e, rfl, rfl⟩
  | false => exact ⟨_, e, rfl, rfl⟩
theorem IterOf.ob {b : Bool} {h : Heap} {it a : Addr} {i : Nat} (x : IterOf b h it a i) : ∃ o, h.get? it = some o ∧ ∀ v, o.data ≠ .cell v := by
  cases b with
  | true =>
    obtain ⟨o, e, _, d⟩ := x
    exact ⟨o, e, fun v q => by rw [d] at q; cases q⟩
  | false =>
    obtain ⟨o, e, _, d⟩ := x
    exact ⟨o, e, fun v q => by rw [d] at q; cases q⟩
theorem IterOf.at {b : Bool} {h h' : Heap} {it a : Addr} {i : Nat} (x : IterOf b h it a i) (k : ∀ o, h.get? it = some o → h'.get? it = some o) : IterOf b h' it a i := by
  cases b with
  | true =>
    obtain ⟨o, e, r⟩ := x
    exact ⟨o, k o e, r⟩
  | false =>
    obtain ⟨o, e, r⟩ := x
    exact ⟨o, k o e, r⟩
section
variable {X : Cx} {pins : List (Addr × Obj)} {σ : L2.St} {H : Hp} {s : Shared} {a : Addr} {xs ys : List V} {b : Bool}
theorem Inv.sqb (I : Inv X pins σ H s) (h : Sqb b X.K H a xs) : ∃ its : List Value, Vals xs its ∧ SeqOf b s.heap a its.toArray ∧ xs.length ≤ sizeLine := by
  cases b with
  | true =>
    obtain ⟨its, r, p, z⟩ := I.tuple h
    exact ⟨its, r, p, z⟩
  | false =>
    obtain ⟨its, r, p, z⟩ := I.list h
    exact ⟨its, r, p.isList, z⟩
theorem Inv.sqb_inj (I : Inv X pins σ H s) (h : Sqb b X.K H a xs) (h' : Sqb b X.K H a ys) : xs = ys := by
  cases b with
  | true => exact I.tuple_inj h h'
  | false => exact I.list_inj h h'
theorem SeqOf.lt {b : Bool} {h : Heap} {a : Addr} {items : Array Value} (x : SeqOf b h a items) : a < h.objs.size := by
  cases b with
  | true => obtain ⟨o, e, _⟩ := x; exact Heap.lt_size e
  | false => obtain ⟨o, e, _⟩ := x; exact Heap.lt_size e
end
/-- for v in a list or tuple -/
def ItS (b : Bool) (K : PySem.W.Frag) (a : Addr) : It := match b with
  | true => Itt K a
  | false => Itl K a
def ItzS (K : PySem.W.Frag) (b1 : Bool) (a : Addr) (b2 : Bool) (b : Addr) : It :=
  ⟨fun i H => ∃ (xs ys : List V) (x y : V), Sqb b1 K H a xs ∧ Sqb b2 K H b ys ∧ xs[i]? = some x ∧ ys[i]? = some y,
    fun i H v H' => ∃ T x y, v = .ref T ∧ H T = none ∧ H' = upd H T (.tup [x, y]) ∧ (∀ xs, Sqb b1 K H a xs → xs[i]? = some x) ∧ ∀ ys, Sqb b2 K H b ys → ys[i]? = some y,
    fun i H => ∃ xs ys : List V, Sqb b1 K H a xs ∧ Sqb b2 K H b ys ∧ (i = xs.length ∧ xs.length ≤ ys.length ∨ i = ys.length ∧ ys.length ≤ xs.length)⟩
def IteS (K : PySem.W.Frag) (k : Int) (b1 : Bool) (a : Addr) : It :=
  ⟨fun i H => ∃ (xs : List V) (x : V), Sqb b1 K H a xs ∧ xs[i]? = some x,
    fun i H v H' => ∃ T x, v = .ref T ∧ H T = none ∧ H' = upd H T (.tup [.int (k + (i : Nat)), x]) ∧ ∀ xs, Sqb b1 K H a xs → xs[i]? = some x,
    fun i H => ∃ xs : List V, Sqb b1 K H a xs ∧ i = xs.length⟩
theorem in1_hd {A : Around} (h : A.handled = none) : A.in1.handled = none := h
theorem turn_zipS {P : Program} {w : World} {K : PySem.W.Frag} {elts : List Expr} {kk : Nat} {tpos : Pos} {b1 b2 : Bool} {a b z TI TO i1 i2 : Addr} (D : ZipSep2 z TI TO i1 i2 [i1, a] [i2, b]) (n1 : a ≠ i1) (n2 : b ≠ i2) :
    Turn P w K (.Tuple elts kk tpos) (ItzS K b1 a b2 b) [z, TI, TO, i1, i2] z (fun i h => IsZip h z TI TO .none ∧ IsTupOf2 h TI (.ref i1) (.ref i2) ∧ (∃ x y, IsTupOf2 h TO x y) ∧ IterOf b1 h i1 a i ∧ IterOf b2 h i2 b i) where
  mem := by simp
  obj := fun i h st c hc => by
    obtain ⟨hz, hTI, ⟨x, y, hTO⟩, h1, h2⟩ := st
    have e' : c = z ∨ c = TI ∨ c = TO ∨ c = i1 ∨ c = i2 := by simpa using hc
    rcases e' with q | q | q | q | q
    · rw [q]; exact ⟨_, hz, fun v q => nomatch q⟩
    · rw [q]; exact ⟨_, hTI, fun v q => nomatch q⟩
    · rw [q]; exact ⟨_, hTO, fun v q => nomatch q⟩
    · rw [q]; exact h1.ob
    · rw [q]; exact h2.ob
  keep := fun i h h' st k => by
    obtain ⟨hz, hTI, ⟨x, y, hTO⟩, h1, h2⟩ := st
    exact ⟨k z (by simp) _ hz, k TI (by simp) _ hTI, ⟨x, y, k TO (by simp) _ hTO⟩, h1.at fun o q => k i1 (by simp) o q, h2.at fun o q => k i2 (by simp) o q⟩
  item := by
    intro X hP hw hK hc i pins s σ H E I hf st hg
    subst hP hw hK
    obtain ⟨hz, hTI, hTO, h1, h2⟩ := st
    obtain ⟨xs, ys, x, y, hqx, hqy, hx, hy⟩ := hg
    obtain ⟨its, rv, p, _⟩ := Inv.sqb I hqx
    obtain ⟨its2, rv2, p2, _⟩ := Inv.sqb I hqy
    obtain ⟨u, hu, ru⟩ := rv.get hx
    obtain ⟨u2, hu2, ru2⟩ := rv2.get hy
    have hh : X.A.in1.handled = none := in1_hd (I.ok.hd hc)
    have G := GoesN.zip2 (elts := elts) (x1 := kk) (pos := tpos) (prog := X.prog) (w := X.w) D (draws_seq b1 hh i1 a n1 its.toArray) (draws_seq b2 hh i2 b n2 its2.toArray)
    refine G.goes i s _ E ?_ ⟨hz, hTI, hTO, ⟨h1, p⟩, ⟨h2, p2⟩⟩ fun v h' tk hY st' hk htk => ?_
    · have e1 := (List.getElem?_eq_some_iff.mp hu).1
      have e2 := (List.getElem?_eq_some_iff.mp hu2).1
      simp only [List.size_toArray]
      omega
    · obtain ⟨T, v1, v2, rfl, hTn, e1, e2, hT⟩ := hY
      obtain ⟨z', TI', TO', ⟨h1', _⟩, ⟨h2', _⟩⟩ := st'
      have e1' : u = v1 := by
        have q : its[i]? = some v1 := by simpa using e1
        rw [hu] at q; exact Option.some.inj q
      have e2' : u2 = v2 := by
        have q : its2[i]? = some v2 := by simpa using e2
        rw [hu2] at q; exact Option.some.inj q
      subst e1' e2'
      have new : ObjOk X.prog X.w (upd H T (.tup [x, y])) h' T (.tup [x, y]) :=
        ⟨by show 2 ≤ sizeLine; decide, [u, u2], .cons ru (.cons ru2 .nil), hT⟩
      have I1 : Inv X pins σ (upd H T (.tup [x, y])) { s with heap := h', toks := tk } :=
        I.turnedNew (t' := tk) (ch := [z, TI, TO, i1, i2]) (fun c o hb q => hk c o (fun m => hb (by
          have e' : c = z ∨ c = TO ∨ c = i1 ∨ c = i2 := by simpa using m
          rcases e' with q | q | q | q <;> simp [q])) q) hf hTn new
      refine ⟨.ref T, _, I1, rfl, ⟨T, x, y, rfl, I.hok.fresh hTn, rfl, fun l hl => by rw [Inv.sqb_inj I hl hqx]; exact hx, fun l hl => by rw [Inv.sqb_inj I hl hqy]; exact hy⟩, ⟨z', TI', TO', h1', h2'⟩, fun c hcm => ?_⟩
      have hlt : c < s.heap.objs.size := by
        have e' : c = z ∨ c = TI ∨ c = TO ∨ c = i1 ∨ c = i2 := by simpa using hcm
        obtain ⟨_, _, hTO⟩ := hTO
        rcases e' with q | q | q | q | q
        · rw [q]; exact Heap.lt_size hz
        · rw [q]; exact Heap.lt_size hTI
        · rw [q]; exact Heap.lt_size hTO
        · rw [q]; obtain ⟨_, e1, _⟩ := h1.ob; exact Heap.lt_size e1
        · rw [q]; obtain ⟨_, e1, _⟩ := h2.ob; exact Heap.lt_size e1
      rw [upd_ne (Nat.ne_of_lt (Nat.lt_of_lt_of_le hlt hTn))]
      exact (hf c hcm).1
  done := by
    intro X hP hw hK hc i pins s σ H E I hf st hg
    subst hP hw hK
    obtain ⟨hz, hTI, hTO, h1, h2⟩ := st
    obtain ⟨xs, ys, hqx, hqy, hend⟩ := hg
    obtain ⟨its, rv, p, _⟩ := Inv.sqb I hqx
    obtain ⟨its2, rv2, p2, _⟩ := Inv.sqb I hqy
    have l1 := rv.length
    have l2 := rv2.length
    have hh : X.A.in1.handled = none := in1_hd (I.ok.hd hc)
    have G := GoesN.zip2 (elts := elts) (x1 := kk) (pos := tpos) (prog := X.prog) (w := X.w) D (draws_seq b1 hh i1 a n1 its.toArray) (draws_seq b2 hh i2 b n2 its2.toArray)
    have ei : i = min its.toArray.size its2.toArray.size := by
      simp only [List.size_toArray]
      omega
    refine G.stops s _ E (by rw [← ei]; exact ⟨hz, hTI, hTO, ⟨h1, p⟩, ⟨h2, p2⟩⟩) fun h' tk hk htk => ?_
    exact I.turnedL (t' := tk) (ch := [z, TI, TO, i1, i2]) (fun c o hb q => hk c o (fun m => hb (by
          have e' : c = z ∨ c = TO ∨ c = i1 ∨ c = i2 := by simpa using m
          rcases e' with q | q | q | q <;> simp [q])) q) hf
  self := fun A i s Q E st h => wpAny_pyIter_zip st.1 h
theorem turn_enumS {P : Program} {w : World} {K : PySem.W.Frag} {elts : List Expr} {kk : Nat} {tpos : Pos} {k : Int} {b1 : Bool} {a e it : Addr} (hei : e ≠ it) (hea : e ≠ a) (n1 : a ≠ it) :
    Turn P w K (.Tuple elts kk tpos) (IteS K k b1 a) [e, it] e (fun i h => (∃ old, IsEnum h e it (k + (i : Int)) old) ∧ IterOf b1 h it a i) where
  mem := by simp
  obj := fun i h st c hc => by
    obtain ⟨⟨old, he⟩, h1⟩ := st
    have e' : c = e ∨ c = it := by simpa using hc
    rcases e' with q | q
    · rw [q]; exact ⟨_, he, fun v q => nomatch q⟩
    · rw [q]; exact h1.ob
  keep := fun i h h' st kp => by
    obtain ⟨⟨old, he⟩, h1⟩ := st
    exact ⟨⟨old, kp e (by simp) _ he⟩, h1.at fun o q => kp it (by simp) o q⟩
  item := by
    intro X hP hw hK hc i pins s σ H E I hf st hg
    subst hP hw hK
    obtain ⟨he, h1⟩ := st
    obtain ⟨xs, x, hqx, hx⟩ := hg
    obtain ⟨its, rv, p, _⟩ := Inv.sqb I hqx
    obtain ⟨u, hu, ru⟩ := rv.get hx
    have hh : X.A.in1.handled = none := in1_hd (I.ok.hd hc)
    have G := GoesN.enumFrom (elts := elts) (x1 := kk) (pos := tpos) (prog := X.prog) (w := X.w) k (draws_seq b1 hh it a n1 its.toArray) e hei (by simp [hei, hea]) (by simp)
    refine G.goes i s _ E ?_ ⟨he, h1, p⟩ fun v h' tk hY st' hk htk => ?_
    · have e1 := (List.getElem?_eq_some_iff.mp hu).1
      simpa using e1
    · obtain ⟨T, t, v1, rfl, hTn, e1, hT⟩ := hY
      obtain ⟨he', h1', _⟩ := st'
      have e1' : u = v1 := by
        have q : its[i]? = some v1 := by simpa using e1
        rw [hu] at q; exact Option.some.inj q
      subst e1'
      have new : ObjOk X.prog X.w (upd H T (.tup [.int (k + (i : Nat)), x])) h' T (.tup [.int (k + (i : Nat)), x]) :=
        ⟨by show 2 ≤ sizeLine; decide, [.int (k + (i : Nat)) t, u], .cons ⟨_, rfl⟩ (.cons ru .nil), hT⟩
      have I1 : Inv X pins σ (upd H T (.tup [.int (k + (i : Nat)), x])) { s with heap := h', toks := tk } :=
        I.turnedNew (t' := tk) (ch := [e, it]) (fun c o hb q => hk c o hb q) hf hTn new
      refine ⟨.ref T, _, I1, rfl, ⟨T, x, rfl, I.hok.fresh hTn, rfl, fun l hl => by rw [Inv.sqb_inj I hl hqx]; exact hx⟩, ⟨he', h1'⟩, fun c hcm => ?_⟩
      have hlt : c < s.heap.objs.size := by
        have e' : c = e ∨ c = it := by simpa using hcm
        obtain ⟨_, he⟩ := he
        rcases e' with q | q
        · rw [q]; exact Heap.lt_size he
        · rw [q]; obtain ⟨_, e1, _⟩ := h1.ob; exact Heap.lt_size e1
      rw [upd_ne (Nat.ne_of_lt (Nat.lt_of_lt_of_le hlt hTn))]
      exact (hf c hcm).1
  done := by
    intro X hP hw hK hc i pins s σ H E I hf st hg
    subst hP hw hK
    obtain ⟨he, h1⟩ := st
    obtain ⟨xs, hqx, hend⟩ := hg
    obtain ⟨its, rv, p, _⟩ := Inv.sqb I hqx
    have l1 := rv.length
    have hh : X.A.in1.handled = none := in1_hd (I.ok.hd hc)
    have G := GoesN.enumFrom (elts := elts) (x1 := kk) (pos := tpos) (prog := X.prog) (w := X.w) k (draws_seq b1 hh it a n1 its.toArray) e hei (by simp [hei, hea]) (by simp)
    have ei : i = its.toArray.size := by
      simp only [List.size_toArray]
      omega
    refine G.stops s _ E (by rw [← ei]; exact ⟨he, h1, p⟩) fun h' tk hk htk => ?_
    exact I.turnedL (t' := tk) (ch := [e, it]) (fun c o hb q => hk c o hb q) hf
  self := fun A i s Q E st h => let ⟨⟨_, he⟩, _⟩ := st; wpAny_pyIter_enum he h
end DL
end

/- EL6 -/
section
set_option maxHeartbeats 4000000
namespace DL
open PySem PySem.Spec PyProof.Rows L2

/-! ### what is walked -/
inductive Src where
  | fix (items : List PyData)
  | own (j : Nat)
structure Fix (K : PySem.W.Frag) (J : It) (H1 : Hp) (items : List PyData) : Prop where
  go : ∀ (i : Nat) H, Le H1 H → i < items.length → J.go i H
  yld : ∀ (i : Nat) H x H' d, Le H1 H → J.yld i H x H' → items[i]? = some d → Same H H' ∧ Dz K H' x d
  stop : ∀ H, Le H1 H → J.stop items.length H
def SrcR (K : PySem.W.Frag) (σ : L2.St) (J : It) (H : Hp) : Src → Prop
  | .fix items => Fix K J H items
  | .own j => ∃ a, σ[j]? = some (some (.ref a)) ∧ ∀ (i : Nat) H xs, H a = some (.lst xs) → (i < xs.length → J.go i H) ∧ (∀ x H', J.yld i H x H' → H' = H ∧ xs[i]? = some x) ∧ (xs.length ≤ i → J.stop i H)
def liftI (K : PySem.W.Frag) (mg : Str → Option Value) (C : Ct) (W : WX) (m : M Src) : TI := fun σ H R => ∃ env, Rel K C H σ env ∧ Lf K mg C W σ H (fun J H s _ => SrcR K σ J H s) (m env) R
structure DI (X : Cx) (T : List (Addr × Str)) (W : WX) (tg iter : Expr) (m : M Src) : Prop where
  pi : ∀ C : Ct, C.T = T → PI X tg iter (liftI X.K X.mg C W m)

theorem pa_ghost {X : Cx} {es : List Expr} {t : TA} (h : PA X es t) : PA X es (fun σ H Q => t σ H fun v H1 => Ghost X σ (Q v) H1) := ⟨fun pos pins s σ H Q I hw =>
  thn (h.run pos pins s σ H _ I hw) fun _ s1 ⟨v, H1, I1, r, q⟩ => let ⟨H2, I2, q2⟩ := q pins s1 I1; ⟨v, H2, I2, r, q2⟩⟩
/-- a frozen list or tuple -/
def Sqf (b : Bool) (K : PySem.W.Frag) (H : Hp) (a : Addr) (xs : List V) : Prop := match b with
  | true => FzT K H a xs
  | false => FzL K H a xs
theorem Sqf.sq {b : Bool} {K : PySem.W.Frag} {H : Hp} {a : Addr} {xs : List V} (h : Sqf b K H a xs) : Sqb b K H a xs := by
  cases b with
  | true => exact FzT.sq h
  | false => exact FzL.sq h
theorem Sqf.le {b : Bool} {K : PySem.W.Frag} {H H' : Hp} {a : Addr} {xs : List V} (e : Le H H') (h : Sqf b K H a xs) : Sqf b K H' a xs := by
  cases b with
  | true => exact FzT.le e h
  | false => exact FzL.le e h
def seqB : PyData → Option (Bool × List PyData)
  | .list xs => some (false, xs)
  | .tuple xs => some (true, xs)
  | _ => none
theorem seqB_dz {K : PySem.W.Frag} {H : Hp} {v : V} {d : PyData} {b : Bool} {ds : List PyData} (h : Dz K H v d) (e : seqB d = some (b, ds)) : ∃ a xs, v = .ref a ∧ Sqf b K H a xs ∧ DzAll K H xs ds := by
  cases d with
  | list es =>
    cases e
    cases h with
    | lst h1 h2 => exact ⟨_, _, rfl, h1, h2⟩
  | tuple es =>
    cases e
    cases h with
    | tup h1 h2 => exact ⟨_, _, rfl, h1, h2⟩
  | _ => cases e
section
variable {K : PySem.W.Frag} {H1 : Hp} {a b : Addr} {xs ys : List V} {ds es : List PyData} {b1 b2 : Bool}
theorem fix_list (h : FzL K H1 a xs) (hz : DzAll K H1 xs ds) : Fix K (Itl K a) H1 ds where
  go := fun i H l hi => by
    obtain ⟨v, e, _⟩ := hz.get (List.getElem?_eq_getElem hi)
    exact ⟨xs, v, (h.le l).sq, e⟩
  yld := fun i H x H' d l y hd => by
    obtain ⟨e, hx⟩ := y
    subst e
    obtain ⟨d', e, z⟩ := hz.getV (hx xs (h.le l).sq)
    rw [hd] at e
    cases e
    exact ⟨.refl _, Dz.le l _ z⟩
  stop := fun H l => ⟨xs, (h.le l).sq, Nat.le_of_eq hz.length⟩
theorem fix_tup (h : FzT K H1 a xs) (hz : DzAll K H1 xs ds) : Fix K (Itt K a) H1 ds where
  go := fun i H l hi => by
    obtain ⟨v, e, _⟩ := hz.get (List.getElem?_eq_getElem hi)
    exact ⟨xs, v, (h.le l).sq, e⟩
  yld := fun i H x H' d l y hd => by
    obtain ⟨e, hx⟩ := y
    subst e
    obtain ⟨d', e, z⟩ := hz.getV (hx xs (h.le l).sq)
    rw [hd] at e
    cases e
    exact ⟨.refl _, Dz.le l _ z⟩
  stop := fun H l => ⟨xs, (h.le l).sq, Nat.le_of_eq hz.length⟩
theorem fix_str {x : Str} : Fix K (Its x) H1 (x.cps.toList.map fun c => .str ⟨#[c]⟩) where
  go := fun i H l hi => by
    show i < x.cps.size
    simpa using hi
  yld := fun i H v H' d l y hd => by
    obtain ⟨e, c, hc, hv⟩ := y
    subst e
    subst hv
    have e2 : x.cps.toList[i]? = some c := by simpa using hc
    rw [List.getElem?_map, e2] at hd
    cases hd
    exact ⟨.refl _, .str _⟩
  stop := fun H l => by
    show x.cps.size ≤ _
    simp
theorem fix_range {lo : Int} {n : Nat} : Fix K (Itr lo n) H1 ((List.range n).map fun i => .int (lo + (i : Nat))) where
  go := fun i H l hi => by
    show i < n
    simpa using hi
  yld := fun i H v H' d l y hd => by
    obtain ⟨e, hv⟩ := y
    subst e
    subst hv
    rw [List.getElem?_map] at hd
    cases q : (List.range n)[i]? with
    | none => rw [q] at hd; cases hd
    | some k =>
      rw [q] at hd
      cases hd
      have hk : k = i := by
        have := List.getElem?_eq_some_iff.mp q
        obtain ⟨h1, h2⟩ := this
        simpa using h2.symm
      subst hk
      exact ⟨.refl _, .int _⟩
  stop := fun H l => by
    show n ≤ _
    simp
def zipD (ds es : List PyData) : List PyData := List.zipWith (fun x y => .tuple [x, y]) ds es
def enumD (k : Int) (ds : List PyData) : List PyData := ds.mapIdx fun i x => .tuple [.int (k + (i : Nat)), x]
theorem fix_zip (h1 : Sqf b1 K H1 a xs) (h2 : Sqf b2 K H1 b ys) (z1 : DzAll K H1 xs ds) (z2 : DzAll K H1 ys es) : Fix K (ItzS K b1 a b2 b) H1 (zipD ds es) where
  go := fun i H l hi => by
    have hi' : i < ds.length ∧ i < es.length := by
      unfold zipD at hi
      rw [List.length_zipWith] at hi
      omega
    obtain ⟨x, e1, _⟩ := z1.get (List.getElem?_eq_getElem hi'.1)
    obtain ⟨y, e2, _⟩ := z2.get (List.getElem?_eq_getElem hi'.2)
    exact ⟨xs, ys, x, y, (h1.le l).sq, (h2.le l).sq, e1, e2⟩
  yld := fun i H v H' d l y hd => by
    obtain ⟨T, x, y, rfl, hT, rfl, q1, q2⟩ := y
    obtain ⟨dx, e1, zx⟩ := z1.getV (q1 xs (h1.le l).sq)
    obtain ⟨dy, e2, zy⟩ := z2.getV (q2 ys (h2.le l).sq)
    unfold zipD at hd
    rw [List.getElem?_zipWith, e1, e2] at hd
    cases hd
    have sm : Same H (upd H T (.tup [x, y])) := Same.new hT
    have l2 := l.trans (Le.same sm)
    exact ⟨sm, .tup (.inl upd_same) (.cons (Dz.le l2 _ zx) (.cons (Dz.le l2 _ zy) .nil))⟩
  stop := fun H l => by
    refine ⟨xs, ys, (h1.le l).sq, (h2.le l).sq, ?_⟩
    have e1 := z1.length
    have e2 := z2.length
    unfold zipD
    rw [List.length_zipWith]
    omega
theorem fix_enum {k : Int} (h1 : Sqf b1 K H1 a xs) (z1 : DzAll K H1 xs ds) : Fix K (IteS K k b1 a) H1 (enumD k ds) where
  go := fun i H l hi => by
    have hi' : i < ds.length := by
      unfold enumD at hi
      rw [List.length_mapIdx] at hi
      exact hi
    obtain ⟨x, e1, _⟩ := z1.get (List.getElem?_eq_getElem hi')
    exact ⟨xs, x, (h1.le l).sq, e1⟩
  yld := fun i H v H' d l y hd => by
    obtain ⟨T, x, rfl, hT, rfl, q1⟩ := y
    obtain ⟨dx, e1, zx⟩ := z1.getV (q1 xs (h1.le l).sq)
    unfold enumD at hd
    rw [List.getElem?_mapIdx, e1] at hd
    cases hd
    have sm : Same H (upd H T (.tup [.int (k + (i : Nat)), x])) := Same.new hT
    have l2 := l.trans (Le.same sm)
    exact ⟨sm, .tup (.inl upd_same) (.cons (.int _) (.cons (Dz.le l2 _ zx) .nil))⟩
  stop := fun H l => by
    refine ⟨xs, (h1.le l).sq, ?_⟩
    unfold enumD
    rw [List.length_mapIdx]
    exact z1.length.symm
end
def seqI : PyData → Option (List PyData)
  | .list xs => some xs
  | .tuple xs => some xs
  | .str x => some (x.cps.toList.map fun c => .str ⟨#[c]⟩)
  | _ => none
def mItems (m : M Vl) : M Src := M.bind m fun v => M.bind (leak v) fun d => M.opt ((seqI d).map Src.fix)
def mOwn (j : Nat) : M Src := fun env => match env[j]? with
  | some (some (.own _ (.l _))) => .ok (.own j) env
  | _ => .stuck
def mRange1 (m : M (List Vl)) : M Src := M.bind m fun vs => M.bind (getAll vs) fun ds => match ds with
  | [.int j] => if -(2 ^ 62) ≤ j ∧ j < 2 ^ 62 then M.pure (.fix ((List.range j.toNat).map fun i => .int (0 + (i : Nat)))) else M.stuck
  | _ => M.stuck
def mRange2 (m : M (List Vl)) : M Src := M.bind m fun vs => M.bind (getAll vs) fun ds => match ds with
  | [.int i, .int j] => if -(2 ^ 62) ≤ i ∧ i < 2 ^ 62 ∧ -(2 ^ 62) ≤ j ∧ j < 2 ^ 62 then M.pure (.fix ((List.range (j - i).toNat).map fun k => .int (i + (k : Nat)))) else M.stuck
  | _ => M.stuck
def zipS : List PyData → Option Src
  | [d, e] => match seqB d, seqB e with
    | some (_, ds), some (_, es) => some (.fix (zipD ds es))
    | _, _ => none
  | _ => none
theorem zipS_inv {dd : List PyData} {src : Src} (e : zipS dd = some src) : ∃ d1 d2 b1 b2 ds es, dd = [d1, d2] ∧ seqB d1 = some (b1, ds) ∧ seqB d2 = some (b2, es) ∧ src = .fix (zipD ds es) := by
  match dd, e with
  | [d1, d2], e =>
    cases q1 : seqB d1 with
    | none => simp [zipS, q1] at e
    | some p =>
      cases q2 : seqB d2 with
      | none => simp [zipS, q1, q2] at e
      | some p2 =>
        obtain ⟨b1, ds⟩ := p
        obtain ⟨b2, es⟩ := p2
        simp only [zipS, q1, q2, Option.some.injEq] at e
        exact ⟨d1, d2, b1, b2, ds, es, rfl, rfl.trans q1, q2, e.symm⟩
def mZip (m : M (List Vl)) : M Src := M.bind m fun vs => M.bind (leakAll vs) fun ds => M.opt (zipS ds)
def enumS (k : Int) : List PyData → Option Src
  | [d] => match seqB d with
    | some (_, ds) => some (.fix (enumD k ds))
    | _ => none
  | _ => none
theorem enumS_inv {k : Int} {dd : List PyData} {src : Src} (e : enumS k dd = some src) : ∃ d1 b1 ds, dd = [d1] ∧ seqB d1 = some (b1, ds) ∧ src = .fix (enumD k ds) := by
  match dd, e with
  | [d1], e =>
    cases q1 : seqB d1 with
    | none => simp [enumS, q1] at e
    | some p =>
      obtain ⟨b1, ds⟩ := p
      simp only [enumS, q1, Option.some.injEq] at e
      exact ⟨d1, b1, ds, rfl, q1, e.symm⟩
def enumK : List PyData → Option Src
  | [d, .int k] => if -(2 ^ 63) ≤ k ∧ k < 2 ^ 63 then enumS k [d] else none
  | _ => none
theorem enumK_inv {dd : List PyData} {src : Src} (e : enumK dd = some src) : ∃ d1 b1 ds k, dd = [d1, .int k] ∧ -(2 ^ 63) ≤ k ∧ k < 2 ^ 63 ∧ seqB d1 = some (b1, ds) ∧ src = .fix (enumD k ds) := by
  match dd, e with
  | [d1, .int k], e =>
    by_cases h : -(2 ^ 63) ≤ k ∧ k < 2 ^ 63
    · simp only [enumK, if_pos h] at e
      obtain ⟨d2, b1, ds, e1, q1, e2⟩ := enumS_inv e
      cases e1
      exact ⟨d1, b1, ds, k, rfl, h.1, h.2, q1, e2⟩
    · simp only [enumK, if_neg h] at e
      cases e
def mEnumK (m : M (List Vl)) : M Src := M.bind m fun vs => M.bind (leakAll vs) fun ds => M.opt (enumK ds)
def mEnum (m : M (List Vl)) : M Src := M.bind m fun vs => M.bind (leakAll vs) fun ds => M.opt (enumS 0 ds)
set_option maxHeartbeats 1000000 in
theorem meets_enumerate_newB1 {v : Value} {o : Obj} {H : Heap → Prop} (B : Begins v o H) :
    Meets (Builtin.«enumerate.__new__» ⟨[.type "enumerate", v], []⟩) (fun _ R s => H s.heap ∧
      R (.ok (.ret (.ref (s.heap.push o).objs.size))) { s with heap := (s.heap.push o).push { cls := .type "enumerate", data := .fields #[.none, .bool false, .ref s.heap.objs.size, rawInt 0, .none, .none] } }) :=
  .of_wp fun prog w A R s h => by
    obtain ⟨hp, g, d, tk, os⟩ := s; obtain ⟨h1, h⟩ := h
    have hsub := sub_enumerate
    have q1 : ∀ {A' : Around} {E : Value → Shared → Prop} {Q : Value → Shared → Prop}, Q (.ref hp.objs.size) ⟨hp.push o, g, d, tk, os⟩ → wpAny (model prog w) A' (pyIter v) Q E ⟨hp, g, d, tk, os⟩ :=
      fun q => B.iter prog w _ _ ⟨hp, g, d, tk, os⟩ _ h1 q
    wp_walk using q1
    refine wpAny_stack_any fun st => wpAny_pure ?_
    split
    · rename_i c _ _ _ _ _
      cases (c == Value.type "enumerate")
      · wp_walk using q1
        exact ⟨_, rfl, h⟩
      · wp_walk using q1
        exact ⟨_, rfl, h⟩
    · wp_walk using q1
      exact ⟨_, rfl, h⟩
theorem enum_begins1 {prog : Program} {w : World} {A : Around} {E : Value → Shared → Prop} {s : Shared} {v : Value} {o : Obj} {H : Heap → Prop} {Q : Value → Shared → Prop} (B : Begins v o H) (h1 : H s.heap)
    (h : ∀ h', IsEnum h' (s.heap.objs.size + 1) s.heap.objs.size 0 .none → h'.get? s.heap.objs.size = some o → h'.objs.size = s.heap.objs.size + 2 →
      (∀ b o, s.heap.get? b = some o → h'.get? b = some o) → Q (.ref (s.heap.objs.size + 1)) { s with heap := h' }) :
    wpAny (model prog w) A (call (.type "enumerate") [v]) Q E s := by
  refine callType_new F.called_enumerate (by decide) (F.typeCall_enumerate_1 _) (F.newCall_enumerate_1 _) (fun obj => F.args_object_init_2 obj _) F.entry_enumerate_new
    (meets_enumerate_newB1 B) ⟨h1, ?_⟩
  have hz : (s.heap.push o).objs.size = s.heap.objs.size + 1 := Heap.size_push ..
  show _ ∧ _
  rw [hz]
  have he : IsEnum ((s.heap.push o).push { cls := .type "enumerate", data := .fields #[.none, .bool false, .ref s.heap.objs.size, rawInt 0, .none, .none] }) (s.heap.objs.size + 1) s.heap.objs.size 0 .none := by
    have := Heap.get?_push_size (s.heap.push o) (o := { cls := .type "enumerate", data := .fields #[.none, .bool false, .ref s.heap.objs.size, rawInt 0, .none, .none] }) rfl
    rw [hz] at this; exact this
  refine ⟨⟨_, he, rfl⟩, h _ he (Heap.get?_push_of_some _ (Heap.get?_push_size _ B.free)) (by rw [Heap.size_push, hz]) fun b o x => Heap.get?_push_of_some _ (Heap.get?_push_of_some _ x)⟩
theorem enum_fin {X : Cx} {elts : List Expr} {kk : Nat} {tpos : Pos} {pins : List (Addr × Obj)} {σ : L2.St} {H1 : Hp} {s1 : Shared} {R : It → Hp → Prop} {a : Addr} {xs : List V} {ds : List PyData} {b1 : Bool} {k : Int} {h' : Heap} (I1 : Inv X pins σ H1 s1) (f1 : Sqf b1 X.K H1 a xs) (z1 : DzAll X.K H1 xs ds) (la : a < s1.heap.objs.size)
    (he : IsEnum h' (s1.heap.objs.size + 1) s1.heap.objs.size k .none) (hit : IterOf b1 h' s1.heap.objs.size a 0) (hk : ∀ b o, s1.heap.get? b = some o → h'.get? b = some o) (q : ∀ J, Fix X.K J H1 (enumD k ds) → R J H1) :
    PIE X pins σ (.Tuple elts kk tpos) R (.ref (s1.heap.objs.size + 1)) { s1 with heap := h' } := by
  have I2 : Inv X pins σ H1 { s1 with heap := h' } := I1.kept (t' := s1.toks) hk
  refine ⟨s1.heap.objs.size + 1, _, _, _, H1, rfl, I2, turn_enumS (k := k) (b1 := b1) (a := a) (e := s1.heap.objs.size + 1) (it := s1.heap.objs.size) (Nat.succ_ne_self _) (Nat.ne_of_gt (Nat.lt_succ_of_lt la)) (Nat.ne_of_lt la), ⟨⟨.none, ?_⟩, hit⟩, fun c hc => ?_, q _ (fix_enum f1 z1)⟩
  · have e1 : k + ((0 : Nat) : Int) = k := by omega
    rw [e1]
    exact he
  · have hle : s1.heap.objs.size ≤ c := by
      have e' : c = s1.heap.objs.size + 1 ∨ c = s1.heap.objs.size := by simpa using hc
      rcases e' with z | z
      · rw [z]; exact Nat.le_add_right _ _
      · rw [z]; exact Nat.le_refl _
    exact I1.fpOk hle (I1.hok.fresh hle)
section
variable {X : Cx} {T : List (Addr × Str)} {W : WX} {tg e e2 : Expr} {m : M Vl} {ms : M (List Vl)} {p pos tpos : Pos} {elts : List Expr} {kk : Nat}
theorem di_seq (he : DE X T W e m) : DI X T W tg e (mItems m) := by
  refine ⟨fun C hC => ⟨fun pins s σ H R I h => ?_⟩⟩
  obtain ⟨env, r, h⟩ := h
  have h0 := (pe_ghost (he.pe C hC)).run pins s σ H (fun v H1 => ∃ d items, Dz X.K H1 v d ∧ seqI d = some items ∧ ∀ J, Fix X.K J H1 items → R J H1) I ⟨env, r, Lf.bind h fun u H1 v env1 r1 hv l1 h1 => by
    obtain ⟨d, env2, e1, h2⟩ := Lf.leak h1 r1 hv
    refine (leak_ok r1 hv e1).imp fun H2 ⟨r2', z2, l2, _, _⟩ => ?_
    cases e : seqI d with
    | none => rw [e] at h2; exact h2.elim
    | some items =>
      rw [e] at h2
      exact ⟨d, items, z2, e, fun J f => h2 J H2 r2' f l2⟩⟩
  refine thn h0 fun v s1 ⟨x, H1, I1, r1, d, items, z, e, q⟩ => ?_
  cases d with
  | list ds =>
    cases e
    cases z with
    | lst h1 h2 =>
      cases r1
      obtain ⟨its, rv, p, hz⟩ := I1.list h1.sq
      refine wpAny_pyIter_list p.isList ?_
      refine ⟨s1.heap.objs.size, [s1.heap.objs.size], _, _, H1, rfl, I1.kept (t' := s1.toks) fun b o e => Heap.get?_push_of_some _ e, turn_list _ _, ⟨_, Heap.get?_push_size _ rfl, rfl, rfl⟩, fun b hb => ?_, q _ (fix_list h1 h2)⟩
      have e : b = s1.heap.objs.size := by simpa using hb
      subst e
      exact I1.fpOk (Nat.le_refl _) (I1.hok.fresh (Nat.le_refl _))
  | tuple ds =>
    cases e
    cases z with
    | tup h1 h2 =>
      cases r1
      obtain ⟨its, rv, p, hz⟩ := I1.tuple h1.sq
      refine wpAny_pyIter_tuple (show s1.heap.IsTuple _ its.toArray from p) ?_
      refine ⟨s1.heap.objs.size, [s1.heap.objs.size], _, _, H1, rfl, I1.kept (t' := s1.toks) fun b o e => Heap.get?_push_of_some _ e, turn_tuple _ _, ⟨_, Heap.get?_push_size _ rfl, rfl, rfl⟩, fun b hb => ?_, q _ (fix_tup h1 h2)⟩
      have e : b = s1.heap.objs.size := by simpa using hb
      subst e
      exact I1.fpOk (Nat.le_refl _) (I1.hok.fresh (Nat.le_refl _))
  | str y =>
    cases e
    cases z
    obtain ⟨t, rfl⟩ := r1
    refine wpAny_pyIter_strU ?_
    refine ⟨s1.heap.objs.size, [s1.heap.objs.size], _, _, H1, rfl, I1.kept (t' := s1.toks) fun b o e => Heap.get?_push_of_some _ e, turn_str _ y t (PySem.strIterType y) ?_, ⟨_, Heap.get?_push_size _ rfl, rfl, rfl⟩, fun b hb => ?_, q _ fix_str⟩
    · unfold PySem.strIterType
      split <;> simp
    have e : b = s1.heap.objs.size := by simpa using hb
    subst e
    exact I1.fpOk (Nat.le_refl _) (I1.hok.fresh (Nat.le_refl _))
  | _ => cases e
theorem di_own {j : Nat} {x : Str} (hN : X.N[j]? = some x) (hv : Vis X.env.scope x) (hd : (x == ("__debug__" : Str)) = false := by decide) (hcd : (x == ("__classdict__" : Str)) = false := by decide) : DI X T W tg (.Name x pos) (mOwn j) := by
  refine ⟨fun C hC => ⟨fun pins s σ H R I h => ?_⟩⟩
  obtain ⟨env, r, h⟩ := h
  unfold mOwn at h
  cases e : env[j]? with
  | none => rw [e] at h; exact h.elim
  | some o =>
    cases o with
    | none => rw [e] at h; exact h.elim
    | some ev =>
      cases ev with
      | d x => rw [e] at h; exact h.elim
      | x v => rw [e] at h; exact h.elim
      | own b oo =>
        cases oo with
        | k _ => rw [e] at h; exact h.elim
        | t _ => rw [e] at h; exact h.elim
        | f _ => rw [e] at h; exact h.elim
        | l ds =>
        rw [e] at h
        obtain ⟨a, xs, h1, h2, h3, _⟩ := r.ownL j b ds e
        refine (pi_list (pe_var (pos := pos) hN hv hd hcd)).run pins s σ H R I ⟨.ref a, h1, a, rfl, ⟨xs, SqL.of h2⟩, ?_⟩
        refine h (Itl X.K a) H r ⟨a, h1, fun i H' ys hy => ⟨fun hi => ?_, fun x H'' y => ?_, fun hi => ⟨ys, SqL.of hy, hi⟩⟩⟩ (.refl H)
        · exact ⟨ys, ys[i], SqL.of hy, List.getElem?_eq_getElem hi⟩
        · obtain ⟨e, hx⟩ := y
          exact ⟨e, hx ys (SqL.of hy)⟩
theorem di_range1 (hg : Gl X "range") (hm : X.mg "range" = none) (ha : DA X T W [e] ms) (hs : starEach [e] X.env = [(false, eval e X.env)] := by rfl) : DI X T W tg (.Call (.Name "range" p) [e] [] pos) (mRange1 ms) := by
  refine ⟨fun C hC => ⟨fun pins s σ H R I h => (pi_range1 hg hm (ha.pa C hC) hs).run pins s σ H R I ?_⟩⟩
  obtain ⟨env, r, h⟩ := h
  refine ⟨env, r, Lf.bind h fun us H1 vs env1 r1 hv l1 h1 => ?_⟩
  obtain ⟨ds, z, h2⟩ := Lf.getAll h1 r1 hv
  split at h2
  · rename_i j
    split at h2
    · rename_i hj
      obtain ⟨u, rfl, zu⟩ := z.one
      cases zu.int
      exact ⟨j, rfl, hj.1, hj.2, h2 _ H1 r1 fix_range (.refl H1)⟩
    · exact h2.elim
  · exact h2.elim
theorem di_range2 (hg : Gl X "range") (hm : X.mg "range" = none) (ha : DA X T W [e, e2] ms) (hs : starEach [e, e2] X.env = [(false, eval e X.env), (false, eval e2 X.env)] := by rfl) (hs2 : starEach [e2] X.env = [(false, eval e2 X.env)] := by rfl) : DI X T W tg (.Call (.Name "range" p) [e, e2] [] pos) (mRange2 ms) := by
  refine ⟨fun C hC => ⟨fun pins s σ H R I h => (pi_range2 hg hm (ha.pa C hC) hs hs2).run pins s σ H R I ?_⟩⟩
  obtain ⟨env, r, h⟩ := h
  refine ⟨env, r, Lf.bind h fun us H1 vs env1 r1 hv l1 h1 => ?_⟩
  obtain ⟨ds, z, h2⟩ := Lf.getAll h1 r1 hv
  split at h2
  · rename_i i j
    split at h2
    · rename_i hj
      obtain ⟨u, u', rfl, zu, zu'⟩ := z.two
      cases zu.int; cases zu'.int
      exact ⟨i, j, rfl, hj, h2 _ H1 r1 fix_range (.refl H1)⟩
    · exact h2.elim
  · exact h2.elim
theorem di_zip (hg : Gl X "zip") (hm : X.mg "zip" = none) (ha : DA X T W [e, e2] ms) (hs : starEach [e, e2] X.env = (false, eval e X.env) :: starEach [e2] X.env := by rfl) (hpl : (backTo pos (starEach [e2] X.env)).any (·.1) = false := by rfl) :
    DI X T W (.Tuple elts kk tpos) (.Call (.Name "zip" p) [e, e2] [] pos) (mZip ms) := by
  refine ⟨fun C hC => ⟨fun pins s σ H R I h => ?_⟩⟩
  obtain ⟨env, r, h⟩ := h
  have h0 := (pa_ghost (ha.pa C hC)).run pos pins s σ H (fun us H1 => ∃ d1 d2 b1 b2 ds es, DzAll X.K H1 us [d1, d2] ∧ seqB d1 = some (b1, ds) ∧ seqB d2 = some (b2, es) ∧ ∀ J, Fix X.K J H1 (zipD ds es) → R J H1) I ⟨env, r, Lf.bind h fun us H1 vs env1 r1 hv l1 h1 => by
    obtain ⟨dd, env2, e1, h2⟩ := Lf.leakAll h1 r1 hv
    refine (leakAll_ok r1 hv e1).imp fun H2 ⟨r2', z2, l2, _, _⟩ => ?_
    cases q : zipS dd with
    | none => rw [q] at h2; exact h2.elim
    | some src =>
      rw [q] at h2
      obtain ⟨d1, d2, b1, b2, ds, es, rfl, q1, q2, rfl⟩ := zipS_inv q
      exact ⟨d1, d2, b1, b2, ds, es, z2, q1, q2, fun J f => h2 J H2 r2' f l2⟩⟩
  refine Call_ (ld_blt I hg hm PyProof.Rows.boot_zip (PyProof.Rows.callWith_type1 (thn h0 fun us s1 hh => ?_) hs hpl))
  obtain ⟨vs, H1, I1, r1, d1, d2, b1, b2, ds, es, zz, q1, q2, q⟩ := hh
  cases zz with
  | cons za zr =>
    cases zr with
    | cons zb zn =>
      cases zn
      obtain ⟨a, xs, rfl, f1, z1⟩ := seqB_dz za q1
      obtain ⟨b, ys, rfl, f2, z2⟩ := seqB_dz zb q2
      cases r1 with
      | cons r rr =>
        cases rr with
        | cons r' rr =>
          cases rr
          cases r
          cases r'
          obtain ⟨its, rv, p1, _⟩ := Inv.sqb I1 f1.sq
          obtain ⟨its2, rv2, p2, _⟩ := Inv.sqb I1 f2.sq
          refine zip_begins2 (begins_seq b1 a its.toArray) (begins_seq b2 b its2.toArray) p1 p2 fun h' hz hTI hTO e1 e2 hsz hk => wpAny_pyIter_zip hz ?_
          have la := p1.lt
          have lb := p2.lt
          have S : ZipSep2 (s1.heap.objs.size + 4) (s1.heap.objs.size + 2) (s1.heap.objs.size + 3) s1.heap.objs.size (s1.heap.objs.size + 1) [s1.heap.objs.size, a] [s1.heap.objs.size + 1, b] :=
            zip_sep2 (fp1 := [a]) (fp2 := [b]) (fun c hc => by simp at hc; subst hc; exact la) (fun c hc => by simp at hc; subst hc; exact lb)
          have I2 : Inv X pins σ H1 { s1 with heap := h' } := I1.kept (t' := s1.toks) hk
          refine ⟨s1.heap.objs.size + 4, _, _, _, H1, rfl, I2, turn_zipS (b1 := b1) (b2 := b2) S (Nat.ne_of_lt la) (Nat.ne_of_lt (Nat.lt_succ_of_lt lb)), ⟨hz, hTI, ⟨_, _, hTO⟩, iterOf_begin b1 e1, iterOf_begin b2 e2⟩, fun c hc => ?_, q _ (fix_zip f1 f2 z1 z2)⟩
          have hle : s1.heap.objs.size ≤ c := by
            have e' : c = s1.heap.objs.size + 4 ∨ c = s1.heap.objs.size + 2 ∨ c = s1.heap.objs.size + 3 ∨ c = s1.heap.objs.size ∨ c = s1.heap.objs.size + 1 := by simpa using hc
            have off : ∀ k : Nat, s1.heap.objs.size ≤ s1.heap.objs.size + k := fun k => Nat.le_add_right _ _
            rcases e' with z | z | z | z | z
            · rw [z]; exact off 4
            · rw [z]; exact off 2
            · rw [z]; exact off 3
            · rw [z]; exact off 0
            · rw [z]; exact off 1
          exact I1.fpOk hle (I1.hok.fresh hle)
theorem di_enum (hg : Gl X "enumerate") (hm : X.mg "enumerate" = none) (ha : DA X T W [e] ms) (hs : starEach [e] X.env = [(false, eval e X.env)] := by rfl) :
    DI X T W (.Tuple elts kk tpos) (.Call (.Name "enumerate" p) [e] [] pos) (mEnum ms) := by
  refine ⟨fun C hC => ⟨fun pins s σ H R I h => ?_⟩⟩
  obtain ⟨env, r, h⟩ := h
  have h0 := (pa_ghost (ha.pa C hC)).run pos pins s σ H (fun us H1 => ∃ d1 b1 ds, DzAll X.K H1 us [d1] ∧ seqB d1 = some (b1, ds) ∧ ∀ J, Fix X.K J H1 (enumD 0 ds) → R J H1) I ⟨env, r, Lf.bind h fun us H1 vs env1 r1 hv l1 h1 => by
    obtain ⟨dd, env2, e1, h2⟩ := Lf.leakAll h1 r1 hv
    refine (leakAll_ok r1 hv e1).imp fun H2 ⟨r2', z2, l2, _, _⟩ => ?_
    cases q : enumS 0 dd with
    | none => rw [q] at h2; exact h2.elim
    | some src =>
      rw [q] at h2
      obtain ⟨d1, b1, ds, rfl, q1, rfl⟩ := enumS_inv q
      exact ⟨d1, b1, ds, z2, q1, fun J f => h2 J H2 r2' f l2⟩⟩
  refine Call_ (ld_blt I hg hm boot_enumerate (PyProof.Rows.callWith_type1 (thn h0 fun us s1 hh => ?_) hs rfl))
  obtain ⟨vs, H1, I1, r1, d1, b1, ds, zz, q1, q⟩ := hh
  cases zz with
  | cons za zn =>
    cases zn
    obtain ⟨a, xs, rfl, f1, z1⟩ := seqB_dz za q1
    cases r1 with
    | cons r rr =>
      cases rr
      cases r
      obtain ⟨its, rv, p1, _⟩ := Inv.sqb I1 f1.sq
      have la := p1.lt
      exact enum_begins1 (begins_seq b1 a its.toArray) p1 fun h' he e1 hsz hk => wpAny_pyIter_enum he (enum_fin I1 f1 z1 la he (iterOf_begin b1 e1) hk q)
theorem di_enumK (hg : Gl X "enumerate") (hm : X.mg "enumerate" = none) (ha : DA X T W [e, e2] ms) (hs : starEach [e, e2] X.env = (false, eval e X.env) :: starEach [e2] X.env := by rfl) (hpl : (backTo pos (starEach [e2] X.env)).any (·.1) = false := by rfl) :
    DI X T W (.Tuple elts kk tpos) (.Call (.Name "enumerate" p) [e, e2] [] pos) (mEnumK ms) := by
  refine ⟨fun C hC => ⟨fun pins s σ H R I h => ?_⟩⟩
  obtain ⟨env, r, h⟩ := h
  have h0 := (pa_ghost (ha.pa C hC)).run pos pins s σ H (fun us H1 => ∃ d1 b1 ds k, DzAll X.K H1 us [d1, .int k] ∧ -(2 ^ 63) ≤ k ∧ k < 2 ^ 63 ∧ seqB d1 = some (b1, ds) ∧ ∀ J, Fix X.K J H1 (enumD k ds) → R J H1) I ⟨env, r, Lf.bind h fun us H1 vs env1 r1 hv l1 h1 => by
    obtain ⟨dd, env2, e1, h2⟩ := Lf.leakAll h1 r1 hv
    refine (leakAll_ok r1 hv e1).imp fun H2 ⟨r2', z2, l2, _, _⟩ => ?_
    cases q : enumK dd with
    | none => rw [q] at h2; exact h2.elim
    | some src =>
      rw [q] at h2
      obtain ⟨d1, b1, ds, k, rfl, k1, k2, q1, rfl⟩ := enumK_inv q
      exact ⟨d1, b1, ds, k, z2, k1, k2, q1, fun J f => h2 J H2 r2' f l2⟩⟩
  refine Call_ (ld_blt I hg hm boot_enumerate (PyProof.Rows.callWith_type1 (thn h0 fun us s1 hh => ?_) hs hpl))
  obtain ⟨vs, H1, I1, r1, d1, b1, ds, k, zz, k1, k2, q1, q⟩ := hh
  cases zz with
  | cons za zr =>
    cases zr with
    | cons zk zn =>
      cases zn
      cases zk
      obtain ⟨a, xs, rfl, f1, z1⟩ := seqB_dz za q1
      cases r1 with
      | cons r rr =>
        cases rr with
        | cons r' rr =>
          cases rr
          cases r
          obtain ⟨t, rfl⟩ := r'
          obtain ⟨its, rv, p1, _⟩ := Inv.sqb I1 f1.sq
          exact enum_begins (begins_seq b1 a its.toArray) p1 k1 k2 fun h' he e1 hsz hk => wpAny_pyIter_enum he (enum_fin I1 f1 z1 p1.lt he (iterOf_begin b1 e1) hk q)
end
end DL
end

/- EL7 -/
section
set_option maxHeartbeats 4000000
namespace DL
open PySem PySem.Spec PyProof.Rows L2

/-- a new object, not yet given to a name -/
def ORo (K : PySem.W.Frag) (C : Ct) (σ : L2.St) (u : V) (H : Hp) (o : OO) (env : En) : Prop :=
  ∃ p ho, u = .ref p ∧ H p = some ho ∧ OOR K H ho o ∧ Nk C.H0 p ∧ C.P p = none ∧ ∀ (i : Nat) b es, env[i]? = some (some (.own b es)) → σ[i]? ≠ some (some (.ref p))
theorem OR.o {K : PySem.W.Frag} {C : Ct} {σ : L2.St} {u : V} {H : Hp} {ds : List PyData} {env : En} (h : OR K C σ u H ds env) : ORo K C σ u H (.l ds) env :=
  let ⟨p, xs, h1, h2, h3, h4⟩ := h
  ⟨p, .lst xs, h1, h2, h3, h4⟩
theorem ORo.l {K : PySem.W.Frag} {C : Ct} {σ : L2.St} {u : V} {H : Hp} {ds : List PyData} {env : En} (h : ORo K C σ u H (.l ds) env) : OR K C σ u H ds env := by
  obtain ⟨p, ho, h1, h2, h3, h4⟩ := h
  obtain ⟨xs, rfl, h5⟩ := h3.lst
  exact ⟨p, xs, h1, h2, h5, h4⟩
def liftQ (K : PySem.W.Frag) (mg : Str → Option Value) (C : Ct) (W : WX) (m : M OO) : TE := fun σ H Q => ∃ env, Rel K C H σ env ∧ Lf K mg C W σ H (ORo K C σ) (m env) Q
structure DQ (X : Cx) (T : List (Addr × Str)) (W : WX) (e : Expr) (m : M OO) : Prop where
  pe : ∀ C : Ct, C.T = T → PE X e (liftQ X.K X.mg C W m)
/-! ### storing -/
def sto (i : Nat) (ev : EV) : M Unit := fun env => match env[i]? with
  | some (some (.own true _)) => .stuck
  | _ => .ok () (env.set i (some ev))
section
variable {K : PySem.W.Frag} {C : Ct} {σ : L2.St} {H : Hp} {env : En} {i : Nat} {u : V} {d : PyData} {ds : OO}
theorem get_setV {l : L2.St} {i j : Nat} {x : Option V} {y : Option V} (h : (l.set i x)[j]? = some y) : (i = j ∧ y = x) ∨ (i ≠ j ∧ l[j]? = some y) := by
  by_cases e : i = j
  · subst e
    by_cases hi : i < l.length
    · rw [List.getElem?_set_self hi] at h
      exact .inl ⟨rfl, (Option.some.inj h).symm⟩
    · rw [List.getElem?_eq_none (by rw [List.length_set]; omega)] at h
      cases h
  · rw [List.getElem?_set_ne e] at h
    exact .inr ⟨e, h⟩
theorem Rel.bkn (r : Rel K C H σ env) (hn : ∀ ds, env[i]? ≠ some (some (.own true ds))) : C.bk i = none := by
  cases e : C.bk i with
  | none => rfl
  | some a =>
    obtain ⟨es, q⟩ := r.bkd i a e
    exact absurd q (hn es)
theorem Rel.stoD (r : Rel K C H σ env) (hz : Dz K H u d) (hn : ∀ ds, env[i]? ≠ some (some (.own true ds))) : Rel K C H (σ.set i (some u)) (env.set i (some (.d d))) where
  len := by rw [List.length_set, List.length_set]; exact r.len
  dat := fun j x h => by
    rcases get_set h with ⟨rfl, ex⟩ | ⟨hne, h⟩
    · cases ex
      have hi : i < σ.length := by
        have := (List.getElem?_eq_some_iff.mp h).1
        rw [List.length_set, r.len] at this
        exact this
      exact ⟨u, List.getElem?_set_self hi, hz⟩
    · obtain ⟨v, q1, q2⟩ := r.dat j x h
      exact ⟨v, by rw [List.getElem?_set_ne hne]; exact q1, q2⟩
  own := fun j b es h => by
    rcases get_set h with ⟨rfl, ex⟩ | ⟨hne, h⟩
    · cases ex
    · obtain ⟨a, ys, q1, q2⟩ := r.own j b es h
      exact ⟨a, ys, by rw [List.getElem?_set_ne hne]; exact q1, q2⟩
  bkd := fun j a h => by
    have hne : i ≠ j := by
      rintro rfl
      rw [r.bkn hn] at h
      cases h
    obtain ⟨es, q⟩ := r.bkd j a h
    exact ⟨es, by rw [List.getElem?_set_ne hne]; exact q⟩
  dis := fun j k b c es fs a hjk q1 q2 q3 q4 => by
    rcases get_set q1 with ⟨_, ex⟩ | ⟨n1, q1⟩
    · cases ex
    · rcases get_set q2 with ⟨_, ex⟩ | ⟨n2, q2⟩
      · cases ex
      · rw [List.getElem?_set_ne n1] at q3
        rw [List.getElem?_set_ne n2] at q4
        exact r.dis j k b c es fs a hjk q1 q2 q3 q4
  keep := r.keep
  prot := r.prot
  opq := fun j v h => by
    rcases get_set h with ⟨_, ex⟩ | ⟨hne, h⟩
    · cases ex
    · rw [List.getElem?_set_ne hne]
      exact r.opq j v h
  tab := r.tab
theorem Rel.stoO (r : Rel K C H σ env) (ho : ORo K C σ u H ds env) (hn : ∀ ds, env[i]? ≠ some (some (.own true ds))) : Rel K C H (σ.set i (some u)) (env.set i (some (.own false ds))) := by
  obtain ⟨p, xs, rfl, h1, h2, h3, h4, h5⟩ := ho
  exact {
    len := by rw [List.length_set, List.length_set]; exact r.len
    dat := fun j x h => by
      rcases get_set h with ⟨rfl, ex⟩ | ⟨hne, h⟩
      · cases ex
      · obtain ⟨v, q1, q2⟩ := r.dat j x h
        exact ⟨v, by rw [List.getElem?_set_ne hne]; exact q1, q2⟩
    own := fun j b es h => by
      rcases get_set h with ⟨rfl, ex⟩ | ⟨hne, h⟩
      · cases ex
        have hi : i < σ.length := by
          have := (List.getElem?_eq_some_iff.mp h).1
          rw [List.length_set, r.len] at this
          exact this
        exact ⟨p, xs, List.getElem?_set_self hi, h1, h2, h3, h4⟩
      · obtain ⟨a, ys, q1, q2⟩ := r.own j b es h
        exact ⟨a, ys, by rw [List.getElem?_set_ne hne]; exact q1, q2⟩
    bkd := fun j a h => by
      have hne : i ≠ j := by
        rintro rfl
        rw [r.bkn hn] at h
        cases h
      obtain ⟨es, q⟩ := r.bkd j a h
      exact ⟨es, by rw [List.getElem?_set_ne hne]; exact q⟩
    dis := fun j k b c es fs a hjk q1 q2 q3 q4 => by
      rcases get_set q1 with ⟨rfl, ex⟩ | ⟨n1, q1⟩
      · have hi : i < σ.length := by
          have := (List.getElem?_eq_some_iff.mp q3).1
          rw [List.length_set] at this
          exact this
        rw [List.getElem?_set_self hi] at q3
        cases q3
        rcases get_set q2 with ⟨e, _⟩ | ⟨n2, q2⟩
        · exact hjk e
        · rw [List.getElem?_set_ne n2] at q4
          exact h5 k c fs q2 q4
      · rcases get_set q2 with ⟨rfl, ex⟩ | ⟨n2, q2⟩
        · have hi : i < σ.length := by
            have := (List.getElem?_eq_some_iff.mp q4).1
            rw [List.length_set] at this
            exact this
          rw [List.getElem?_set_self hi] at q4
          cases q4
          rw [List.getElem?_set_ne n1] at q3
          exact h5 j b es q1 q3
        · rw [List.getElem?_set_ne n1] at q3
          rw [List.getElem?_set_ne n2] at q4
          exact r.dis j k b c es fs a hjk q1 q2 q3 q4
    keep := r.keep
    prot := r.prot
    opq := fun j v h => by
      rcases get_set h with ⟨_, ex⟩ | ⟨hne, h⟩
      · cases ex
      · rw [List.getElem?_set_ne hne]
        exact r.opq j v h
    tab := r.tab }
theorem sto_ok {ev : EV} {env' : En} (e : sto i ev env = .ok () env') : (∀ ds, env[i]? ≠ some (some (.own true ds))) ∧ env' = env.set i (some ev) := by
  unfold sto at e
  split at e
  · cases e
  · rename_i h
    cases e
    exact ⟨fun ds q => h ds q, rfl⟩
theorem sto_noerr {ev : EV} {env' : En} {x : Er} : sto i ev env ≠ .err x env' := by
  unfold sto
  split <;> exact fun z => by cases z
end
theorem wipe_set' {x : Option V} {v : Nat} {vs : List Nat} {σ : L2.St} (hm : v ∉ vs) : wipe (σ.set v x) vs = (wipe σ vs).set v x := by
  induction vs with
  | nil => rfl
  | cons w vs ih =>
    have hw : w ≠ v := fun z => hm (by simp [z])
    have hv : v ∉ vs := fun z => hm (by simp [z])
    unfold wipe
    rw [ih hv, List.set_comm _ _ hw.symm]
theorem wipe_set {x : Option V} {i : Nat} {vs : List Nat} {σ : L2.St} (h : i ∈ vs) : wipe (σ.set i x) vs = wipe σ vs := by
  induction vs with
  | nil => exact absurd h (by simp)
  | cons v vs ih =>
    unfold wipe
    by_cases hm : i ∈ vs
    · rw [ih hm]
    · have e : i = v := by
        rcases List.mem_cons.mp h with z | z
        · exact z
        · exact absurd z hm
      rw [e] at hm ⊢
      rw [wipe_set' hm, List.set_set]

/-! ### targets -/
/-- an error is no reading here -/
def noE {α : Type} (m : M α) : M α := fun env => match m env with
  | .ok a env' => .ok a env'
  | _ => .stuck
theorem noE_ok {α : Type} {m : M α} {env env' : En} {a : α} (h : noE m env = .ok a env') : m env = .ok a env' := by
  unfold noE at h
  cases e : m env with
  | ok b env1 => rw [e] at h; exact h
  | err x env1 => rw [e] at h; cases h
  | stuck => rw [e] at h; cases h
theorem noE_err {α : Type} {m : M α} {env env' : En} {x : Er} (h : noE m env = .err x env') : False := by
  unfold noE at h
  cases e : m env with
  | ok b env1 => rw [e] at h; cases h
  | err x env1 => rw [e] at h; cases h
  | stuck => rw [e] at h; cases h
def liftG (K : PySem.W.Frag) (C : Ct) (vs : List Nat) (g : PyData → M Unit) : TG := fun v σ H Q => ∃ env d, Rel K C H σ env ∧ Dz K H v d ∧ match g d env with
  | .ok _ env' => ∀ σ', Rel K C H σ' env' → wipe σ' vs = wipe σ vs → Q σ' H
  | _ => False
def liftGs (K : PySem.W.Frag) (C : Ct) (vs : List Nat) (g : List PyData → M Unit) : TGs := fun us σ H Q => ∃ env ds, Rel K C H σ env ∧ DzAll K H us ds ∧ match g ds env with
  | .ok _ env' => ∀ σ', Rel K C H σ' env' → wipe σ' vs = wipe σ vs → Q σ' H
  | _ => False
structure DG (X : Cx) (tg : Expr) (vs : List Nat) (g : PyData → M Unit) : Prop where
  pg : ∀ C : Ct, PG X tg (liftG X.K C vs g)
structure DGs (X : Cx) (tgs : List Expr) (vs : List Nat) (g : List PyData → M Unit) : Prop where
  pgs : ∀ C : Ct, PGs X tgs (liftGs X.K C vs g)
def gNm (i : Nat) : PyData → M Unit := fun d => sto i (.d d)
def gNil' : List PyData → M Unit
  | [] => M.pure ()
  | _ => M.stuck
def gCons' (g : PyData → M Unit) (gs : List PyData → M Unit) : List PyData → M Unit
  | d :: ds => M.bind (g d) fun _ => gs ds
  | [] => M.stuck
def gTp (n : Nat) (gs : List PyData → M Unit) : PyData → M Unit
  | .tuple xs => if xs.length = n then gs xs else M.stuck
  | _ => M.stuck
section
variable {X : Cx} {pos : Pos} {vs : List Nat}
theorem dg_nm {i : Nat} {x : Str} (hN : X.N.Nodup) (hi : X.N[i]? = some x) (hx : Loc X.env.scope x) (hv : i ∈ vs) (hf : X.fn x = true ∨ X.env.scope.names.lookup x = some .local := by first | exact .inl rfl | exact .inr rfl | assumption) : DG X (.Name x pos) vs (gNm i) := by
  refine ⟨fun C => ⟨fun pins s σ H v u Q I rv h => (pg_name hN hi hx hf).run pins s σ H v u Q I rv ?_⟩⟩
  obtain ⟨env, d, r, z, h⟩ := h
  unfold gNm at h
  cases e : sto i (.d d) env with
  | ok w env' =>
    rw [e] at h
    obtain ⟨hn, e2⟩ := sto_ok e
    subst e2
    exact h _ (r.stoD z hn) (wipe_set hv)
  | err x env' => exact absurd e sto_noerr
  | stuck => rw [e] at h; exact h.elim
theorem dgs_nil : DGs X [] vs gNil' := by
  refine ⟨fun C => ⟨fun pins s σ H us ws Q I rv h => pgs_nil.run pins s σ H us ws Q I rv ?_⟩⟩
  obtain ⟨env, ds, r, z, h⟩ := h
  cases z with
  | nil => exact ⟨rfl, h σ r rfl⟩
  | cons _ _ => exact h.elim
theorem dgs_cons {e : Expr} {es : List Expr} {g : PyData → M Unit} {gs : List PyData → M Unit} (h1 : DG X e vs g) (h2 : DGs X es vs gs) (hs : (assignEach (e :: es) X.env).map (·.2) = assign e X.env :: (assignEach es X.env).map (·.2) := by rfl) : DGs X (e :: es) vs (gCons' g gs) := by
  refine ⟨fun C => ⟨fun pins s σ H us ws Q I rv h => (pgs_cons (h1.pg C) (h2.pgs C) hs).run pins s σ H us ws Q I rv ?_⟩⟩
  obtain ⟨env, ds, r, z, h⟩ := h
  cases z with
  | nil => exact h.elim
  | cons z1 z2 =>
    rename_i v vs' d ds'
    refine ⟨v, vs', rfl, env, d, r, z1, ?_⟩
    unfold gCons' M.bind at h
    dsimp only at h
    cases e : g d env with
    | ok w env1 =>
      rw [e] at h
      dsimp only at h
      intro σ1 r1 w1
      refine ⟨env1, ds', r1, z2, ?_⟩
      cases e2 : gs ds' env1 with
      | ok w2 env2 =>
        rw [e2] at h
        intro σ2 r2' w2
        exact h σ2 r2' (w2.trans w1)
      | err x env' => rw [e2] at h; exact h.elim
      | stuck => rw [e2] at h; exact h.elim
    | err x env' => rw [e] at h; exact h.elim
    | stuck => rw [e] at h; exact h.elim
theorem dg_tp {es : List Expr} {k n : Nat} {gs : List PyData → M Unit} (hc : X.calm = true) (h : DGs X es vs gs) (hn : (assignEach es X.env).length = n := by rfl) (hst : (assignEach es X.env).findIdx? (·.1) = none := by rfl) : DG X (.Tuple es k pos) vs (gTp n gs) := by
  refine ⟨fun C => ⟨fun pins s σ H v u Q I rv hq => (pg_tup hc (h.pgs C) hn hst).run pins s σ H v u Q I rv ?_⟩⟩
  obtain ⟨env, d, r, z, hq⟩ := hq
  cases z with
  | tup h1 h2 =>
    rename_i a xs ds
    unfold gTp at hq
    dsimp only at hq
    by_cases hl : ds.length = n
    · rw [if_pos hl] at hq
      exact ⟨a, xs, rfl, h1.sq, h2.length.trans hl, env, ds, r, h2, hq⟩
    · rw [if_neg hl] at hq
      exact hq.elim
  | _ => exact hq.elim
end

/-! ### statements -/
inductive RVl where
  | d (x : PyData)
  | o (ds : OO)
inductive Fl where
  | next | brk | cont
  | ret (v : RVl)
section
variable (K : PySem.W.Frag) (mg : Str → Option Value) (C : Ct) (W : WX)
def RR (σ : L2.St) (u : V) (H : Hp) (env : En) : RVl → Prop
  | .d x => Dz K H u x
  | .o ds => ORo K C σ u H ds env
def Sf (H : Hp) (r : R Fl) (D : Ends) : Prop := match r with
  | .ok .next env' => ∀ σ' H', Rel K C H' σ' env' → Le H H' → D.nx σ' H'
  | .ok .brk env' => ∀ σ' H', Rel K C H' σ' env' → Le H H' → D.bk σ' H'
  | .ok .cont env' => ∀ σ' H', Rel K C H' σ' env' → Le H H' → D.ct σ' H'
  | .ok (.ret v) env' => ∀ u σ' H', Rel K C H' σ' env' → RR K C σ' u H' env' v → Le H H' → D.rt u H'
  | .err e env' => ∀ cls od σ' H', Rel K C H' σ' env' → ErR K mg H' e cls od → Le H H' → W cls od σ' H'
  | .stuck => False
def liftS (m : M Fl) : TS := fun D σ H => ∃ env, Rel K C H σ env ∧ Sf K mg C W H (m env) D
end
structure DS (X : Cx) (T : List (Addr × Str)) (W : WX) (st : Stmt) (m : M Fl) : Prop where
  ps : ∀ C : Ct, C.T = T → PS X st (liftS X.K X.mg C W m)
structure DSs (X : Cx) (T : List (Addr × Str)) (W : WX) (st : List Stmt) (m : M Fl) : Prop where
  pss : ∀ C : Ct, C.T = T → PSs X st (liftS X.K X.mg C W m)
section
variable {K : PySem.W.Frag} {mg : Str → Option Value} {C : Ct} {W : WX} {σ : L2.St} {H H' : Hp} {env : En}
theorem Sf.mono {r : R Fl} {D D' : Ends} (h : Sf K mg C W H r D) (e : Le H H') (h1 : ∀ σ H, D.nx σ H → D'.nx σ H) (h2 : ∀ u H, D.rt u H → D'.rt u H) (h3 : ∀ σ H, D.bk σ H → D'.bk σ H) (h4 : ∀ σ H, D.ct σ H → D'.ct σ H) : Sf K mg C W H' r D' := by
  cases r with
  | ok fl env' =>
    cases fl with
    | next => exact fun σ' H2 r1 l => h1 _ _ (h σ' H2 r1 (e.trans l))
    | brk => exact fun σ' H2 r1 l => h3 _ _ (h σ' H2 r1 (e.trans l))
    | cont => exact fun σ' H2 r1 l => h4 _ _ (h σ' H2 r1 (e.trans l))
    | ret v => exact fun u σ' H2 r1 z l => h2 _ _ (h u σ' H2 r1 z (e.trans l))
  | err x env' => exact fun cls od σ' H2 r1 z l => h cls od σ' H2 r1 z (e.trans l)
  | stuck => exact h.elim
theorem Sf.le {r : R Fl} {D : Ends} (h : Sf K mg C W H r D) (e : Le H H') : Sf K mg C W H' r D := h.mono e (fun _ _ z => z) (fun _ _ z => z) (fun _ _ z => z) fun _ _ z => z
/-- an expression ahead of a statement's end -/
theorem Sf.bind {γ δ : Type} {RW : δ → Hp → γ → En → Prop} {m : M γ} {k : γ → M Fl} {D : Ends} {Q1 : δ → Hp → Prop} (h : Sf K mg C W H (M.bind m k env) D)
    (q : ∀ u H1 v env', Rel K C H1 σ env' → RW u H1 v env' → Le H H1 → Sf K mg C W H1 (k v env') D → Q1 u H1) : Lf K mg C W σ H RW (m env) Q1 := by
  unfold M.bind at h
  cases e : m env with
  | ok v env' =>
    rw [e] at h
    exact fun u H1 r1 r2 l => q u H1 v env' r1 r2 l (Sf.le (show Sf K mg C W H (k v env') D from h) l)
  | err x env' =>
    rw [e] at h
    exact fun cls od H1 r1 r2 l => h cls od σ H1 r1 r2 l
  | stuck =>
    rw [e] at h
    exact h.elim
end
def sSeq (a b : M Fl) : M Fl := M.bind a fun fl => match fl with
  | .next => b
  | fl => M.pure fl
def sNext : M Fl := M.pure .next
def sBrk : M Fl := M.pure .brk
def sCont : M Fl := M.pure .cont
def sSet (i : Nat) (m : M Vl) : M Fl := M.bind m fun v => M.bind (leak v) fun d => M.bind (sto i (.d d)) fun _ => sNext
def sSetO (i : Nat) (m : M (List PyData)) : M Fl := M.bind m fun ds => M.bind (sto i (.own false (.l ds))) fun _ => sNext
def sAsg (g : PyData → M Unit) (m : M Vl) : M Fl := M.bind m fun v => M.bind (leak v) fun d => M.bind (noE (g d)) fun _ => sNext
def sRet (m : M Vl) : M Fl := M.bind m fun v => M.bind (leak v) fun d => M.pure (.ret (.d d))
def sRetO (m : M (List PyData)) : M Fl := M.bind m fun ds => M.pure (.ret (.o (.l ds)))
def sSetQ (i : Nat) (m : M OO) : M Fl := M.bind m fun o => M.bind (sto i (.own false o)) fun _ => sNext
def sRetQ (m : M OO) : M Fl := M.bind m fun o => M.pure (.ret (.o o))
def sIf (c : M Bool) (a b : M Fl) : M Fl := mIf c a b
def sDrop (m : M Vl) : M Fl := M.bind m fun _ => sNext
section
variable {X : Cx} {T : List (Addr × Str)} {W : WX} {st : Stmt} {rest : List Stmt} {e : Expr} {m : M Vl} {mo : M (List PyData)} {ma mb : M Fl} {pos : Pos}
theorem dss_nil : DSs X T W [] sNext := by
  refine ⟨fun C hC => ⟨fun pins s σ H D I h => pss_nil.run pins s σ H D I ?_⟩⟩
  obtain ⟨env, r, h⟩ := h
  exact h σ H r (.refl H)
theorem dss_one (h1 : DS X T W st ma) : DSs X T W [st] ma := ⟨fun C hC => pss_one (h1.ps C hC)⟩
theorem dss_cons (h1 : DS X T W st ma) (h2 : DSs X T W rest mb) : DSs X T W (st :: rest) (sSeq ma mb) := by
  refine ⟨fun C hC => ⟨fun pins s σ H D I h => (pss_cons (h1.ps C hC) (h2.pss C hC)).run pins s σ H D I ?_⟩⟩
  obtain ⟨env, r, h⟩ := h
  refine ⟨env, r, ?_⟩
  unfold sSeq M.bind at h
  cases e : ma env with
  | ok fl env' =>
    rw [e] at h
    cases fl with
    | next => exact fun σ' H' r1 l => ⟨env', r1, Sf.le (show Sf X.K X.mg C W H (mb env') D from h) l⟩
    | brk => exact h
    | cont => exact h
    | ret v => exact h
  | err x env' => rw [e] at h; exact h
  | stuck => rw [e] at h; exact h.elim
theorem ds_pass : DS X T W (.Pass pos) sNext := by
  refine ⟨fun C hC => ⟨fun pins s σ H D I h => ps_pass.run pins s σ H D I ?_⟩⟩
  obtain ⟨env, r, h⟩ := h
  exact h σ H r (.refl H)
theorem ds_brk : DS X T W (.Break pos) sBrk := by
  refine ⟨fun C hC => ⟨fun pins s σ H D I h => ps_break.run pins s σ H D I ?_⟩⟩
  obtain ⟨env, r, h⟩ := h
  exact h σ H r (.refl H)
theorem ds_cont : DS X T W (.Continue pos) sCont := by
  refine ⟨fun C hC => ⟨fun pins s σ H D I h => ps_continue.run pins s σ H D I ?_⟩⟩
  obtain ⟨env, r, h⟩ := h
  exact h σ H r (.refl H)
theorem ds_doc {x : Str} {j pos'} : DS X T W (.Expr (.Constant (.str x) j pos) pos') sNext := by
  refine ⟨fun C hC => ⟨fun pins s σ H D I h => ps_doc.run pins s σ H D I ?_⟩⟩
  obtain ⟨env, r, h⟩ := h
  exact h σ H r (.refl H)
/-- a value, frozen -/
theorem ghost_leak {C : Ct} {σ : L2.St} {H : Hp} {env : En} {u : V} {v : Vl} {k : PyData → M Fl} {D : Ends} {P : V → Hp → Prop} (h : Sf X.K X.mg C W H (M.bind (leak v) k env) D) (r : Rel X.K C H σ env) (hv : VR X.K σ u H v)
    (q : ∀ d env' H', Rel X.K C H' σ env' → Dz X.K H' u d → Le H H' → Sf X.K X.mg C W H' (k d env') D → P u H') : Ghost X σ (P u) H := by
  unfold M.bind at h
  cases e : leak v env with
  | ok d env' =>
    rw [e] at h
    exact (leak_ok r hv e).imp fun H' ⟨r1, z1, l1, _, _⟩ => q d env' H' r1 z1 l1 (Sf.le (show Sf X.K X.mg C W H (k d env') D from h) l1)
  | err x env' => exact absurd e leak_noerr
  | stuck => rw [e] at h; exact h.elim
theorem Sf.sto {C : Ct} {H : Hp} {env : En} {i : Nat} {ev : EV} {D : Ends} (h : Sf X.K X.mg C W H (M.bind (sto i ev) (fun _ => sNext) env) D) : (∀ ds, env[i]? ≠ some (some (.own true ds))) ∧ ∀ σ' H', Rel X.K C H' σ' (env.set i (some ev)) → Le H H' → D.nx σ' H' := by
  unfold M.bind at h
  cases e : DL.sto i ev env with
  | ok w env' =>
    rw [e] at h
    obtain ⟨hn, e2⟩ := sto_ok e
    subst e2
    exact ⟨hn, h⟩
  | err x env' => exact absurd e sto_noerr
  | stuck => rw [e] at h; exact h.elim
theorem ds_set {i : Nat} {x : Str} {pos' : Pos} (hN : X.N.Nodup) (hi : X.N[i]? = some x) (hx : Loc X.env.scope x) (he : DE X T W e m) (hs : swapsWith e (some (.Name x pos')) pos.line X.env = pure false := by rfl) (hf : X.fn x = true ∨ X.env.scope.names.lookup x = some .local := by first | exact .inl rfl | exact .inr rfl | assumption) :
    DS X T W (.Assign [.Name x pos'] e pos) (sSet i m) := by
  refine ⟨fun C hC => ⟨fun pins s σ H D I h => (ps_set hN hi hx (pe_ghost (he.pe C hC)) hs hf).run pins s σ H D I ?_⟩⟩
  obtain ⟨env, r, h⟩ := h
  refine ⟨env, r, Sf.bind h fun u H1 v env1 r1 hv l1 h1 => ?_⟩
  refine ghost_leak (P := fun u H' => gName i u σ H' D.nx) h1 r1 hv fun d env2 H2 r2' z2 l2 h2 => ?_
  obtain ⟨hn, q⟩ := Sf.sto h2
  exact q _ _ (r2'.stoD z2 hn) (.refl _)
theorem ds_setO {i : Nat} {x : Str} {pos' : Pos} (hN : X.N.Nodup) (hi : X.N[i]? = some x) (hx : Loc X.env.scope x) (he : DO X T W e mo) (hs : swapsWith e (some (.Name x pos')) pos.line X.env = pure false := by rfl) (hf : X.fn x = true ∨ X.env.scope.names.lookup x = some .local := by first | exact .inl rfl | exact .inr rfl | assumption) :
    DS X T W (.Assign [.Name x pos'] e pos) (sSetO i mo) := by
  refine ⟨fun C hC => ⟨fun pins s σ H D I h => (ps_set hN hi hx (he.pe C hC) hs hf).run pins s σ H D I ?_⟩⟩
  obtain ⟨env, r, h⟩ := h
  refine ⟨env, r, Sf.bind h fun u H1 v env1 r1 hv l1 h1 => ?_⟩
  obtain ⟨hn, q⟩ := Sf.sto h1
  exact q _ _ (r1.stoO hv.o hn) (.refl _)
theorem ds_asg {tg : Expr} {vs : List Nat} {g : PyData → M Unit} (he : DE X T W e m) (hg : DG X tg vs g) (hs : swapsWithSole [tg] e pos.line X.env = pure false := by rfl) (hw : swappedStores [tg] e X.env = pure none := by rfl)
    (h1 : (assignEach [tg] X.env).map (·.2) = [assign tg X.env] := by rfl) : DS X T W (.Assign [tg] e pos) (sAsg g m) := by
  refine ⟨fun C hC => ⟨fun pins s σ H D I h => (ps_asg (pe_ghost (he.pe C hC)) (hg.pg C) hs hw h1).run pins s σ H D I ?_⟩⟩
  obtain ⟨env, r, h⟩ := h
  refine ⟨env, r, Sf.bind h fun u H1 v env1 r1 hv l1 h1 => ?_⟩
  refine ghost_leak (P := fun u H' => liftG X.K C vs g u σ H' D.nx) h1 r1 hv fun d env2 H2 r2' z2 l2 h2 => ?_
  refine ⟨env2, d, r2', z2, ?_⟩
  unfold M.bind at h2
  cases e : noE (g d) env2 with
  | ok w env3 =>
    rw [e] at h2
    rw [noE_ok e]
    exact fun σ' r3 _ => h2 σ' H2 r3 (.refl _)
  | err x env' => exact (noE_err e).elim
  | stuck => rw [e] at h2; exact h2.elim
theorem ds_ret (he : DE X T W e m) : DS X T W (.Return (some e) pos) (sRet m) := by
  refine ⟨fun C hC => ⟨fun pins s σ H D I h => (ps_ret (pe_ghost (he.pe C hC))).run pins s σ H D I ?_⟩⟩
  obtain ⟨env, r, h⟩ := h
  refine ⟨env, r, Sf.bind h fun u H1 v env1 r1 hv l1 h1 => ?_⟩
  refine ghost_leak (P := fun u H' => D.rt u H') h1 r1 hv fun d env2 H2 r2' z2 l2 h2 => ?_
  exact h2 u σ H2 r2' z2 (.refl _)
theorem ds_retO (he : DO X T W e mo) : DS X T W (.Return (some e) pos) (sRetO mo) := by
  refine ⟨fun C hC => ⟨fun pins s σ H D I h => (ps_ret (he.pe C hC)).run pins s σ H D I ?_⟩⟩
  obtain ⟨env, r, h⟩ := h
  refine ⟨env, r, Sf.bind h fun u H1 v env1 r1 hv l1 h1 => ?_⟩
  exact h1 u σ H1 r1 hv.o (.refl _)
theorem ds_setQ {mq : M OO} {i : Nat} {x : Str} {pos' : Pos} (hN : X.N.Nodup) (hi : X.N[i]? = some x) (hx : Loc X.env.scope x) (he : DQ X T W e mq) (hs : swapsWith e (some (.Name x pos')) pos.line X.env = pure false := by rfl) (hf : X.fn x = true ∨ X.env.scope.names.lookup x = some .local := by first | exact .inl rfl | exact .inr rfl | assumption) :
    DS X T W (.Assign [.Name x pos'] e pos) (sSetQ i mq) := by
  refine ⟨fun C hC => ⟨fun pins s σ H D I h => (ps_set hN hi hx (he.pe C hC) hs hf).run pins s σ H D I ?_⟩⟩
  obtain ⟨env, r, h⟩ := h
  refine ⟨env, r, Sf.bind h fun u H1 v env1 r1 hv l1 h1 => ?_⟩
  obtain ⟨hn, q⟩ := Sf.sto h1
  exact q _ _ (r1.stoO hv hn) (.refl _)
theorem ds_retQ {mq : M OO} (he : DQ X T W e mq) : DS X T W (.Return (some e) pos) (sRetQ mq) := by
  refine ⟨fun C hC => ⟨fun pins s σ H D I h => (ps_ret (he.pe C hC)).run pins s σ H D I ?_⟩⟩
  obtain ⟨env, r, h⟩ := h
  refine ⟨env, r, Sf.bind h fun u H1 v env1 r1 hv l1 h1 => ?_⟩
  exact h1 u σ H1 r1 hv (.refl _)
theorem ds_retN : DS X T W (.Return none pos) (M.pure (.ret (.d .none))) := by
  refine ⟨fun C hC => ⟨fun pins s σ H D I h => ps_retN.run pins s σ H D I ?_⟩⟩
  obtain ⟨env, r, h⟩ := h
  exact h .non σ H r .non (.refl H)
theorem ds_if {c : Expr} {a b : List Stmt} {mc : M Bool} (hc : DT X T W c mc) (ha : DSs X T W a ma) (hb : DSs X T W b mb) : DS X T W (.If c a b pos) (sIf mc ma mb) := by
  refine ⟨fun C hC => ⟨fun pins s σ H D I h => (ps_if (hc.pt C hC) (ha.pss C hC) (hb.pss C hC)).run pins s σ H D I ?_⟩⟩
  obtain ⟨env, r, h⟩ := h
  refine ⟨env, r, Sf.bind h fun k H1 v env1 r1 hv l1 h1 => ?_⟩
  subst hv
  cases k with
  | true => exact ⟨env1, r1, h1⟩
  | false => exact ⟨env1, r1, h1⟩
theorem ds_drop (he : DE X T W e m) (hs : swapsWith e none pos.line X.env = pure false := by rfl) : DS X T W (.Expr e pos) (sDrop m) := by
  refine ⟨fun C hC => ⟨fun pins s σ H D I h => (ps_expr (he.pe C hC) hs).run pins s σ H D I ?_⟩⟩
  obtain ⟨env, r, h⟩ := h
  refine ⟨env, r, Sf.bind h fun u H1 v env1 r1 hv l1 h1 => ?_⟩
  exact h1 σ H1 r1 (.refl H1)
end
end DL
end

/- EL8 -/
section
set_option maxHeartbeats 4000000
namespace DL
open PySem PySem.Spec PyProof.Rows L2

theorem M.bind_ok {α β : Type} {m : M α} {k : α → M β} {env env' : En} {v : α} (e : m env = .ok v env') : M.bind m k env = k v env' := by
  unfold M.bind
  rw [e]
theorem M.bind_err {α β : Type} {m : M α} {k : α → M β} {env env' : En} {x : Er} (e : m env = .err x env') : M.bind m k env = .err x env' := by
  unfold M.bind
  rw [e]
theorem M.bind_stuck {α β : Type} {m : M α} {k : α → M β} {env : En} (e : m env = .stuck) : M.bind m k env = .stuck := by
  unfold M.bind
  rw [e]
/-! ### loops -/
def forL (g : PyData → M Unit) (b : M Fl) : List PyData → M Fl
  | [] => sNext
  | d :: ds => M.bind (noE (g d)) fun _ => M.bind b fun fl => match fl with
    | .next => forL g b ds
    | .cont => forL g b ds
    | .brk => sNext
    | .ret v => M.pure (.ret v)
def sFor (mi : M Src) (g : PyData → M Unit) (b : M Fl) : M Fl := M.bind mi fun s => match s with
  | .fix items => forL g b items
  | .own _ => M.stuck
def whileN (c : M Bool) (b : M Fl) : Nat → M Fl
  | 0 => M.stuck
  | n + 1 => M.bind c fun k => if k = true then M.bind b fun fl => match fl with
    | .next => whileN c b n
    | .cont => whileN c b n
    | .brk => sNext
    | .ret v => M.pure (.ret v) else sNext
section
variable {X : Cx} {T : List (Addr × Str)} {W : WX} {pos : Pos} {vs : List Nat}
theorem ds_for {tg iter : Expr} {body : List Stmt} {mi : M Src} {g : PyData → M Unit} {mb : M Fl} (hp : PassesOwn (model X.prog X.w) X.A X.env X.xe) (hc : X.calm = true) (hi : DI X T W tg iter mi) (hg : DG X tg vs g) (hb : DSs X T W body mb)
    (hs : ∀ x, foldedSetIterable iter X.env x = pure x := by intro _; rfl) : DS X T W (.For tg iter body [] pos) (sFor mi g mb) := by
  refine ⟨fun C hC => ⟨fun pins s σ H D I h => (ps_for hp hc (hi.pi C hC) (hg.pg C) (hb.pss C hC) hs).run pins s σ H D I ?_⟩⟩
  obtain ⟨env, r, h⟩ := h
  refine ⟨env, r, Sf.bind h fun J H1 src env1 r1 hv l1 h1 => ?_⟩
  cases src with
  | own j => exact h1.elim
  | fix items =>
    refine ⟨fun i m σ H => m = items.length - i ∧ i ≤ items.length ∧ Le H1 H ∧ ∃ env, Rel X.K C H σ env ∧ Sf X.K X.mg C W H (forL g mb (items.drop i) env) D, ⟨items.length, by simp, Nat.zero_le _, .refl _, env1, r1, h1⟩, ?_⟩
    rintro i m σ H ⟨rfl, hi, l, env, r, h⟩
    by_cases hlt : i < items.length
    · refine .inr ⟨hv.go i H l hlt, fun σ H => i + 1 ≤ items.length ∧ Le H1 H ∧ ∃ env, Rel X.K C H σ env ∧ Sf X.K X.mg C W H (forL g mb (items.drop (i + 1)) env) D, fun σ' H' p' => ⟨items.length - (i + 1), by omega, rfl, p'⟩, fun x H' y => ?_⟩
      obtain ⟨sm, zx⟩ := hv.yld i H x H' items[i] l y (List.getElem?_eq_getElem hlt)
      rw [List.drop_eq_getElem_cons hlt] at h
      unfold forL M.bind at h
      have l' := l.trans (Le.same sm)
      refine ⟨env, items[i], r.grow sm, zx, ?_⟩
      cases e : noE (g items[i]) env with
      | ok w env2 =>
        rw [e] at h
        rw [noE_ok e]
        dsimp only at h ⊢
        intro σ2 r2 _
        refine ⟨env2, r2, ?_⟩
        have h := h.le (Le.same sm)
        cases e2 : mb env2 with
        | ok fl env3 =>
          rw [e2] at h
          cases fl with
          | next => exact fun σ3 H3 r3 l3 => ⟨hlt, l'.trans l3, env3, r3, Sf.le (show Sf X.K X.mg C W H' (forL g mb (items.drop (i + 1)) env3) D from h) l3⟩
          | cont => exact fun σ3 H3 r3 l3 => ⟨hlt, l'.trans l3, env3, r3, Sf.le (show Sf X.K X.mg C W H' (forL g mb (items.drop (i + 1)) env3) D from h) l3⟩
          | brk => exact h
          | ret v => exact h
        | err x env' => rw [e2] at h; exact h
        | stuck => rw [e2] at h; exact h.elim
      | err x env' => exact (noE_err e).elim
      | stuck => rw [e] at h; exact h.elim
    · have e : i = items.length := by omega
      subst e
      rw [List.drop_length] at h
      exact .inl ⟨hv.stop H l, h σ H r (.refl H)⟩
theorem ds_while {c : Expr} {body : List Stmt} {mc : M Bool} {mb : M Fl} (n : Nat) (hp : PassesOwn (model X.prog X.w) X.A X.env X.xe) (hc : DT X T W c mc) (hb : DSs X T W body mb) : DS X T W (.While c body [] pos) (whileN mc mb n) := by
  refine ⟨fun C hC => ⟨fun pins s σ H D I h => (ps_while hp (hc.pt C hC) (hb.pss C hC)).run pins s σ H D I ?_⟩⟩
  obtain ⟨env, r, h⟩ := h
  refine ⟨fun m σ H => ∃ env, Rel X.K C H σ env ∧ Sf X.K X.mg C W H (whileN mc mb m env) D, ⟨n, env, r, h⟩, ?_⟩
  rintro m σ H ⟨env, r, h⟩
  cases m with
  | zero => exact h.elim
  | succ m =>
    refine ⟨env, r, Sf.bind (show Sf X.K X.mg C W H (M.bind mc _ env) D from h) fun k H1 v env1 r1 hv l1 h1 => ?_⟩
    subst hv
    cases k with
    | false => exact h1 σ H1 r1 (.refl _)
    | true =>
      refine ⟨fun σ H => ∃ env, Rel X.K C H σ env ∧ Sf X.K X.mg C W H (whileN mc mb m env) D, fun σ' H' p => ⟨m, Nat.lt_succ_self m, p⟩, env1, r1, ?_⟩
      have h1 : Sf X.K X.mg C W H1 (M.bind mb (fun fl => match fl with
        | .next => whileN mc mb m
        | .cont => whileN mc mb m
        | .brk => sNext
        | .ret v => M.pure (.ret v)) env1) D := h1
      unfold M.bind at h1
      cases e2 : mb env1 with
      | ok fl env3 =>
        rw [e2] at h1
        cases fl with
        | next => exact fun σ3 H3 r3 l3 => ⟨env3, r3, Sf.le (show Sf X.K X.mg C W H1 (whileN mc mb m env3) D from h1) l3⟩
        | cont => exact fun σ3 H3 r3 l3 => ⟨env3, r3, Sf.le (show Sf X.K X.mg C W H1 (whileN mc mb m env3) D from h1) l3⟩
        | brk => exact h1
        | ret v => exact h1
      | err x env' => rw [e2] at h1; exact h1
      | stuck => rw [e2] at h1; exact h1.elim
end

/-! ### methods of an own list -/
def mPut (i : Nat) (f : List PyData → Option (PyData × List PyData)) : M Vl := fun env => match env[i]? with
  | some (some (.own b (.l ds))) => match f ds with
    | some (d, es) => .ok (.d d) (env.set i (some (.own b (.l es))))
    | none => .stuck
  | _ => .stuck
def isOwn (i : Nat) : M Unit := fun env => match env[i]? with
  | some (some (.own _ (.l _))) => .ok () env
  | _ => .stuck
/-- x.method(args), x an own list -/
def mMeth (i : Nat) (f : List PyData → List PyData → Option (PyData × List PyData)) (ms : M (List Vl)) : M Vl := M.bind (isOwn i) fun _ => M.bind ms fun vs => M.bind (leakAll vs) fun args => mPut i (f args)
def rMeth (K : PySem.W.Frag) (f : List PyData → List PyData → Option (PyData × List PyData)) : V → List V → Hp → VK → Prop := fun x vs H Q => ∃ l xs ds args d es, x = .ref l ∧ H l = some (.lst xs) ∧ DzAll K H xs ds ∧ DzAll K H vs args ∧ f args ds = some (d, es) ∧
  ∀ z ys, DzAll K H ys es → Dz K H z d → Q z (upd H l (.lst ys))
section
variable {X : Cx} {T : List (Addr × Str)} {W : WX} {pos apos cpos : Pos}
theorem isOwn_ok {i : Nat} {env env' : En} (e : isOwn i env = .ok () env') : env' = env ∧ ∃ b ds, env[i]? = some (some (.own b (.l ds))) := by
  unfold isOwn at e
  split at e
  · rename_i b ds h
    cases e
    exact ⟨rfl, b, ds, h⟩
  · cases e
theorem mPut_ok {i : Nat} {f : List PyData → Option (PyData × List PyData)} {env env' : En} {v : Vl} (e : mPut i f env = .ok v env') : ∃ b ds d es, env[i]? = some (some (.own b (.l ds))) ∧ f ds = some (d, es) ∧ v = .d d ∧ env' = env.set i (some (.own b (.l es))) := by
  unfold mPut at e
  split at e
  · rename_i b ds h
    split at e
    · rename_i d es hf
      cases e
      exact ⟨b, ds, d, es, h, hf, rfl, rfl⟩
    · cases e
  · cases e
theorem mPut_noerr {i : Nat} {f : List PyData → Option (PyData × List PyData)} {env env' : En} {x : Er} : mPut i f env ≠ .err x env' := by
  unfold mPut
  split
  · split <;> exact fun z => by cases z
  · exact fun z => by cases z
theorem isOwn_noerr {i : Nat} {env env' : En} {x : Er} : isOwn i env ≠ .err x env' := by
  unfold isOwn
  split <;> exact fun z => by cases z
theorem lift_put {C : Ct} {σ : L2.St} {H : Hp} {env : En} {i : Nat} {f : List PyData → List PyData → Option (PyData × List PyData)} {args : List PyData} {us : List V} {a : Addr} {Q : VK} (h : Lf X.K X.mg C W σ H (fun u H v _ => VR X.K σ u H v) (mPut i (f args) env) Q) (r : Rel X.K C H σ env) (ha : σ[i]? = some (some (.ref a))) (hz : DzAll X.K H us args) :
    rMeth X.K f (.ref a) us H Q := by
  cases e : mPut i (f args) env with
  | ok v env' =>
    rw [e] at h
    obtain ⟨b, ds, d, es, e1, e2, rfl, rfl⟩ := mPut_ok e
    obtain ⟨a', xs, q1, q2, q3, q4, q5⟩ := r.ownL i b ds e1
    rw [ha] at q1
    cases q1
    refine ⟨a, xs, ds, args, d, es, rfl, q2, q3, hz, e2, fun z ys zs zz => ?_⟩
    have l : Le H (upd H a (.lst ys)) := Le.put q2
    exact h z _ (Rel.put r e1 ha q2 zs q4 q5) (Dz.le l d zz) l
  | err x env' => exact absurd e mPut_noerr
  | stuck => rw [e] at h; exact h.elim
theorem de_meth {i : Nat} {x : Str} {id : String} {name : Str} {e : Expr} {es : List Expr} {ms : M (List Vl)} {f : List PyData → List PyData → Option (PyData × List PyData)} (slot : Slot "list" name id) (hm : MtR X id (rMeth X.K f))
    (hN : X.N[i]? = some x) (hv : Vis X.env.scope x) (ha : DA X T W (e :: es) ms)
    (hd : (x == ("__debug__" : Str)) = false := by decide) (hcd : (x == ("__classdict__" : Str)) = false := by decide) (pa : PlainAttrs "list" := by exact PySem.F.plainAttrs_list) (hty : typeOf (.builtin id) = pure (.type "method_descriptor") := by rfl)
    (hbase : attributeBase (.Name x pos) name X.env (eval (.Name x pos) X.env) = eval (.Name x pos) X.env := by rfl)
    (hfew : ((backTo cpos (starEach (e :: es) X.env)).all (fun x => !x.1) && (backToKw cpos (keywordEach [] X.env)).all (fun x => x.1.isSome)
      && decide ((e :: es).length + ([] : List Keyword).length + (if ([] : List Keyword).isEmpty then 0 else 1) < 30)) = true := by rfl)
    (hline : (apos.endLine == cpos.line) = true := by rfl) (hs : starEach (e :: es) X.env = (false, eval e X.env) :: starEach es X.env := by rfl) (hplain : (backTo cpos (starEach es X.env)).any (·.1) = false := by rfl) :
    DE X T W (.Call (.Attribute (.Name x pos) name apos) (e :: es) [] cpos) (mMeth i f ms) := by
  refine ⟨fun C hC => ⟨fun pins s σ H Q I h => (pe_bm pa slot hty hm (pe_var (pos := pos) hN hv hd hcd) (pa_ghost (ha.pa C hC)) hbase hfew hline hs hplain).run pins s σ H Q I ?_⟩⟩
  obtain ⟨env, r, h⟩ := h
  unfold mMeth at h
  cases e0 : isOwn i env with
  | err x env' => exact absurd e0 isOwn_noerr
  | stuck => rw [M.bind_stuck e0] at h; exact h.elim
  | ok w env0 =>
    rw [M.bind_ok e0] at h
    obtain ⟨e00, b, ds, hi⟩ := isOwn_ok e0
    subst e00
    obtain ⟨a, xs, q1, q2, q3, q4, q5⟩ := r.ownL i b ds hi
    refine ⟨.ref a, q1, .inl ⟨rfl, xs, SqL.of q2⟩, env0, r, Lf.bind h fun us H1 vs env1 r1 hv l1 h1 => ?_⟩
    obtain ⟨args, env2, e1, h2⟩ := Lf.leakAll h1 r1 hv
    refine (leakAll_ok r1 hv e1).imp fun H2 ⟨r2', z2, l2, _, _⟩ => ?_
    exact lift_put (h2.mono l2 fun _ _ z => z) r2' q1 z2
theorem de_meth0 {i : Nat} {x : Str} {id : String} {name : Str} {f : List PyData → List PyData → Option (PyData × List PyData)} (slot : Slot "list" name id) (hm : MtR X id (rMeth X.K f))
    (hN : X.N[i]? = some x) (hv : Vis X.env.scope x)
    (hd : (x == ("__debug__" : Str)) = false := by decide) (hcd : (x == ("__classdict__" : Str)) = false := by decide) (pa : PlainAttrs "list" := by exact PySem.F.plainAttrs_list) (hty : typeOf (.builtin id) = pure (.type "method_descriptor") := by rfl)
    (hbase : attributeBase (.Name x pos) name X.env (eval (.Name x pos) X.env) = eval (.Name x pos) X.env := by rfl) (hline : (apos.endLine == cpos.line) = true := by rfl) :
    DE X T W (.Call (.Attribute (.Name x pos) name apos) [] [] cpos) (mMeth i f mNil) := by
  refine ⟨fun C hC => ⟨fun pins s σ H Q I h => (pe_bm0 pa slot hty hm (pe_var (pos := pos) hN hv hd hcd) hbase hline).run pins s σ H Q I ?_⟩⟩
  obtain ⟨env, r, h⟩ := h
  unfold mMeth at h
  cases e0 : isOwn i env with
  | err x env' => exact absurd e0 isOwn_noerr
  | stuck => rw [M.bind_stuck e0] at h; exact h.elim
  | ok w env0 =>
    rw [M.bind_ok e0] at h
    obtain ⟨e00, b, ds, hi⟩ := isOwn_ok e0
    subst e00
    obtain ⟨a, xs, q1, q2, q3, q4, q5⟩ := r.ownL i b ds hi
    exact ⟨.ref a, q1, .inl ⟨rfl, xs, SqL.of q2⟩, lift_put (us := []) (args := []) (show Lf X.K X.mg C W σ H _ (mPut i (f []) env0) Q from h) r q1 .nil⟩
def fAppend : List PyData → List PyData → Option (PyData × List PyData)
  | [d], ds => if ds.length < sizeLine then some (.none, ds ++ [d]) else none
  | _, _ => none
def fExtend : List PyData → List PyData → Option (PyData × List PyData)
  | [.list es], ds => if ds.length + es.length ≤ sizeLine then some (.none, ds ++ es) else none
  | _, _ => none
def fPop : List PyData → List PyData → Option (PyData × List PyData)
  | [], ds => (ds[ds.length - 1]?).map fun d => (d, ds.dropLast)
  | [.int i], ds => if -(2 ^ 63) ≤ i ∧ i < 2 ^ 63 then (seqIndex? i ds.length).bind fun k => (ds[k]?).map fun d => (d, ds.eraseIdx k) else none
  | _, _ => none
theorem DzAll.one {K : PySem.W.Frag} {H : Hp} {vs : List V} {d : PyData} (h : DzAll K H vs [d]) : ∃ v, vs = [v] ∧ Dz K H v d := by
  cases h with
  | cons a b => cases b; exact ⟨_, rfl, a⟩
theorem DzAll.dropLast {K : PySem.W.Frag} {H : Hp} {vs : List V} {ds : List PyData} (h : DzAll K H vs ds) : DzAll K H vs.dropLast ds.dropLast := by
  rw [List.dropLast_eq_take, List.dropLast_eq_take, h.length]
  exact h.take _
theorem m_append : MtR X "list.append" (rMeth X.K fAppend) := by
  intro pins s σ H x us v vals Q I rx rv h
  obtain ⟨l, xs, ds, args, d, es, rfl, h1, h2, h3, h4, q⟩ := h
  match args, h3, h4 with
  | [y], h3, h4 =>
    obtain ⟨u, rfl, zu⟩ := h3.one
    unfold fAppend at h4
    dsimp only at h4
    split at h4
    · rename_i hl
      cases h4
      exact mt_append pins s σ H _ _ v vals Q I rx rv ⟨l, xs, u, rfl, rfl, h1, by rw [h2.length]; exact hl, q _ _ (h2.append (.cons zu .nil)) .non⟩
    · cases h4
theorem m_extend : MtR X "list.extend" (rMeth X.K fExtend) := by
  intro pins s σ H x us v vals Q I rx rv h
  obtain ⟨l, xs, ds, args, d, es, rfl, h1, h2, h3, h4, q⟩ := h
  match args, h3, h4 with
  | [.list ys], h3, h4 =>
    obtain ⟨u, rfl, zu⟩ := h3.one
    unfold fExtend at h4
    dsimp only at h4
    split at h4
    · rename_i hl
      cases h4
      cases zu with
      | @lst bb zs _ f1 f2 =>
        cases rx
        obtain ⟨u, rfl, ru⟩ := rv.one
        cases ru
        obtain ⟨z, its, n, r, hl1, e⟩ := I.lstM h1
        obtain ⟨z2, its2, n2, r2, hl2, e2⟩ := DL.Inv.rdL I f1.rd
        have g1 := h2.length
        have g2 := f2.length
        have hsz : its.toArray.size + its2.toArray.size ≤ sizeLine := by rw [List.size_toArray, List.size_toArray]; omega
        have hlong : ¬ (!its.toArray.isEmpty && Builtin.List.listTooLong (its.toArray.size + its2.toArray.size)) = true := by
          rw [notLongL hsz, Bool.and_false]
          exact Bool.false_ne_true
        refine call_meets F.slot_list_extend ⟨_, e, rfl⟩ F.entry_list_extend (F.args_list_extend_2 _ _)
          (AutoSeq1.list_extend_list_list_0 l its.toArray n bb its2.toArray n2 hlong (by simp only [List.size_toArray] at *; omega) (by simp only [List.size_toArray] at *; omega)) ⟨e, e2, ?_⟩
        refine ⟨.non, _, I.lset (its' := its ++ its2) h1 e (by simp) (r.append r2) ?_, rfl, q _ _ (h2.append f2) .non⟩
        rw [List.length_append]
        omega
    · cases h4
theorem m_pop : MtR X "list.pop" (rMeth X.K fPop) := by
  intro pins s σ H x us v vals Q I rx rv h
  obtain ⟨l, xs, ds, args, d, es, rfl, h1, h2, h3, h4, q⟩ := h
  match args, h3, h4 with
  | [], h3, h4 =>
    cases h3
    unfold fPop at h4
    dsimp only at h4
    rw [Option.map_eq_some_iff] at h4
    obtain ⟨d', e1, e2⟩ := h4
    cases e2
    obtain ⟨w, g1, g2⟩ := h2.get e1
    rw [← h2.length] at g1
    exact mt_pop pins s σ H _ _ v vals Q I rx rv ⟨l, xs, w, rfl, rfl, h1, g1, q _ _ h2.dropLast g2⟩
  | [.int i], h3, h4 =>
    obtain ⟨u, rfl, zu⟩ := h3.one
    cases zu
    unfold fPop at h4
    dsimp only at h4
    split at h4
    · rename_i hi
      rw [Option.bind_eq_some_iff] at h4
      obtain ⟨k, e0, h4⟩ := h4
      rw [Option.map_eq_some_iff] at h4
      obtain ⟨d', e1, e2⟩ := h4
      cases e2
      obtain ⟨w, g1, g2⟩ := h2.get e1
      rw [← h2.length] at e0
      exact mt_popAt pins s σ H _ _ v vals Q I rx rv ⟨l, xs, i, k, w, rfl, rfl, h1, hi.1, hi.2, e0, g1, q _ _ (h2.eraseIdx k) g2⟩
    · cases h4
end
/-! ### x[i] = e on an own list; x op= e -/
def fSet (d : PyData) : List PyData → List PyData → Option (PyData × List PyData)
  | [.int k], ds => (ixN ds.length k).map fun j => (.none, ds.set j d)
  | _, _ => none
def sSetS (i : Nat) (m mi : M Vl) : M Fl := M.bind m fun v => M.bind (leak v) fun d => M.bind (noE (M.bind (isOwn i) fun _ => M.bind mi fun k => M.bind k.get fun kd => mPut i (fSet d [kd]))) fun _ => sNext
section
variable {X : Cx} {T : List (Addr × Str)} {W : WX} {pos apos cpos npos : Pos}
theorem noE_bind_ok {α β : Type} {m : M α} {k : α → M β} {env env' : En} {b : β} (h : M.bind m k env = .ok b env') : ∃ a env1, m env = .ok a env1 ∧ k a env1 = .ok b env' := by
  unfold M.bind at h
  cases e : m env with
  | ok a env1 => rw [e] at h; exact ⟨a, env1, rfl, h⟩
  | err x env1 => rw [e] at h; cases h
  | stuck => rw [e] at h; cases h
theorem ds_setS {i : Nat} {x : Str} {e ie : Expr} {m mi : M Vl} (hN : X.N[i]? = some x) (hv : Vis X.env.scope x) (he : DE X T W e m) (hi : DE X T (fun _ _ _ _ => False) ie mi)
    (hd : (x == ("__debug__" : Str)) = false := by decide) (hcd : (x == ("__classdict__" : Str)) = false := by decide)
    (ha : ∀ v, assign (.Subscript (.Name x npos) ie apos) X.env v = (do
      let ov ← holding [v] (eval (.Name x npos) X.env)
      let iv ← holding [v, ov] (eval ie X.env)
      standAt apos
      holding [v, ov, iv] (setItem ov iv v)
      release [v, ov, iv] []) := by intro _; rfl)
    (hs : swapsWithSole [.Subscript (.Name x npos) ie apos] e pos.line X.env = pure false := by rfl) (hw : swappedStores [.Subscript (.Name x npos) ie apos] e X.env = pure none := by rfl)
    (h1 : (assignEach [.Subscript (.Name x npos) ie apos] X.env).map (·.2) = [assign (.Subscript (.Name x npos) ie apos) X.env] := by rfl) : DS X T W (.Assign [.Subscript (.Name x npos) ie apos] e pos) (sSetS i m mi) := by
  refine ⟨fun C hC => ⟨fun pins s σ H D I h => (ps_asg (pe_ghost (he.pe C hC)) (pg_sub (pe_var (pos := npos) hN hv hd hcd) (hi.pe C hC) set_list ha) hs hw h1).run pins s σ H D I ?_⟩⟩
  obtain ⟨env, r, h⟩ := h
  refine ⟨env, r, Sf.bind h fun u H1 v env1 r1 hv l1 h1 => ?_⟩
  refine ghost_leak (P := fun u H' => L2.gSub (tVar i) (lift X.K X.mg C (fun _ _ _ _ => False) mi) rSetL u σ H' D.nx) h1 r1 hv fun d env2 H2 r2' z2 l2 h2 => ?_
  cases e : noE (M.bind (isOwn i) fun _ => M.bind mi fun k => M.bind k.get fun kd => mPut i (fSet d [kd])) env2 with
  | err x env' => exact (noE_err e).elim
  | stuck =>
    rw [M.bind_stuck e] at h2
    exact h2.elim
  | ok w env3 =>
    have e' := noE_ok e
    rw [M.bind_ok e] at h2
    obtain ⟨_, env4, e4, e5⟩ := noE_bind_ok e'
    obtain ⟨rfl, b, ds, hi0⟩ := isOwn_ok e4
    obtain ⟨k, env5, e6, e7⟩ := noE_bind_ok e5
    obtain ⟨a, xs, q1, q2, q3, q4, q5⟩ := r2'.ownL i b ds hi0
    refine ⟨.ref a, q1, env4, r2', ?_⟩
    rw [e6]
    intro ku H3 r3 hk l3
    obtain ⟨kd, env6, e8, e9⟩ := noE_bind_ok e7
    have hk2 : ∃ kk, kd = .int kk ∧ Rz X.K H3 ku kd ∧ env6 = env5 := by
      have hh : Lf X.K X.mg C (fun _ _ _ _ => False) σ H3 (fun (u : Unit) _ v env => v = kd ∧ env = env6) (M.bind k.get (fun kd => M.pure kd) env5) fun _ _ => True := by
        unfold M.bind
        rw [e8]
        exact fun _ _ _ _ _ => trivial
      obtain ⟨b', ds', d', es', _, hf, _, _⟩ := mPut_ok e9
      match kd, hf, e8 with
      | .int kk, hf, e8 =>
        cases k with
        | d x =>
          cases e8
          exact ⟨kk, rfl, .inl hk, rfl⟩
        | sl j =>
          unfold Vl.get at e8
          dsimp only at e8
          split at e8 <;> cases e8
    obtain ⟨kk, rfl, zk, rfl⟩ := hk2
    have := zk.int
    subst this
    obtain ⟨b', ds', d', es', g1, hf, rfl, rfl⟩ := mPut_ok e9
    obtain ⟨a', xs', g2, g3, g4, g5, g6⟩ := r3.ownL i b' ds' g1
    rw [q1] at g2
    cases g2
    unfold fSet at hf
    dsimp only at hf
    rw [Option.map_eq_some_iff] at hf
    obtain ⟨j, hj, hf⟩ := hf
    cases hf
    have l : Le H3 (upd H3 a (.lst (xs'.set j u))) := Le.put g3
    refine ⟨a, xs', kk, j, rfl, rfl, g3, by rw [g4.length]; exact hj, ?_⟩
    exact h2 σ _ (Rel.put r3 g1 q1 g3 (DzAll.set (Dz.le l3 d z2) j g4) g5 g6) (l3.trans l)
def intsOnly (g : PyData → PyData → Option PyData) : PyData → PyData → Option PyData
  | .int i, .int j => g (.int i) (.int j)
  | _, _ => none
def sAug (i : Nat) (f : Int → Int → Int) (m : M Vl) : M Fl := M.bind (mVar i) fun v => M.bind m fun w => match v, w with
  | .d (.int a), .d (.int b) => M.bind (sto i (.d (.int (f a b)))) fun _ => sNext
  | _, _ => M.stuck
theorem ds_aug {i : Nat} {x : Str} {e : Expr} {m : M Vl} {op : Operator} {f : Int → Int → Int} {pos' : Pos} (hN : X.N.Nodup) (hi : X.N[i]? = some x) (hx : Loc X.env.scope x) (he : DE X T W e m) (ho : PIp X op (ipI f)) (hf : X.fn x = true ∨ X.env.scope.names.lookup x = some .local := by first | exact .inl rfl | exact .inr rfl | assumption) :
    DS X T W (.AugAssign (.Name x pos') op e pos) (sAug i f m) := by
  refine ⟨fun C hC => ⟨fun pins s σ H D I h => (ps_aug hN hi hx (he.pe C hC) ho hf).run pins s σ H D I ?_⟩⟩
  obtain ⟨env, r, h⟩ := h
  unfold sAug at h
  cases e0 : mVar i env with
  | stuck => rw [M.bind_stuck e0] at h; exact h.elim
  | err x env' =>
    unfold mVar at e0
    split at e0 <;> cases e0
  | ok v env0 =>
    rw [M.bind_ok e0] at h
    unfold mVar at e0
    split at e0
    · rename_i d hd
      cases e0
      obtain ⟨u, q1, q2⟩ := r.dat i _ hd
      refine ⟨u, q1, env, r, Sf.bind h fun y H1 w env1 r1 hw l1 h1 => ?_⟩
      match d, w, h1, q2, hw with
      | .int a, .d (.int b), h1, q2, hw =>
        cases q2
        cases (show Dz X.K H1 y (.int b) from hw)
        obtain ⟨hn, q⟩ := Sf.sto h1
        exact ⟨a, b, rfl, rfl, q _ _ (r1.stoD (.int _) hn) (.refl _)⟩
    · cases e0
      rename_i bb dd hd
      have h : Sf X.K X.mg C W H (M.bind m (fun _ => M.stuck) env) D := h
      obtain ⟨a, xs, q1, _⟩ := r.own i bb dd hd
      exact ⟨.ref a, q1, env, r, Sf.bind h fun y H1 w env1 r1 hw l1 h1 => h1.elim⟩
    · cases e0
end

end DL
end

/- EL9 -/
section
set_option maxHeartbeats 4000000
namespace DL
open PySem PySem.Spec PyProof.Rows L2

/-! ### comprehensions -/
def noOwn (vs : List Nat) (env : En) : Bool := vs.all fun v => match env[v]? with
  | some (some (.own _ _)) => false
  | _ => true
def wipeE (env : En) : List Nat → En
  | [] => env
  | v :: vs => (wipeE env vs).set v none
def restE (env0 env : En) : List Nat → En
  | [] => env
  | v :: vs => (restE env0 env vs).set v (match env0[v]? with
    | some x => x
    | none => none)
def clr (vs : List Nat) : M Unit := fun env => if noOwn vs env = true then .ok () (wipeE env vs) else .stuck
/-- what comes at turn i -/
def srcAt : Src → Nat → M (Option PyData)
  | .fix items, i => M.pure items[i]?
  | .own j, i => fun env => match env[j]? with
    | some (some (.own _ (.l ds))) => .ok ds[i]? env
    | _ => .stuck
def srcLen : Src → M Nat
  | .fix items => M.pure items.length
  | .own j => fun env => match env[j]? with
    | some (some (.own _ (.l ds))) => .ok ds.length env
    | _ => .stuck
def lcTurn (vs : List Nat) (g : PyData → M Unit) (t : M Bool) (e : M Vl) (d : PyData) (acc : List PyData) : M (List PyData) :=
  M.bind (noE (g d)) fun _ => M.bind (noE t) fun k => if k = true then M.bind (noE e) fun v => M.bind (leak v) fun x => if acc.length < sizeLine then M.bind (clr vs) fun _ => M.pure (acc ++ [x]) else M.stuck else M.bind (clr vs) fun _ => M.pure acc
def lcN (s : Src) (vs : List Nat) (g : PyData → M Unit) (t : M Bool) (e : M Vl) : Nat → Nat → List PyData → M (List PyData)
  | 0, _, _ => M.stuck
  | n + 1, i, acc => M.bind (srcAt s i) fun o => match o with
    | none => M.pure acc
    | some d => M.bind (lcTurn vs g t e d acc) fun acc' => lcN s vs g t e n (i + 1) acc'
def lcRun (vs : List Nat) (g : PyData → M Unit) (t : M Bool) (e : M Vl) (s : Src) : M (List PyData) := fun env => match srcLen s env with
  | .ok n _ => match M.bind (clr vs) (fun _ => lcN s vs g t e (n + 1) 0 []) env with
    | .ok ds env1 => .ok ds (restE env env1 vs)
    | _ => .stuck
  | _ => .stuck
def mLc (vs : List Nat) (mi : M Src) (g : PyData → M Unit) (t : M Bool) (e : M Vl) : M (List PyData) := M.bind mi fun s => lcRun vs g t e s
def mYes : M Bool := M.pure true

section
theorem wipe_get {σ : L2.St} {i : Nat} : ∀ {vs : List Nat}, (wipe σ vs)[i]? = if i ∈ vs ∧ i < σ.length then some none else σ[i]?
  | [] => by simp [wipe]
  | v :: vs => by
    unfold wipe
    by_cases e : v = i
    · subst e
      by_cases hl : v < σ.length
      · rw [List.getElem?_set_self (by rw [wipe_length]; exact hl), if_pos ⟨by simp, hl⟩]
      · rw [List.getElem?_eq_none (by rw [List.length_set, wipe_length]; omega), if_neg (fun z => hl z.2), List.getElem?_eq_none (by omega)]
    · rw [List.getElem?_set_ne e, wipe_get]
      simp only [List.mem_cons, show ¬ i = v from fun z => e z.symm, false_or]
theorem wipeE_length {env : En} : ∀ {vs : List Nat}, (wipeE env vs).length = env.length
  | [] => rfl
  | v :: vs => by unfold wipeE; rw [List.length_set, wipeE_length]
theorem wipeE_get {env : En} {i : Nat} : ∀ {vs : List Nat}, (wipeE env vs)[i]? = if i ∈ vs ∧ i < env.length then some none else env[i]?
  | [] => by simp [wipeE]
  | v :: vs => by
    unfold wipeE
    by_cases e : v = i
    · subst e
      by_cases hl : v < env.length
      · rw [List.getElem?_set_self (by rw [wipeE_length]; exact hl), if_pos ⟨by simp, hl⟩]
      · rw [List.getElem?_eq_none (by rw [List.length_set, wipeE_length]; omega), if_neg (fun z => hl z.2), List.getElem?_eq_none (by omega)]
    · rw [List.getElem?_set_ne e, wipeE_get]
      simp only [List.mem_cons, show ¬ i = v from fun z => e z.symm, false_or]
theorem restE_length {e0 env : En} : ∀ {vs : List Nat}, (restE e0 env vs).length = env.length
  | [] => rfl
  | v :: vs => by unfold restE; rw [List.length_set, restE_length]
theorem restE_get {e0 env : En} {i : Nat} (hl : e0.length = env.length) : ∀ {vs : List Nat}, (restE e0 env vs)[i]? = if i ∈ vs then e0[i]? else env[i]?
  | [] => by simp [restE]
  | v :: vs => by
    unfold restE
    by_cases e : v = i
    · subst e
      by_cases h : v < env.length
      · rw [List.getElem?_set_self (by rw [restE_length]; exact h), if_pos (by simp)]
        cases q : e0[v]? with
        | none => rw [List.getElem?_eq_none_iff] at q; omega
        | some x => rfl
      · rw [List.getElem?_eq_none (by rw [List.length_set, restE_length]; omega), if_pos (by simp), List.getElem?_eq_none (by omega)]
    · rw [List.getElem?_set_ne e, restE_get hl]
      simp only [List.mem_cons, show ¬ i = v from fun z => e z.symm, false_or]
theorem wipe_wipe {σ : L2.St} {vs : List Nat} : wipe (wipe σ vs) vs = wipe σ vs := by
  apply List.ext_getElem?
  intro i
  rw [wipe_get, wipe_length, wipe_get]
  split <;> rfl
theorem noOwn_get {vs : List Nat} {env : En} (h : noOwn vs env = true) {i : Nat} (hi : i ∈ vs) {b : Bool} {ds : OO} : env[i]? ≠ some (some (.own b ds)) := by
  unfold noOwn at h
  rw [List.all_eq_true] at h
  have := h i hi
  intro e
  rw [e] at this
  cases this
theorem ho_ne {H : Hp} {a b : Addr} {o : PO} {u : HO} (h : H a = some o.ho) (e : H b = some u) (n : u ≠ o.ho) : b ≠ a := by
  rintro rfl
  rw [h] at e
  exact n (Option.some.inj e).symm
theorem Le.putO {H : Hp} {a : Addr} {o : PO} {u : HO} (h : H a = some o.ho) : Le H (upd H a u) :=
  ⟨fun b ys e => by rw [upd_ne (ho_ne h e (by cases o <;> exact fun z => by cases z))]; exact e, fun b ob w e => by rw [upd_ne (ho_ne h e (by cases o <;> exact fun z => by cases z))]; exact e⟩
theorem Tabs.putO {T : List (Addr × Str)} {H : Hp} {a : Addr} {o : PO} {u : HO} (h : H a = some o.ho) (t : LamX.Tabs T H) : LamX.Tabs T (upd H a u) := fun p hp => by
  obtain ⟨ps, h1, h2, h3⟩ := t p hp
  refine ⟨ps, by rw [upd_ne (ho_ne h h1 (PO.ntbl o ps).symm)]; exact h1, h2, fun pos cv hc => ?_⟩
  obtain ⟨c, e1, e2⟩ := h3 pos cv hc
  refine ⟨c, e1, ?_⟩
  rw [upd_ne (ho_ne h e2 (by unfold LamX.CodeO; cases o <;> exact fun z => by cases z))]
  exact e2
def Ct.withP (C : Ct) (D : Addr) (xs : PO) : Ct := { C with P := fun a => if a = D then some xs else C.P a }
variable {K : PySem.W.Frag} {C : Ct} {σ : L2.St} {H H1 : Hp} {env env1 : En} {D : Addr} {xs ys : PO} {vs : List Nat}
theorem Rel.wipe (r : Rel K C H σ env) (h : noOwn vs env = true) : Rel K C H (L2.wipe σ vs) (wipeE env vs) where
  len := by rw [wipe_length, wipeE_length]; exact r.len
  dat := fun i x e => by
    rw [wipeE_get] at e
    split at e
    · cases e
    · rename_i hn
      obtain ⟨v, q1, q2⟩ := r.dat i x e
      exact ⟨v, by rw [wipe_get, if_neg (by rw [← r.len]; exact hn)]; exact q1, q2⟩
  own := fun i b ds e => by
    rw [wipeE_get] at e
    split at e
    · cases e
    · rename_i hn
      obtain ⟨a, ys, q1, q2⟩ := r.own i b ds e
      exact ⟨a, ys, by rw [wipe_get, if_neg (by rw [← r.len]; exact hn)]; exact q1, q2⟩
  bkd := fun i a e => by
    obtain ⟨ds, q⟩ := r.bkd i a e
    exact ⟨ds, by rw [wipeE_get, if_neg (fun z => noOwn_get h z.1 q)]; exact q⟩
  dis := fun i j b c ds es a hij e1 e2 e3 e4 => by
    rw [wipeE_get] at e1 e2
    rw [wipe_get] at e3 e4
    split at e1
    · cases e1
    split at e2
    · cases e2
    split at e3
    · cases e3
    split at e4
    · cases e4
    exact r.dis i j b c ds es a hij e1 e2 e3 e4
  keep := r.keep
  prot := r.prot
  opq := fun i v e => by
    rw [wipeE_get] at e
    split at e
    · cases e
    · rename_i hn
      rw [wipe_get, if_neg (by rw [← r.len]; exact hn)]
      exact r.opq i v e
  tab := r.tab
theorem Rel.rest (r : Rel K C H (L2.wipe σ vs) env) (r1 : Rel K C H1 σ env1) (l : Le H1 H) (h : noOwn vs env1 = true) : Rel K C H σ (restE env1 env vs) := by
  have hl : env1.length = env.length := by rw [r1.len, r.len, wipe_length]
  have away : ∀ {i : Nat}, i ∉ vs → (L2.wipe σ vs)[i]? = σ[i]? := fun {i} hi => by rw [wipe_get, if_neg (fun z => hi z.1)]
  exact {
    len := by rw [restE_length, r.len, wipe_length]
    dat := fun i x e => by
      rw [restE_get hl] at e
      split at e
      · obtain ⟨v, q1, q2⟩ := r1.dat i x e
        exact ⟨v, q1, Dz.le l _ q2⟩
      · rename_i hn
        obtain ⟨v, q1, q2⟩ := r.dat i x e
        exact ⟨v, by rw [← away hn]; exact q1, q2⟩
    own := fun i b ds e => by
      rw [restE_get hl] at e
      split at e
      · exact absurd e (noOwn_get h (by assumption))
      · rename_i hn
        obtain ⟨a, ys, q1, q2⟩ := r.own i b ds e
        exact ⟨a, ys, by rw [← away hn]; exact q1, q2⟩
    bkd := fun i a e => by
      obtain ⟨ds, q⟩ := r1.bkd i a e
      have hn : i ∉ vs := fun z => noOwn_get h z q
      obtain ⟨es, q'⟩ := r.bkd i a e
      exact ⟨es, by rw [restE_get hl, if_neg hn]; exact q'⟩
    dis := fun i j b c ds es a hij e1 e2 e3 e4 => by
      rw [restE_get hl] at e1 e2
      split at e1
      · exact absurd e1 (noOwn_get h (by assumption))
      split at e2
      · exact absurd e2 (noOwn_get h (by assumption))
      rename_i n1 n2
      exact r.dis i j b c ds es a hij e1 e2 (by rw [away n1]; exact e3) (by rw [away n2]; exact e4)
    keep := r.keep
    prot := r.prot
    opq := fun i v e => by
      rw [restE_get hl] at e
      split at e
      · exact r1.opq i v e
      · rename_i hn
        rw [← away hn]
        exact r.opq i v e
    tab := r.tab }
theorem Rel.addP (r : Rel K C H σ env) (hD : H D = some xs.ho) (hn : ∀ (i : Nat) b ds, env[i]? = some (some (.own b ds)) → σ[i]? ≠ some (some (.ref D))) : Rel K (C.withP D xs) H σ env where
  len := r.len
  dat := r.dat
  own := fun i b ds e => by
    obtain ⟨a, ys, q1, q2, q3, q4, q5⟩ := r.own i b ds e
    refine ⟨a, ys, q1, q2, q3, q4, ?_⟩
    show (if a = D then some xs else C.P a) = none
    rw [if_neg]
    · exact q5
    · rintro rfl
      exact hn i b ds e q1
  bkd := r.bkd
  dis := r.dis
  keep := r.keep
  prot := fun a zs q => by
    have q : (if a = D then some xs else C.P a) = some zs := q
    split at q
    · rename_i e
      cases q
      rw [e]; exact hD
    · exact r.prot a zs q
  opq := r.opq
  tab := r.tab
theorem Rel.unP (r : Rel K (C.withP D xs) H σ env) (hD : C.P D = none) : Rel K C H σ env where
  len := r.len
  dat := r.dat
  own := fun i b ds e => by
    obtain ⟨a, ys, q1, q2, q3, q4, q5⟩ := r.own i b ds e
    refine ⟨a, ys, q1, q2, q3, q4, ?_⟩
    have q5 : (if a = D then some xs else C.P a) = none := q5
    split at q5
    · cases q5
    · exact q5
  bkd := r.bkd
  dis := r.dis
  keep := r.keep
  prot := fun a zs q => r.prot a zs (by
    show (if a = D then some xs else C.P a) = some zs
    rw [if_neg]
    · exact q
    · rintro rfl
      rw [hD] at q
      cases q)
  opq := r.opq
  tab := r.tab
theorem Rel.atP (r : Rel K (C.withP D xs) H σ env) : H D = some xs.ho := r.prot D xs (by show (if D = D then some xs else C.P D) = some xs; rw [if_pos rfl])
theorem Rel.offP (r : Rel K (C.withP D xs) H σ env) {i : Nat} {b : Bool} {ds : OO} (e : env[i]? = some (some (.own b ds))) : σ[i]? ≠ some (some (.ref D)) := fun z => by
  obtain ⟨a, ys, q1, q2, q3, q4, q5⟩ := r.own i b ds e
  rw [z] at q1
  cases q1
  have q5 : (if D = D then some xs else C.P D) = none := q5
  rw [if_pos rfl] at q5
  cases q5
theorem Rel.pushP (r : Rel K (C.withP D xs) H σ env) (h0 : Nk C.H0 D) : Rel K (C.withP D ys) (upd H D ys.ho) σ env := by
  have hD := r.atP
  have l : Le H (upd H D ys.ho) := Le.putO hD
  exact {
    len := r.len
    dat := fun i x e => by
      obtain ⟨v, q1, q2⟩ := r.dat i x e
      exact ⟨v, q1, Dz.le l _ q2⟩
    own := fun i b ds e => by
      obtain ⟨a, zs, q1, q2, q3, q4, q5⟩ := r.own i b ds e
      have q5' : (if a = D then some xs else C.P a) = none := q5
      split at q5'
      · cases q5'
      · rename_i hne
        refine ⟨a, zs, q1, by rw [upd_ne hne]; exact q2, OOR.le l q3, q4, ?_⟩
        show (if a = D then some ys else C.P a) = none
        rw [if_neg hne]
        exact q5'
    bkd := r.bkd
    dis := r.dis
    keep := fun a o e1 e2 e3 => by
      have hne : a ≠ D := by
        rintro rfl
        obtain ⟨ps, z⟩ := h0 _ e1
        exact e3 ps z
      rw [upd_ne hne]
      exact r.keep a o e1 e2 e3
    prot := fun a zs q => by
      have q : (if a = D then some ys else C.P a) = some zs := q
      split at q
      · rename_i e
        cases q
        rw [e]; exact upd_same
      · rename_i e
        rw [upd_ne e]
        exact r.prot a zs (by show (if a = D then some xs else C.P a) = some zs; rw [if_neg e]; exact q)
    opq := r.opq
    tab := Tabs.putO hD r.tab }
end

section
variable {X : Cx} {T : List (Addr × Str)}
def anyE (T : List (Addr × Str)) (f : Ct → TE) : TE := fun σ H Q => ∃ C, C.T = T ∧ f C σ H Q
def anyT (T : List (Addr × Str)) (f : Ct → TT) : TT := fun σ H Q => ∃ C, C.T = T ∧ f C σ H Q
def anyG (f : Ct → TG) : TG := fun v σ H Q => ∃ C, f C v σ H Q
theorem pe_any {e : Expr} {f : Ct → TE} (h : ∀ C, C.T = T → PE X e (f C)) : PE X e (anyE T f) := ⟨fun pins s σ H Q I ⟨C, hC, q⟩ => (h C hC).run pins s σ H Q I q⟩
theorem pts_any {e : List Expr} {f : Ct → TT} (h : ∀ C, C.T = T → PTs X e (f C)) : PTs X e (anyT T f) := ⟨fun pins s σ H Q I ⟨C, hC, q⟩ => (h C hC).run pins s σ H Q I q⟩
theorem pg_any {e : Expr} {f : Ct → TG} (h : ∀ C, PG X e (f C)) : PG X e (anyG f) := ⟨fun pins s σ H v u Q I r ⟨C, q⟩ => (h C).run pins s σ H v u Q I r q⟩
structure DTs (X : Cx) (T : List (Addr × Str)) (W : WX) (ifs : List Expr) (m : M Bool) : Prop where
  pts : ∀ C : Ct, C.T = T → PTs X ifs (liftT X.K X.mg C W m)
theorem dts_nil {W : WX} : DTs X T W [] mYes := by
  refine ⟨fun C hC => ⟨fun pins s σ H Q I h => pts_nil.run pins s σ H Q I ?_⟩⟩
  obtain ⟨env, r, h⟩ := h
  exact h true H r rfl (.refl H)
theorem dts_one {W : WX} {c : Expr} {m : M Bool} (h : DT X T W c m) : DTs X T W [c] m := ⟨fun C hC => pts_one (h.pt C hC)⟩
abbrev Wno : WX := fun _ _ _ _ => False
/-- a block of the comprehension -/
structure Blk (X : Cx) (T : List (Addr × Str)) (scope : Scope) (elt tg : Expr) (ifs : List Expr) (vs : List Nat) (g : PyData → M Unit) (t : M Bool) (e : M Vl) : Prop where
  g : ∀ (s : Shared) (H : Hp) (C : Addr) (cl : List (Str × Addr)) (fp : List Addr), DG (X.blk s H scope (compEnvC scope cl C X.env) fp) tg vs g
  t : ∀ (s : Shared) (H : Hp) (C : Addr) (cl : List (Str × Addr)) (fp : List Addr), DTs (X.blk s H scope (compEnvC scope cl C X.env) fp) T Wno ifs t
  e : ∀ (s : Shared) (H : Hp) (C : Addr) (cl : List (Str × Addr)) (fp : List Addr), DE (X.blk s H scope (compEnvC scope cl C X.env) fp) T Wno elt e
/-- an expression's value frozen, the heap's step a ghost -/
def gst (X : Cx) (t : TE) : TE := fun σ H Q => t σ H fun v H1 => Ghost X σ (Q v) H1
end
end DL
end

/- EL10 -/
section
set_option maxHeartbeats 4000000
namespace DL
open PySem PySem.Spec PyProof.Rows L2

section
variable {X : Cx} {T : List (Addr × Str)} {scope : Scope} {elt tg iter : Expr} {ifs : List Expr} {vs : List Nat} {g : PyData → M Unit} {t : M Bool} {e : M Vl} {mi : M Src}
/-- frozen, whatever the block -/
def frzAll (X : Cx) (scope : Scope) (t : TE) : TE := fun σ H Q => t σ H fun v H1 => ∀ (s : Shared) (H' : Hp) (C : Addr) (cl : List (Str × Addr)) (fp : List Addr), Ghost (X.blk s H' scope (compEnvC scope cl C X.env) fp) σ (Q v) H1
def teB (X : Cx) (T : List (Addr × Str)) (scope : Scope) (e : M Vl) : TE := frzAll X scope (anyE T fun C => lift X.K X.mg C Wno e)
def ttB (X : Cx) (T : List (Addr × Str)) (t : M Bool) : TT := anyT T fun C => liftT X.K X.mg C Wno t
def tgB (X : Cx) (vs : List Nat) (g : PyData → M Unit) : TG := anyG fun C => liftG X.K C vs g
theorem Blk.pe (b : Blk X T scope elt tg ifs vs g t e) (s : Shared) (H : Hp) (C : Addr) (cl : List (Str × Addr)) (fp : List Addr) : PE (X.blk s H scope (compEnvC scope cl C X.env) fp) elt (teB X T scope e) := by
  refine ⟨fun pins s1 σ H1 Q I h => ?_⟩
  have h0 := (pe_any (b.e s H C cl fp).pe).run pins s1 σ H1 _ I h
  exact ep_ghost (thn h0 fun v s2 ⟨x, H2, I2, r2, q2⟩ => ⟨x, H2, I2, r2, q2 s H C cl fp⟩)
theorem Blk.pt (b : Blk X T scope elt tg ifs vs g t e) (s : Shared) (H : Hp) (C : Addr) (cl : List (Str × Addr)) (fp : List Addr) : PTs (X.blk s H scope (compEnvC scope cl C X.env) fp) ifs (ttB X T t) := pts_any (b.t s H C cl fp).pts
theorem Blk.pg (b : Blk X T scope elt tg ifs vs g t e) (s : Shared) (H : Hp) (C : Addr) (cl : List (Str × Addr)) (fp : List Addr) : PG (X.blk s H scope (compEnvC scope cl C X.env) fp) tg (tgB X vs g) := pg_any (b.g s H C cl fp).pg

section
variable {C : Ct} {W : WX} {σ : L2.St} {H H1 : Hp} {env env1 : En} {D : Addr}
theorem clr_ok {env' : En} {u : Unit} (h : clr vs env = .ok u env') : noOwn vs env = true ∧ env' = wipeE env vs := by
  unfold clr at h
  split at h
  · cases h; exact ⟨by assumption, rfl⟩
  · cases h
/-- a turn of the block -/
theorem lc_turn {d : PyData} {acc acc' : List PyData} {xs : List V} {env' : En} {x : V} {Nx : Hp → Prop} (hC : C.T = T) (h0 : Nk C.H0 D) (r : Rel X.K (C.withP D (.l xs)) H (L2.wipe σ vs) env) (hz : DzAll X.K H xs acc) (hx : Dz X.K H x d)
    (he : lcTurn vs g t e d acc env = .ok acc' env') (q : ∀ H' ys, Le H H' → Rel X.K (C.withP D (.l ys)) H' (L2.wipe σ vs) env' → DzAll X.K H' ys acc' → Nx H') :
    tgB X vs g x (L2.wipe σ vs) H fun σ2 H2 => L2.wipe σ2 vs = L2.wipe σ vs ∧ ttB X T t σ2 H2 fun b H3 =>
      if b = true then teB X T scope e σ2 H3 fun y H4 => ∃ acc, H4 D = some (.lst acc) ∧ acc.length < sizeLine ∧ Nx (upd H4 D (.lst (acc ++ [y]))) else Nx H3 := by
  unfold lcTurn at he
  obtain ⟨_, env2, e1, he⟩ := noE_bind_ok he
  obtain ⟨k, env3, e2, he⟩ := noE_bind_ok he
  have e1 := noE_ok e1
  have e2 := noE_ok e2
  refine ⟨C.withP D (.l xs), env, d, r, hx, ?_⟩
  rw [e1]
  intro σ2 r2 hw
  rw [wipe_wipe] at hw
  refine ⟨hw, C.withP D (.l xs), hC, env2, r2, ?_⟩
  rw [e2]
  rintro k' H3 r3 rfl l3
  cases k' with
  | false =>
    rw [if_neg Bool.false_ne_true] at he ⊢
    obtain ⟨_, env4, e4, he⟩ := noE_bind_ok he
    cases he
    obtain ⟨hn, rfl⟩ := clr_ok e4
    refine q H3 xs l3 ?_ (DzAll.le l3 _ hz)
    rw [← hw]
    exact r3.wipe hn
  | true =>
    rw [if_pos rfl] at he ⊢
    obtain ⟨v, env4, e4, he⟩ := noE_bind_ok he
    have e4 := noE_ok e4
    obtain ⟨y, env5, e5, he⟩ := noE_bind_ok he
    by_cases hl : acc.length < sizeLine
    · rw [if_pos hl] at he
      obtain ⟨_, env6, e6, he⟩ := noE_bind_ok he
      cases he
      obtain ⟨hn, rfl⟩ := clr_ok e6
      refine ⟨C.withP D (.l xs), hC, env3, r3, ?_⟩
      rw [e4]
      intro u H4 r4 hv l4 s' H' C' cl fp
      refine (leak_ok (X := X.blk s' H' scope (compEnvC scope cl C' X.env) fp) r4 hv e5).imp fun H5 ⟨r5, z5, l5, _, _⟩ => ?_
      have hD := r5.atP
      have ll : Le H (upd H5 D (.lst (xs ++ [u]))) := (l3.trans (l4.trans l5)).trans (Le.put hD)
      refine ⟨xs, hD, by rw [hz.length]; exact hl, q _ (xs ++ [u]) ll ?_ ?_⟩
      · have := (r5.pushP (ys := .l (xs ++ [u])) h0).wipe (vs := vs) hn
        rw [hw] at this
        exact this
      · exact (DzAll.le ll _ hz).append (.cons (Dz.le (Le.put hD) _ z5) .nil)
    · exact absurd he (by rw [if_neg hl]; exact fun z => by cases z)
def AtS (K : PySem.W.Frag) (J : It) (i : Nat) (H : Hp) : Option PyData → Prop
  | none => J.stop i H
  | some d => J.go i H ∧ ∀ x H', J.yld i H x H' → Same H H' ∧ Dz K H' x d
/-- the loop from turn i -/
theorem lc_loop {src : Src} {J : It} {Q : VK} (hC : C.T = T) (hs : SrcR X.K σ J H1 src) (hv : noOwn vs env1 = true) (r1 : Rel X.K C H1 σ env1) (hD : H1 D = none) (hjn : ∀ j, src = .own j → j ∉ vs)
    (n : Nat) (ds : List PyData) (envE : En) (he : lcN src vs g t e (n + 1) 0 [] (wipeE env1 vs) = .ok ds envE)
    (q : ∀ H', Rel X.K C H' σ (restE env1 envE vs) → OR X.K C σ (.ref D) H' ds (restE env1 envE vs) → Le H1 H' → Q (.ref D) H') :
    ∃ Wv : Nat → Nat → Hp → Prop, (∃ m, Wv 0 m (upd H1 D (.lst []))) ∧ ∀ i m H, Wv i m H →
      (J.stop i H ∧ Q (.ref D) H) ∨ (J.go i H ∧ ∃ Nx : Hp → Prop, (∀ H', Nx H' → ∃ m', m' < m ∧ Wv (i + 1) m' H') ∧ ∀ x H', J.yld i H x H' → tgB X vs g x (L2.wipe σ vs) H' fun σ2 H2 => L2.wipe σ2 vs = L2.wipe σ vs ∧ ttB X T t σ2 H2 fun b H3 =>
        if b = true then teB X T scope e σ2 H3 fun y H4 => ∃ acc, H4 D = some (.lst acc) ∧ acc.length < sizeLine ∧ Nx (upd H4 D (.lst (acc ++ [y]))) else Nx H3) := by
  have h0 : Nk C.H0 D := r1.dom D hD
  have hP : C.P D = none := r1.domP hD
  refine ⟨fun i m H => (∀ items, src = .fix items → i ≤ items.length) ∧ Le H1 H ∧ ∃ env acc xs, Rel X.K (C.withP D (.l xs)) H (L2.wipe σ vs) env ∧ DzAll X.K H xs acc ∧ lcN src vs g t e m i acc env = .ok ds envE, ⟨n + 1, ?_⟩, ?_⟩
  · have sm : Same H1 (upd H1 D (.lst [])) := Same.new hD
    refine ⟨fun _ _ => Nat.zero_le _, .same sm, _, [], [], ?_, .nil, he⟩
    have r2 := r1.grow sm
    refine Rel.wipe (r2.addP upd_same fun i b ds e1 e2 => ?_) hv
    obtain ⟨a, ys, q1, q2, _⟩ := r1.own i b ds e1
    rw [e2] at q1
    cases q1
    rw [hD] at q2
    cases q2
  · rintro i m H ⟨hle, l, env, acc, xs, r, hz, he⟩
    cases m with
    | zero => cases he
    | succ m =>
      unfold lcN at he
      obtain ⟨o, env2, e1, he⟩ := noE_bind_ok he
      -- what the source is at this turn
      have key : env2 = env ∧ AtS X.K J i H o := by
        cases src with
        | fix items =>
          have e1 : o = items[i]? ∧ env2 = env := by cases e1; exact ⟨rfl, rfl⟩
          obtain ⟨eo, e1⟩ := e1
          refine ⟨e1, ?_⟩
          rw [eo]
          have hle := hle items rfl
          by_cases hlt : i < items.length
          · rw [List.getElem?_eq_getElem hlt]
            exact ⟨hs.go i H l hlt, fun x H' y => hs.yld i H x H' _ l y (List.getElem?_eq_getElem hlt)⟩
          · have e : i = items.length := by omega
            subst e
            rw [List.getElem?_eq_none (Nat.le_refl _)]
            exact hs.stop H l
        | own j =>
          unfold srcAt at e1
          dsimp only at e1
          split at e1
          · rename_i b es hj
            have e1 : o = es[i]? ∧ env2 = env := by cases e1; exact ⟨rfl, rfl⟩
            obtain ⟨eo, e1⟩ := e1
            refine ⟨e1, ?_⟩
            rw [eo]
            obtain ⟨a, hσ, hs⟩ := hs
            obtain ⟨a', ys, q1, q2, q3, _⟩ := r.ownL j b es hj
            rw [wipe_get, if_neg (fun z => hjn j rfl z.1), hσ] at q1
            cases q1
            obtain ⟨s1, s2, s3⟩ := hs i H ys q2
            by_cases hlt : i < es.length
            · rw [List.getElem?_eq_getElem hlt]
              refine ⟨s1 (by rw [q3.length]; exact hlt), fun x H' y => ?_⟩
              obtain ⟨rfl, hx⟩ := s2 x H' y
              obtain ⟨d, e', z⟩ := q3.getV hx
              rw [List.getElem?_eq_getElem hlt] at e'
              cases e'
              exact ⟨.refl _, z⟩
            · rw [List.getElem?_eq_none (by omega)]
              exact s3 (by rw [q3.length]; omega)
          · cases e1
      obtain ⟨ee, key⟩ := key
      subst ee
      cases o with
      | none =>
        cases he
        refine .inl ⟨key, q H ((r.unP hP).rest r1 l hv) ⟨D, xs, rfl, r.atP, hz, h0, hP, fun k b es e2 e3 => ?_⟩ l⟩
        have hl := show env1.length = envE.length by rw [r1.len, r.len, wipe_length]
        rw [restE_get hl] at e2
        split at e2
        · exact noOwn_get hv (by assumption) e2
        · rename_i hn
          refine r.offP e2 ?_
          rw [wipe_get, if_neg (fun z => hn z.1)]
          exact e3
      | some d =>
        obtain ⟨acc', env3, e2, he⟩ := noE_bind_ok he
        have hle' : ∀ items, src = .fix items → i + 1 ≤ items.length := by
          rintro items rfl
          have e1 : R.ok items[i]? env2 = R.ok (some d) env2 := e1
          have e1 : items[i]? = some d := by injection e1
          exact (List.getElem?_eq_some_iff.mp e1).1
        refine .inr ⟨key.1, fun H => (∀ items, src = .fix items → i + 1 ≤ items.length) ∧ Le H1 H ∧ ∃ env acc xs, Rel X.K (C.withP D (.l xs)) H (L2.wipe σ vs) env ∧ DzAll X.K H xs acc ∧ lcN src vs g t e m (i + 1) acc env = .ok ds envE, fun H' p => ⟨m, Nat.lt_succ_self m, p⟩, fun x H' y => ?_⟩
        obtain ⟨sm, zx⟩ := key.2 x H' y
        exact lc_turn hC h0 (r.grow sm) (DzAll.le (.same sm) _ hz) zx e2 fun H'' ys l' r' z' => ⟨hle', (l.trans (.same sm)).trans l', env3, acc', ys, r', z', he⟩
end
theorem lc_go {C : Ct} {W : WX} {σ : L2.St} {H : Hp} {Q : VK} (hC : C.T = T) (hov : ∀ i ∈ vs, True) (h : ∃ env, Rel X.K C H σ env ∧ Lf X.K X.mg C W σ H (OR X.K C σ) (mLc vs mi g t e env) Q) (hjn : ∀ j env env', mi env = .ok (.own j) env' → j ∉ vs) :
    tLc (liftI X.K X.mg C W mi) (tgB X vs g) (ttB X T t) (teB X T scope e) vs σ H Q := by
  obtain ⟨env, r, h⟩ := h
  refine ⟨env, r, ?_⟩
  unfold mLc at h
  cases e0 : mi env with
  | err x env' => rw [M.bind_err e0] at h; exact h
  | stuck => rw [M.bind_stuck e0] at h; exact h.elim
  | ok src env1 =>
    rw [M.bind_ok e0] at h
    intro J H1 r1 hs l1 D hD
    unfold lcRun at h
    split at h
    · rename_i n envn hn
      split at h
      · rename_i ds envE hE
        obtain ⟨_, env2, e2, e3⟩ := noE_bind_ok hE
        obtain ⟨hv, rfl⟩ := clr_ok e2
        exact lc_loop (Q := Q) hC hs hv r1 hD (fun j ej => hjn j env env1 (by rw [e0, ej])) n ds envE e3 fun H' r' o' l' => h (.ref D) H' r' o' (l1.trans l')
      · exact h.elim
    · exact h.elim
/-- a source that walks no own list -/
def NoJ (vs : List Nat) (mi : M Src) : Prop := ∀ j env env', mi env = .ok (.own j) env' → j ∉ vs
theorem noj_own {j : Nat} (h : j ∉ vs) : NoJ vs (mOwn j) := fun k env env' e => by
  unfold mOwn at e
  split at e <;> cases e
  exact h
theorem noj_items {m : M Vl} : NoJ vs (mItems m) := fun k env env' e => by
  obtain ⟨v, env1, _, e⟩ := noE_bind_ok e
  obtain ⟨d, env2, _, e⟩ := noE_bind_ok e
  cases q : seqI d with
  | none => rw [q] at e; cases e
  | some x => rw [q] at e; cases e
theorem noj_range1 {m : M (List Vl)} : NoJ vs (mRange1 m) := fun k env env' e => by
  obtain ⟨v, env1, _, e⟩ := noE_bind_ok e
  obtain ⟨d, env2, _, e⟩ := noE_bind_ok e
  split at e
  · split at e <;> cases e
  · cases e
theorem noj_range2 {m : M (List Vl)} : NoJ vs (mRange2 m) := fun k env env' e => by
  obtain ⟨v, env1, _, e⟩ := noE_bind_ok e
  obtain ⟨d, env2, _, e⟩ := noE_bind_ok e
  split at e
  · split at e <;> cases e
  · cases e
theorem noj_opt {m : M (List Vl)} {f : List PyData → Option Src} (hf : ∀ ds s, f ds = some s → ∃ items, s = .fix items) : NoJ vs (M.bind m fun vs => M.bind (leakAll vs) fun ds => M.opt (f ds)) := fun k env env' e => by
  obtain ⟨v, env1, _, e⟩ := noE_bind_ok e
  obtain ⟨d, env2, _, e⟩ := noE_bind_ok e
  cases q : f d with
  | none => rw [q] at e; cases e
  | some x =>
    rw [q] at e
    obtain ⟨items, rfl⟩ := hf _ _ q
    cases e
theorem noj_zip {m : M (List Vl)} : NoJ vs (mZip m) := noj_opt fun ds s e => by
  obtain ⟨_, _, _, _, _, _, _, _, _, rfl⟩ := zipS_inv e
  exact ⟨_, rfl⟩
theorem noj_enum {m : M (List Vl)} : NoJ vs (mEnum m) := noj_opt fun ds s e => by
  obtain ⟨_, _, _, _, _, rfl⟩ := enumS_inv e
  exact ⟨_, rfl⟩
theorem noj_enumK {m : M (List Vl)} : NoJ vs (mEnumK m) := noj_opt fun ds s e => by
  obtain ⟨_, _, _, _, _, _, _, _, rfl⟩ := enumK_inv e
  exact ⟨_, rfl⟩
theorem do_lc {W : WX} {own : List (Str × Nat)} {pos : Pos} (hc : X.calm = true) (hN : X.N.Nodup) (hi : DI X T W tg iter mi) (ok : BlkOk X.N X.env.scope scope own) (b : Blk X T scope elt tg ifs (own.map (·.2)) g t e) (hj : NoJ (own.map (·.2)) mi)
    (hs : ∀ x, foldedSetIterable iter X.env x = pure x := by intro _; rfl) : DO X T W (.ListComp elt [⟨tg, iter, ifs, 0⟩] scope pos) (mLc (own.map (·.2)) mi g t e) := by
  refine ⟨fun C hC => ⟨fun pins s σ H Q I h => (pe_lc hc hN (hi.pi C hC) ok b.pg b.pt b.pe hs).run pins s σ H Q I ?_⟩⟩
  exact lc_go hC (fun _ _ => trivial) h hj
theorem ds_setLcO {W : WX} {i : Nat} {y : Str} {py : Pos} {own : List (Str × Nat)} {pos spos : Pos} (hc : X.calm = true) (hN : X.N.Nodup) (hy : X.N[i]? = some y) (hyl : X.env.scope.names.lookup y = some .local)
    (hsw : swapsWith (.ListComp elt [⟨tg, iter, ifs, 0⟩] scope pos) (some (.Name y py)) spos.line X.env = pure true) (hi : DI X T W tg iter mi) (ok : BlkOk X.N X.env.scope scope own) (b : Blk X T scope elt tg ifs (own.map (·.2)) g t e) (hj : NoJ (own.map (·.2)) mi)
    (hs : ∀ x, foldedSetIterable iter X.env x = pure x := by intro _; rfl) : DS X T W (.Assign [.Name y py] (.ListComp elt [⟨tg, iter, ifs, 0⟩] scope pos) spos) (sSetO i (mLc (own.map (·.2)) mi g t e)) := by
  refine ⟨fun C hC => ⟨fun pins s σ H D I h => (ps_setLc hc hN hy hyl hsw (hi.pi C hC) ok b.pg b.pt b.pe hs).run pins s σ H D I ?_⟩⟩
  obtain ⟨env, r, h⟩ := h
  refine lc_go (W := W) hC (fun _ _ => trivial) ⟨env, r, Sf.bind h fun u H1 v env1 r1 hv l1 h1 => ?_⟩ hj
  obtain ⟨hn, q⟩ := Sf.sto h1
  exact q _ _ (r1.stoO hv.o hn) (.refl _)
end
end DL
end

/- EL11 -/
section
set_option maxHeartbeats 4000000
namespace DL
open PySem PySem.Spec PyProof.Rows L2

/-! ### calls -/
def startE (n : Nat) (evs : List EV) : En := evs.map some ++ List.replicate (n - evs.length) none
def bkOf (σ : L2.St) : Option (Nat × Nat) → Nat → Option Addr
  | none, _ => none
  | some (j, i), k => if k = j then (match σ[i]? with
    | some (some (.ref a)) => some a
    | _ => none) else none
theorem bkOf_self {σ : L2.St} {j i : Nat} {a : Addr} (h : σ[i]? = some (some (.ref a))) : bkOf σ (some (j, i)) j = some a := by
  show (if j = j then (match σ[i]? with
    | some (some (.ref a)) => some a
    | _ => none) else none) = some a
  rw [if_pos rfl, h]
theorem bkOf_inv {σ : L2.St} {lt : Option (Nat × Nat)} {k : Nat} {c : Addr} (h : bkOf σ lt k = some c) : ∃ i, lt = some (k, i) ∧ σ[i]? = some (some (.ref c)) := by
  match lt, h with
  | some (j, i), h0 =>
    have h : (if k = j then (match σ[i]? with
      | some (some (.ref a)) => some a
      | _ => none) else none) = some c := h0
    clear h0
    split at h
    · rename_i e
      subst e
      split at h
      · rename_i a e
        cases h
        exact ⟨i, rfl, e⟩
      · cases h
    · cases h
structure ArgsOk (K : PySem.W.Frag) (H : Hp) (σ : L2.St) (env : En) (us : List V) (evs : List EV) (lt : Option (Nat × Nat)) : Prop where
  len : us.length = evs.length
  dat : ∀ (j : Nat) x, evs[j]? = some (.d x) → ∃ u, us[j]? = some u ∧ Dz K H u x
  own : ∀ (j : Nat) b es, evs[j]? = some (.own b es) → b = true ∧ ∃ i b' a, lt = some (j, i) ∧ env[i]? = some (some (.own b' es)) ∧ us[j]? = some (.ref a) ∧ σ[i]? = some (some (.ref a))
  nox : ∀ (j : Nat) v, evs[j]? ≠ some (.x v)
  lt : ∀ j i, lt = some (j, i) → ∃ es, evs[j]? = some (.own true es)
def backE (lt : Option (Nat × Nat)) (env env' : En) : En := match lt with
  | none => env
  | some (j, i) => match env'[j]?, env[i]? with
    | some (some (.own _ es)), some (some (.own b _)) => env.set i (some (.own b es))
    | _, _ => env
section
theorem pad_get {α : Type} {l : List α} {n j : Nat} {x : α} (h : (l.map some ++ List.replicate (n - l.length) none)[j]? = some (some x)) : l[j]? = some x := by
  by_cases hj : j < l.length
  · rw [List.getElem?_append_left (by rw [List.length_map]; exact hj), List.getElem?_map] at h
    cases e : l[j]? with
    | none => rw [e] at h; cases h
    | some y =>
      rw [e] at h
      cases h
      rfl
  · rw [List.getElem?_append_right (by rw [List.length_map]; omega), List.getElem?_replicate] at h
    split at h <;> cases h
theorem pad_get' {α : Type} {l : List α} {n j : Nat} {x : α} (h : l[j]? = some x) : (l.map some ++ List.replicate (n - l.length) none)[j]? = some (some x) := by
  have hj := (List.getElem?_eq_some_iff.mp h).1
  rw [List.getElem?_append_left (by rw [List.length_map]; exact hj), List.getElem?_map, h]
  rfl
variable {K : PySem.W.Frag} {C : Ct} {σ σ' : L2.St} {H H' : Hp} {env env' : En} {us : List V} {evs : List EV} {lt : Option (Nat × Nat)} {N : List Str}
abbrev callCt (C : Ct) (H : Hp) (σ : L2.St) (lt : Option (Nat × Nat)) : Ct := ⟨C.T, H, bkOf σ lt, fun _ => none⟩
theorem callee_start (r : Rel K C H σ env) (A : ArgsOk K H σ env us evs lt) : Rel K (callCt C H σ lt) H (L2.start N us) (startE N.length evs) where
  len := by
    unfold startE L2.start
    rw [List.length_append, List.length_append, List.length_map, List.length_map, List.length_replicate, List.length_replicate, A.len]
  dat := fun j x h => by
    obtain ⟨u, q1, q2⟩ := A.dat j x (pad_get h)
    exact ⟨u, pad_get' q1, q2⟩
  own := fun j b es h => by
    obtain ⟨rfl, i, b', a, q1, q2, q3, q4⟩ := A.own j b es (pad_get h)
    obtain ⟨a', xs, p1, p2, p3, p4, p5⟩ := r.own i b' es q2
    rw [q4] at p1
    cases p1
    refine ⟨a, xs, pad_get' q3, p2, p3, ?_, rfl⟩
    rw [if_pos rfl]
    show bkOf σ lt j = some a
    rw [q1]
    exact bkOf_self q4
  bkd := fun k a h => by
    have h : bkOf σ lt k = some a := h
    obtain ⟨i, e, _⟩ := bkOf_inv h
    obtain ⟨es, q⟩ := A.lt k i e
    exact ⟨es, pad_get' q⟩
  dis := fun j k b c es fs a hjk e1 e2 e3 e4 => by
    obtain ⟨_, i, b', a', q1, _⟩ := A.own j b es (pad_get e1)
    obtain ⟨_, i', b'', a'', q1', _⟩ := A.own k c fs (pad_get e2)
    rw [q1] at q1'
    cases q1'
    exact hjk rfl
  keep := fun a o h _ _ => h
  prot := fun a xs h => by cases h
  opq := fun j v h => absurd (pad_get h) (A.nox j v)
  tab := r.tab
theorem caller_back (r : Rel K C H σ env) (A : ArgsOk K H σ env us evs lt) (r' : Rel K (callCt C H σ lt) H' σ' env') (l : Le H H') : Rel K C H' σ (backE lt env env') := by
  -- what is not lent stays
  have stay : ∀ a o, H a = some o → (∀ j, bkOf σ lt j ≠ some a) → (∀ ps, o ≠ .tbl ps) → H' a = some o := fun a o h1 h2 h3 => r'.keep a o h1 h2 h3
  cases lt with
  | none =>
    have st : ∀ a o, H a = some o → (∀ ps, o ≠ .tbl ps) → H' a = some o := fun a o h1 h3 => stay a o h1 (fun j e => by cases e) h3
    exact {
      len := r.len
      dat := fun i x h => let ⟨v, q1, q2⟩ := r.dat i x h; ⟨v, q1, Dz.le l _ q2⟩
      own := fun i b ds h => let ⟨a, xs, q1, q2, q3, q4⟩ := r.own i b ds h; ⟨a, xs, q1, st _ _ q2 q3.ntbl, OOR.le l q3, q4⟩
      bkd := r.bkd
      dis := r.dis
      keep := fun a o h1 h2 h3 => st _ _ (r.keep a o h1 h2 h3) h3
      prot := fun a xs h => st _ _ (r.prot a xs h) (PO.ntbl xs)
      opq := r.opq
      tab := r'.tab }
  | some p =>
    obtain ⟨j, i⟩ := p
    obtain ⟨es, q⟩ := A.lt j i rfl
    obtain ⟨_, i', b', a, e0, q2, q3, q4⟩ := A.own j true es q
    cases e0
    obtain ⟨a', xs, p1, p2, p3, p4, p5⟩ := r.own i b' es q2
    rw [q4] at p1
    cases p1
    have hb : bkOf σ (some (j, i)) j = some a := bkOf_self q4
    have hbo : ∀ k c, bkOf σ (some (j, i)) k = some c → c = a := fun k c h => by
      obtain ⟨i', e, q⟩ := bkOf_inv h
      cases e
      rw [q4] at q
      cases q
      rfl
    obtain ⟨es', g1⟩ := r'.bkd j a hb
    obtain ⟨a', ys, g2, g3, g4, g5, g6⟩ := r'.own j true es' g1
    rw [if_pos rfl] at g5
    have g5 : bkOf σ (some (j, i)) j = some a' := g5
    rw [hb] at g5
    cases g5
    have st : ∀ c o, H c = some o → c ≠ a → (∀ ps, o ≠ .tbl ps) → H' c = some o := fun c o h1 h2 h3 => stay c o h1 (fun k e => h2 (hbo k c e)) h3
    have eb : backE (some (j, i)) env env' = env.set i (some (.own b' es')) := by
      unfold backE
      dsimp only
      rw [g1, q2]
    rw [eb]
    exact {
      len := by rw [List.length_set]; exact r.len
      dat := fun k x h => by
        rcases get_set h with ⟨_, e⟩ | ⟨hne, h⟩
        · cases e
        · obtain ⟨v, q1, q2⟩ := r.dat k x h
          exact ⟨v, q1, Dz.le l _ q2⟩
      own := fun k b ds h => by
        rcases get_set h with ⟨rfl, e⟩ | ⟨hne, h⟩
        · cases e
          exact ⟨a, ys, q4, g3, g4, p4, p5⟩
        · obtain ⟨c, zs, q1, q2', q3', q4', q5'⟩ := r.own k b ds h
          have hc : c ≠ a := by
            rintro rfl
            exact r.dis i k b' b es ds c hne q2 h q4 q1
          exact ⟨c, zs, q1, st _ _ q2' hc q3'.ntbl, OOR.le l q3', q4', q5'⟩
      bkd := fun k c h => by
        obtain ⟨ds, e⟩ := r.bkd k c h
        by_cases hk : i = k
        · subst hk
          rw [q2] at e
          cases e
          exact ⟨es', List.getElem?_set_self (List.getElem?_eq_some_iff.mp q2).1⟩
        · exact ⟨ds, by rw [List.getElem?_set_ne hk]; exact e⟩
      dis := fun k m b c ds fs x hkm e1 e2 e3 e4 => by
        rcases get_set e1 with ⟨rfl, z1⟩ | ⟨n1, e1⟩
        · rcases get_set e2 with ⟨rfl, _⟩ | ⟨n2, e2⟩
          · exact hkm rfl
          · exact r.dis i m b' c es fs x hkm q2 e2 e3 e4
        · rcases get_set e2 with ⟨rfl, _⟩ | ⟨n2, e2⟩
          · exact r.dis k i b b' ds es x hkm e1 q2 e3 e4
          · exact r.dis k m b c ds fs x hkm e1 e2 e3 e4
      keep := fun c o h1 h2 h3 => by
        have hc : c ≠ a := by
          rintro rfl
          cases b' with
          | true => exact h2 i p4
          | false =>
            have p4 : Nk C.H0 c := p4
            obtain ⟨ps, z⟩ := p4 _ h1
            exact h3 ps z
        exact st _ _ (r.keep c o h1 h2 h3) hc h3
      prot := fun c zs h => by
        have hc : c ≠ a := by
          rintro rfl
          rw [p5] at h
          cases h
        exact st _ _ (r.prot c zs h) hc (PO.ntbl zs)
      opq := fun j v h => by
        rcases get_set h with ⟨_, ex⟩ | ⟨_, h⟩
        · cases ex
        · exact r.opq j v h
      tab := r'.tab }
end
/-- the promise of a def: its body's reading -/
def prom (T : List (Addr × Str)) (mg : Str → Option Value) (K : PySem.W.Frag) (np : Nat) (N : List Str) (m : M Fl) : Sp := fun vs H Q E => vs.length = np ∧ ∃ bk env, Rel K ⟨T, H, bk, fun _ => none⟩ H (L2.start N vs) env ∧
  Sf K mg ⟨T, H, bk, fun _ => none⟩ (fun cls d _ H => E cls d H) H (m env) { nx := fun _ H' => Q .non H', rt := Q }
/-- what a call gives -/
def fin (np : Nat) (m : M Fl) (n : Nat) (evs : List EV) (lt : Option (Nat × Nat)) : M RVl := fun env => if evs.length = np then (match m (startE n evs) with
  | .ok .next env' => .ok (.d .none) (backE lt env env')
  | .ok (.ret v) env' => .ok v (backE lt env env')
  | .err e env' => .err e (backE lt env env')
  | _ => .stuck) else .stuck
def callR0 (np : Nat) (m : M Fl) (n : Nat) (ms : M (List Vl)) : M RVl := M.bind ms fun vs => M.bind (leakAll vs) fun ds => fin np m n (ds.map .d) none
def slAt (vs : List Vl) (j : Nat) : Option Nat := match vs[j]? with
  | some (.sl i) => some i
  | _ => none
def ownAt (i : Nat) : M OO := fun env => match env[i]? with
  | some (some (.own _ ds)) => .ok ds env
  | _ => .stuck
theorem slAt_some {vs : List Vl} {i j : Nat} (h : slAt vs j = some i) : vs[j]? = some (.sl i) := by
  unfold slAt at h
  split at h
  · rename_i e
    cases h
    exact e
  · cases h
theorem ownAt_ok {i : Nat} {env env' : En} {ds : OO} (e : ownAt i env = .ok ds env') : env' = env ∧ ∃ b, env[i]? = some (some (.own b ds)) := by
  unfold ownAt at e
  split at e
  · rename_i b ds' h
    cases e
    exact ⟨rfl, b, h⟩
  · cases e
theorem ownAt_noerr {i : Nat} {env env' : En} {x : Er} : ownAt i env ≠ .err x env' := by
  unfold ownAt
  split <;> exact fun z => by cases z
def callR1 (np : Nat) (m : M Fl) (n : Nat) (j : Nat) (ms : M (List Vl)) : M RVl := M.bind ms fun vs => M.bind (M.opt (slAt vs j)) fun i => M.bind (leakAll (vs.set j (.d .none))) fun ds => M.bind (ownAt i) fun es => fin np m n ((ds.map EV.d).set j (.own true es)) (some (j, i))
def asD (m : M RVl) : M Vl := M.bind m fun v => match v with
  | .d x => mC x
  | .o _ => M.stuck
def asO (m : M RVl) : M (List PyData) := M.bind m fun v => match v with
  | .o (.l ds) => M.pure ds
  | _ => M.stuck
def asQ (m : M RVl) : M OO := M.bind m fun v => match v with
  | .o o => M.pure o
  | .d _ => M.stuck
section
variable {X : Cx} {C : Ct} {T : List (Addr × Str)} {W : WX} {σ : L2.St} {H : Hp} {env : En} {us : List V} {evs : List EV} {lt : Option (Nat × Nat)} {N : List Str} {m : M Fl}
/-- the callee's promise from the caller's reading -/
theorem fin_prom {np : Nat} {Q : VK} (hC : C.T = T) (r : Rel X.K C H σ env) (A : ArgsOk X.K H σ env us evs lt) 
    (h : Lf X.K X.mg C W σ H (fun u H v env => RR X.K C σ u H env v) (fin np m N.length evs lt env) Q) : prom T X.mg X.K np N m us H Q (WE W σ) := by
  unfold fin at h
  by_cases hl : evs.length = np
  case neg => rw [if_neg hl] at h; exact h.elim
  rw [if_pos hl] at h
  refine ⟨A.len.trans hl, bkOf σ lt, startE N.length evs, ?_, ?_⟩
  · have := callee_start (N := N) r A
    unfold callCt at this
    rw [hC] at this
    exact this
  · have key : ∀ {σ' H' env'}, Rel X.K ⟨T, H, bkOf σ lt, fun _ => none⟩ H' σ' env' → Le H H' → Rel X.K C H' σ (backE lt env env') := fun {σ' H' env'} r' l => caller_back r A (by unfold callCt; rw [hC]; exact r') l
    cases e : m (startE N.length evs) with
    | ok fl env' =>
      rw [e] at h
      cases fl with
      | next => exact fun σ' H' r' l => h .non H' (key r' l) .non l
      | brk => exact h.elim
      | cont => exact h.elim
      | ret v =>
        intro u σ' H' r' rr l
        have rb := key r' l
        refine h u H' rb ?_ l
        cases v with
        | d x => exact rr
        | o ds =>
          obtain ⟨p, xs, e1, e2, e3, e4, e5, e6⟩ := rr
          have e4 : Nk H p := e4
          have hP : C.P p = none := by
            cases e : C.P p with
            | none => rfl
            | some zs =>
              obtain ⟨ps, z⟩ := e4 _ (r.prot p zs e)
              exact absurd z (PO.ntbl _ _)
          refine ⟨p, xs, e1, e2, e3, r.nk e4, hP, fun k b es q1 q2 => ?_⟩
          obtain ⟨a, ys, p1, p2, p3, p4, p5⟩ := rb.own k b es q1
          rw [q2] at p1
          cases p1
          -- the slot's list was there before the call
          have : ∃ b es, env[k]? = some (some (.own b es)) := by
            unfold backE at q1
            split at q1
            · exact ⟨b, es, q1⟩
            · split at q1
              · rename_i j i _ _ _ b0 es0 _ g
                rcases get_set q1 with ⟨rfl, _⟩ | ⟨_, q1⟩
                · exact ⟨_, _, g⟩
                · exact ⟨b, es, q1⟩
              · exact ⟨b, es, q1⟩
          obtain ⟨b1, es1, q⟩ := this
          obtain ⟨a, zs, p1, p2, p3, _⟩ := r.own k b1 es1 q
          rw [q2] at p1
          cases p1
          obtain ⟨ps, z⟩ := e4 _ p2
          exact absurd z (p3.ntbl ps)
    | err x env' =>
      rw [e] at h
      exact fun cls od σ' H' r' z l => h cls od H' (key r' l) z l
    | stuck => rw [e] at h; exact h.elim
end
end DL
end

/- EL12 -/
section
set_option maxHeartbeats 4000000
namespace DL
open PySem PySem.Spec PyProof.Rows L2

/-! ### a value, data or a new own list -/
def liftV (K : PySem.W.Frag) (mg : Str → Option Value) (C : Ct) (W : WX) (m : M RVl) : TE := fun σ H Q => ∃ env, Rel K C H σ env ∧ Lf K mg C W σ H (fun u H v env => RR K C σ u H env v) (m env) Q
structure DV (X : Cx) (T : List (Addr × Str)) (W : WX) (e : Expr) (m : M RVl) : Prop where
  pe : ∀ C : Ct, C.T = T → PE X e (liftV X.K X.mg C W m)
/-- a def that the walk knows -/
structure FnD (P : Program) (w : World) (K : PySem.W.Frag) (mg : Str → Option Value) (base : Heap) (T : List (Addr × Str)) (k : Nat) (x : Str) (np : Nat) (N : List Str) (m : M Fl) : Prop where
  ex : ∃ f fd ps, FnOk P w K mg base (L2.CX P w) k f fd ps (prom T mg K np N m) ∧ mg x = some (.ref f) ∧ PySem.W.keepIn K (.ref f) = true ∧ Binds K fd ps []
theorem VRs.set {K : PySem.W.Frag} {σ : L2.St} {H : Hp} {u : V} {v : Vl} (r : VR K σ u H v) : ∀ {us : List V} {vs : List Vl} (j : Nat), VRs K σ H us vs → VRs K σ H (us.set j u) (vs.set j v)
  | [], [], _, _ => trivial
  | _ :: _, _ :: _, 0, h => ⟨r, h.2⟩
  | _ :: _, _ :: _, j + 1, h => ⟨h.1, VRs.set r j h.2⟩
  | [], _ :: _, _, h => h.elim
  | _ :: _, [], _, h => h.elim
theorem VRs.get {K : PySem.W.Frag} {σ : L2.St} {H : Hp} {v : Vl} : ∀ {us : List V} {vs : List Vl} {j : Nat}, VRs K σ H us vs → vs[j]? = some v → ∃ u, us[j]? = some u ∧ VR K σ u H v
  | [], [], _, _, e => by simp at e
  | u :: _, _ :: _, 0, h, e => by simp at e; subst e; exact ⟨u, rfl, h.1⟩
  | _ :: _, _ :: _, j + 1, h, e => by simpa using VRs.get h.2 (by simpa using e)
  | [], _ :: _, _, h, _ => h.elim
  | _ :: _, [], _, h, _ => h.elim
section
variable {X : Cx} {T : List (Addr × Str)} {W : WX} {x : Str} {p pos : Pos} {e : Expr} {es : List Expr} {ms : M (List Vl)} {m : M Fl} {k np : Nat} {N : List Str}
theorem argsOk_data {K : PySem.W.Frag} {σ : L2.St} {H : Hp} {env : En} {us : List V} {ds : List PyData} (z : DzAll K H us ds) : ArgsOk K H σ env us (ds.map EV.d) none where
  len := by rw [List.length_map]; exact z.length
  dat := fun j x h => by
    rw [List.getElem?_map] at h
    cases e : ds[j]? with
    | none => rw [e] at h; cases h
    | some d =>
      rw [e] at h
      cases h
      exact z.get e
  own := fun j b es h => by
    rw [List.getElem?_map] at h
    cases e : ds[j]? with
    | none => rw [e] at h; cases h
    | some d => rw [e] at h; cases h
  nox := fun j v h => by
    rw [List.getElem?_map] at h
    cases e : ds[j]? with
    | none => rw [e] at h; cases h
    | some d => rw [e] at h; cases h
  lt := fun j i h => by cases h
theorem argsOk_lent {K : PySem.W.Frag} {σ : L2.St} {H : Hp} {env : En} {us : List V} {ds : List PyData} {es : OO} {i j : Nat} {b : Bool} {a : Addr} (z : DzAll K H (us.set j .non) ds) (hi : env[i]? = some (some (.own b es))) (hu : us[j]? = some (.ref a)) (hs : σ[i]? = some (some (.ref a))) :
    ArgsOk K H σ env us ((ds.map EV.d).set j (.own true es)) (some (j, i)) where
  len := by
    have := z.length
    rw [List.length_set] at this
    rw [List.length_set, List.length_map]
    exact this
  dat := fun k x h => by
    by_cases e : j = k
    · subst e
      by_cases hl : j < (ds.map EV.d).length
      · rw [List.getElem?_set_self hl] at h
        cases h
      · rw [List.getElem?_eq_none (by rw [List.length_set]; omega)] at h
        cases h
    · rw [List.getElem?_set_ne e, List.getElem?_map] at h
      cases q : ds[k]? with
      | none => rw [q] at h; cases h
      | some d =>
        rw [q] at h
        cases h
        obtain ⟨u, g1, g2⟩ := z.get q
        rw [List.getElem?_set_ne e] at g1
        exact ⟨u, g1, g2⟩
  own := fun k c fs h => by
    by_cases e : j = k
    · subst e
      by_cases hl : j < (ds.map EV.d).length
      · rw [List.getElem?_set_self hl] at h
        cases h
        exact ⟨rfl, i, b, a, rfl, hi, hu, hs⟩
      · rw [List.getElem?_eq_none (by rw [List.length_set]; omega)] at h
        cases h
    · rw [List.getElem?_set_ne e, List.getElem?_map] at h
      cases q : ds[k]? with
      | none => rw [q] at h; cases h
      | some d => rw [q] at h; cases h
  nox := fun k v h => by
    by_cases e : j = k
    · subst e
      by_cases hl : j < (ds.map EV.d).length
      · rw [List.getElem?_set_self hl] at h
        cases h
      · rw [List.getElem?_eq_none (by rw [List.length_set]; omega)] at h
        cases h
    · rw [List.getElem?_set_ne e, List.getElem?_map] at h
      cases q : ds[k]? with
      | none => rw [q] at h; cases h
      | some d => rw [q] at h; cases h
  lt := fun k m h => by
    cases h
    refine ⟨es, List.getElem?_set_self ?_⟩
    have := z.length
    rw [List.length_set] at this
    rw [List.length_map, ← this]
    exact (List.getElem?_eq_some_iff.mp hu).1
theorem dv_call0 {n : Nat} (F : FnD X.prog X.w X.K X.mg X.base T k x np N m) (hr : Room k X.A) (tk : Takes X W) (hg : Gl X x) (ha : DA X T W (e :: es) ms) (hn : N.length = n := by rfl)
    (hdb : (x == ("__debug__" : Str)) = false := by decide) (he : starEach (e :: es) X.env = (false, eval e X.env) :: starEach es X.env := by rfl) (hpl : (backTo pos (starEach es X.env)).any (·.1) = false := by rfl) :
    DV X T W (.Call (.Name x p) (e :: es) [] pos) (callR0 np m n ms) := by
  subst hn
  obtain ⟨f, fd, ps, F, hm, hk, hb⟩ := F.ex
  refine ⟨fun C hC => ⟨fun pins s σ H Q I h => (pe_callSD (dvs := []) (E := WE W) F hr hg hm hk hb .nil (passAt tk) (pa_ghost (ha.pa C hC)) hdb he hpl).run pins s σ H Q I ?_⟩⟩
  obtain ⟨env, r, h⟩ := h
  refine ⟨env, r, Lf.bind h fun us H1 vs env1 r1 hv l1 h1 => ?_⟩
  obtain ⟨ds, env2, e1, h2⟩ := Lf.leakAll h1 r1 hv
  refine (leakAll_ok r1 hv e1).imp fun H2 ⟨r2', z2, l2, _, _⟩ => ?_
  show prom T X.mg X.K np N m (us ++ []) H2 Q (WE W σ)
  rw [List.append_nil]
  exact fin_prom hC r2' (argsOk_data z2) (h2.mono l2 fun _ _ z => z)
theorem dv_call1 {n : Nat} (j : Nat) (F : FnD X.prog X.w X.K X.mg X.base T k x np N m) (hr : Room k X.A) (tk : Takes X W) (hg : Gl X x) (ha : DA X T W (e :: es) ms) (hn : N.length = n := by rfl)
    (hdb : (x == ("__debug__" : Str)) = false := by decide) (he : starEach (e :: es) X.env = (false, eval e X.env) :: starEach es X.env := by rfl) (hpl : (backTo pos (starEach es X.env)).any (·.1) = false := by rfl) :
    DV X T W (.Call (.Name x p) (e :: es) [] pos) (callR1 np m n j ms) := by
  subst hn
  obtain ⟨f, fd, ps, F, hm, hk, hb⟩ := F.ex
  refine ⟨fun C hC => ⟨fun pins s σ H Q I h => (pe_callSD (dvs := []) (E := WE W) F hr hg hm hk hb .nil (passAt tk) (pa_ghost (ha.pa C hC)) hdb he hpl).run pins s σ H Q I ?_⟩⟩
  obtain ⟨env, r, h⟩ := h
  refine ⟨env, r, Lf.bind h fun us H1 vs env1 r1 hv l1 h1 => ?_⟩
  obtain ⟨i, hj, h1⟩ := Lf.optB h1
  have hj := slAt_some hj
  obtain ⟨u, hu, hs⟩ := hv.get hj
  have hv2 : VRs X.K σ H1 (us.set j .non) (vs.set j (.d .none)) := VRs.set (show VR X.K σ .non H1 (.d .none) from .non) j hv
  obtain ⟨ds, env2, e1, h2⟩ := Lf.leakAll h1 r1 hv2
  refine (leakAll_ok r1 hv2 e1).imp fun H2 ⟨r2', z2, l2, _, _⟩ => ?_
  show prom T X.mg X.K np N m (us ++ []) H2 Q (WE W σ)
  rw [List.append_nil]
  cases e3 : ownAt i env2 with
  | err x env' => exact absurd e3 ownAt_noerr
  | stuck => rw [M.bind_stuck e3] at h2; exact h2.elim
  | ok es env3 =>
    rw [M.bind_ok e3] at h2
    obtain ⟨e30, b, hi⟩ := ownAt_ok e3
    rw [e30] at h2
    obtain ⟨a, xs, q1, q2, _⟩ := r2'.own i b es hi
    have hs : σ[i]? = some (some u) := hs
    rw [q1] at hs
    cases hs
    exact fin_prom hC r2' (argsOk_lent z2 hi hu q1) (h2.mono l2 fun _ _ z => z)
theorem de_v {m : M RVl} (h : DV X T W e m) : DE X T W e (asD m) := by
  refine ⟨fun C hC => ⟨fun pins s σ H Q I hw => (h.pe C hC).run pins s σ H Q I ?_⟩⟩
  obtain ⟨env, r, hw⟩ := hw
  refine ⟨env, r, Lf.bind hw fun u H1 v env1 r1 hv l1 h1 => ?_⟩
  cases v with
  | d x => exact h1 u H1 r1 hv (.refl H1)
  | o ds => exact h1.elim
theorem do_v {m : M RVl} (h : DV X T W e m) : DO X T W e (asO m) := by
  refine ⟨fun C hC => ⟨fun pins s σ H Q I hw => (h.pe C hC).run pins s σ H Q I ?_⟩⟩
  obtain ⟨env, r, hw⟩ := hw
  refine ⟨env, r, Lf.bind hw fun u H1 v env1 r1 hv l1 h1 => ?_⟩
  cases v with
  | d x => exact h1.elim
  | o oo =>
    cases oo with
    | l ds => exact h1 u H1 r1 (ORo.l hv) (.refl H1)
    | k _ => exact h1.elim
    | t _ => exact h1.elim
    | f _ => exact h1.elim
theorem dq_v {m : M RVl} (h : DV X T W e m) : DQ X T W e (asQ m) := by
  refine ⟨fun C hC => ⟨fun pins s σ H Q I hw => (h.pe C hC).run pins s σ H Q I ?_⟩⟩
  obtain ⟨env, r, hw⟩ := hw
  refine ⟨env, r, Lf.bind hw fun u H1 v env1 r1 hv l1 h1 => ?_⟩
  cases v with
  | d x => exact h1.elim
  | o oo => exact h1 u H1 r1 hv (.refl H1)
end
section
variable {P : Program} {w : World} {K : PySem.W.Frag} {mg : Str → Option Value} {base : Heap} {x qual : Str} {params : Arguments} {body : List Stmt} {scope : Scope} {f : Addr} {fd : FuncData} {N ps : List Str} {k : Nat} {T : List (Addr × Str)} {m : M Fl}
/-- the context of a def's body -/
abbrev bodyCx (P : Program) (w : World) (K : PySem.W.Frag) (mg : Str → Option Value) (base : Heap) (N : List Str) (qual : Str) (scope : Scope) (f : Addr) (cdv : Value) (A : Around) (outer : List Env) (s : Shared) (H : Hp) (E : XK) : Cx := cxOf (L2.CX P w) P w K mg base N qual scope f cdv A outer s H E
theorem fnD_of (F : FunD K x qual params body scope [] [] f fd) (S : FnScope N ps scope) (hm : mg x = some (.ref f)) (hb : Binds K fd ps [])
    (h : ∀ (cdv : Value) (A : Around) (outer : List Env) (s : Shared) (H : Hp) (E : XK), Room k (A.deeper (envOfC qual scope s.heap.objs.size f cdv)) → DSs (bodyCx P w K mg base N qual scope f cdv A outer s H E) T (fun cls d _ H => E cls d H) body m) :
    FnD P w K mg base T (k + 1) x ps.length N m := by
  refine ⟨f, fd, ps, F.ok S (fun vs H Q E q => q.1) (fun cdv A outer s H vs Q E hr hq => ?_), hm, F.kp, hb⟩
  obtain ⟨_, bk, env, r, hs⟩ := hq
  exact ⟨_, (h cdv A outer s H E hr).pss ⟨T, H, bk, fun _ => none⟩ rfl, env, r, hs⟩
theorem FnD.mono {np : Nat} {j : Nat} (F : FnD P w K mg base T j x np N m) (h : j ≤ k) : FnD P w K mg base T k x np N m := by
  obtain ⟨f, fd, ps, F, a, b, c⟩ := F.ex
  exact ⟨f, fd, ps, F.mono h, a, b, c⟩
end
end DL
end

/- EL13 -/
section
set_option maxHeartbeats 4000000
namespace DL
open PySem PySem.Spec PyProof.Rows L2

/-! ### raise X() -/
/-- an own error class of the program -/
structure ExN (K : PySem.W.Frag) (mg : Str → Option Value) (x : Str) : Prop where
  ex : ∃ C, mg x = some (.ref C) ∧ PySem.W.excIn K C He.veBase "ValueError.__new__" = true ∧ PySem.W.keepIn K (.ref C) = true ∧ PySem.W.subIn K (.ref C) (.type "BaseException") = some true ∧ PySem.W.typeIn K (.ref C) = some (.type "type")
section
variable {X : Cx} {T : List (Addr × Str)} {W : WX} {x : Str} {p pos pos' : Pos}
theorem pmk_own0 {C : Addr} {bmB : List Value} {B newId initId : String} (F : ExcBaseFacts B newId initId bmB) (q : PySem.W.excIn X.K C bmB newId = true) (gC : X.mg x = some (.ref C)) (kC : PySem.W.keepIn X.K (.ref C) = true) (r : Raises X (.ref C)) (hg : Gl X x)
    (hdb : (x == ("__debug__" : Str)) = false := by decide) : PMk X (.Call (.Name x p) [] [] pos) (fun _ H Q => Q (.ref C) none H) := by
  intro pins s σ H Q I h
  refine wpAny_Call_Name_kw (ld_glob I hg gC ?_ hdb)
  refine PySem.W.callWith_K0 I.kIn kC ?_
  show wpAny _ _ (call (.ref C) []) _ _ _
  obtain ⟨bm, N, nm, qn, bs, hdct, sn, sub, ab, col, dd, k0, k1, k2, k3, k5, mN, hC, hN, hni, T⟩ := exc_obj I.kIn q
  refine wpAny_call_exc_subT F T hC hN hni (fun h' e hm => ?_) (Nat.zero_le _)
  exact mk_of I hm r h (I.hok.gone hm.new)
def sRaise (e : Er) : M Fl := fun env => .err e env
theorem ds_raise0 (E : ExN X.K X.mg x) (hg : Gl X x) (hc : X.calm = true) (tk : Takes X W) (hdb : (x == ("__debug__" : Str)) = false := by decide) : DS X T W (.Raise (some (.Call (.Name x p) [] [] pos')) none pos) (sRaise ⟨x, none⟩) := by
  obtain ⟨D, g, q, kC, h1, h2⟩ := E.ex
  refine ⟨fun C hC => ⟨fun pins s σ H D' I h => (ps_raise hc tk (pmk_own0 F.excBase_ValueError q g kC (raises_own h1 h2) hg hdb)).run pins s σ H D' I ?_⟩⟩
  obtain ⟨env, r, h⟩ := h
  exact h (.ref D) none σ H r ⟨D, rfl, g, rfl⟩ (.refl H)
end

/-! ### isinstance of a caught error -/
def mIsE (i : Nat) (a : Addr) (b : Bool) : M Vl := fun env => match env[i]? with
  | some (some (.x (.ref a'))) => if a' = a then .ok (.d (.bool b)) env else .stuck
  | _ => .stuck
theorem mIsE_ok {i : Nat} {a : Addr} {b : Bool} {env env' : En} {v : Vl} (e : mIsE i a b env = .ok v env') : env' = env ∧ v = .d (.bool b) ∧ env[i]? = some (some (.x (.ref a))) := by
  unfold mIsE at e
  split at e
  · rename_i a' h
    split at e
    · rename_i ea
      cases e
      subst ea
      exact ⟨rfl, rfl, h⟩
    · cases e
  · cases e
theorem mIsE_noerr {i : Nat} {a : Addr} {b : Bool} {env env' : En} {x : Er} : mIsE i a b env ≠ .err x env' := by
  unfold mIsE
  split
  · split <;> exact fun z => by cases z
  · exact fun z => by cases z
theorem de_isE {X : Cx} {T : List (Addr × Str)} {W : WX} {a D : Addr} {oe : Obj} {pn : List (Addr × Obj)} {i : Nat} {n y : Str} {c : V} {cv : Value} {b : Bool} {p p1 p2 pos : Pos} (Ec : ExcC X.K D) (hz : Zc (.ref D) none oe) (hf : ∃ vs, oe.data = .fields vs)
    (hN : X.N[i]? = some n) (hv : Vis X.env.scope n) (hc : PE (X.suite a ((a, oe) :: pn)) (.Name y p2) (tC c)) (hcv : ∀ u, RelV c u → u = cv) (hk : PySem.W.kitOne X.K (.ref D) cv = some b)
    (hg : Gl X "isinstance") (hm : X.mg "isinstance" = none) (hd : (n == ("__debug__" : Str)) = false := by decide) (hcd : (n == ("__classdict__" : Str)) = false := by decide)
    (hs : starEach [.Name n p1, .Name y p2] X.env = (false, eval (.Name n p1) X.env) :: starEach [.Name y p2] X.env := by rfl) (hpl : (backTo pos (starEach [.Name y p2] X.env)).any (·.1) = false := by rfl) (hs2 : starEach [.Name y p2] X.env = (false, eval (.Name y p2) X.env) :: starEach [] X.env := by rfl) :
    DE (X.suite a ((a, oe) :: pn)) T W (.Call (.Name "isinstance" p) [.Name n p1, .Name y p2] [] pos) (mIsE i a b) := by
  refine ⟨fun C hC => ⟨fun pins s σ H Q I h => (pe_callB (X := X.suite a ((a, oe) :: pn)) (call_isE Ec hz hf) hg hm boot_isinstance (pa_cons (pe_var (X := X.suite a ((a, oe) :: pn)) (pos := p1) hN hv hd hcd) (pa_cons hc pa_nil hs2) hs) (he := hs) (hpl := hpl)).run pins s σ H Q I ?_⟩⟩
  obtain ⟨env, r, h⟩ := h
  cases e : mIsE i a b env with
  | err x env' => exact absurd e mIsE_noerr
  | stuck => rw [e] at h; exact h.elim
  | ok v env' =>
    rw [e] at h
    obtain ⟨rfl, rfl, hi⟩ := mIsE_ok e
    exact ⟨.ref a, r.opq i _ hi, c, cv, b, rfl, hcv, hk, h (.bl b) H r (.bl b) (.refl H)⟩

/-! ### said(lambda: ..) -/
def envX (n i : Nat) (a : Addr) : En := (List.replicate n none).set i (some (.x (.ref a)))
def TTsaid (K : PySem.W.Frag) (mg : Str → Option Value) (T : List (Addr × Str)) (said : Str → Option PyData) : (XK → Hp → VK → Prop) → Hp → VK → Prop := fun tl H Q =>
  tl (fun cls od H' => ∃ D x z, cls = .ref D ∧ od = none ∧ mg x = some (.ref D) ∧ said x = some z ∧ LamX.Tabs T H' ∧ ∀ u H'' σ' env', Rel K ⟨T, H', fun _ => none, fun _ => none⟩ H'' σ' env' → Dz K H'' u z → Le H' H'' → Q u H'') H (fun _ H' => Q (.str "let") H')
def mSaid (said : Str → Option PyData) (m : M Vl) : M Vl := fun env => match m env with
  | .ok _ env' => .ok (.d (.str "let")) env'
  | .err e env' => match e.arg, said e.cls with
    | none, some z => .ok (.d z) env'
    | _, _ => .stuck
  | .stuck => .stuck
theorem envX_rel {K : PySem.W.Frag} {T : List (Addr × Str)} {H : Hp} {σ : L2.St} {i : Nat} {a : Addr} (hT : LamX.Tabs T H) : Rel K ⟨T, H, fun _ => none, fun _ => none⟩ H (σ.set i (some (.ref a))) (envX σ.length i a) where
  len := by unfold envX; rw [List.length_set, List.length_set, List.length_replicate]
  dat := fun j x h => by
    rcases get_set h with ⟨_, e⟩ | ⟨_, h⟩
    · cases e
    · rw [List.getElem?_replicate] at h
      split at h <;> cases h
  own := fun j b ds h => by
    rcases get_set h with ⟨_, e⟩ | ⟨_, h⟩
    · cases e
    · rw [List.getElem?_replicate] at h
      split at h <;> cases h
  opq := fun j v h => by
    rcases get_set h with ⟨rfl, e⟩ | ⟨hne, h⟩
    · cases e
      have hl := (List.getElem?_eq_some_iff.mp h).1
      unfold envX at hl
      rw [List.length_set, List.length_replicate] at hl
      exact List.getElem?_set_self hl
    · rw [List.getElem?_replicate] at h
      split at h <;> cases h
  bkd := fun j a h => by cases h
  dis := fun j k b c ds es a hjk h1 h2 h3 h4 => by
    rcases get_set h1 with ⟨_, e⟩ | ⟨_, h1⟩
    · cases e
    · rw [List.getElem?_replicate] at h1
      split at h1 <;> cases h1
  keep := fun a o h _ _ => h
  prot := fun a xs h => by cases h
  tab := hT
theorem Takes.len {X : Cx} {W : WX} (tk : Takes X W) : Takes X (fun cls d σ H => σ.length = X.N.length → W cls d σ H) := fun u s' ⟨a, B, sI, pins, σ, H, cls, d, e, I, nb, up, sky, na, os, ag, w⟩ =>
  tk u s' ⟨a, B, sI, pins, σ, H, cls, d, e, I, nb, up, sky, na, os, ag, w I.len⟩
section
variable {X : Cx} {T : List (Addr × Str)}
/-- what the def that catches is: its suite's reading, by the caught class -/
theorem said_gives {Ng : List Str} {x a e en q : Str} {sg : Scope} {g CS : Addr} {cdg : Value} {j i : Nat} {b0 : Stmt} {suite : List Stmt} {said : Str → Option PyData} {sd : Addr → Str → M Fl} {p1 p2 p3 p4 p5 p6 p7 p8 : Pos}
    (hNg : Ng.Nodup) (hi : Ng[i]? = some en) (hln : sg.names.lookup en = some .local) (hge : sg.names.lookup e = some .globalImplicit) (hme : X.mg e = some (.ref CS)) (hde : (e == ("__debug__" : Str)) = false)
    (h0 : ∀ f : Addr, (L2.start Ng [V.ref f])[0]? = some (some (V.ref f))) (hlen : 1 ≤ Ng.length)
    (hexm : ∀ y z D, said y = some z → X.mg y = some (.ref D) → PySem.W.exmOne X.K (.ref D) (.ref CS) = some true)
    (hrun : ∀ a y z, said y = some z → ∃ env', sd a y (envX Ng.length i a) = .ok (.ret (.d z)) env')
    (hsd : ∀ (s : Shared) (H : Hp) (a : Addr) (oe : Obj) (pn : List (Addr × Obj)) (y : Str) (z : PyData) (D : Addr), said y = some z → X.mg y = some (.ref D) → Zc (.ref D) none oe → (∃ vs, oe.data = .fields vs) →
      DSs (Cx.suite (cxOf C8.CX0 X.prog X.w X.K X.mg X.base Ng x sg g cdg X.A X.stack s H C8.E0).nox a ((a, oe) :: pn)) T Wno (b0 :: suite) (sd a y)) :
    LamX.GivesTo X Ng x sg g cdg [.Try [.Expr (.Call (.Name a p1) [] [] p2) p3] [.ExceptHandler (some (.Name e p4)) (some en) (b0 :: suite) p7] [] [] p8, .Return (some (.Constant (.str "let") j p5)) p6] a q (TTsaid X.K X.mg T said) := by
  intro f c' s H Q tl act hc h
  have hgl : Gl (cxOf C8.CX0 X.prog X.w X.K X.mg X.base Ng x sg g cdg X.A X.stack s H C8.E0).nox e := hge
  refine ⟨_, pss_cons (ps_try_as (X := (cxOf C8.CX0 X.prog X.w X.K X.mg X.base Ng x sg g cdg X.A X.stack s H C8.E0).nox) (c := .ref CS) (i := i) (Wout := Wno)
      (tb := fun W D σ H => ∃ Ech : XK, (∀ cls d σ' H', Ech cls d H' → σ'.length = Ng.length → W cls d σ' H') ∧ σ[0]? = some (some (.ref f)) ∧ H c' = some (LamX.CodeO c' q) ∧ tl Ech H (fun _ H' => D.nx σ H'))
      (ts := fun a cls d D σ H => ∃ y z D', cls = .ref D' ∧ d = none ∧ X.mg y = some (.ref D') ∧ said y = some z ∧ ∃ C, C.T = T ∧ liftS X.K X.mg C Wno (sd a y) D σ H)
      rfl rfl hNg hi hln ⟨hgl, hde, .inl hme⟩ LamX.takes0 (fun W pn xe tk _ => ?_) (fun a oe cls d pn hz hf => ?_)) (pss_one (ps_ret pe_str)), ?_⟩
  · refine ⟨fun pins s' σ H' D I h' => ?_⟩
    obtain ⟨Ech, hW, h1, h2, h3⟩ := h'
    have hp := act (fun cls d σ H => σ.length = Ng.length → W cls d σ H) pn xe Ech p1 p2 (Takes.len tk) (fun cls d σ' H' z hl => hW cls d σ' H' z hl)
    have hq := pss_one (ps_expr (pos := p3) hp (by rfl))
    exact hq.run pins s' σ H' D I ⟨h1, h2, h3⟩
  · refine ⟨fun pins s' σ H' D I h' => ?_⟩
    obtain ⟨y, z, D', rfl, rfl, hy, hs, C, hC, h'⟩ := h'
    exact ((hsd s H a oe pn y z D' hs hy hz hf).pss C hC).run pins s' σ H' D I h'
  · refine ⟨_, fun cls d σ' H' z hl => ?_, h0 f, hc, h⟩
    obtain ⟨D, y, z, rfl, rfl, hy, hs, hT, hq⟩ := z
    refine ⟨true, hexm y z D hs hy, fun _ a ha => ?_, fun z => by cases z⟩
    refine ⟨y, z, D, rfl, rfl, hy, hs, ⟨T, H', fun _ => none, fun _ => none⟩, rfl, envX Ng.length i a, ?_, ?_⟩
    · have := envX_rel (K := X.K) (σ := σ') (i := i) (a := a) hT
      rw [hl] at this
      exact this
    · obtain ⟨env', er⟩ := hrun a y z hs
      rw [er]
      exact fun u σ'' H'' r' zu l => hq u H'' σ'' env' r' zu l
end
end DL
end

/- EL14 -/
section
set_option maxHeartbeats 4000000
namespace DL
open PySem PySem.Spec PyProof.Rows L2

theorem Le.extN {H H1 : Hp} (e : LamX.ExtN H H1) : Le H H1 := ⟨fun a xs h => e _ _ h (fun ps z => by cases z), fun a o u h => e _ _ h (fun ps z => by cases z)⟩
theorem Rel.extN {K : PySem.W.Frag} {C : Ct} {σ : L2.St} {H H1 : Hp} {env : En} (r : Rel K C H σ env) (e : LamX.ExtN H H1) (t : LamX.Tabs C.T H1) : Rel K C H1 σ env where
  len := r.len
  dat := fun i x h => let ⟨v, q1, q2⟩ := r.dat i x h; ⟨v, q1, Dz.le (.extN e) _ q2⟩
  own := fun i b ds h => let ⟨a, xs, q1, q2, q3, q4⟩ := r.own i b ds h; ⟨a, xs, q1, e _ _ q2 q3.ntbl, OOR.le (.extN e) q3, q4⟩
  opq := r.opq
  bkd := r.bkd
  dis := r.dis
  keep := fun a o h1 h2 h3 => e _ _ (r.keep a o h1 h2 h3) h3
  prot := fun a xs h => e _ _ (r.prot a xs h) (PO.ntbl xs)
  tab := t
section
variable {X : Cx} {T : List (Addr × Str)} {W : WX}
/-- the def that catches, as the walk knows it: x(lambda: ..) in X -/
structure SaidD (X : Cx) (T : List (Addr × Str)) (k : Nat) (x : Str) (said : Str → Option PyData) : Prop where
  ex : ∃ (g : Addr) (oc : Value) (pg : Arguments) (bg : List Stmt) (sg : Scope) (dV kV doc pm cdv ct : Value) (an od : Option Addr) (osl : Array (Option Value)) (Ng : List Str) (a : Str),
    X.mg x = some (.ref g) ∧ PySem.W.keepIn X.K (.ref g) = true ∧ X.K.lookup g = some ⟨oc, od, .func (PySem.W.fnOf x x pg bg sg dV kV doc pm an cdv ct), osl⟩ ∧ PySem.W.codeIn X.K cdv x = true ∧ L2.Binds X.K (PySem.W.fnOf x x pg bg sg dV kV doc pm an cdv ct) [a] [] ∧
      FnScope Ng [a] sg ∧ Ng[0]? = some a ∧ Vis sg a ∧ (a == ("__debug__" : Str)) = false ∧ (a == ("__classdict__" : Str)) = false ∧ LamX.GivesTo X Ng x sg g cdv bg a (X.env.qual ++ "<lambda>") (TTsaid X.K X.mg T said)
theorem de_said {x : Str} {said : Str → Option PyData} {k : Nat} {c P : Addr} {params : Arguments} {body : Expr} {scope : Scope} {m : M Vl} {p lpos pos : Pos} (S : SaidD X T k x said) (hg : Gl X x)
    (TB : LamX.TabB X.base X.mg c P) (hcode : X.env.code = .ref c) (hmT : (P, X.env.qual ++ "<lambda>") ∈ T) (hu : ∀ p ∈ T, p.1 = P → p.2 = X.env.qual ++ "<lambda>") (hr : Room (k + 2) X.A) (L : LamX.LamS X.env.scope scope)
    (hbody : ∀ (A : Around) (outer : List Env) (s : Shared) (H : Hp) (E : XK) (f c' : Addr), Room k (A.deeper (LamX.lamEnv X scope s.heap.objs.size f c')) → DE (LamX.lamCx X A outer s H E scope f c') T (fun cls d _ H => E cls d H) body m)
    (hdef : defaultsOf params X.env = ([], []) := by rfl) (hbind : ∀ (q : Str) (cl : List (Str × Addr)) (pm cv ctv : Value), bindArgs (PySem.W.kla_fn "<lambda>" q params body scope cl pm cv ctv) ⟨[], []⟩ = pure [] := by intros; rfl)
    (hdb : (x == ("__debug__" : Str)) = false := by decide) :
    DE X T W (.Call (.Name x p) [.Lambda params body scope lpos] [] pos) (mSaid said m) := by
  obtain ⟨g, oc, pg, bg, sg, dV, kV, doc, pm, cdv, ct, an, od, osl, Ng, a, hm, hk, lk, hcg, hb, Sg, hNg, hva, hd, hcd, hG⟩ := S.ex
  refine ⟨fun C hC => ⟨fun pins s σ H Q I h => (LamX.pe_lamcall (t := fun E => lift X.K X.mg C (fun cls d _ H => E cls d H) m) hg hm hk lk hcg hb Sg hNg hva hG TB hcode hmT hu hr L hdef hbind (fun A outer s H E f c' hr' => (hbody A outer s H E f c' hr').pe C hC) hdb hd hcd).run pins s σ H Q I ?_⟩⟩
  obtain ⟨env, r, h⟩ := h
  refine ⟨by rw [← hC]; exact r.tab, fun H1 eN T1 => ?_⟩
  have l0 : Le H H1 := .extN eN
  have r1 := r.extN eN (by rw [hC]; exact T1)
  refine ⟨env, r1, ?_⟩
  unfold mSaid at h
  cases e : m env with
  | stuck => rw [e] at h; exact h.elim
  | ok v env' =>
    rw [e] at h
    exact fun u H' r' _ l => h (.str "let") H' r' (.str _) (l0.trans l)
  | err x env' =>
    rw [e] at h
    obtain ⟨y, arg⟩ := x
    cases arg with
    | some q => exact h.elim
    | none =>
      dsimp only at h
      cases hs : said y with
      | none => rw [hs] at h; exact h.elim
      | some z =>
        rw [hs] at h
        intro cls od H' r' er l
        obtain ⟨D, ec, em, eo⟩ := er
        refine ⟨D, y, z, ec, eo, em, hs, by rw [← hC]; exact r'.tab, fun u H'' σ' env'' r'' zu l' => ?_⟩
        refine h u H'' ?_ zu ((l0.trans l).trans l')
        have A : ArgsOk X.K H' σ env' [] [] none := ⟨rfl, fun j x e => (by cases e), fun j b es e => (by cases e), fun j v e => (by cases e), fun j i e => (by cases e)⟩
        have r3 : Rel X.K (callCt C H' σ none) H'' σ' env'' := by
          unfold callCt
          rw [hC]
          exact r''
        exact caller_back r' A r3 l'
end
end DL
end

/- EL15 -/
section
set_option maxHeartbeats 4000000
namespace DL
open PySem PySem.Spec PyProof.Rows L2

/-! ### len({k: c for ..}) -/
def keyD : PyData → Option Key
  | .int i => some (.inl i)
  | .str x => some (.inr x)
  | _ => none
theorem keyD_dz {K : PySem.W.Frag} {H : Hp} {u : V} {d : PyData} {k : Key} (h : Dz K H u d) (e : keyD d = some k) : u = kV k := by
  cases h with
  | int i => cases e; rfl
  | str x => cases e; rfl
  | _ => cases e
def addK (acc : List Key) (k : Key) : List Key := if (acc.any fun x => decide (x = k)) = true then acc else acc ++ [k]
def dcTurn (vs : List Nat) (g : PyData → M Unit) (t : M Bool) (e : M Vl) (d : PyData) (acc : List Key) : M (List Key) :=
  M.bind (noE (g d)) fun _ => M.bind (noE t) fun k => if k = true then M.bind (noE e) fun v => M.bind (leak v) fun x => M.bind (M.opt (keyD x)) fun kk => if acc.length < sizeLine then M.bind (clr vs) fun _ => M.pure (addK acc kk) else M.stuck else M.bind (clr vs) fun _ => M.pure acc
def dcN (s : Src) (vs : List Nat) (g : PyData → M Unit) (t : M Bool) (e : M Vl) : Nat → Nat → List Key → M (List Key)
  | 0, _, _ => M.stuck
  | n + 1, i, acc => M.bind (srcAt s i) fun o => match o with
    | none => M.pure acc
    | some d => M.bind (dcTurn vs g t e d acc) fun acc' => dcN s vs g t e n (i + 1) acc'
def dcRun (vs : List Nat) (g : PyData → M Unit) (t : M Bool) (e : M Vl) (s : Src) : M (List Key) := fun env => match srcLen s env with
  | .ok n _ => match M.bind (clr vs) (fun _ => dcN s vs g t e (n + 1) 0 []) env with
    | .ok ds env1 => .ok ds (restE env env1 vs)
    | _ => .stuck
  | _ => .stuck
def mLenDc (vs : List Nat) (mi : M Src) (g : PyData → M Unit) (t : M Bool) (e : M Vl) : M Vl := M.bind mi fun s => M.bind (dcRun vs g t e s) fun ks => mC (.int ks.length)
def kvsOf (v : V) (acc : List Key) : List (Key × V) := acc.map fun k => (k, v)
theorem putK_kvs {v : V} {acc : List Key} {k : Key} : putK (kvsOf v acc) k v = kvsOf v (addK acc k) := by
  unfold putK kvsOf addK
  rw [List.any_map]
  by_cases h : (acc.any fun x => decide (x = k)) = true
  · rw [if_pos h, if_pos (show (acc.any ((fun kv : Key × V => decide (kv.1 = k)) ∘ fun k => (k, v))) = true from h)]
    rw [List.map_map]
    apply List.map_congr_left
    intro x _
    simp
  · rw [if_neg h, if_neg (show ¬ (acc.any ((fun kv : Key × V => decide (kv.1 = k)) ∘ fun k => (k, v))) = true from h)]
    simp
section
variable {X : Cx} {T : List (Addr × Str)} {scope : Scope} {elt tg iter : Expr} {ifs : List Expr} {vs : List Nat} {g : PyData → M Unit} {t : M Bool} {e : M Vl} {mi : M Src}
section
variable {C : Ct} {W : WX} {σ : L2.St} {H H1 : Hp} {env env1 : En} {D : Addr} {cv : V}
theorem dc_turn {d : PyData} {acc acc' : List Key} {env' : En} {x : V} {Nx : Hp → Prop} (hC : C.T = T) (h0 : Nk C.H0 D) (r : Rel X.K (C.withP D (.k (kvsOf cv acc))) H (L2.wipe σ vs) env) (hx : Dz X.K H x d)
    (he : dcTurn vs g t e d acc env = .ok acc' env') (q : ∀ H', Le H H' → Rel X.K (C.withP D (.k (kvsOf cv acc'))) H' (L2.wipe σ vs) env' → Nx H') :
    tgB X vs g x (L2.wipe σ vs) H fun σ2 H2 => L2.wipe σ2 vs = L2.wipe σ vs ∧ ttB X T t σ2 H2 fun b H3 =>
      if b = true then teB X T scope e σ2 H3 fun y H4 => tC cv σ2 H4 fun z H5 => ∃ kvs k, y = kV k ∧ H5 D = some (.dK kvs) ∧ kvs.length < sizeLine ∧ Nx (upd H5 D (.dK (putK kvs k z))) else Nx H3 := by
  unfold dcTurn at he
  obtain ⟨_, env2, e1, he⟩ := noE_bind_ok he
  obtain ⟨k, env3, e2, he⟩ := noE_bind_ok he
  have e1 := noE_ok e1
  have e2 := noE_ok e2
  refine ⟨C.withP D (.k (kvsOf cv acc)), env, d, r, hx, ?_⟩
  rw [e1]
  intro σ2 r2 hw
  rw [wipe_wipe] at hw
  refine ⟨hw, C.withP D (.k (kvsOf cv acc)), hC, env2, r2, ?_⟩
  rw [e2]
  rintro k' H3 r3 rfl l3
  cases k' with
  | false =>
    rw [if_neg Bool.false_ne_true] at he ⊢
    obtain ⟨_, env4, e4, he⟩ := noE_bind_ok he
    cases he
    obtain ⟨hn, rfl⟩ := clr_ok e4
    refine q H3 l3 ?_
    rw [← hw]
    exact r3.wipe hn
  | true =>
    rw [if_pos rfl] at he ⊢
    obtain ⟨v, env4, e4, he⟩ := noE_bind_ok he
    have e4 := noE_ok e4
    obtain ⟨y, env5, e5, he⟩ := noE_bind_ok he
    obtain ⟨kk, env5', e7, he⟩ := noE_bind_ok he
    have e7 : keyD y = some kk ∧ env5' = env5 := by
      cases e8 : keyD y with
      | none => rw [e8] at e7; cases e7
      | some k2 => rw [e8] at e7; cases e7; exact ⟨rfl, rfl⟩
    obtain ⟨e7, e70⟩ := e7
    rw [e70] at he
    by_cases hl : acc.length < sizeLine
    · rw [if_pos hl] at he
      obtain ⟨_, env6, e6, he⟩ := noE_bind_ok he
      cases he
      obtain ⟨hn, rfl⟩ := clr_ok e6
      refine ⟨C.withP D (.k (kvsOf cv acc)), hC, env3, r3, ?_⟩
      rw [e4]
      intro u H4 r4 hv l4 s' H' C' cl fp
      refine (leak_ok (X := X.blk s' H' scope (compEnvC scope cl C' X.env) fp) r4 hv e5).imp fun H5 ⟨r5, z5, l5, _, _⟩ => ?_
      have hD : H5 D = some (.dK (kvsOf cv acc)) := r5.atP
      have ll : Le H (upd H5 D (.dK (kvsOf cv (addK acc kk)))) := (l3.trans (l4.trans l5)).trans (Le.putO (o := .k (kvsOf cv acc)) hD)
      refine ⟨kvsOf cv acc, kk, keyD_dz z5 e7, hD, by unfold kvsOf; rw [List.length_map]; exact hl, ?_⟩
      rw [putK_kvs]
      refine q _ ll ?_
      have := (r5.pushP (ys := .k (kvsOf cv (addK acc kk))) h0).wipe (vs := vs) hn
      rw [hw] at this
      exact this
    · exact absurd he (by rw [if_neg hl]; exact fun z => by cases z)
theorem src_key {src : Src} {J : It} {o : Option PyData} {i : Nat} {env2 : En} {P : Ct} (r : Rel X.K P H (L2.wipe σ vs) env) (l : Le H1 H) (hs : SrcR X.K σ J H1 src) (hjn : ∀ j, src = .own j → j ∉ vs) (hle : ∀ items, src = .fix items → i ≤ items.length) (e1 : srcAt src i env = .ok o env2) :
    env2 = env ∧ AtS X.K J i H o := by
  cases src with
  | fix items =>
    have e1 : o = items[i]? ∧ env2 = env := by cases e1; exact ⟨rfl, rfl⟩
    obtain ⟨eo, e1⟩ := e1
    refine ⟨e1, ?_⟩
    rw [eo]
    have hle := hle items rfl
    by_cases hlt : i < items.length
    · rw [List.getElem?_eq_getElem hlt]
      exact ⟨hs.go i H l hlt, fun x H' y => hs.yld i H x H' _ l y (List.getElem?_eq_getElem hlt)⟩
    · have e : i = items.length := by omega
      subst e
      rw [List.getElem?_eq_none (Nat.le_refl _)]
      exact hs.stop H l
  | own j =>
    unfold srcAt at e1
    dsimp only at e1
    split at e1
    · rename_i b es hj
      have e1 : o = es[i]? ∧ env2 = env := by cases e1; exact ⟨rfl, rfl⟩
      obtain ⟨eo, e1⟩ := e1
      refine ⟨e1, ?_⟩
      rw [eo]
      obtain ⟨a, hσ, hs⟩ := hs
      obtain ⟨a', ys, q1, q2, q3, _⟩ := r.ownL j b es hj
      rw [wipe_get, if_neg (fun z => hjn j rfl z.1), hσ] at q1
      cases q1
      obtain ⟨s1, s2, s3⟩ := hs i H ys q2
      by_cases hlt : i < es.length
      · rw [List.getElem?_eq_getElem hlt]
        refine ⟨s1 (by rw [q3.length]; exact hlt), fun x H' y => ?_⟩
        obtain ⟨rfl, hx⟩ := s2 x H' y
        obtain ⟨d, e', z⟩ := q3.getV hx
        rw [List.getElem?_eq_getElem hlt] at e'
        cases e'
        exact ⟨.refl _, z⟩
      · rw [List.getElem?_eq_none (by omega)]
        exact s3 (by rw [q3.length]; omega)
    · cases e1
theorem dc_loop {src : Src} {J : It} {Q : VK} (hC : C.T = T) (hs : SrcR X.K σ J H1 src) (hv : noOwn vs env1 = true) (r1 : Rel X.K C H1 σ env1) (hD : H1 D = none) (hjn : ∀ j, src = .own j → j ∉ vs)
    (n : Nat) (ds : List Key) (envE : En) (he : dcN src vs g t e (n + 1) 0 [] (wipeE env1 vs) = .ok ds envE)
    (q : ∀ H', Rel X.K C H' σ (restE env1 envE vs) → H' D = some (.dK (kvsOf cv ds)) → (∀ (k : Nat) b es, (restE env1 envE vs)[k]? = some (some (.own b es)) → σ[k]? ≠ some (some (.ref D))) → Le H1 H' → Q (.ref D) H') :
    ∃ Wv : Nat → Nat → Hp → Prop, (∃ m, Wv 0 m (upd H1 D (.dK []))) ∧ ∀ i m H, Wv i m H →
      (J.stop i H ∧ Q (.ref D) H) ∨ (J.go i H ∧ ∃ Nx : Hp → Prop, (∀ H', Nx H' → ∃ m', m' < m ∧ Wv (i + 1) m' H') ∧ ∀ x H', J.yld i H x H' → tgB X vs g x (L2.wipe σ vs) H' fun σ2 H2 => L2.wipe σ2 vs = L2.wipe σ vs ∧ ttB X T t σ2 H2 fun b H3 =>
        if b = true then teB X T scope e σ2 H3 fun y H4 => tC cv σ2 H4 fun z H5 => ∃ kvs k, y = kV k ∧ H5 D = some (.dK kvs) ∧ kvs.length < sizeLine ∧ Nx (upd H5 D (.dK (putK kvs k z))) else Nx H3) := by
  have h0 : Nk C.H0 D := r1.dom D hD
  have hP : C.P D = none := r1.domP hD
  refine ⟨fun i m H => (∀ items, src = .fix items → i ≤ items.length) ∧ Le H1 H ∧ ∃ env acc, Rel X.K (C.withP D (.k (kvsOf cv acc))) H (L2.wipe σ vs) env ∧ dcN src vs g t e m i acc env = .ok ds envE, ⟨n + 1, ?_⟩, ?_⟩
  · have sm : Same H1 (upd H1 D (.dK [])) := Same.new hD
    refine ⟨fun _ _ => Nat.zero_le _, .same sm, _, [], ?_, he⟩
    have r2 := r1.grow sm
    refine Rel.wipe (r2.addP (xs := .k (kvsOf cv [])) upd_same fun i b ds e1 e2 => ?_) hv
    obtain ⟨a, ys, q1, q2, _⟩ := r1.own i b ds e1
    rw [e2] at q1
    cases q1
    rw [hD] at q2
    cases q2
  · rintro i m H ⟨hle, l, env, acc, r, he⟩
    cases m with
    | zero => cases he
    | succ m =>
      unfold dcN at he
      obtain ⟨o, env2, e1, he⟩ := noE_bind_ok he
      obtain ⟨ee, key⟩ := src_key r l hs hjn hle e1
      subst ee
      cases o with
      | none =>
        cases he
        refine .inl ⟨key, q H ((r.unP hP).rest r1 l hv) r.atP (fun k b es e2 e3 => ?_) l⟩
        have hl := show env1.length = envE.length by rw [r1.len, r.len, wipe_length]
        rw [restE_get hl] at e2
        split at e2
        · exact noOwn_get hv (by assumption) e2
        · rename_i hn
          refine r.offP e2 ?_
          rw [wipe_get, if_neg (fun z => hn z.1)]
          exact e3
      | some d =>
        obtain ⟨acc', env3, e2, he⟩ := noE_bind_ok he
        have hle' : ∀ items, src = .fix items → i + 1 ≤ items.length := by
          rintro items rfl
          have e1 : R.ok items[i]? env2 = R.ok (some d) env2 := e1
          have e1 : items[i]? = some d := by injection e1
          exact (List.getElem?_eq_some_iff.mp e1).1
        refine .inr ⟨key.1, fun H => (∀ items, src = .fix items → i + 1 ≤ items.length) ∧ Le H1 H ∧ ∃ env acc, Rel X.K (C.withP D (.k (kvsOf cv acc))) H (L2.wipe σ vs) env ∧ dcN src vs g t e m (i + 1) acc env = .ok ds envE, fun H' p => ⟨m, Nat.lt_succ_self m, p⟩, fun x H' y => ?_⟩
        obtain ⟨sm, zx⟩ := key.2 x H' y
        exact dc_turn hC h0 (r.grow sm) zx e2 fun H'' l' r' => ⟨hle', (l.trans (.same sm)).trans l', env3, acc', r', he⟩
end
theorem de_lenDc {W : WX} {own : List (Str × Nat)} {vx : Expr} {cv : V} {p p2 pos : Pos} (hc : X.calm = true) (hN : X.N.Nodup) (hg : Gl X "len") (hm : X.mg "len" = none) (hi : DI X T W tg iter mi) (ok : BlkOk X.N X.env.scope scope own) (b : Blk X T scope elt tg ifs (own.map (·.2)) g t e) (hj : NoJ (own.map (·.2)) mi)
    (hvx : ∀ (s : Shared) (H : Hp) (C : Addr) (cl : List (Str × Addr)) (fp : List Addr), PE (X.blk s H scope (compEnvC scope cl C X.env) fp) vx (tC cv))
    (hs : ∀ x, foldedSetIterable iter X.env x = pure x := by intro _; rfl)
    (hst : starEach [.DictComp elt vx [⟨tg, iter, ifs, 0⟩] scope p2] X.env = (false, eval (.DictComp elt vx [⟨tg, iter, ifs, 0⟩] scope p2) X.env) :: starEach [] X.env := by rfl) :
    DE X T W (.Call (.Name "len" p) [.DictComp elt vx [⟨tg, iter, ifs, 0⟩] scope p2] [] pos) (mLenDc (own.map (·.2)) mi g t e) := by
  refine ⟨fun C hC => ⟨fun pins s σ H Q I h => (pe_callB call_lenD hg hm boot_len (pa_cons (pe_dc hc hN (hi.pi C hC) ok b.pg b.pt b.pe hvx hs) pa_nil hst) (he := hst)).run pins s σ H Q I ?_⟩⟩
  obtain ⟨env, r, h⟩ := h
  refine ⟨env, r, ?_⟩
  unfold mLenDc at h
  cases e0 : mi env with
  | err x env' => rw [M.bind_err e0] at h; exact h
  | stuck => rw [M.bind_stuck e0] at h; exact h.elim
  | ok src env1 =>
    rw [M.bind_ok e0] at h
    intro J H1 r1 hs l1 D hD
    cases e1 : dcRun (own.map (·.2)) g t e src env1 with
    | err x env' =>
      unfold dcRun at e1
      split at e1
      · split at e1 <;> cases e1
      · cases e1
    | stuck => rw [M.bind_stuck e1] at h; exact h.elim
    | ok ks env2 =>
      rw [M.bind_ok e1] at h
      unfold dcRun at e1
      split at e1
      · rename_i n envn hn
        split at e1
        · rename_i ds envE hE
          cases e1
          obtain ⟨_, env3, e2, e3⟩ := noE_bind_ok hE
          obtain ⟨hv, rfl⟩ := clr_ok e2
          refine dc_loop (cv := cv) (Q := fun u H' => ∃ a kvs, [u] = [V.ref a] ∧ H' a = some (.dK kvs) ∧ Q (.int kvs.length) H') hC hs hv r1 hD (fun j ej => hj j env env1 (by rw [e0, ej])) n ks envE e3 fun H' r' hk _ l' => ?_
          refine ⟨D, kvsOf cv ks, rfl, hk, ?_⟩
          have : (kvsOf cv ks).length = ks.length := by unfold kvsOf; rw [List.length_map]
          rw [this]
          exact h (.int ks.length) H' r' (.int _) (l1.trans l')
        · cases e1
      · cases e1
/-- a dict of one value, own -/
def mDc (vs : List Nat) (mi : M Src) (g : PyData → M Unit) (t : M Bool) (e : M Vl) (d : PyData) : M OO := M.bind mi fun s => M.bind (dcRun vs g t e s) fun ks => M.pure (.k (ks.map fun k => (k, d)))
theorem kvs_oor {K : PySem.W.Frag} {H : Hp} {cv : V} {d : PyData} (hz : Dz K H cv d) : ∀ ks : List Key, OOR K H (.dK (kvsOf cv ks)) (.k (ks.map fun k => (k, d)))
  | [] => ⟨rfl, .nil⟩
  | k :: ks => by
    obtain ⟨h1, h2⟩ := kvs_oor hz ks
    exact ⟨congrArg (k :: ·) h1, .cons hz h2⟩
theorem dq_dc {W : WX} {own : List (Str × Nat)} {vx : Expr} {cv : V} {d : PyData} {p2 : Pos} (hc : X.calm = true) (hN : X.N.Nodup) (hi : DI X T W tg iter mi) (ok : BlkOk X.N X.env.scope scope own) (b : Blk X T scope elt tg ifs (own.map (·.2)) g t e) (hj : NoJ (own.map (·.2)) mi)
    (hvx : ∀ (s : Shared) (H : Hp) (C : Addr) (cl : List (Str × Addr)) (fp : List Addr), PE (X.blk s H scope (compEnvC scope cl C X.env) fp) vx (tC cv)) (hz : ∀ H, Dz X.K H cv d)
    (hs : ∀ x, foldedSetIterable iter X.env x = pure x := by intro _; rfl) :
    DQ X T W (.DictComp elt vx [⟨tg, iter, ifs, 0⟩] scope p2) (mDc (own.map (·.2)) mi g t e d) := by
  refine ⟨fun C hC => ⟨fun pins s σ H Q I h => (pe_dc hc hN (hi.pi C hC) ok b.pg b.pt b.pe hvx hs).run pins s σ H Q I ?_⟩⟩
  obtain ⟨env, r, h⟩ := h
  refine ⟨env, r, ?_⟩
  unfold mDc at h
  cases e0 : mi env with
  | err x env' => rw [M.bind_err e0] at h; exact h
  | stuck => rw [M.bind_stuck e0] at h; exact h.elim
  | ok src env1 =>
    rw [M.bind_ok e0] at h
    intro J H1 r1 hs l1 D hD
    cases e1 : dcRun (own.map (·.2)) g t e src env1 with
    | err x env' =>
      unfold dcRun at e1
      split at e1
      · split at e1 <;> cases e1
      · cases e1
    | stuck => rw [M.bind_stuck e1] at h; exact h.elim
    | ok ks env2 =>
      rw [M.bind_ok e1] at h
      unfold dcRun at e1
      split at e1
      · rename_i n envn hn
        split at e1
        · rename_i ds envE hE
          cases e1
          obtain ⟨_, env3, e2, e3⟩ := noE_bind_ok hE
          obtain ⟨hv, rfl⟩ := clr_ok e2
          refine dc_loop (cv := cv) (Q := Q) hC hs hv r1 hD (fun j ej => hj j env env1 (by rw [e0, ej])) n ks envE e3 fun H' r' hk ho l' => ?_
          exact h (.ref D) H' r' ⟨D, _, rfl, hk, kvs_oor (hz H') ks, r1.dom D hD, r1.domP hD, ho⟩ (l1.trans l')
        · cases e1
      · cases e1
end
end DL
end

/- EL16 -/
section
set_option maxHeartbeats 4000000
namespace DL
open PySem PySem.Spec PyProof.Rows L2

section
variable {X : Cx} {C : Ct} {T : List (Addr × Str)} {W : WX} {σ : L2.St} {H : Hp} {env : En}
/-- a new list is frozen at once -/
theorem ghost_new {Q : VK} {p : Addr} {xs : List V} {ds : List PyData} (r : Rel X.K C H σ env) (hp : H p = none) (hz : DzAll X.K H xs ds) (q : ∀ H', Rel X.K C H' σ env → Dz X.K H' (.ref p) (.list ds) → Le H H' → Q (.ref p) H') : Ghost X σ (Q (.ref p)) (upd H p (.lst xs)) :=
  .lock upd_same fun o => by
    rw [L2.upd_upd]
    have sm : Same H (upd H p (.frz o (.lst xs))) := Same.new hp
    exact q _ (r.grow sm) (.lst (.inl ⟨o, upd_same⟩) (DzAll.le (.same sm) _ hz)) (.same sm)
end

/-! ### an operator on data, lists among them -/
def gOr (g : PyData → PyData → Option PyData) (gl : PyData → PyData → Option (List PyData)) (x y : PyData) : Option PyData := match g x y with
  | some z => some z
  | none => (gl x y).map .list
section
variable {X : Cx} {T : List (Addr × Str)} {W : WX} {a b e : Expr} {ma mb m : M Vl} {pos p p2 : Pos}
theorem de_binA {op : Operator} {g : PyData → PyData → Option PyData} {gl : PyData → PyData → Option (List PyData)} (ho : Op2 X (binaryOp op) g) (hl : Op2L X (binaryOp op) gl) (ha : DE X T W a ma) (hb : DE X T W b mb) : DE X T W (.BinOp a op b pos) (mBin (gOr g gl) ma mb) := by
  refine ⟨fun C hC => ⟨fun pins s σ H Q I h => (pe_ghost (pe_op (ho.opR.or hl.opR) (ha.pe C hC) (hb.pe C hC))).run pins s σ H Q I ?_⟩⟩
  obtain ⟨env, r, h⟩ := h
  refine ⟨env, r, Lf.bind h fun u H1 va env1 r1 hv1 l1 h1 => ⟨env1, r1, Lf.bind h1 fun y H2 vb env2 r2 hv2 l2 h2 => ?_⟩⟩
  obtain ⟨dx, zx, h3⟩ := Lf.get h2 r2 (hv1.le l2)
  obtain ⟨dy, zy, h4⟩ := Lf.get h3 r2 hv2
  obtain ⟨dz, e, h5⟩ := Lf.opt h4 r2
  unfold gOr at e
  cases e1 : g dx dy with
  | some z =>
    rw [e1] at e
    cases e
    exact .inl ⟨dx, dy, dz, zx, zy, e1, fun z H' sm hz => .now (h5 z H' sm hz)⟩
  | none =>
    rw [e1] at e
    dsimp only at e
    rw [Option.map_eq_some_iff] at e
    obtain ⟨ds, e2, rfl⟩ := e
    refine .inr ⟨dx, dy, ds, zx, zy, e2, fun p xs hp hz => ghost_new r2 hp hz fun H' r3 z3 l3 => ?_⟩
    obtain ⟨d, z, h6⟩ := Lf.get h2 r2 (hv1.le l2)
    rw [show (gOr g gl dx dy) = some (.list ds) from by unfold gOr; rw [e1]; dsimp only; rw [e2] <;> rfl] at h4
    exact h4 (.ref p) H' r3 z3 l3
abbrev gAddA := gOr gAdd gCat
abbrev gMulA := gOr gMul gRep
/-! ### slices -/
def cutD (xs : List PyData) (lo hi : Option Int) : List PyData := (xs.drop (HT.sIx xs.length 0 lo)).take (HT.sIx xs.length xs.length hi - HT.sIx xs.length 0 lo)
def gSl (d : PyData) (lo hi : Option Int) : Option PyData := match d with
  | .list xs => some (.list (cutD xs lo hi))
  | .tuple xs => some (.tuple (cutD xs lo hi))
  | .str z => if z.length ≤ sizeLine then some (.str (cutS z lo hi)) else none
  | _ => none
def mPart : Option (M Vl) → M (Option Int)
  | none => M.pure none
  | some m => M.bind m fun v => match v with
    | .d (.int i) => M.pure (some i)
    | _ => M.stuck
def mSl (m : M Vl) (lo hi : Option (M Vl)) : M Vl := M.bind m fun v => M.bind (mPart lo) fun l => M.bind (mPart hi) fun h => M.bind v.get fun d => M.opt ((gSl d l h).map Vl.d)
def mSlL (m : M Vl) (lo hi : Option (M Vl)) : M (List PyData) := M.bind m fun v => M.bind (mPart lo) fun l => M.bind (mPart hi) fun h => M.bind v.get fun d => match d with
  | .list xs => M.pure (cutD xs l h)
  | _ => M.stuck
def liftP (K : PySem.W.Frag) (mg : Str → Option Value) (C : Ct) (W : WX) (m : M (Option Int)) : TO := fun σ H Q => ∃ env, Rel K C H σ env ∧ Lf K mg C W σ H (fun o _ v _ => o = v) (m env) Q
structure DP (X : Cx) (T : List (Addr × Str)) (W : WX) (e : Option Expr) (m : Option (M Vl)) : Prop where
  po : ∀ C : Ct, C.T = T → L2.PO X e (liftP X.K X.mg C W (mPart m))
theorem dp_none : DP X T W none none := by
  refine ⟨fun C hC => ⟨fun pins s σ H Q I h => po_none.run pins s σ H Q I ?_⟩⟩
  obtain ⟨env, r, h⟩ := h
  exact h none H r rfl (.refl H)
theorem dp_some (h : DE X T W e m) : DP X T W (some e) (some m) := by
  refine ⟨fun C hC => ⟨fun pins s σ H Q I hw => (po_some (h.pe C hC)).run pins s σ H Q I ?_⟩⟩
  obtain ⟨env, r, hw⟩ := hw
  refine ⟨env, r, Lf.bind hw fun u H1 v env1 r1 hv l1 h1 => ?_⟩
  match v, hv, h1 with
  | .d (.int i), hv, h1 =>
    cases (show Dz X.K H1 u (.int i) from hv)
    exact ⟨i, rfl, h1 (some i) H1 r1 rfl (.refl H1)⟩
theorem cut_dz {K : PySem.W.Frag} {H : Hp} {xs : List V} {ds : List PyData} {lo hi : Option Int} (h : DzAll K H xs ds) : DzAll K H (cutV xs lo hi) (cutD ds lo hi) := by
  unfold cutV cutD
  rw [h.length]
  exact (h.drop _).take _
theorem cutD_full {ds : List PyData} {lo hi : Option Int} (h : HT.sIx ds.length 0 lo = 0 ∧ HT.sIx ds.length ds.length hi = ds.length) : cutD ds lo hi = ds := by
  unfold cutD
  rw [h.1, h.2]
  simp
theorem de_sl {lo hi : Option Expr} {ml mh : Option (M Vl)} (he : DE X T W e m) (hl : DP X T W lo ml) (hh : DP X T W hi mh) : DE X T W (.Subscript e (.Slice lo hi none p2) pos) (mSl m ml mh) := by
  refine ⟨fun C hC => ⟨fun pins s σ H Q I h => (pe_ghost (pe_slice (L2.SlR.or sl_list (L2.SlR.or sl_tupA sl_str)) (he.pe C hC) (hl.po C hC) (hh.po C hC))).run pins s σ H Q I ?_⟩⟩
  obtain ⟨env, r, h⟩ := h
  refine ⟨env, r, Lf.bind h fun u H1 v env1 r1 hv1 l1 h1 => ⟨env1, r1, Lf.bind h1 fun l H2 lv env2 r2 hl2 l2 h2 => ⟨env2, r2, Lf.bind h2 fun o H3 ov env3 r3 ho3 l3 h3 => ?_⟩⟩⟩
  subst hl2 ho3
  obtain ⟨d, z, h4⟩ := Lf.get h3 r3 (hv1.le (l2.trans l3))
  cases d with
  | list ds =>
    obtain ⟨a, xs, rfl, f1, z1⟩ := z.list
    refine .inl ⟨a, xs, rfl, f1.sq, fun p hp => ghost_new r3 hp (cut_dz z1) fun H' r' z' l' => h4 (.ref p) H' r' z' l'⟩
  | tuple ds =>
    obtain ⟨a, xs, rfl, f1, z1⟩ := z.tuple
    have e1 := z1.length
    refine .inr (.inl ⟨a, xs, rfl, f1.sq, fun hf => .now ?_, fun _ p hp => .now ?_⟩)
    · rw [e1] at hf
      exact h4 (.ref a) H3 r3 (show Dz X.K H3 (.ref a) (.tuple (cutD ds l o)) by rw [cutD_full hf]; exact .tup f1 z1) (.refl H3)
    · have sm : Same H3 (upd H3 p (.tup (cutV xs l o))) := Same.new hp
      exact h4 (.ref p) _ (r3.grow sm) (.tup (.inl upd_same) (DzAll.le (.same sm) _ (cut_dz z1))) (.same sm)
  | str x =>
    have := z.str
    subst this
    by_cases hx : x.length ≤ sizeLine
    · have h4 : Lf X.K X.mg C W σ H3 (fun u H v _ => VR X.K σ u H v) (M.opt ((if x.length ≤ sizeLine then some (PyData.str (cutS x l o)) else none).map Vl.d) env3) Q := h4
      rw [if_pos hx] at h4
      exact .inr (.inr ⟨x, rfl, hx, .now (h4 (.str _) H3 r3 (.str _) (.refl H3))⟩)
    · have h4 : Lf X.K X.mg C W σ H3 (fun u H v _ => VR X.K σ u H v) (M.opt ((if x.length ≤ sizeLine then some (PyData.str (cutS x l o)) else none).map Vl.d) env3) Q := h4
      rw [if_neg hx] at h4
      exact h4.elim
  | _ => exact h4.elim
theorem do_sl {lo hi : Option Expr} {ml mh : Option (M Vl)} (he : DE X T W e m) (hl : DP X T W lo ml) (hh : DP X T W hi mh) : DO X T W (.Subscript e (.Slice lo hi none p2) pos) (mSlL m ml mh) := by
  refine ⟨fun C hC => ⟨fun pins s σ H Q I h => (pe_slice sl_list (he.pe C hC) (hl.po C hC) (hh.po C hC)).run pins s σ H Q I ?_⟩⟩
  obtain ⟨env, r, h⟩ := h
  refine ⟨env, r, Lf.bind h fun u H1 v env1 r1 hv1 l1 h1 => ⟨env1, r1, Lf.bind h1 fun l H2 lv env2 r2 hl2 l2 h2 => ⟨env2, r2, Lf.bind h2 fun o H3 ov env3 r3 ho3 l3 h3 => ?_⟩⟩⟩
  subst hl2 ho3
  obtain ⟨d, z, h4⟩ := Lf.get h3 r3 (hv1.le (l2.trans l3))
  cases d with
  | list ds =>
    obtain ⟨a, xs, rfl, f1, z1⟩ := z.list
    exact ⟨a, xs, rfl, f1.sq, fun p hp => h4 (.ref p) _ (r3.grow (Same.new hp)) (new_OR r3 hp (cut_dz z1)) (.same (Same.new hp))⟩
  | _ => exact h4.elim
end

/-! ### in, not in -/
def gIn : PyData → PyData → Option PyData
  | d, .list ds => if SeqAt.shaped d && SeqAt.shaped (.list ds) then some (.bool (ds.any fun z => PyData.eqv z d)) else none
  | d, .tuple ds => if SeqAt.shaped d && SeqAt.shaped (.tuple ds) then some (.bool (ds.any fun z => PyData.eqv z d)) else none
  | .str i, .str j => some (.bool (!(Builtin.Str.occurrences j i 0 j.length 1).isEmpty))
  | _, _ => none
def gNotIn (x y : PyData) : Option PyData := match gIn x y with
  | some (.bool b) => some (.bool (!b))
  | _ => none
theorem gIn_bool {x y z : PyData} (h : gIn x y = some z) : ∃ b, z = .bool b := by
  unfold gIn at h
  split at h
  · split at h
    · cases h; exact ⟨_, rfl⟩
    · cases h
  · split at h
    · cases h; exact ⟨_, rfl⟩
    · cases h
  · cases h; exact ⟨_, rfl⟩
  · cases h
section
variable {X : Cx}
theorem o_in (hu : X.A.units + 65 < cLine) : Op2 X (compareOp .In) gIn := by
  intro pins s σ H x y v u dx dy dz I rx ry hx hy e Q q
  unfold gIn at e
  split at e
  · rename_i ds
    split at e
    · rename_i hs
      cases e
      obtain ⟨s1, s2⟩ := Bool.and_eq_true_iff.mp hs
      exact op_inD hu pins s σ H x y v u Q I rx ry ⟨dx, ds, hx.dp, hy.dp, s1, s2, q _ H (.refl H) (.bl _)⟩
    · cases e
  · rename_i ds
    split at e
    · rename_i hs
      cases e
      obtain ⟨s1, s2⟩ := Bool.and_eq_true_iff.mp hs
      obtain ⟨as, r1⟩ := Dp.reads I dx x v hx.dp rx
      obtain ⟨bs, r2⟩ := Dp.reads I (.tuple ds) y u hy.dp ry
      refine SeqAt.in_tuple_reads r2 r1 (SeqAt.canLay_of_shaped s2) (SeqAt.canLay_of_shaped s1) ?_ ⟨.bl _, H, I, rfl, q _ H (.refl H) (.bl _)⟩
      have h1 := SeqAt.depth_of_shaped s1
      have h2 := Nat.min_le_right (PyData.depthAll ds) dx.depth
      show X.A.units + 1 + min (PyData.depthAll ds) dx.depth < cLine
      omega
    · cases e
  · cases e
    have e1 := hx.str
    have e2 := hy.str
    subst e1 e2
    exact op_in_str pins s σ H _ _ v u Q I rx ry ⟨_, _, rfl, rfl, q _ H (.refl H) (.bl _)⟩
  · cases e
theorem o_notin (hu : X.A.units + 65 < cLine) : Op2 X (compareOp .NotIn) gNotIn := by
  intro pins s σ H x y v u dx dy dz I rx ry hx hy e Q q
  unfold gNotIn at e
  cases e0 : gIn dx dy with
  | none => rw [e0] at e; cases e
  | some z =>
    obtain ⟨b, rfl⟩ := gIn_bool e0
    rw [e0] at e
    cases e
    unfold gIn at e0
    split at e0
    · rename_i ds
      split at e0
      · rename_i hs
        cases e0
        obtain ⟨s1, s2⟩ := Bool.and_eq_true_iff.mp hs
        exact op_notInD hu pins s σ H x y v u Q I rx ry ⟨dx, ds, hx.dp, hy.dp, s1, s2, q _ H (.refl H) (.bl _)⟩
      · cases e0
    · rename_i ds
      split at e0
      · rename_i hs
        cases e0
        obtain ⟨s1, s2⟩ := Bool.and_eq_true_iff.mp hs
        obtain ⟨as, r1⟩ := Dp.reads I dx x v hx.dp rx
        obtain ⟨bs, r2⟩ := Dp.reads I (.tuple ds) y u hy.dp ry
        refine SeqAt.notIn_tuple_reads r2 r1 (SeqAt.canLay_of_shaped s2) (SeqAt.canLay_of_shaped s1) ?_ ⟨.bl _, H, I, rfl, q _ H (.refl H) (.bl _)⟩
        have h1 := SeqAt.depth_of_shaped s1
        have h2 := Nat.min_le_right (PyData.depthAll ds) dx.depth
        show X.A.units + 1 + min (PyData.depthAll ds) dx.depth < cLine
        omega
      · cases e0
    · cases e0
      have e1 := hx.str
      have e2 := hy.str
      subst e1 e2
      exact op_notIn_str pins s σ H _ _ v u Q I rx ry ⟨_, _, rfl, rfl, q _ H (.refl H) (.bl _)⟩
    · cases e0

/-! ### any, all, max, min of lists and tuples -/
def flatD : PyData → Bool
  | .none => true
  | .bool _ => true
  | .int _ => true
  | _ => false
theorem flat_plain : ∀ {ds : List PyData}, ds.all flatD = true → PyData.plainAll ds = true ∧ ∀ x ∈ ds, x.fits63
  | [], _ => ⟨rfl, fun x h => by cases h⟩
  | d :: ds, h => by
    rw [List.all_cons, Bool.and_eq_true] at h
    obtain ⟨h1, h2⟩ := flat_plain h.2
    refine ⟨?_, fun x hx => ?_⟩
    · show (d.plain && PyData.plainAll ds) = true
      rw [h1]
      cases d <;> first | rfl | exact absurd h.1 (by simp [flatD])
    · rcases List.mem_cons.mp hx with rfl | hx
      · cases x <;> first | trivial | exact absurd h.1 (by simp [flatD])
      · exact h2 x hx
def gAnyA : List PyData → Option PyData
  | [.list xs] => if xs.all flatD then some (.bool (xs.any PyData.truthy)) else none
  | [.tuple xs] => if xs.all flatD then some (.bool (xs.any PyData.truthy)) else none
  | _ => none
def gAllA : List PyData → Option PyData
  | [.list xs] => if xs.all flatD then some (.bool (xs.all PyData.truthy)) else none
  | [.tuple xs] => if xs.all flatD then some (.bool (xs.all PyData.truthy)) else none
  | _ => none
theorem c_anyA (hc : X.calm = true) : CallD X (.builtin "any") gAnyA := by
  intro pins s σ H xs us ds d I r hz e Q q
  unfold gAnyA at e
  split at e
  · rename_i es
    split at e
    · rename_i hf
      cases e
      obtain ⟨h1, h2⟩ := flat_plain hf
      obtain ⟨x, rfl, h⟩ := hz.one
      obtain ⟨a, ys, rfl, f1, z1⟩ := h.list
      obtain ⟨its, rv, hl, _⟩ := I.list f1.sq
      rw [Vals.ref1 r]
      obtain ⟨as, ra⟩ := Dp.readsAll I es ys its z1.dp rv
      exact PySem.W.any_list_data (I.ok.hd hc) hl.isList (by simpa using ra) h1 h2 fun h' tk hk => ⟨.bl _, H, I.kept hk, rfl, q _ H (.refl H) (.bl _)⟩
    · cases e
  · rename_i es
    split at e
    · rename_i hf
      cases e
      obtain ⟨h1, h2⟩ := flat_plain hf
      obtain ⟨x, rfl, h⟩ := hz.one
      obtain ⟨a, ys, rfl, f1, z1⟩ := h.tuple
      obtain ⟨its, rv, hl, _⟩ := I.tuple f1.sq
      rw [Vals.ref1 r]
      obtain ⟨as, ra⟩ := Dp.readsAll I es ys its z1.dp rv
      exact PySem.W.any_tuple_data (vs := its.toArray) (I.ok.hd hc) hl (by simpa using ra) h1 h2 fun h' tk hk => ⟨.bl _, H, I.kept hk, rfl, q _ H (.refl H) (.bl _)⟩
    · cases e
  · cases e
theorem c_allA (hc : X.calm = true) : CallD X (.builtin "all") gAllA := by
  intro pins s σ H xs us ds d I r hz e Q q
  unfold gAllA at e
  split at e
  · rename_i es
    split at e
    · rename_i hf
      cases e
      obtain ⟨h1, h2⟩ := flat_plain hf
      obtain ⟨x, rfl, h⟩ := hz.one
      obtain ⟨a, ys, rfl, f1, z1⟩ := h.list
      obtain ⟨its, rv, hl, _⟩ := I.list f1.sq
      rw [Vals.ref1 r]
      obtain ⟨as, ra⟩ := Dp.readsAll I es ys its z1.dp rv
      exact PySem.W.all_list_data (I.ok.hd hc) hl.isList (by simpa using ra) h1 h2 fun h' tk hk => ⟨.bl _, H, I.kept hk, rfl, q _ H (.refl H) (.bl _)⟩
    · cases e
  · rename_i es
    split at e
    · rename_i hf
      cases e
      obtain ⟨h1, h2⟩ := flat_plain hf
      obtain ⟨x, rfl, h⟩ := hz.one
      obtain ⟨a, ys, rfl, f1, z1⟩ := h.tuple
      obtain ⟨its, rv, hl, _⟩ := I.tuple f1.sq
      rw [Vals.ref1 r]
      obtain ⟨as, ra⟩ := Dp.readsAll I es ys its z1.dp rv
      exact PySem.W.all_tuple_data (vs := its.toArray) (I.ok.hd hc) hl (by simpa using ra) h1 h2 fun h' tk hk => ⟨.bl _, H, I.kept hk, rfl, q _ H (.refl H) (.bl _)⟩
    · cases e
  · cases e
end
end DL
end

/- EL17 -/
section
set_option maxHeartbeats 4000000
namespace DL
open PySem PySem.Spec PyProof.Rows L2

/-! ### max, min of tuples of ints -/
theorem depth_ints : ∀ ns : List Int, PyData.depthAll (ns.map .int) ≤ 1
  | [] => Nat.zero_le _
  | n :: ns => Nat.max_le.mpr ⟨by show PyData.depth (.int n) ≤ 1; simp [PyData.depth], depth_ints ns⟩
theorem alike_ints (ns : List Int) : PySem.W.AlikeAll (ns.map .int) := by
  refine ⟨fun x hx y hy => ?_, fun x hx => ?_⟩
  · obtain ⟨i, _, rfl⟩ := List.mem_map.mp hx
    obtain ⟨j, _, rfl⟩ := List.mem_map.mp hy
    rfl
  · obtain ⟨i, _, rfl⟩ := List.mem_map.mp hx
    exact fun z => by cases z
def gMaxA : List PyData → Option PyData
  | [.tuple xs] => (toInts xs).bind fun ns => (maxI ns).map .int
  | ds => gMax ds
def gMinA : List PyData → Option PyData
  | [.tuple xs] => (toInts xs).bind fun ns => (minI ns).map .int
  | ds => gMin ds
section
variable {X : Cx}
theorem c_maxA (hc : X.calm = true) (hu : X.A.units + 65 < cLine) : CallD X (.builtin "max") gMaxA := by
  intro pins s σ H xs us ds d I r hz e Q q
  unfold gMaxA at e
  split at e
  · rename_i es
    cases q2 : toInts es with
    | none => rw [q2] at e; cases e
    | some ns =>
      rw [q2] at e
      have ee := toInts_eq q2
      subst ee
      obtain ⟨x, rfl, h⟩ := hz.one
      obtain ⟨a, ys, rfl, f1, z1⟩ := h.tuple
      obtain ⟨its, rv, hl, _⟩ := I.tuple f1.sq
      rw [Vals.ref1 r]
      obtain ⟨as, ra⟩ := Dp.readsAll I _ ys its z1.dp rv
      match ns, e, ra with
      | n :: ns, e, ra =>
        cases e
        have hd := depth_ints (n :: ns)
        refine PySem.W.max_tuple_data (x := .int n) (xs := ns.map .int) (vs := its.toArray) (I.ok.hd hc) hl (by simpa using ra) (alike_ints (n :: ns)) (by
          have : PyData.depthAll (PyData.int n :: List.map PyData.int ns) ≤ 1 := hd
          omega) fun i v h' tk bs _ hr hk => ?_
        rw [PySem.W.maxD_ints] at hr
        cases hr with
        | int m t => exact ⟨.int _, H, I.kept hk, ⟨_, rfl⟩, q _ H (.refl H) (.int _)⟩
  · exact c_max hc pins s σ H xs us ds d I r hz e Q q
theorem c_minA (hc : X.calm = true) (hu : X.A.units + 65 < cLine) : CallD X (.builtin "min") gMinA := by
  intro pins s σ H xs us ds d I r hz e Q q
  unfold gMinA at e
  split at e
  · rename_i es
    cases q2 : toInts es with
    | none => rw [q2] at e; cases e
    | some ns =>
      rw [q2] at e
      have ee := toInts_eq q2
      subst ee
      obtain ⟨x, rfl, h⟩ := hz.one
      obtain ⟨a, ys, rfl, f1, z1⟩ := h.tuple
      obtain ⟨its, rv, hl, _⟩ := I.tuple f1.sq
      rw [Vals.ref1 r]
      obtain ⟨as, ra⟩ := Dp.readsAll I _ ys its z1.dp rv
      match ns, e, ra with
      | n :: ns, e, ra =>
        cases e
        have hd := depth_ints (n :: ns)
        refine PySem.W.min_tuple_data (x := .int n) (xs := ns.map .int) (vs := its.toArray) (I.ok.hd hc) hl (by simpa using ra) (alike_ints (n :: ns)) (by
          have : PyData.depthAll (PyData.int n :: List.map PyData.int ns) ≤ 1 := hd
          omega) fun i v h' tk bs _ hr hk => ?_
        rw [PySem.W.minD_ints] at hr
        cases hr with
        | int m t => exact ⟨.int _, H, I.kept hk, ⟨_, rfl⟩, q _ H (.refl H) (.int _)⟩
  · exact c_min hc pins s σ H xs us ds d I r hz e Q q
end

/-! ### methods that only read -/
def rMB (K : PySem.W.Frag) (g : PyData → List PyData → Option PyData) : V → List V → Hp → VK → Prop := fun x vs H Q => ∃ dx args d, Rz K H x dx ∧ RzAll K H vs args ∧ g dx args = some d ∧ ∀ z H', Same H H' → Dz K H' z d → Q z H'
def mMB (ty : PyData → Bool) (g : PyData → List PyData → Option PyData) (m : M Vl) (ms : M (List Vl)) : M Vl := M.bind m fun v => M.bind v.get fun d0 => if ty d0 = true then M.bind ms fun vs => M.bind v.get fun d => M.bind (getAll vs) fun ds => M.opt ((g d ds).map Vl.d) else M.stuck
section
variable {X : Cx} {T : List (Addr × Str)} {W : WX} {o e : Expr} {es : List Expr} {m : M Vl} {ms : M (List Vl)} {pos apos cpos : Pos} {ty : PyData → Bool} {g : PyData → List PyData → Option PyData} {Ty id : String} {name : Str}
theorem de_mb (slot : Slot Ty name id) (hm : MtR X id (rMB X.K g)) (hT : ∀ u H d, Rz X.K H u d → ty d = true → tyV X.K Ty u H) (ho : DE X T W o m) (ha : DA X T W (e :: es) ms) (pa : PlainAttrs Ty) (hty : typeOf (.builtin id) = pure (.type "method_descriptor") := by rfl)
    (hbase : attributeBase o name X.env (eval o X.env) = eval o X.env := by rfl)
    (hfew : ((backTo cpos (starEach (e :: es) X.env)).all (fun x => !x.1) && (backToKw cpos (keywordEach [] X.env)).all (fun x => x.1.isSome)
      && decide ((e :: es).length + ([] : List Keyword).length + (if ([] : List Keyword).isEmpty then 0 else 1) < 30)) = true := by rfl)
    (hline : (apos.endLine == cpos.line) = true := by rfl) (hs : starEach (e :: es) X.env = (false, eval e X.env) :: starEach es X.env := by rfl) (hplain : (backTo cpos (starEach es X.env)).any (·.1) = false := by rfl) :
    DE X T W (.Call (.Attribute o name apos) (e :: es) [] cpos) (mMB ty g m ms) := by
  refine ⟨fun C hC => ⟨fun pins s σ H Q I h => (pe_bm pa slot hty hm (ho.pe C hC) (ha.pa C hC) hbase hfew hline hs hplain).run pins s σ H Q I ?_⟩⟩
  obtain ⟨env, r, h⟩ := h
  refine ⟨env, r, Lf.bind h fun u H1 v env1 r1 hv1 l1 h1 => ?_⟩
  obtain ⟨d0, z0, h2⟩ := Lf.get h1 r1 hv1
  by_cases ht : ty d0 = true
  · rw [if_pos ht] at h2
    refine ⟨hT u H1 d0 z0 ht, env1, r1, Lf.bind h2 fun us H2 vs env2 r2 hv2 l2 h3 => ?_⟩
    obtain ⟨d, z, h4⟩ := Lf.get h3 r2 (hv1.le l2)
    obtain ⟨ds, zs, h5⟩ := Lf.getAll h4 r2 hv2
    obtain ⟨dz, e, h6⟩ := Lf.opt h5 r2
    exact ⟨d, ds, dz, z, zs, e, h6⟩
  · rw [if_neg ht] at h2
    exact h2.elim
theorem de_mb0 (slot : Slot Ty name id) (hm : MtR X id (rMB X.K g)) (hT : ∀ u H d, Rz X.K H u d → ty d = true → tyV X.K Ty u H) (ho : DE X T W o m) (pa : PlainAttrs Ty) (hty : typeOf (.builtin id) = pure (.type "method_descriptor") := by rfl)
    (hbase : attributeBase o name X.env (eval o X.env) = eval o X.env := by rfl) (hline : (apos.endLine == cpos.line) = true := by rfl) :
    DE X T W (.Call (.Attribute o name apos) [] [] cpos) (mMB ty g m mNil) := by
  refine ⟨fun C hC => ⟨fun pins s σ H Q I h => (pe_bm0 pa slot hty hm (ho.pe C hC) hbase hline).run pins s σ H Q I ?_⟩⟩
  obtain ⟨env, r, h⟩ := h
  refine ⟨env, r, Lf.bind h fun u H1 v env1 r1 hv1 l1 h1 => ?_⟩
  obtain ⟨d0, z0, h2⟩ := Lf.get h1 r1 hv1
  by_cases ht : ty d0 = true
  · rw [if_pos ht] at h2
    have h3 : Lf X.K X.mg C W σ H1 (fun u H v _ => VR X.K σ u H v) (M.bind v.get (fun d => M.opt ((g d []).map Vl.d)) env1) Q := h2
    obtain ⟨d, z, h4⟩ := Lf.get h3 r1 hv1
    obtain ⟨dz, e, h6⟩ := Lf.opt h4 r1
    exact ⟨hT u H1 d0 z0 ht, d, [], dz, z, trivial, e, h6⟩
  · rw [if_neg ht] at h2
    exact h2.elim
theorem ty_list : ∀ u H d, Rz X.K H u d → isLst d = true → tyV X.K "list" u H := fun u H d z h => by
  cases d with
  | list ds =>
    obtain ⟨a, xs, rfl, f1, _⟩ := z.list
    exact .inl ⟨rfl, xs, f1.sq⟩
  | _ => cases h
theorem ty_str : ∀ u H d, Rz X.K H u d → isStr d = true → tyV X.K "str" u H := fun u H d z h => by
  cases d with
  | str x =>
    have := z.str
    subst this
    rfl
  | _ => cases h
def gCount : PyData → List PyData → Option PyData
  | .list ds, [d] => if SeqAt.shaped d && SeqAt.shaped (.list ds) then some (.int ((ds.countP fun y => PyData.eqv y d : Nat) : Int)) else none
  | _, _ => none
def gIndex : PyData → List PyData → Option PyData
  | .list ds, [d] => if SeqAt.shaped d && SeqAt.shaped (.list ds) then (ds.findIdx? fun z => PyData.eqv z d).map fun j => .int (j : Nat) else none
  | _, _ => none
theorem m_count (hu : X.A.units + 65 < cLine) : MtR X "list.count" (rMB X.K gCount) := by
  intro pins s σ H x xs v us Q I rx rxs h
  obtain ⟨dx, args, d, hx, hz, e, q⟩ := h
  unfold gCount at e
  split at e
  · rename_i ds d1
    split at e
    · rename_i hs
      cases e
      obtain ⟨s1, s2⟩ := Bool.and_eq_true_iff.mp hs
      obtain ⟨y, rfl, zy⟩ := hz.one
      obtain ⟨uy, rfl, ry⟩ := rxs.one
      obtain ⟨a, ys, rfl, f1, z1⟩ := hx.list
      cases rx
      obtain ⟨its, rv, hl, _⟩ := I.list f1.sq
      obtain ⟨as, ra⟩ := Dp.readsAll I ds ys its z1.dp rv
      obtain ⟨bs, rb⟩ := Dp.reads I d1 y uy zy.dp ry
      refine SeqAt.count_list_data hl.isList (by simpa using ra) rb (PyData.plainAll_of_canLay0 ds (SeqAt.canLay_of_shaped s2)) (PyData.plain_of_canLay0 d1 (SeqAt.canLay_of_shaped s1)) ?_ ⟨.int _, H, I.tok _, ⟨_, rfl⟩, q _ H (.refl H) (.int _)⟩
      have h1 := SeqAt.depth_of_shaped s1
      have h2 := Nat.min_le_right (PyData.depthAll ds) d1.depth
      omega
    · cases e
  · cases e
theorem m_index (hu : X.A.units + 65 < cLine) : MtR X "list.index" (rMB X.K gIndex) := by
  intro pins s σ H x xs v us Q I rx rxs h
  obtain ⟨dx, args, d, hx, hz, e, q⟩ := h
  unfold gIndex at e
  split at e
  · rename_i ds d1
    split at e
    · rename_i hs
      rw [Option.map_eq_some_iff] at e
      obtain ⟨j, ej, rfl⟩ := e
      obtain ⟨s1, s2⟩ := Bool.and_eq_true_iff.mp hs
      obtain ⟨y, rfl, zy⟩ := hz.one
      obtain ⟨a, ys, rfl, f1, z1⟩ := hx.list
      obtain ⟨hj, e1, e2⟩ := List.findIdx?_eq_some_iff_getElem.mp ej
      exact mt_indexD hu pins s σ H _ _ v us Q I rx rxs ⟨a, y, d1, ds, j, ds[j], rfl, rfl, hx.dp, zy.dp, s2, s1, List.getElem?_eq_getElem hj, e1, fun m z' hm hz' => by
        obtain ⟨hml, hme⟩ := List.getElem?_eq_some_iff.mp hz'
        have := e2 m hm
        rw [hme] at this
        simpa using this, q _ H (.refl H) (.int _)⟩
    · cases e
  · cases e
end

/-! ### list(range(n)) -/
def mLstRg (m : M Vl) : M (List PyData) := M.bind m fun v => match v with
  | .d (.int j) => if 0 ≤ j ∧ j ≤ 16777216 then M.pure ((List.range j.toNat).map fun i => .int (0 + (i : Nat))) else M.stuck
  | _ => M.stuck
section
variable {X : Cx} {T : List (Addr × Str)} {W : WX} {e : Expr} {m : M Vl} {p p2 q pos : Pos}
theorem do_lstRg (hc : X.calm = true) (hg : Gl X "list") (hm : X.mg "list" = none) (hg2 : Gl X "range") (hm2 : X.mg "range" = none) (he : DE X T W e m) (na : starEach [e] X.env = (false, eval e X.env) :: starEach [] X.env := by rfl)
    (na2 : starEach [.Call (.Name "range" p2) [e] [] q] X.env = (false, eval (.Call (.Name "range" p2) [e] [] q) X.env) :: starEach [] X.env := by rfl) : DO X T W (.Call (.Name "list" p) [.Call (.Name "range" p2) [e] [] q] [] pos) (mLstRg m) := by
  refine ⟨fun C hC => ⟨fun pins s σ H Q I h => (pe_listRg hc hg hm (prg_1 hg2 hm2 (he.pe C hC) na) na2).run pins s σ H Q I ?_⟩⟩
  obtain ⟨env, r, h⟩ := h
  refine ⟨env, r, Lf.bind h fun u H1 v env1 r1 hv l1 h1 => ?_⟩
  match v, hv, h1 with
  | .d (.int j), hv, h1 =>
    cases (show Dz X.K H1 u (.int j) from hv)
    dsimp only at h1
    by_cases hj : 0 ≤ j ∧ j ≤ 16777216
    · rw [if_pos hj] at h1
      refine ⟨j, rfl, RgOk.of_le (Int.le_refl 0) hj.2 (by omega) hj.1, fun p hp => ?_⟩
      have hz : DzAll X.K H1 (rgV 0 j) ((List.range j.toNat).map fun i => .int (0 + (i : Nat))) := by
        have := DzAll.of_ints (K := X.K) (H := H1) ((List.range j.toNat).map fun i => 0 + ((i : Nat) : Int))
        rw [List.map_map, List.map_map] at this
        unfold rgV
        rw [Int.sub_zero]
        exact this
      exact h1 (.ref p) _ (r1.grow (Same.new hp)) (new_OR r1 hp hz) (.same (Same.new hp))
    · rw [if_neg hj] at h1
      exact h1.elim
end
end DL
end

/- EL18 -/
section
set_option maxHeartbeats 4000000
namespace DL
open PySem PySem.Spec PyProof.Rows L2

/-! ### several values, new own lists among them -/
def RRs (K : PySem.W.Frag) (C : Ct) (σ : L2.St) (H : Hp) (env : En) : List V → List RVl → Prop
  | [], [] => True
  | u :: us, .d x :: vs => Dz K H u x ∧ RRs K C σ H env us vs
  | u :: us, .o ds :: vs => (∃ p xs, u = .ref p ∧ H p = some xs ∧ OOR K H xs ds ∧ Nk C.H0 p ∧ C.P p = none ∧ (∀ (i : Nat) b es, env[i]? = some (some (.own b es)) → σ[i]? ≠ some (some (.ref p))) ∧ ∀ (j : Nat) es, vs[j]? = some (.o es) → us[j]? ≠ some (.ref p)) ∧ RRs K C σ H env us vs
  | _, _ => False
def liftAV (K : PySem.W.Frag) (mg : Str → Option Value) (C : Ct) (W : WX) (m : M (List RVl)) : TA := fun σ H Q => ∃ env, Rel K C H σ env ∧ Lf K mg C W σ H (fun us H vs env => RRs K C σ H env us vs) (m env) Q
structure DAV (X : Cx) (T : List (Addr × Str)) (W : WX) (es : List Expr) (m : M (List RVl)) : Prop where
  pa : ∀ C : Ct, C.T = T → PA X es (liftAV X.K X.mg C W m)
def vNil : M (List RVl) := M.pure []
def vD (m : M Vl) (ms : M (List RVl)) : M (List RVl) := M.bind m fun v => M.bind (leak v) fun d => M.bind ms fun vs => M.pure (.d d :: vs)
def vO (m : M (List PyData)) (ms : M (List RVl)) : M (List RVl) := M.bind m fun ds => M.bind ms fun vs => M.pure (.o (.l ds) :: vs)
theorem RRs.own {K : PySem.W.Frag} {C : Ct} {σ : L2.St} {H : Hp} {env : En} : ∀ {us : List V} {vs : List RVl}, RRs K C σ H env us vs → ∀ (j : Nat) es, vs[j]? = some (.o es) → ∃ p, us[j]? = some (.ref p) ∧ C.P p = none
  | [], [], _, _, _, e => by simp at e
  | u :: us, .d x :: vs, h, 0, _, e => by simp at e
  | u :: us, .d x :: vs, h, j + 1, es, e => by simpa using RRs.own h.2 j es (by simpa using e)
  | u :: us, .o ds :: vs, h, 0, _, e => by
    obtain ⟨⟨p, xs, rfl, _, _, _, hp, _⟩, _⟩ := h
    exact ⟨p, rfl, hp⟩
  | u :: us, .o ds :: vs, h, j + 1, es, e => by simpa using RRs.own h.2 j es (by simpa using e)
  | [], _ :: _, h, _, _, _ => h.elim
  | _ :: _, [], h, _, _, _ => h.elim
theorem RRs.unP {K : PySem.W.Frag} {C : Ct} {σ : L2.St} {H : Hp} {env : En} {D : Addr} {o : PO} : ∀ {us : List V} {vs : List RVl}, RRs K (C.withP D o) σ H env us vs → RRs K C σ H env us vs
  | [], [], _ => trivial
  | u :: us, .d x :: vs, h => ⟨h.1, RRs.unP h.2⟩
  | u :: us, .o ds :: vs, h => by
    obtain ⟨⟨p, xs, rfl, h1, h2, h3, hp, h4, h5⟩, h6⟩ := h
    refine ⟨⟨p, xs, rfl, h1, h2, h3, ?_, h4, h5⟩, RRs.unP h6⟩
    have hp : (if p = D then some o else C.P p) = none := hp
    split at hp
    · cases hp
    · exact hp
  | [], _ :: _, h => h.elim
  | _ :: _, [], h => h.elim
def anyA (T : List (Addr × Str)) (f : Ct → TA) : TA := fun σ H Q => ∃ C, C.T = T ∧ f C σ H Q
theorem pa_any {X : Cx} {T : List (Addr × Str)} {es : List Expr} {f : Ct → TA} (h : ∀ C, C.T = T → PA X es (f C)) : PA X es (anyA T f) := ⟨fun pos pins s σ H Q I ⟨C, hC, q⟩ => (h C hC).run pos pins s σ H Q I q⟩
section
variable {X : Cx} {T : List (Addr × Str)} {W : WX} {e : Expr} {es : List Expr} {m : M Vl} {mo : M (List PyData)} {ms : M (List RVl)} {pos : Pos}
theorem dav_nil : DAV X T W [] vNil := by
  refine ⟨fun C hC => ⟨fun pos pins s σ H Q I h => pa_nil.run pos pins s σ H Q I ?_⟩⟩
  obtain ⟨env, r, h⟩ := h
  exact h [] H r trivial (.refl H)
theorem dav_d (he : DE X T W e m) (hs : DAV X T W es ms) (hst : starEach (e :: es) X.env = (false, eval e X.env) :: starEach es X.env := by rfl) : DAV X T W (e :: es) (vD m ms) := by
  refine ⟨fun C hC => ⟨fun pos pins s σ H Q I h => (pa_cons (pe_ghost (he.pe C hC)) (hs.pa C hC) hst).run pos pins s σ H Q I ?_⟩⟩
  obtain ⟨env, r, h⟩ := h
  refine ⟨env, r, Lf.bind h fun u H1 v env1 r1 hv l1 h1 => ?_⟩
  obtain ⟨d, env2, e1, h2⟩ := Lf.leak h1 r1 hv
  refine (leak_ok r1 hv e1).imp fun H2 ⟨r2', z2, l2, _, _⟩ => ?_
  refine ⟨env2, r2', Lf.bind (h2.mono l2 fun _ _ z => z) fun us H3 vs env3 r3 hvs l3 h3 => ?_⟩
  exact h3 (u :: us) H3 r3 ⟨Dz.le l3 _ z2, hvs⟩ (.refl H3)
theorem dav_o (he : DO X T W e mo) (hs : DAV X T W es ms) (hst : starEach (e :: es) X.env = (false, eval e X.env) :: starEach es X.env := by rfl) : DAV X T W (e :: es) (vO mo ms) := by
  refine ⟨fun C hC => ⟨fun pos pins s σ H Q I h => (pa_cons (he.pe C hC) (pa_any (T := T) hs.pa) hst).run pos pins s σ H Q I ?_⟩⟩
  obtain ⟨env, r, h⟩ := h
  refine ⟨env, r, Lf.bind h fun u H1 ds env1 r1 hv l1 h1 => ?_⟩
  obtain ⟨p, xs, rfl, h2, h3, h4, h5, h6⟩ := hv
  refine ⟨C.withP p (.l xs), hC, env1, r1.addP h2 h6, ?_⟩
  unfold M.bind at h1
  cases e : ms env1 with
  | stuck => rw [e] at h1; exact h1.elim
  | err x env' =>
    rw [e] at h1
    exact fun cls od H' r' er l => h1 cls od H' (r'.unP h5) er l
  | ok vs env2 =>
    rw [e] at h1
    refine fun us H2 r2 hvs l2 => h1 (.ref p :: us) H2 (r2.unP h5) ⟨⟨p, .lst xs, rfl, r2.atP, DzAll.le l2 _ h3, h4, h5, fun i b es q => r2.offP q, fun j es q z => ?_⟩, hvs.unP⟩ l2
    obtain ⟨p', q1, q2⟩ := hvs.own j es q
    rw [z] at q1
    cases q1
    have q2 : (if p = p then some (PO.l xs) else C.P p) = none := q2
    rw [if_pos rfl] at q2
    cases q2
def evOf : RVl → EV
  | .d x => .d x
  | .o ds => .own false ds
def stoV (i : Nat) (v : RVl) : M Unit := sto i (evOf v)
/-- one is stored, the others are as they were -/
theorem stoV_ok {C : Ct} {σ : L2.St} {H : Hp} {env : En} {i : Nat} {u : V} {v : RVl} {us : List V} {vs : List RVl} (r : Rel X.K C H σ env) (h : RRs X.K C σ H env (u :: us) (v :: vs)) (hn : ∀ ds, env[i]? ≠ some (some (.own true ds))) :
    Rel X.K C H (σ.set i (some u)) (env.set i (some (evOf v))) ∧ RRs X.K C (σ.set i (some u)) H (env.set i (some (evOf v))) us vs := by
  have key : ∀ (us' : List V) (vs' : List RVl), RRs X.K C σ H env us' vs' → (∀ p (j : Nat) es, u = .ref p → (∃ ds, v = .o ds) → vs'[j]? = some (.o es) → us'[j]? ≠ some (.ref p)) → RRs X.K C (σ.set i (some u)) H (env.set i (some (evOf v))) us' vs' := by
    intro us' vs' hh
    induction us' generalizing vs' with
    | nil =>
      cases vs' with
      | nil => exact fun _ => trivial
      | cons _ _ => exact hh.elim
    | cons w us' ih =>
      cases vs' with
      | nil => exact hh.elim
      | cons z vs' =>
        intro hd
        have hd' : ∀ p (j : Nat) es, u = .ref p → (∃ ds, v = .o ds) → vs'[j]? = some (.o es) → us'[j]? ≠ some (.ref p) := fun p j es e1 e2 e3 => by
          have := hd p (j + 1) es e1 e2 (by simpa using e3)
          simpa using this
        cases z with
        | d x => exact ⟨hh.1, ih vs' hh.2 hd'⟩
        | o ds =>
          obtain ⟨⟨p, xs, rfl, q1, q2, q3, q4, q5, q6⟩, q7⟩ := hh
          refine ⟨⟨p, xs, rfl, q1, q2, q3, q4, fun k b es e1 e2 => ?_, q6⟩, ih vs' q7 hd'⟩
          rcases get_set e1 with ⟨rfl, ex⟩ | ⟨hne, e1⟩
          · have hi : i < σ.length := by
              have := (List.getElem?_eq_some_iff.mp e2).1
              rw [List.length_set] at this
              exact this
            rw [List.getElem?_set_self hi] at e2
            cases v with
            | d x => cases ex
            | o ds' =>
              cases e2
              exact hd p 0 ds rfl ⟨ds', rfl⟩ rfl rfl
          · rw [List.getElem?_set_ne hne] at e2
            exact q5 k b es e1 e2
  cases v with
  | d x => exact ⟨r.stoD h.1 hn, key us vs h.2 fun p j es _ e => by obtain ⟨_, e⟩ := e; cases e⟩
  | o ds =>
    obtain ⟨⟨p, xs, rfl, q1, q2, q3, q4, q5, q6⟩, q7⟩ := h
    refine ⟨r.stoO ⟨p, xs, rfl, q1, q2, q3, q4, q5⟩ hn, key us vs q7 fun p' j es e1 _ e3 => ?_⟩
    cases e1
    exact q6 j es e3
def sPar2 (i j : Nat) (ms : M (List RVl)) : M Fl := M.bind ms fun vs => match vs with
  | [v, w] => M.bind (stoV i v) fun _ => M.bind (stoV j w) fun _ => sNext
  | _ => M.stuck
def sPar3 (i j l : Nat) (ms : M (List RVl)) : M Fl := M.bind ms fun vs => match vs with
  | [v, w, z] => M.bind (stoV i v) fun _ => M.bind (stoV j w) fun _ => M.bind (stoV l z) fun _ => sNext
  | _ => M.stuck
theorem Sf.stoV {C : Ct} {H : Hp} {env : En} {i : Nat} {v : RVl} {k : M Fl} {D : Ends} (h : Sf X.K X.mg C W H (M.bind (DL.stoV i v) (fun _ => k) env) D) : (∀ ds, env[i]? ≠ some (some (.own true ds))) ∧ Sf X.K X.mg C W H (k (env.set i (some (evOf v)))) D := by
  unfold M.bind at h
  cases e : DL.stoV i v env with
  | ok w env' =>
    rw [e] at h
    obtain ⟨hn, e2⟩ := sto_ok e
    subst e2
    exact ⟨hn, h⟩
  | err x env' => exact absurd e sto_noerr
  | stuck => rw [e] at h; exact h.elim
theorem ds_par2 {i j : Nat} {x y : Str} {a b : Expr} {px py pt : Pos} {kt k2 pt2} (hc : X.calm = true) (hN : X.N.Nodup) (hi : X.N[i]? = some x) (hj : X.N[j]? = some y) (hij : i ≠ j)
    (hx : X.env.scope.names.lookup x = some .local) (hy : X.env.scope.names.lookup y = some .local) (ha : DAV X T W [a, b] ms)
    (hw : swappedStores [.Tuple [.Name x px, .Name y py] kt pt] (.Tuple [a, b] k2 pt2) X.env = pure (some [x, y]) := by rfl)
    (hs : swapsWithSole [.Tuple [.Name x px, .Name y py] kt pt] (.Tuple [a, b] k2 pt2) pos.line X.env = pure false := by rfl) :
    DS X T W (.Assign [.Tuple [.Name x px, .Name y py] kt pt] (.Tuple [a, b] k2 pt2) pos) (sPar2 i j ms) := by
  refine ⟨fun C hC => ⟨fun pins s σ H D I h => (ps_par hc hN hi hj hij hx hy (ha.pa C hC) hw hs).run pins s σ H D I ?_⟩⟩
  obtain ⟨env, r, h⟩ := h
  refine ⟨env, r, Sf.bind h fun us H1 vs env1 r1 hv l1 h1 => ?_⟩
  match us, vs, hv, h1 with
  | [u, u'], [v, w], hv, h1 =>
    obtain ⟨n1, h2⟩ := Sf.stoV h1
    obtain ⟨r2, hv2⟩ := stoV_ok r1 hv n1
    obtain ⟨n2, h3⟩ := Sf.stoV h2
    obtain ⟨r3, _⟩ := stoV_ok r2 hv2 n2
    exact ⟨u, u', rfl, h3 _ H1 r3 (.refl H1)⟩
  | [], [v, w], hv, _ => exact hv.elim
  | [u], [v, w], hv, _ =>
    cases v with
    | d x => exact hv.2.elim
    | o ds => exact hv.2.elim
  | u :: u' :: u2 :: us, [v, w], hv, _ =>
    cases v with
    | d x => cases w with
      | d y => exact hv.2.2.elim
      | o ds => exact hv.2.2.elim
    | o ds => cases w with
      | d y => exact hv.2.2.elim
      | o ds => exact hv.2.2.elim
theorem ds_par3 {i j l : Nat} {x y z : Str} {a b c : Expr} {px py pz pt : Pos} {kt k2 pt2} (hc : X.calm = true) (hN : X.N.Nodup) (hi : X.N[i]? = some x) (hj : X.N[j]? = some y) (hl : X.N[l]? = some z) (hij : i ≠ j) (hil : i ≠ l) (hjl : j ≠ l)
    (hx : X.env.scope.names.lookup x = some .local) (hy : X.env.scope.names.lookup y = some .local) (hz : X.env.scope.names.lookup z = some .local) (ha : DAV X T W [a, b, c] ms)
    (hw : swappedStores [.Tuple [.Name x px, .Name y py, .Name z pz] kt pt] (.Tuple [a, b, c] k2 pt2) X.env = pure (some [x, y, z]) := by rfl)
    (hs : swapsWithSole [.Tuple [.Name x px, .Name y py, .Name z pz] kt pt] (.Tuple [a, b, c] k2 pt2) pos.line X.env = pure false := by rfl) :
    DS X T W (.Assign [.Tuple [.Name x px, .Name y py, .Name z pz] kt pt] (.Tuple [a, b, c] k2 pt2) pos) (sPar3 i j l ms) := by
  refine ⟨fun C hC => ⟨fun pins s σ H D I h => (ps_par3 hc hN hi hj hl hij hil hjl hx hy hz (ha.pa C hC) hw hs).run pins s σ H D I ?_⟩⟩
  obtain ⟨env, r, h⟩ := h
  refine ⟨env, r, Sf.bind h fun us H1 vs env1 r1 hv l1 h1 => ?_⟩
  have len : ∀ (us : List V) (vs : List RVl), RRs X.K C σ H1 env1 us vs → us.length = vs.length := by
    intro us
    induction us with
    | nil => intro vs h; cases vs with
      | nil => rfl
      | cons _ _ => exact h.elim
    | cons u us ih => intro vs h; cases vs with
      | nil => exact h.elim
      | cons v vs => cases v with
        | d x => exact congrArg Nat.succ (ih vs h.2)
        | o ds => exact congrArg Nat.succ (ih vs h.2)
  match vs, hv, h1 with
  | [v, w, q], hv, h1 =>
    have e := len us _ hv
    match us, e, hv with
    | [u, u', u''], _, hv =>
      obtain ⟨n1, h2⟩ := Sf.stoV h1
      obtain ⟨r2, hv2⟩ := stoV_ok r1 hv n1
      obtain ⟨n2, h3⟩ := Sf.stoV h2
      obtain ⟨r3, hv3⟩ := stoV_ok r2 hv2 n2
      obtain ⟨n3, h4⟩ := Sf.stoV h3
      obtain ⟨r4, _⟩ := stoV_ok r3 hv3 n3
      exact ⟨u, u', u'', rfl, h4 _ H1 r4 (.refl H1)⟩
end
end DL
end

/- EL19 -/
section
set_option maxHeartbeats 4000000
namespace DL
open PySem PySem.Spec PyProof.Rows L2

/-! ### minus -/
def mNeg (m : M Vl) : M Vl := M.bind m fun v => match v with
  | .d (.int i) => mC (.int (-i))
  | _ => M.stuck
theorem de_neg {X : Cx} {T : List (Addr × Str)} {W : WX} {e : Expr} {m : M Vl} {pos : Pos} (he : DE X T W e m) : DE X T W (.UnaryOp .USub e pos) (mNeg m) := by
  refine ⟨fun C hC => ⟨fun pins s σ H Q I h => (pe_un un_neg (he.pe C hC)).run pins s σ H Q I ?_⟩⟩
  obtain ⟨env, r, h⟩ := h
  refine ⟨env, r, Lf.bind h fun u H1 v env1 r1 hv l1 h1 => ?_⟩
  match v, hv, h1 with
  | .d (.int i), hv, h1 =>
    cases (show Dz X.K H1 u (.int i) from hv)
    exact ⟨i, rfl, h1 (.int (-i)) H1 r1 (.int _) (.refl H1)⟩
theorem vis_b {sc : Scope} {x : Str} (h : (match sc.names.lookup x with
  | some .local => true
  | some .cell => true
  | some .free => true
  | _ => false) = true) : Vis sc x := by
  unfold Vis
  split at h
  · rename_i e; exact .inl e
  · rename_i e; exact .inr (.inl e)
  · rename_i e; exact .inr (.inr e)
  · cases h
theorem loc_b {sc : Scope} {x : Str} (h : (match sc.names.lookup x with
  | some .local => true
  | some .cell => true
  | _ => false) = true) : L2.Loc sc x := by
  unfold L2.Loc
  split at h
  · rename_i e; exact .inl e
  · rename_i e; exact .inr e
  · cases h
theorem rm1 {k : Nat} {A : Around} (r : Room k A) : A.units + 64 < cLine := by have := r.un; omega
theorem rm2 {k : Nat} {A : Around} (r : Room k A) : A.units + 65 < cLine := by have := r.un; omega
theorem rmS1 {k : Nat} {A : Around} {env : Env} (r : Room (k + 1) A) : (A.deeper env).units + 64 < cLine := rm1 (r.deeper env)
theorem rmS2 {k : Nat} {A : Around} {env : Env} (r : Room (k + 1) A) : (A.deeper env).units + 65 < cLine := rm2 (r.deeper env)
/-! ### what a law knows of its globals -/
structure Lw (K : PySem.W.Frag) (mg : Str → Option Value) (fr : List Str) (is : List (Str × Int)) (ss : List (Str × Str)) (xs : List Str) : Prop where
  fr : ∀ (i : Nat) x, fr[i]? = some x → mg x = none
  is : ∀ (i : Nat) x n, is[i]? = some (x, n) → ∃ t, mg x = some (.int n t)
  ss : ∀ (i : Nat) x z, ss[i]? = some (x, z) → ∃ t, mg x = some (.str z t)
  xs : ∀ (i : Nat) x, xs[i]? = some x → ExN K mg x
def faOf (fr : List Str) (is : List (Str × Int)) (ss : List (Str × Str)) (xs : List Str) (gs : List Str) (ms : List (Str × Str)) : List He.Fa :=
  fr.map .free ++ (is.map fun p => .int p.1 p.2) ++ (ss.map fun p => .str p.1 p.2) ++ (xs.flatMap fun x => [.glo x, .exc x]) ++ gs.map .glo ++ ms.map fun p => .exm p.1 p.2 true
section
variable {K : PySem.W.Frag} {h : Heap} {mg : Str → Option Value} {fr : List Str} {is : List (Str × Int)} {ss : List (Str × Str)} {xs gs : List Str} {ms : List (Str × Str)}
theorem lw_of (X : K.In h) (G : h.Ns mainGlobals mg) (c : ∀ f ∈ faOf fr is ss xs gs ms, f.ok K = true) : Lw K mg fr is ss xs where
  fr := fun i x e => He.free_ok X G (c (.free x) (by
    have := List.mem_of_getElem? e
    unfold faOf
    simp [this]))
  is := fun i x n e => He.int_ok X G (c (.int x n) (by
    have := List.mem_of_getElem? e
    unfold faOf
    simp [this]))
  ss := fun i x z e => He.str_ok X G (c (.str x z) (by
    have := List.mem_of_getElem? e
    unfold faOf
    simp [this]))
  xs := fun i x e => by
    have hm := List.mem_of_getElem? e
    have h1 := c (.glo x) (by unfold faOf; simp [hm])
    have h2 := c (.exc x) (by unfold faOf; simp [hm])
    obtain ⟨e1, e2, e3, e4⟩ := He.exc_ok h2
    exact ⟨_, He.glo_ok X G h1, e1, e2, e3, e4⟩
theorem glo_of (X : K.In h) (G : h.Ns mainGlobals mg) (c : ∀ f ∈ faOf fr is ss xs gs ms, f.ok K = true) (i : Nat) {x : Str} (e : gs[i]? = some x) : mg x = some (.ref (He.ga K x)) :=
  He.glo_ok X G (c (.glo x) (by
    have := List.mem_of_getElem? e
    unfold faOf
    simp [this]))
theorem exm_of (c : ∀ f ∈ faOf fr is ss xs gs ms, f.ok K = true) (i : Nat) {x y : Str} (e : ms[i]? = some (x, y)) : PySem.W.exmOne K (.ref (He.ga K x)) (.ref (He.ga K y)) = some true :=
  He.exm_ok (c (.exm x y true) (by
    have := List.mem_of_getElem? e
    unfold faOf
    simp only [List.mem_append, List.mem_map]
    exact .inr ⟨(x, y), this, rfl⟩))
end
/-! ### what is asked of an error class that is looked at -/
def excCB (K : PySem.W.Frag) (D : Addr) : Bool :=
  decide (PySem.W.findIn K (.ref D) "__getattribute__" = some (some (.builtin "BaseException.__getattribute__"))) && (decide (PySem.W.findIn K (.ref D) "__getattr__" = some none) && (decide (PySem.W.subIn K (.ref D) (.type "BaseException") = some true) &&
    (PySem.W.hasDictIn K D && (decide (PySem.W.findIn K (.ref D) "__class__" = some (some (.builtin "object.__class__"))) && (decide (PySem.W.specialIn K (.builtin "object.__class__") "__get__" = some (some (.builtin "getset_descriptor.__get__"))) &&
      (decide (PySem.W.takesIn K (.builtin "object.__class__") = some true) && decide (PySem.W.mroIn K D (.type "object") = some true)))))))
theorem excCB_ok {K : PySem.W.Frag} {D : Addr} (h : excCB K D = true) : ExcC K D := by
  obtain ⟨h1, h⟩ := Bool.and_eq_true_iff.mp h
  obtain ⟨h2, h⟩ := Bool.and_eq_true_iff.mp h
  obtain ⟨h3, h⟩ := Bool.and_eq_true_iff.mp h
  obtain ⟨h4, h⟩ := Bool.and_eq_true_iff.mp h
  obtain ⟨h5, h⟩ := Bool.and_eq_true_iff.mp h
  obtain ⟨h6, h⟩ := Bool.and_eq_true_iff.mp h
  obtain ⟨h7, h8⟩ := Bool.and_eq_true_iff.mp h
  exact ⟨of_decide_eq_true h1, of_decide_eq_true h2, of_decide_eq_true h3, h4, of_decide_eq_true h5, of_decide_eq_true h6, of_decide_eq_true h7, of_decide_eq_true h8⟩
/-- the classes that the suite tells apart: every pair's answer -/
def exB (cl : List Str) (pairs : List (Str × Str × Bool)) (K : PySem.W.Frag) : Bool :=
  (cl.all fun x => excCB K (He.ga K x) && decide (PySem.W.kitOne K (.ref (He.ga K x)) (.type "ValueError") = some true)) && pairs.all fun p => decide (PySem.W.kitOne K (.ref (He.ga K p.1)) (.ref (He.ga K p.2.1)) = some p.2.2)
section
variable {cl : List Str} {pairs : List (Str × Str × Bool)} {K : PySem.W.Frag}
theorem exB_cl (h : exB cl pairs K = true) (i : Nat) {x : Str} (e : cl[i]? = some x) : ExcC K (He.ga K x) ∧ PySem.W.kitOne K (.ref (He.ga K x)) (.type "ValueError") = some true := by
  have h1 := (Bool.and_eq_true_iff.mp h).1
  have := List.all_eq_true.mp h1 x (List.mem_of_getElem? e)
  obtain ⟨a, b⟩ := Bool.and_eq_true_iff.mp this
  exact ⟨excCB_ok a, of_decide_eq_true b⟩
theorem exB_pair (h : exB cl pairs K = true) (i : Nat) {x y : Str} {b : Bool} (e : pairs[i]? = some (x, y, b)) : PySem.W.kitOne K (.ref (He.ga K x)) (.ref (He.ga K y)) = some b := by
  have h1 := (Bool.and_eq_true_iff.mp h).2
  exact of_decide_eq_true (List.all_eq_true.mp h1 _ (List.mem_of_getElem? e))
end
/-- isinstance(error, C), C an own class -/
theorem de_isEo {X : Cx} {T : List (Addr × Str)} {W : WX} {a D D2 : Addr} {oe : Obj} {pn : List (Addr × Obj)} {i : Nat} {n y : Str} {b : Bool} {p p1 p2 pos : Pos} (Ec : ExcC X.K D) (hz : Zc (.ref D) none oe) (hf : ∃ vs, oe.data = .fields vs)
    (hN : X.N[i]? = some n) (hv : Vis X.env.scope n) (hgy : Gl X y) (hmy : X.mg y = some (.ref D2)) (hk : PySem.W.kitOne X.K (.ref D) (.ref D2) = some b) (hg : Gl X "isinstance") (hm : X.mg "isinstance" = none) (hdy : (y == ("__debug__" : Str)) = false := by decide) (hd : (n == ("__debug__" : Str)) = false := by decide) (hcd : (n == ("__classdict__" : Str)) = false := by decide)
    (hs : starEach [.Name n p1, .Name y p2] X.env = (false, eval (.Name n p1) X.env) :: starEach [.Name y p2] X.env := by rfl) (hpl : (backTo pos (starEach [.Name y p2] X.env)).any (·.1) = false := by rfl) (hs2 : starEach [.Name y p2] X.env = (false, eval (.Name y p2) X.env) :: starEach [] X.env := by rfl) :
    DE (X.suite a ((a, oe) :: pn)) T W (.Call (.Name "isinstance" p) [.Name n p1, .Name y p2] [] pos) (mIsE i a b) :=
  de_isE Ec hz hf hN hv (pe_glob (X := X.suite a ((a, oe) :: pn)) (v := .ref D2) hgy hmy rfl hdy) (fun u r => r) hk hg hm hd hcd hs hpl hs2
/-- isinstance(error, ValueError) -/
theorem de_isEb {X : Cx} {T : List (Addr × Str)} {W : WX} {a D : Addr} {oe : Obj} {pn : List (Addr × Obj)} {i : Nat} {n : Str} {Ty : String} {b : Bool} {p p1 p2 pos : Pos} (Ec : ExcC X.K D) (hz : Zc (.ref D) none oe) (hf : ∃ vs, oe.data = .fields vs)
    (hN : X.N[i]? = some n) (hv : Vis X.env.scope n) (hgy : Gl X Ty) (hmy : X.mg Ty = none) (hb : bootBuiltins Ty = some (.type Ty)) (hk : PySem.W.kitOne X.K (.ref D) (.type Ty) = some b) (hg : Gl X "isinstance") (hm : X.mg "isinstance" = none) (hnn : (Ty : Str) ≠ "__name__" := by decide) (hdy : ((Ty : Str) == ("__debug__" : Str)) = false := by decide) (hd : (n == ("__debug__" : Str)) = false := by decide) (hcd : (n == ("__classdict__" : Str)) = false := by decide)
    (hs : starEach [.Name n p1, .Name Ty p2] X.env = (false, eval (.Name n p1) X.env) :: starEach [.Name Ty p2] X.env := by rfl) (hpl : (backTo pos (starEach [.Name Ty p2] X.env)).any (·.1) = false := by rfl) (hs2 : starEach [.Name Ty p2] X.env = (false, eval (.Name Ty p2) X.env) :: starEach [] X.env := by rfl) :
    DE (X.suite a ((a, oe) :: pn)) T W (.Call (.Name "isinstance" p) [.Name n p1, .Name Ty p2] [] pos) (mIsE i a b) :=
  de_isE Ec hz hf hN hv (pe_bltn (X := X.suite a ((a, oe) :: pn)) (v := .ty Ty) hgy hmy hb rfl hnn hdy) (fun u r => r) hk hg hm hd hcd hs hpl hs2
end DL
end

/- EL20 -/
section
set_option maxHeartbeats 4000000
namespace DL
open PySem PySem.Spec PyProof.Rows L2

section
variable {P : Program} {w : World} {K : PySem.W.Frag} {mg : Str → Option Value} {base : Heap} {x qual : Str} {params : Arguments} {body : List Stmt} {scope : Scope} {fd : FuncData} {N ps : List Str} {k : Nat} {T : List (Addr × Str)} {m : M Fl}
/-- a def that makes lambdas: its code object is told -/
theorem fnD_ofC {p : Str × Option Str} (F : FunD K x qual params body scope [] [] (He.fAd K p) fd) (S : FnScope N ps scope) (hm : mg x = some (.ref (He.fAd K p))) (hb : L2.Binds K fd ps [])
    (h : ∀ (cdv : Value) (A : Around) (outer : List Env) (s : Shared) (H : Hp) (E : XK), cdv = .ref (He.codeOf K p) → Room k (A.deeper (envOfC qual scope s.heap.objs.size (He.fAd K p) cdv)) → DSs (bodyCx P w K mg base N qual scope (He.fAd K p) cdv A outer s H E) T (fun cls d _ H => E cls d H) body m) :
    FnD P w K mg base T (k + 1) x ps.length N m := by
  have kp := F.kp
  obtain ⟨oc, od, dV, kV, doc, pm, an, cdv, ct, osl, rfl, lk, hcd, _, _⟩ := F.ex
  obtain ⟨c, hc⟩ := He.codeIn_ref hcd
  have e : He.codeOf K p = c := He.codeOf_eq lk hc
  refine ⟨_, _, ps, fn_of lk hcd S (fun vs H Q E q => q.1) (fun A outer s H vs Q E hr hq => ?_), hm, kp, hb⟩
  obtain ⟨_, bk, env, r, hs⟩ := hq
  exact ⟨_, (h cdv A outer s H E (by rw [e]; exact hc) hr).pss ⟨T, H, bk, fun _ => none⟩ rfl, env, r, hs⟩
/-- a body from a ghost step on -/
theorem pss_ghost {X : Cx} {W : WX} {st : List Stmt} (h : DSs X T W st m) : PSs X st (fun D σ H => Ghost X σ (fun H' => ∃ C, C.T = T ∧ liftS X.K X.mg C W m D σ H') H) := ⟨fun pins s σ H D I g => by
  obtain ⟨H', I', C, hC, q⟩ := g pins s I
  exact (h.pss C hC).run pins s σ H' D I' q⟩
/-- the law's promise -/
def spLaw (T : List (Addr × Str)) (K : PySem.W.Frag) (n : Nat) : Sp := fun vs H Q _ => ∃ (a : Addr) (ns : List Int), vs = [.ref a] ∧ ns.length ≤ n ∧ SqL K H a (ns.map V.int) ∧ LamX.Tabs T H ∧ ∀ H', Q (.bl true) H'
theorem script_rel {T : List (Addr × Str)} {H : Hp} {a : Addr} {d : PyData} (hz : Dz K H (.ref a) d) (hT : LamX.Tabs T H) : Rel K ⟨T, H, fun _ => none, fun _ => none⟩ H (L2.start N [.ref a]) (startE N.length [.d d]) := by
  have r0 : Rel K ⟨T, H, fun _ => none, fun _ => none⟩ H [] [] := ⟨rfl, fun i x h => (by simp at h), fun i b ds h => (by simp at h), fun i v h => (by simp at h), fun i a h => (by cases h), fun i j b c ds es a _ h => (by simp at h), fun a o h _ _ => h, fun a o h => (by cases h), hT⟩
  have A : ArgsOk K H [] [] [V.ref a] [.d d] none := {
    len := rfl
    dat := fun j x h => by
      cases j with
      | zero => simp at h; subst h; exact ⟨_, rfl, hz⟩
      | succ j => simp at h
    own := fun j b es h => by cases j <;> simp at h
    nox := fun j v h => by cases j <;> simp at h
    lt := fun j i h => by cases h }
  exact callee_start (N := N) r0 A
theorem law_run {X : Cx} {T : List (Addr × Str)} {W : WX} {H : Hp} {a : Addr} {ns : List Int} {Q : VK} {N : List Str} (hk : ∀ (o : Obj) (its : Array Value) (n : Nat), X.K.lookup a = some o → o.cls = .type "list" → o.dict = none → o.data = .seq its n → o = { cls := .type "list", data := .seq its n })
    (hS : SqL X.K H a (ns.map V.int)) (hT : LamX.Tabs T H) (hr : ∃ env', m (startE N.length [.d (.list (ns.map .int))]) = .ok (.ret (.d (.bool true))) env') (hQ : ∀ H', Q (.bl true) H') :
    Ghost X (L2.start N [.ref a]) (fun H' => ∃ C, C.T = T ∧ liftS X.K X.mg C W m { nx := fun _ H' => Q .non H', rt := Q } (L2.start N [.ref a]) H') H := by
  have key : ∀ H', LamX.Tabs T H' → FzL X.K H' a (ns.map V.int) → ∃ C, C.T = T ∧ liftS X.K X.mg C W m { nx := fun _ H' => Q .non H', rt := Q } (L2.start N [.ref a]) H' := fun H' t f => by
    refine ⟨⟨T, H', fun _ => none, fun _ => none⟩, rfl, _, script_rel (.lst f (DzAll.of_ints ns)) t, ?_⟩
    obtain ⟨env', e⟩ := hr
    rw [e]
    intro u σ' H'' r z l
    cases (show Dz X.K H'' u (.bool true) from z)
    exact hQ H''
  rcases hS with (h | ⟨o, h⟩) | ⟨o, its, q, h1, h2, h3, h4, h5, h6⟩
  · exact .lock h fun o => key _ (Tabs.put h hT) (.inl ⟨o, upd_same⟩)
  · exact .now (key _ hT (.inl ⟨o, h⟩))
  · have e := hk o its q h1 h2 h3 h4
    subst e
    exact .now (key _ hT (.inr ⟨its, q, h1, h5, h6⟩))
theorem kList_ok {K : PySem.W.Frag} (h : (K.all fun q => match q.2 with
  | ⟨.type c, _, .seq _ _, sl⟩ => !decide (c = "list") || sl.isEmpty
  | _ => true) = true) (a : Addr) (o : Obj) (its : Array Value) (n : Nat) (e : K.lookup a = some o) (h1 : o.cls = .type "list") (h2 : o.dict = none) (h3 : o.data = .seq its n) : o = { cls := .type "list", data := .seq its n } := by
  have := List.all_eq_true.mp h _ (He.lookup_mem e)
  obtain ⟨oc, od, dt, sl⟩ := o
  dsimp only at h1 h2 h3
  subst h1 h2 h3
  have : sl.isEmpty = true := by simpa using this
  rw [Array.isEmpty_iff.mp this]
end
/-! ### a name that is walked: its own list, or data -/
def mSrcV (j : Nat) : M Src := fun env => match env[j]? with
  | some (some (.own _ (.l _))) => .ok (.own j) env
  | some (some (.d d)) => (match seqI d with
    | some xs => .ok (.fix xs) env
    | none => .stuck)
  | _ => .stuck
theorem di_var {X : Cx} {T : List (Addr × Str)} {W : WX} {tg : Expr} {j : Nat} {x : Str} {pos : Pos} (hN : X.N[j]? = some x) (hv : Vis X.env.scope x) (hd : (x == ("__debug__" : Str)) = false := by decide) (hcd : (x == ("__classdict__" : Str)) = false := by decide) : DI X T W tg (.Name x pos) (mSrcV j) := by
  refine ⟨fun C hC => ⟨fun pins s σ H R I h => ?_⟩⟩
  obtain ⟨env, r, h⟩ := h
  unfold mSrcV at h
  cases e : env[j]? with
  | none => rw [e] at h; exact h.elim
  | some o =>
    cases o with
    | none => rw [e] at h; exact h.elim
    | some ev =>
      cases ev with
      | x v => rw [e] at h; exact h.elim
      | own b oo =>
        cases oo with
        | k _ => rw [e] at h; exact h.elim
        | t _ => rw [e] at h; exact h.elim
        | f _ => rw [e] at h; exact h.elim
        | l ds =>
        rw [e] at h
        refine ((di_own (W := W) (tg := tg) (pos := pos) hN hv hd hcd).pi C hC).run pins s σ H R I ⟨env, r, ?_⟩
        unfold mOwn
        rw [e]
        exact h
      | d d =>
        rw [e] at h
        dsimp only at h
        cases e2 : seqI d with
        | none => rw [e2] at h; exact h.elim
        | some xs =>
          rw [e2] at h
          refine ((di_seq (W := W) (tg := tg) (de_var (pos := pos) hN hv hd hcd)).pi C hC).run pins s σ H R I ⟨env, r, ?_⟩
          unfold mItems
          rw [M.bind_ok (show mVar j env = .ok (.d d) env from by unfold mVar; rw [e]), M.bind_ok (show leak (.d d) env = .ok d env from rfl), e2]
          exact h
theorem noj_var {vs : List Nat} {j : Nat} (h : j ∉ vs) : NoJ vs (mSrcV j) := fun k env env' e => by
  unfold mSrcV at e
  split at e
  · cases e; exact h
  · split at e <;> cases e
  · cases e
end DL
end

/- EL21 -/
section
set_option maxHeartbeats 4000000
namespace DL
open PySem PySem.Spec PyProof.Rows L2

/-! ### the readings, run: what a reading ends in, by a wish -/
def wp {α : Type} (m : M α) (env : En) (Q : α → En → Prop) (E : Er → En → Prop) : Prop := match m env with
  | .ok v env' => Q v env'
  | .err x env' => E x env'
  | .stuck => False
section
variable {α β : Type} {m : M α} {k : α → M β} {env : En} {Q : β → En → Prop} {E : Er → En → Prop}
@[simp] theorem wp_bind : wp (M.bind m k) env Q E ↔ wp m env (fun v e => wp (k v) e Q E) E := by
  unfold wp M.bind
  cases m env <;> rfl
@[simp] theorem wp_pure {v : β} : wp (M.pure v) env Q E ↔ Q v env := Iff.rfl
@[simp] theorem wp_stuck : wp (M.stuck : M β) env Q E ↔ False := Iff.rfl
@[simp] theorem wp_some {v : β} : wp (M.opt (some v)) env Q E ↔ Q v env := Iff.rfl
@[simp] theorem wp_none : wp (M.opt (none : Option β)) env Q E ↔ False := Iff.rfl
theorem wp_opt {o : Option β} : wp (M.opt o) env Q E ↔ ∃ v, o = some v ∧ Q v env := by
  cases o with
  | none => simp
  | some v => simp
theorem wp_mono {Q' : β → En → Prop} {E' : Er → En → Prop} {m : M β} (h : wp m env Q E) (q : ∀ v e, Q v e → Q' v e) (r : ∀ v e, E v e → E' v e) : wp m env Q' E' := by
  unfold wp at h ⊢
  cases e : m env with
  | ok v e' => rw [e] at h; exact q _ _ h
  | err x e' => rw [e] at h; exact r _ _ h
  | stuck => rw [e] at h; exact h
theorem wp_ok {m : M β} (h : wp m env Q (fun _ _ => False)) : ∃ v env', m env = .ok v env' ∧ Q v env' := by
  unfold wp at h
  cases e : m env with
  | ok v e' => rw [e] at h; exact ⟨v, e', rfl, h⟩
  | err x e' => rw [e] at h; exact h.elim
  | stuck => rw [e] at h; exact h.elim
theorem wp_of {m : M β} {v : β} {env' : En} (h : m env = .ok v env') (q : Q v env') : wp m env Q E := by
  unfold wp
  rw [h]
  exact q
@[simp] theorem wp_ite {c : Prop} [Decidable c] {a b : M β} : wp (if c then a else b) env Q E ↔ if c then wp a env Q E else wp b env Q E := by
  split <;> rfl
@[simp] theorem wp_noE {m : M β} : wp (noE m) env Q E ↔ wp m env Q (fun _ _ => False) := by
  unfold wp noE
  cases m env <;> rfl
end
section
variable {env : En} {E : Er → En → Prop}
@[simp] theorem wp_mVar {i : Nat} {Q : Vl → En → Prop} : wp (mVar i) env Q E ↔ (match env[i]? with
  | some (some (.d x)) => Q (.d x) env
  | some (some (.own _ _)) => Q (.sl i) env
  | _ => False) := by
  unfold wp mVar
  cases env[i]? with
  | none => rfl
  | some o => cases o with
    | none => rfl
    | some ev => cases ev with
      | d x => rfl
      | own b ds => cases b <;> cases ds <;> rfl
      | x v => rfl
@[simp] theorem wp_mC {x : PyData} {Q : Vl → En → Prop} : wp (mC x) env Q E ↔ Q (.d x) env := Iff.rfl
@[simp] theorem wp_leakD {x : PyData} {Q : PyData → En → Prop} : wp (leak (.d x)) env Q E ↔ Q x env := Iff.rfl
@[simp] theorem wp_leakS {i : Nat} {Q : PyData → En → Prop} : wp (leak (.sl i)) env Q E ↔ (match env[i]? with
  | some (some (.own false (.l ds))) => Q (.list ds) (env.set i (some (.d (.list ds))))
  | _ => False) := by
  unfold wp leak
  dsimp only
  cases env[i]? with
  | none => rfl
  | some o => cases o with
    | none => rfl
    | some ev => cases ev with
      | d x => rfl
      | own b ds => cases b <;> cases ds <;> rfl
      | x v => rfl
@[simp] theorem wp_leakNil {Q : List PyData → En → Prop} : wp (leakAll []) env Q E ↔ Q [] env := Iff.rfl
@[simp] theorem wp_leakCons {v : Vl} {vs : List Vl} {Q : List PyData → En → Prop} : wp (leakAll (v :: vs)) env Q E ↔ wp (leak v) env (fun d e => wp (leakAll vs) e (fun ds e => Q (d :: ds) e) E) E := by
  rw [show leakAll (v :: vs) = M.bind (leak v) fun d => M.bind (leakAll vs) fun ds => M.pure (d :: ds) from rfl]
  simp
@[simp] theorem wp_getD {x : PyData} {Q : PyData → En → Prop} : wp (Vl.get (.d x)) env Q E ↔ Q x env := Iff.rfl
@[simp] theorem wp_getS {i : Nat} {Q : PyData → En → Prop} : wp (Vl.get (.sl i)) env Q E ↔ (match env[i]? with
  | some (some (.own _ (.l ds))) => Q (.list ds) env
  | _ => False) := by
  unfold wp Vl.get
  dsimp only
  cases env[i]? with
  | none => rfl
  | some o => cases o with
    | none => rfl
    | some ev => cases ev with
      | d x => rfl
      | own b ds => cases b <;> cases ds <;> rfl
      | x v => rfl
@[simp] theorem wp_getNil {Q : List PyData → En → Prop} : wp (getAll []) env Q E ↔ Q [] env := Iff.rfl
@[simp] theorem wp_getCons {v : Vl} {vs : List Vl} {Q : List PyData → En → Prop} : wp (getAll (v :: vs)) env Q E ↔ wp v.get env (fun d e => wp (getAll vs) e (fun ds e => Q (d :: ds) e) E) E := by
  rw [show getAll (v :: vs) = M.bind v.get fun d => M.bind (getAll vs) fun ds => M.pure (d :: ds) from rfl]
  simp
@[simp] theorem wp_sto {i : Nat} {ev : EV} {Q : Unit → En → Prop} : wp (sto i ev) env Q E ↔ (match env[i]? with
  | some (some (.own true _)) => False
  | _ => Q () (env.set i (some ev))) := by
  unfold wp sto
  cases env[i]? with
  | none => rfl
  | some o => cases o with
    | none => rfl
    | some ev => cases ev with
      | d x => rfl
      | own b ds => cases b <;> cases ds <;> rfl
      | x v => rfl
@[simp] theorem wp_isOwn {i : Nat} {Q : Unit → En → Prop} : wp (isOwn i) env Q E ↔ (match env[i]? with
  | some (some (.own _ (.l _))) => Q () env
  | _ => False) := by
  unfold wp isOwn
  cases env[i]? with
  | none => rfl
  | some o => cases o with
    | none => rfl
    | some ev => cases ev with
      | d x => rfl
      | own b ds => cases b <;> cases ds <;> rfl
      | x v => rfl
@[simp] theorem wp_ownAt {i : Nat} {Q : OO → En → Prop} : wp (ownAt i) env Q E ↔ (match env[i]? with
  | some (some (.own _ ds)) => Q ds env
  | _ => False) := by
  unfold wp ownAt
  cases env[i]? with
  | none => rfl
  | some o => cases o with
    | none => rfl
    | some ev => cases ev with
      | d x => rfl
      | own b ds => cases b <;> cases ds <;> rfl
      | x v => rfl
@[simp] theorem wp_mIsE {i : Nat} {a : Addr} {b : Bool} {Q : Vl → En → Prop} : wp (mIsE i a b) env Q E ↔ (match env[i]? with
  | some (some (.x (.ref a'))) => a' = a ∧ Q (.d (.bool b)) env
  | _ => False) := by
  unfold wp mIsE
  cases env[i]? with
  | none => rfl
  | some o => cases o with
    | none => rfl
    | some ev => cases ev with
      | d x => rfl
      | own b ds => cases b <;> cases ds <;> rfl
      | x v => cases v with
        | ref a' =>
          dsimp only
          by_cases e : a' = a
          · simp [e]
          · simp [e]
        | _ => rfl
end

@[simp] theorem wp_mSrcV {env : En} {E : Er → En → Prop} {j : Nat} {Q : Src → En → Prop} : wp (mSrcV j) env Q E ↔ (match env[j]? with
  | some (some (.own _ (.l _))) => Q (.own j) env
  | some (some (.d d)) => (match seqI d with
    | some xs => Q (.fix xs) env
    | none => False)
  | _ => False) := by
  unfold wp mSrcV
  cases env[j]? with
  | none => rfl
  | some o => cases o with
    | none => rfl
    | some ev => cases ev with
      | d x => dsimp only; cases seqI x <;> rfl
      | own b ds => cases ds <;> rfl
      | x v => rfl
/-! the combinators -/
section
variable {env : En} {E : Er → En → Prop} {a b c m m' : M Vl} {ms : M (List Vl)} {mo : M (List PyData)} {t u : M Bool} {st st' : M Fl}
@[simp] theorem wp_sSeq {Q : Fl → En → Prop} : wp (sSeq st st') env Q E ↔ wp st env (fun fl e => match fl with
  | .next => wp st' e Q E
  | fl => Q fl e) E := by
  unfold sSeq
  rw [wp_bind]
  apply iff_of_eq
  congr 1
  funext fl e
  cases fl <;> rfl
@[simp] theorem wp_sNext {Q : Fl → En → Prop} : wp sNext env Q E ↔ Q .next env := Iff.rfl
@[simp] theorem wp_sBrk {Q : Fl → En → Prop} : wp sBrk env Q E ↔ Q .brk env := Iff.rfl
@[simp] theorem wp_sCont {Q : Fl → En → Prop} : wp sCont env Q E ↔ Q .cont env := Iff.rfl
@[simp] theorem wp_sSet {i : Nat} {Q : Fl → En → Prop} : wp (sSet i m) env Q E ↔ wp m env (fun v e => wp (leak v) e (fun d e => wp (sto i (.d d)) e (fun _ e => Q .next e) E) E) E := by
  unfold sSet; simp only [wp_bind, wp_sNext]
@[simp] theorem wp_sSetO {i : Nat} {Q : Fl → En → Prop} : wp (sSetO i mo) env Q E ↔ wp mo env (fun ds e => wp (sto i (.own false (.l ds))) e (fun _ e => Q .next e) E) E := by
  unfold sSetO; simp only [wp_bind, wp_sNext]
@[simp] theorem wp_sRet {Q : Fl → En → Prop} : wp (sRet m) env Q E ↔ wp m env (fun v e => wp (leak v) e (fun d e => Q (.ret (.d d)) e) E) E := by
  unfold sRet; simp only [wp_bind, wp_pure]
@[simp] theorem wp_sRetO {Q : Fl → En → Prop} : wp (sRetO mo) env Q E ↔ wp mo env (fun ds e => Q (.ret (.o (.l ds))) e) E := by
  unfold sRetO; simp only [wp_bind, wp_pure]
@[simp] theorem wp_sSetQ {mq : M OO} {i : Nat} {Q : Fl → En → Prop} : wp (sSetQ i mq) env Q E ↔ wp mq env (fun ds e => wp (sto i (.own false ds)) e (fun _ e => Q .next e) E) E := by
  unfold sSetQ; simp only [wp_bind, wp_sNext]
@[simp] theorem wp_sRetQ {mq : M OO} {Q : Fl → En → Prop} : wp (sRetQ mq) env Q E ↔ wp mq env (fun ds e => Q (.ret (.o ds)) e) E := by
  unfold sRetQ; simp only [wp_bind, wp_pure]
@[simp] theorem wp_sDrop {Q : Fl → En → Prop} : wp (sDrop m) env Q E ↔ wp m env (fun _ e => Q .next e) E := by
  unfold sDrop; simp only [wp_bind, wp_sNext]
@[simp] theorem wp_sRaise {x : Er} {Q : Fl → En → Prop} : wp (sRaise x) env Q E ↔ E x env := Iff.rfl
@[simp] theorem wp_mIf {α : Type} {x y : M α} {Q : α → En → Prop} : wp (mIf t x y) env Q E ↔ wp t env (fun k e => if k = true then wp x e Q E else wp y e Q E) E := by
  unfold mIf; simp only [wp_bind, wp_ite]
@[simp] theorem wp_sIf {Q : Fl → En → Prop} : wp (sIf t st st') env Q E ↔ wp t env (fun k e => if k = true then wp st e Q E else wp st' e Q E) E := wp_mIf
@[simp] theorem wp_mNil {Q : List Vl → En → Prop} : wp mNil env Q E ↔ Q [] env := Iff.rfl
@[simp] theorem wp_mCons {Q : List Vl → En → Prop} : wp (mCons m ms) env Q E ↔ wp m env (fun v e => wp ms e (fun vs e => Q (v :: vs) e) E) E := by
  unfold mCons; simp only [wp_bind, wp_pure]
@[simp] theorem wp_mTup {Q : Vl → En → Prop} : wp (mTup ms) env Q E ↔ wp ms env (fun vs e => wp (leakAll vs) e (fun ds e => ds.length ≤ sizeLine ∧ Q (.d (.tuple ds)) e) E) E := by
  unfold mTup; simp only [wp_bind, wp_ite, wp_mC, wp_stuck]
  apply iff_of_eq; congr 1; funext vs e; congr 1; funext ds e
  by_cases h : ds.length ≤ sizeLine <;> simp [h]
@[simp] theorem wp_mLst {Q : List PyData → En → Prop} : wp (mLst ms) env Q E ↔ wp ms env (fun vs e => wp (leakAll vs) e (fun ds e => ds.length ≤ sizeLine ∧ Q ds e) E) E := by
  unfold mLst; simp only [wp_bind, wp_ite, wp_pure, wp_stuck]
  apply iff_of_eq; congr 1; funext vs e; congr 1; funext ds e
  by_cases h : ds.length ≤ sizeLine <;> simp [h]
@[simp] theorem wp_mFrz {Q : Vl → En → Prop} : wp (mFrz mo) env Q E ↔ wp mo env (fun ds e => Q (.d (.list ds)) e) E := by
  unfold mFrz; simp only [wp_bind, wp_mC]
/-- an option's answer -/
def opt {β : Type} (o : Option β) (P : β → Prop) : Prop := match o with
  | some v => P v
  | none => False
@[simp] theorem opt_some {β : Type} {v : β} {P : β → Prop} : opt (some v) P ↔ P v := Iff.rfl
@[simp] theorem opt_none {β : Type} {P : β → Prop} : opt (none : Option β) P ↔ False := Iff.rfl
@[simp] theorem opt_ite {β : Type} {c : Prop} [Decidable c] {o : Option β} {P : β → Prop} : opt (if c then o else none) P ↔ c ∧ opt o P := by
  by_cases h : c <;> simp [h]
@[simp] theorem opt_map {β γ : Type} {o : Option β} {f : β → γ} {P : γ → Prop} : opt (o.map f) P ↔ opt o fun v => P (f v) := by
  cases o <;> rfl
@[simp] theorem opt_bind {β γ : Type} {o : Option β} {f : β → Option γ} {P : γ → Prop} : opt (o.bind f) P ↔ opt o fun v => opt (f v) P := by
  cases o <;> rfl
theorem wp_Mopt {β : Type} {o : Option β} {Q : β → En → Prop} : wp (M.opt o) env Q E ↔ opt o fun v => Q v env := by
  cases o <;> rfl
@[simp] theorem wp_mBin {g : PyData → PyData → Option PyData} {Q : Vl → En → Prop} : wp (mBin g a b) env Q E ↔ wp a env (fun va e => wp b e (fun vb e => wp va.get e (fun x e => wp vb.get e (fun y e => opt (g x y) fun z => Q (.d z) e) E) E) E) E := by
  unfold mBin; simp only [wp_bind, wp_Mopt, opt_map]
@[simp] theorem wp_mBinL {g : PyData → PyData → Option (List PyData)} {Q : List PyData → En → Prop} : wp (mBinL g a b) env Q E ↔ wp a env (fun va e => wp b e (fun vb e => wp va.get e (fun x e => wp vb.get e (fun y e => opt (g x y) fun z => Q z e) E) E) E) E := by
  unfold mBinL; simp only [wp_bind, wp_Mopt]
@[simp] theorem wp_mCall {g : List PyData → Option PyData} {Q : Vl → En → Prop} : wp (mCall g ms) env Q E ↔ wp ms env (fun vs e => wp (getAll vs) e (fun ds e => opt (g ds) fun z => Q (.d z) e) E) E := by
  unfold mCall; simp only [wp_bind, wp_Mopt, opt_map]
@[simp] theorem wp_mCallL {g : List PyData → Option (List PyData)} {Q : List PyData → En → Prop} : wp (mCallL g ms) env Q E ↔ wp ms env (fun vs e => wp (getAll vs) e (fun ds e => opt (g ds) fun z => Q z e) E) E := by
  unfold mCallL; simp only [wp_bind, wp_Mopt]
@[simp] theorem wp_mMB {ty : PyData → Bool} {g : PyData → List PyData → Option PyData} {Q : Vl → En → Prop} : wp (mMB ty g m ms) env Q E ↔ wp m env (fun v e => wp v.get e (fun d0 e => if ty d0 = true then wp ms e (fun vs e => wp v.get e (fun d e => wp (getAll vs) e (fun ds e => opt (g d ds) fun z => Q (.d z) e) E) E) E else False) E) E := by
  unfold mMB; simp only [wp_bind, wp_ite, wp_Mopt, opt_map, wp_stuck]
@[simp] theorem wp_mIsi {g : PyData → Bool} {Q : Vl → En → Prop} : wp (mIsi g m) env Q E ↔ wp m env (fun v e => wp v.get e (fun d e => Q (.d (.bool (g d))) e) E) E := by
  unfold mIsi; simp only [wp_bind, wp_mC]
@[simp] theorem wp_mTru {v : Vl} {Q : Bool → En → Prop} : wp (mTru v) env Q E ↔ wp v.get env (fun d e => opt (truD d) fun k => Q k e) E := by
  unfold mTru; simp only [wp_bind, wp_Mopt]
@[simp] theorem wp_mTst {Q : Bool → En → Prop} : wp (mTst m) env Q E ↔ wp m env (fun v e => wp v.get e (fun d e => opt (truD d) fun k => Q k e) E) E := by
  unfold mTst; simp only [wp_bind, wp_mTru]
@[simp] theorem wp_mBoo {k : Bool} {Q : Bool → En → Prop} : wp (mBoo (.d (.bool k))) env Q E ↔ Q k env := Iff.rfl
@[simp] theorem wp_mTB {Q : Bool → En → Prop} : wp (mTB m) env Q E ↔ wp m env (fun v e => wp (mBoo v) e Q E) E := by
  unfold mTB; simp only [wp_bind]
@[simp] theorem wp_mAnd {Q : Bool → En → Prop} : wp (mAnd t u) env Q E ↔ wp t env (fun k e => if k = true then wp u e Q E else Q false e) E := by
  unfold mAnd; simp only [wp_bind, wp_ite, wp_pure]
@[simp] theorem wp_mOr {Q : Bool → En → Prop} : wp (mOr t u) env Q E ↔ wp t env (fun k e => if k = true then Q true e else wp u e Q E) E := by
  unfold mOr; simp only [wp_bind, wp_ite, wp_pure]
@[simp] theorem wp_mNot {Q : Bool → En → Prop} : wp (mNot t) env Q E ↔ wp t env (fun k e => Q (!k) e) E := by
  unfold mNot; simp only [wp_bind, wp_pure]
@[simp] theorem wp_mAndV {Q : Vl → En → Prop} : wp (mAndV a b) env Q E ↔ wp a env (fun v e => wp v.get e (fun d e => opt (truD d) fun k => if k = true then wp b e Q E else Q v e) E) E := by
  unfold mAndV; simp only [wp_bind, wp_ite, wp_mTru, wp_pure]
@[simp] theorem wp_mOrV {Q : Vl → En → Prop} : wp (mOrV a b) env Q E ↔ wp a env (fun v e => wp v.get e (fun d e => opt (truD d) fun k => if k = true then Q v e else wp b e Q E) E) E := by
  unfold mOrV; simp only [wp_bind, wp_ite, wp_mTru, wp_pure]
@[simp] theorem wp_mNotV {Q : Vl → En → Prop} : wp (mNotV a) env Q E ↔ wp a env (fun v e => wp v.get e (fun d e => opt (truD d) fun k => Q (.d (.bool (!k))) e) E) E := by
  unfold mNotV; simp only [wp_bind, wp_mTru, wp_mC]
@[simp] theorem wp_mNeg {Q : Vl → En → Prop} : wp (mNeg m) env Q E ↔ wp m env (fun v e => match v with
  | .d (.int i) => Q (.d (.int (-i))) e
  | _ => False) E := by
  unfold mNeg
  rw [wp_bind]
  apply iff_of_eq; congr 1; funext v e
  cases v with
  | sl j => rfl
  | d x => cases x <;> rfl
end
end DL
end

/- EL22 -/
section
set_option maxHeartbeats 4000000
namespace DL
open PySem PySem.Spec PyProof.Rows L2

section
variable {env : En} {E : Er → En → Prop} {a b c m m' : M Vl} {ms : M (List Vl)} {mo : M (List PyData)} {t u : M Bool} {st st' : M Fl}
theorem wp_fin {np n : Nat} {f : M Fl} {evs : List EV} {lt : Option (Nat × Nat)} {Q : RVl → En → Prop} : wp (fin np f n evs lt) env Q E ↔ evs.length = np ∧ wp f (startE n evs) (fun fl e' => match fl with
  | .next => Q (.d .none) (backE lt env e')
  | .ret v => Q v (backE lt env e')
  | _ => False) (fun x e' => E x (backE lt env e')) := by
  unfold wp fin
  by_cases h : evs.length = np
  · rw [if_pos h]
    simp only [h, true_and]
    cases f (startE n evs) with
    | ok fl e' => cases fl <;> rfl
    | err x e' => rfl
    | stuck => rfl
  · rw [if_neg h]
    simp only [h, false_and]
@[simp] theorem wp_callR0 {np n : Nat} {f : M Fl} {Q : RVl → En → Prop} : wp (callR0 np f n ms) env Q E ↔ wp ms env (fun vs e => wp (leakAll vs) e (fun ds e => wp (fin np f n (ds.map .d) none) e Q E) E) E := by
  unfold callR0; simp only [wp_bind]
@[simp] theorem wp_callR1 {np n j : Nat} {f : M Fl} {Q : RVl → En → Prop} : wp (callR1 np f n j ms) env Q E ↔ wp ms env (fun vs e => opt (slAt vs j) fun i => wp (leakAll (vs.set j (.d .none))) e (fun ds e => wp (ownAt i) e (fun es e => wp (fin np f n ((ds.map EV.d).set j (.own true es)) (some (j, i))) e Q E) E) E) E := by
  unfold callR1; simp only [wp_bind, wp_Mopt]
@[simp] theorem wp_asD {f : M RVl} {Q : Vl → En → Prop} : wp (asD f) env Q E ↔ wp f env (fun v e => match v with
  | .d x => Q (.d x) e
  | .o _ => False) E := by
  unfold asD
  rw [wp_bind]
  apply iff_of_eq; congr 1; funext v e
  cases v <;> rfl
@[simp] theorem wp_asO {f : M RVl} {Q : List PyData → En → Prop} : wp (asO f) env Q E ↔ wp f env (fun v e => match v with
  | .o (.l ds) => Q ds e
  | _ => False) E := by
  unfold asO
  rw [wp_bind]
  apply iff_of_eq; congr 1; funext v e
  cases v with
  | d _ => rfl
  | o oo => cases oo <;> rfl
@[simp] theorem wp_asQ {f : M RVl} {Q : OO → En → Prop} : wp (asQ f) env Q E ↔ wp f env (fun v e => match v with
  | .o o => Q o e
  | .d _ => False) E := by
  unfold asQ
  rw [wp_bind]
  apply iff_of_eq; congr 1; funext v e
  cases v <;> rfl
@[simp] theorem backE_none {e : En} : backE none env e = env := rfl
@[simp] theorem slAt_zero {v : Nat} {vs : List Vl} : slAt (.sl v :: vs) 0 = some v := rfl
@[simp] theorem wp_vNil {Q : List RVl → En → Prop} : wp vNil env Q E ↔ Q [] env := Iff.rfl
@[simp] theorem wp_vD {vs : M (List RVl)} {Q : List RVl → En → Prop} : wp (vD m vs) env Q E ↔ wp m env (fun v e => wp (leak v) e (fun d e => wp vs e (fun vs e => Q (.d d :: vs) e) E) E) E := by
  unfold vD; simp only [wp_bind, wp_pure]
@[simp] theorem wp_vO {vs : M (List RVl)} {Q : List RVl → En → Prop} : wp (vO mo vs) env Q E ↔ wp mo env (fun ds e => wp vs e (fun vs e => Q (.o (.l ds) :: vs) e) E) E := by
  unfold vO; simp only [wp_bind, wp_pure]
@[simp] theorem wp_stoV {i : Nat} {v : RVl} {Q : Unit → En → Prop} : wp (stoV i v) env Q E ↔ wp (sto i (evOf v)) env Q E := Iff.rfl
@[simp] theorem evOf_d {x : PyData} : evOf (.d x) = .d x := rfl
@[simp] theorem evOf_o {x : OO} : evOf (.o x) = .own false x := rfl
@[simp] theorem wp_sPar2 {i j : Nat} {vs : M (List RVl)} {Q : Fl → En → Prop} : wp (sPar2 i j vs) env Q E ↔ wp vs env (fun vs e => match vs with
  | [v, w] => wp (stoV i v) e (fun _ e => wp (stoV j w) e (fun _ e => Q .next e) E) E
  | _ => False) E := by
  unfold sPar2
  rw [wp_bind]
  apply iff_of_eq; congr 1; funext vs e
  match vs with
  | [] => rfl
  | [_] => rfl
  | [v, w] => simp
  | _ :: _ :: _ :: _ => rfl
@[simp] theorem wp_sPar3 {i j l : Nat} {vs : M (List RVl)} {Q : Fl → En → Prop} : wp (sPar3 i j l vs) env Q E ↔ wp vs env (fun vs e => match vs with
  | [v, w, z] => wp (stoV i v) e (fun _ e => wp (stoV j w) e (fun _ e => wp (stoV l z) e (fun _ e => Q .next e) E) E) E
  | _ => False) E := by
  unfold sPar3
  rw [wp_bind]
  apply iff_of_eq; congr 1; funext vs e
  match vs with
  | [] => rfl
  | [_] => rfl
  | [_, _] => rfl
  | [v, w, z] => simp
  | _ :: _ :: _ :: _ :: _ => rfl
@[simp] theorem wp_mMeth {i : Nat} {f : List PyData → List PyData → Option (PyData × List PyData)} {Q : Vl → En → Prop} : wp (mMeth i f ms) env Q E ↔ wp (isOwn i) env (fun _ e => wp ms e (fun vs e => wp (leakAll vs) e (fun args e => wp (mPut i (f args)) e Q E) E) E) E := by
  unfold mMeth; simp only [wp_bind]
@[simp] theorem wp_mPut {i : Nat} {f : List PyData → Option (PyData × List PyData)} {Q : Vl → En → Prop} : wp (mPut i f) env Q E ↔ (match env[i]? with
  | some (some (.own b (.l ds))) => opt (f ds) fun p => Q (.d p.1) (env.set i (some (.own b (.l p.2))))
  | _ => False) := by
  unfold wp mPut
  cases env[i]? with
  | none => rfl
  | some o => cases o with
    | none => rfl
    | some ev => cases ev with
      | d x => rfl
      | own b oo =>
        cases oo with
        | k _ => rfl
        | t _ => rfl
        | f _ => rfl
        | l ds =>
        dsimp only
        cases f ds with
        | none => rfl
        | some p => rfl
      | x v => rfl
@[simp] theorem wp_sSetS {i : Nat} {Q : Fl → En → Prop} : wp (sSetS i m m') env Q E ↔ wp m env (fun v e => wp (leak v) e (fun d e => wp (isOwn i) e (fun _ e => wp m' e (fun k e => wp k.get e (fun kd e => wp (mPut i (fSet d [kd])) e (fun _ e => Q .next e) (fun _ _ => False)) (fun _ _ => False)) (fun _ _ => False)) (fun _ _ => False)) E) E := by
  unfold sSetS; simp only [wp_bind, wp_noE, wp_sNext]
@[simp] theorem wp_mChn {g g' : PyData → PyData → Option PyData} {Q : Vl → En → Prop} : wp (mChn g g' a b c) env Q E ↔ wp a env (fun va e => wp b e (fun vb e => wp va.get e (fun x e => wp vb.get e (fun y e => opt (g x y) fun r => match r with
  | .bool true => wp c e (fun vc e => wp vb.get e (fun y e => wp vc.get e (fun z e => opt (g' y z) fun r => Q (.d r) e) E) E) E
  | .bool false => Q (.d (.bool false)) e
  | _ => False) E) E) E) E := by
  unfold mChn
  simp only [wp_bind, wp_Mopt]
  apply iff_of_eq; congr 1; funext va e; congr 1; funext vb e; congr 1; funext x e; congr 1; funext y e
  cases g x y with
  | none => rfl
  | some r =>
    simp only [opt_some]
    cases r with
    | bool k => cases k <;> simp [wp_Mopt]
    | _ => rfl
/-! loops -/
@[simp] theorem wp_sFor {mi : M Src} {g : PyData → M Unit} {Q : Fl → En → Prop} : wp (sFor mi g st) env Q E ↔ wp mi env (fun s e => match s with
  | .fix items => wp (forL g st items) e Q E
  | .own _ => False) E := by
  unfold sFor
  rw [wp_bind]
  apply iff_of_eq; congr 1; funext s e
  cases s <;> rfl
@[simp] theorem wp_forNil {g : PyData → M Unit} {Q : Fl → En → Prop} : wp (forL g st []) env Q E ↔ Q .next env := Iff.rfl
@[simp] theorem wp_forCons {g : PyData → M Unit} {d : PyData} {ds : List PyData} {Q : Fl → En → Prop} : wp (forL g st (d :: ds)) env Q E ↔ wp (g d) env (fun _ e => wp st e (fun fl e => match fl with
  | .next => wp (forL g st ds) e Q E
  | .cont => wp (forL g st ds) e Q E
  | .brk => Q .next e
  | .ret v => Q (.ret v) e) E) (fun _ _ => False) := by
  rw [show forL g st (d :: ds) = M.bind (noE (g d)) fun _ => M.bind st fun fl => match fl with
    | .next => forL g st ds
    | .cont => forL g st ds
    | .brk => sNext
    | .ret v => M.pure (.ret v) from rfl]
  simp only [wp_bind, wp_noE]
  apply iff_of_eq; congr 1; funext _ e; congr 1; funext fl e
  cases fl <;> rfl
/-- a loop by an invariant -/
theorem wp_for {g : PyData → M Unit} {ds : List PyData} {Q : Fl → En → Prop} (I : Nat → En → Prop) (h0 : I 0 env) (hs : ∀ i d e, ds[i]? = some d → I i e → wp (g d) e (fun _ e => wp st e (fun fl e => match fl with
  | .next => I (i + 1) e
  | .cont => I (i + 1) e
  | .brk => Q .next e
  | .ret v => Q (.ret v) e) E) (fun _ _ => False)) (hd : ∀ e, I ds.length e → Q .next e) : wp (forL g st ds) env Q E := by
  induction ds generalizing env I with
  | nil => exact hd env h0
  | cons d ds ih =>
    rw [wp_forCons]
    refine wp_mono (hs 0 d env rfl h0) (fun _ e h => wp_mono h (fun fl e h => ?_) fun _ _ z => z) fun _ _ z => z
    cases fl with
    | next => exact ih (I := fun i => I (i + 1)) h (fun i x e hx hi => hs (i + 1) x e (by simpa using hx) hi) hd
    | cont => exact ih (I := fun i => I (i + 1)) h (fun i x e hx hi => hs (i + 1) x e (by simpa using hx) hi) hd
    | brk => exact h
    | ret v => exact h
@[simp] theorem wp_gNm {i : Nat} {d : PyData} {Q : Unit → En → Prop} : wp (gNm i d) env Q E ↔ wp (sto i (.d d)) env Q E := Iff.rfl
@[simp] theorem wp_gTp {n : Nat} {gs : List PyData → M Unit} {xs : List PyData} {Q : Unit → En → Prop} : wp (gTp n gs (.tuple xs)) env Q E ↔ xs.length = n ∧ wp (gs xs) env Q E := by
  rw [show gTp n gs (.tuple xs) = if xs.length = n then gs xs else M.stuck from rfl, wp_ite]
  by_cases h : xs.length = n <;> simp [h]
@[simp] theorem wp_gCons {g : PyData → M Unit} {gs : List PyData → M Unit} {x : PyData} {xs : List PyData} {Q : Unit → En → Prop} : wp (gCons' g gs (x :: xs)) env Q E ↔ wp (g x) env (fun _ e => wp (gs xs) e Q E) E := by
  rw [show gCons' g gs (x :: xs) = M.bind (g x) fun _ => gs xs from rfl, wp_bind]
@[simp] theorem wp_gNil {Q : Unit → En → Prop} : wp (gNil' []) env Q E ↔ Q () env := Iff.rfl
@[simp] theorem wp_sAsg {g : PyData → M Unit} {Q : Fl → En → Prop} : wp (sAsg g m) env Q E ↔ wp m env (fun v e => wp (leak v) e (fun d e => wp (g d) e (fun _ e => Q .next e) (fun _ _ => False)) E) E := by
  unfold sAsg; simp only [wp_bind, wp_noE, wp_sNext]
@[simp] theorem wp_mItems {Q : Src → En → Prop} : wp (mItems m) env Q E ↔ wp m env (fun v e => wp (leak v) e (fun d e => opt (seqI d) fun xs => Q (.fix xs) e) E) E := by
  unfold mItems; simp only [wp_bind, wp_Mopt, opt_map]
@[simp] theorem wp_mZip {Q : Src → En → Prop} : wp (mZip ms) env Q E ↔ wp ms env (fun vs e => wp (leakAll vs) e (fun ds e => opt (zipS ds) fun s => Q s e) E) E := by
  unfold mZip; simp only [wp_bind, wp_Mopt]
theorem wp_mRange1 {Q : Src → En → Prop} : wp (mRange1 ms) env Q E ↔ wp ms env (fun vs e => wp (getAll vs) e (fun ds e => match ds with
  | [.int j] => (-(2 ^ 62) ≤ j ∧ j < 2 ^ 62) ∧ Q (.fix ((List.range j.toNat).map fun i => .int (0 + (i : Nat)))) e
  | _ => False) E) E := by
  unfold mRange1
  simp only [wp_bind]
  apply iff_of_eq; congr 1; funext vs e; congr 1; funext ds e
  cases ds with
  | nil => rfl
  | cons d ds =>
    cases ds with
    | cons _ _ => cases d <;> rfl
    | nil =>
      cases d with
      | int j =>
        show wp (if -(2 ^ 62) ≤ j ∧ j < 2 ^ 62 then M.pure (Src.fix ((List.range j.toNat).map fun i => PyData.int (0 + (i : Nat)))) else M.stuck) e Q E = ((-(2 ^ 62) ≤ j ∧ j < 2 ^ 62) ∧ Q (.fix ((List.range j.toNat).map fun i => .int (0 + (i : Nat)))) e)
        rw [wp_ite]
        by_cases h : -(2 ^ 62) ≤ j ∧ j < 2 ^ 62 <;> simp [h]
      | _ => rfl
end
end DL
end

/- EL23 -/
section
set_option maxHeartbeats 4000000
namespace DL
open PySem PySem.Spec PyProof.Rows L2

section
variable {env : En} {E : Er → En → Prop} {elt : M Vl} {t : M Bool} {g : PyData → M Unit} {vs : List Nat} {items : List PyData}
theorem rest_wipe : restE env (wipeE env vs) vs = env := by
  apply List.ext_getElem?
  intro i
  rw [restE_get wipeE_length.symm, wipeE_get]
  by_cases h : i ∈ vs
  · rw [if_pos h]
  · rw [if_neg h, if_neg (fun z => h z.1)]
@[simp] theorem wp_clr {Q : Unit → En → Prop} : wp (clr vs) env Q E ↔ noOwn vs env = true ∧ Q () (wipeE env vs) := by
  unfold wp clr
  by_cases h : noOwn vs env = true <;> simp [h]
@[simp] theorem wp_mYes {Q : Bool → En → Prop} : wp mYes env Q E ↔ Q true env := Iff.rfl
@[simp] theorem wp_lcTurn {d : PyData} {acc : List PyData} {Q : List PyData → En → Prop} : wp (lcTurn vs g t elt d acc) env Q E ↔ wp (g d) env (fun _ e => wp t e (fun k e => if k = true then wp elt e (fun v e => wp (leak v) e (fun x e => acc.length < sizeLine ∧ wp (clr vs) e (fun _ e => Q (acc ++ [x]) e) E) E) (fun _ _ => False) else wp (clr vs) e (fun _ e => Q acc e) E) (fun _ _ => False)) (fun _ _ => False) := by
  unfold lcTurn
  simp only [wp_bind, wp_noE, wp_ite, wp_pure, wp_stuck]
  apply iff_of_eq; congr 1; funext _ e; congr 1; funext k e
  congr 1
  congr 1; funext v e; congr 1; funext x e
  by_cases h : acc.length < sizeLine <;> simp [h]
/-- a comprehension by an invariant -/
theorem wp_lc {Q : List PyData → En → Prop} (I : Nat → List PyData → En → Prop) (hv : noOwn vs env = true) (h0 : I 0 [] (wipeE env vs)) (hs : ∀ i d acc e, items[i]? = some d → I i acc e → wp (lcTurn vs g t elt d acc) e (fun acc' e' => I (i + 1) acc' e') (fun _ _ => False))
    (hd : ∀ acc e, I items.length acc e → Q acc (restE env e vs)) : wp (lcRun vs g t elt (.fix items)) env Q E := by
  have key : ∀ (n i : Nat) (acc : List PyData) (e : En), i + n = items.length → I i acc e → ∃ ds e1, lcN (.fix items) vs g t elt (n + 1) i acc e = .ok ds e1 ∧ I items.length ds e1 := by
    intro n
    induction n with
    | zero =>
      intro i acc e hi hI
      have e0 : items[i]? = none := List.getElem?_eq_none (by omega)
      refine ⟨acc, e, ?_, by rw [← hi]; exact hI⟩
      show M.bind (srcAt (.fix items) i) _ e = _
      rw [M.bind_ok (show srcAt (.fix items) i e = .ok items[i]? e from rfl), e0]
      rfl
    | succ n ih =>
      intro i acc e hi hI
      have hlt : i < items.length := by omega
      have e0 : items[i]? = some items[i] := List.getElem?_eq_getElem hlt
      obtain ⟨acc', e', h1, h2⟩ := wp_ok (hs i items[i] acc e e0 hI)
      obtain ⟨ds, e1, h3, h4⟩ := ih (i + 1) acc' e' (by omega) h2
      refine ⟨ds, e1, ?_, h4⟩
      show M.bind (srcAt (.fix items) i) _ e = _
      rw [M.bind_ok (show srcAt (.fix items) i e = .ok items[i]? e from rfl), e0]
      show M.bind (lcTurn vs g t elt items[i] acc) _ e = _
      rw [M.bind_ok h1]
      exact h3
  obtain ⟨ds, e1, h1, h2⟩ := key items.length 0 [] (wipeE env vs) (by omega) h0
  have hc : clr vs env = .ok () (wipeE env vs) := by unfold clr; rw [if_pos hv]
  have : lcRun vs g t elt (.fix items) env = .ok ds (restE env e1 vs) := by
    unfold lcRun
    rw [show srcLen (.fix items) env = .ok items.length env from rfl]
    dsimp only
    rw [M.bind_ok hc, h1]
  exact wp_of this (hd ds e1 h2)
/-- a comprehension that leaves all as it is -/
theorem wp_lc_map {Q : List PyData → En → Prop} (F : PyData → PyData) (hv : noOwn vs env = true) (hl : items.length ≤ sizeLine) (hs : ∀ d ∈ items, ∀ acc : List PyData, acc.length < sizeLine → wp (lcTurn vs g t elt d acc) (wipeE env vs) (fun acc' e' => acc' = acc ++ [F d] ∧ e' = wipeE env vs) (fun _ _ => False))
    (q : Q (items.map F) env) : wp (lcRun vs g t elt (.fix items)) env Q E := by
  refine wp_lc (fun i acc e => i ≤ items.length ∧ acc = (items.take i).map F ∧ e = wipeE env vs) hv ⟨Nat.zero_le _, by simp, rfl⟩ (fun i d acc e hd hI => ?_) (fun acc e hI => ?_)
  · obtain ⟨h1, rfl, rfl⟩ := hI
    have hlt := (List.getElem?_eq_some_iff.mp hd).1
    refine wp_mono (hs d (List.mem_of_getElem? hd) _ ?_) (fun acc' e' h => ?_) fun _ _ z => z
    · rw [List.length_map, List.length_take]; omega
    · refine ⟨hlt, ?_, h.2⟩
      rw [h.1, List.take_add_one, hd]
      simp
  · obtain ⟨_, rfl, rfl⟩ := hI
    rw [List.take_length, rest_wipe]
    exact q
@[simp] theorem wp_mLc {mi : M Src} {Q : List PyData → En → Prop} : wp (mLc vs mi g t elt) env Q E ↔ wp mi env (fun s e => wp (lcRun vs g t elt s) e Q E) E := by
  unfold mLc; simp only [wp_bind]
/-- what a def answers: data -/
def Ans (f : M Fl) (n : Nat) (evs : List EV) (r : PyData) : Prop := ∃ e', f (startE n evs) = .ok (.ret (.d r)) e'
def Rai (f : M Fl) (n : Nat) (evs : List EV) (x : Str) : Prop := ∃ e', f (startE n evs) = .err ⟨x, none⟩ e'
def Don (f : M Fl) (n : Nat) (evs : List EV) : Prop := ∃ e', f (startE n evs) = .ok .next e'
theorem ans_of {f : M Fl} {n : Nat} {evs : List EV} {r : PyData} (h : wp f (startE n evs) (fun fl _ => fl = .ret (.d r)) (fun _ _ => False)) : Ans f n evs r := by
  obtain ⟨v, e', h1, rfl⟩ := wp_ok h
  exact ⟨e', h1⟩
theorem don_of {f : M Fl} {n : Nat} {evs : List EV} (h : wp f (startE n evs) (fun fl _ => fl = .next) (fun _ _ => False)) : Don f n evs := by
  obtain ⟨v, e', h1, rfl⟩ := wp_ok h
  exact ⟨e', h1⟩
theorem rai_of {f : M Fl} {n : Nat} {evs : List EV} {x : Str} (h : wp f (startE n evs) (fun _ _ => False) (fun e _ => e = ⟨x, none⟩)) : Rai f n evs x := by
  unfold wp at h
  cases e : f (startE n evs) with
  | ok v e' => rw [e] at h; exact h.elim
  | err y e' => rw [e] at h; subst h; exact ⟨e', e⟩
  | stuck => rw [e] at h; exact h.elim
theorem wp_ans {np n : Nat} {f : M Fl} {evs : List EV} {r : PyData} {Q : RVl → En → Prop} (h : Ans f n evs r) (hn : evs.length = np) (q : Q (.d r) env) : wp (fin np f n evs none) env Q E := by
  obtain ⟨e', h⟩ := h
  rw [wp_fin]
  exact ⟨hn, wp_of h q⟩
theorem wp_don {np n : Nat} {f : M Fl} {evs : List EV} {Q : RVl → En → Prop} (h : Don f n evs) (hn : evs.length = np) (q : Q (.d .none) env) : wp (fin np f n evs none) env Q E := by
  obtain ⟨e', h⟩ := h
  rw [wp_fin]
  exact ⟨hn, wp_of h q⟩
theorem wp_rai {np n : Nat} {f : M Fl} {evs : List EV} {x : Str} {Q : RVl → En → Prop} (h : Rai f n evs x) (hn : evs.length = np) (q : E ⟨x, none⟩ env) : wp (fin np f n evs none) env Q E := by
  obtain ⟨e', h⟩ := h
  rw [wp_fin]
  refine ⟨hn, ?_⟩
  unfold wp
  rw [h]
  exact q
end
end DL
end

/- EL24 -/
section
set_option maxHeartbeats 4000000
namespace DL
open PySem PySem.Spec PyProof.Rows L2

section
variable {env : En} {E : Er → En → Prop} {elt : M Vl} {t : M Bool} {g : PyData → M Unit} {vs : List Nat} {items : List PyData}
@[simp] theorem wp_dcTurn {d : PyData} {acc : List Key} {Q : List Key → En → Prop} : wp (dcTurn vs g t elt d acc) env Q E ↔ wp (g d) env (fun _ e => wp t e (fun k e => if k = true then wp elt e (fun v e => wp (leak v) e (fun x e => opt (keyD x) fun kk => acc.length < sizeLine ∧ wp (clr vs) e (fun _ e => Q (addK acc kk) e) E) E) (fun _ _ => False) else wp (clr vs) e (fun _ e => Q acc e) E) (fun _ _ => False)) (fun _ _ => False) := by
  unfold dcTurn
  simp only [wp_bind, wp_noE, wp_ite, wp_pure, wp_stuck, wp_Mopt]
  apply iff_of_eq; congr 1; funext _ e; congr 1; funext k e
  congr 1
  congr 1; funext v e; congr 1; funext x e
  congr 1; funext kk
  by_cases h : acc.length < sizeLine <;> simp [h]
theorem addK_len (acc : List Key) (k : Key) : (addK acc k).length ≤ acc.length + 1 := by
  unfold addK
  split
  · omega
  · simp
theorem wp_dc_map {Q : List Key → En → Prop} (F : PyData → Key) (hv : noOwn vs env = true) (hl : items.length ≤ sizeLine) (hs : ∀ d ∈ items, ∀ acc : List Key, acc.length < sizeLine → wp (dcTurn vs g t elt d acc) (wipeE env vs) (fun acc' e' => acc' = addK acc (F d) ∧ e' = wipeE env vs) (fun _ _ => False))
    (q : Q (items.foldl (fun a d => addK a (F d)) []) env) : wp (dcRun vs g t elt (.fix items)) env Q E := by
  have key : ∀ (n i : Nat) (acc : List Key), i + n = items.length → acc.length ≤ i → dcN (.fix items) vs g t elt (n + 1) i acc (wipeE env vs) = .ok ((items.drop i).foldl (fun a d => addK a (F d)) acc) (wipeE env vs) := by
    intro n
    induction n with
    | zero =>
      intro i acc hi ha
      have e0 : items[i]? = none := List.getElem?_eq_none (by omega)
      show M.bind (srcAt (.fix items) i) _ _ = _
      rw [M.bind_ok (show srcAt (.fix items) i (wipeE env vs) = .ok items[i]? (wipeE env vs) from rfl), e0, List.drop_eq_nil_of_le (by omega)]
      rfl
    | succ n ih =>
      intro i acc hi ha
      have hlt : i < items.length := by omega
      have e0 : items[i]? = some items[i] := List.getElem?_eq_getElem hlt
      obtain ⟨acc', e', h1, rfl, rfl⟩ := wp_ok (hs items[i] (List.getElem_mem hlt) acc (by omega))
      show M.bind (srcAt (.fix items) i) _ _ = _
      rw [M.bind_ok (show srcAt (.fix items) i (wipeE env vs) = .ok items[i]? (wipeE env vs) from rfl), e0]
      show M.bind (dcTurn vs g t elt items[i] acc) _ _ = _
      rw [M.bind_ok h1, List.drop_eq_getElem_cons hlt, List.foldl_cons]
      have := addK_len acc (F items[i])
      exact ih (i + 1) _ (by omega) (by omega)
  have hc : clr vs env = .ok () (wipeE env vs) := by unfold clr; rw [if_pos hv]
  have : dcRun vs g t elt (.fix items) env = .ok (items.foldl (fun a d => addK a (F d)) []) env := by
    unfold dcRun
    rw [show srcLen (.fix items) env = .ok items.length env from rfl]
    dsimp only
    rw [M.bind_ok hc, key items.length 0 [] (by omega) (Nat.zero_le _)]
    simp only [List.drop_zero, rest_wipe]
  exact wp_of this q
@[simp] theorem wp_mLenDc {mi : M Src} {Q : Vl → En → Prop} : wp (mLenDc vs mi g t elt) env Q E ↔ wp mi env (fun s e => wp (dcRun vs g t elt s) e (fun ks e => Q (.d (.int ks.length)) e) E) E := by
  unfold mLenDc; simp only [wp_bind, wp_mC]
/-- keys that differ -/
theorem foldl_addK : ∀ (ks acc : List Key), (acc ++ ks).Nodup → ks.foldl addK acc = acc ++ ks
  | [], acc, _ => by simp
  | k :: ks, acc, h => by
    have hk : k ∉ acc := by
      intro z
      have := List.nodup_append.mp h
      exact this.2.2 k z k List.mem_cons_self rfl
    have e : addK acc k = acc ++ [k] := by
      unfold addK
      rw [if_neg]
      rw [List.any_eq_true]
      rintro ⟨x, hx, e⟩
      exact hk ((of_decide_eq_true e) ▸ hx)
    rw [List.foldl_cons, e, foldl_addK ks (acc ++ [k]) (by rw [List.append_assoc]; exact h)]
    simp
end
end DL
end

/- EL25 -/
section
set_option maxHeartbeats 4000000
namespace DL
open PySem PySem.Spec PyProof.Rows L2

section
variable {env : En} {E : Er → En → Prop} {elt : M Vl} {t : M Bool} {g : PyData → M Unit} {vs : List Nat} {items : List PyData}
/-- a comprehension with a test that leaves all as it is -/
theorem wp_lc_fm {Q : List PyData → En → Prop} (F : PyData → Option PyData) (hv : noOwn vs env = true) (hl : items.length ≤ sizeLine) (hs : ∀ d ∈ items, ∀ acc : List PyData, acc.length < sizeLine → wp (lcTurn vs g t elt d acc) (wipeE env vs) (fun acc' e' => acc' = acc ++ (F d).toList ∧ e' = wipeE env vs) (fun _ _ => False))
    (q : Q (items.filterMap F) env) : wp (lcRun vs g t elt (.fix items)) env Q E := by
  refine wp_lc (fun i acc e => i ≤ items.length ∧ acc = (items.take i).filterMap F ∧ e = wipeE env vs) hv ⟨Nat.zero_le _, by simp, rfl⟩ (fun i d acc e hd hI => ?_) (fun acc e hI => ?_)
  · obtain ⟨h1, rfl, rfl⟩ := hI
    have hlt := (List.getElem?_eq_some_iff.mp hd).1
    refine wp_mono (hs d (List.mem_of_getElem? hd) _ ?_) (fun acc' e' h => ?_) fun _ _ z => z
    · have := List.length_filterMap_le F (items.take i)
      rw [List.length_take] at this
      omega
    · refine ⟨hlt, ?_, h.2⟩
      rw [h.1, List.take_add_one, hd, List.filterMap_append]
      cases q : F d <;> simp [q]
  · obtain ⟨_, rfl, rfl⟩ := hI
    rw [List.take_length, rest_wipe]
    exact q
/-- a while loop by an invariant and a measure -/
theorem wp_while {c : M Bool} {b : M Fl} {Q : Fl → En → Prop} (I : Nat → En → Prop) (hs : ∀ k e, I k e → wp c e (fun r e => if r = true then wp b e (fun fl e => match fl with
  | .next => ∃ j, j < k ∧ I j e
  | .cont => ∃ j, j < k ∧ I j e
  | .brk => Q .next e
  | .ret v => Q (.ret v) e) E else Q .next e) E) : ∀ (n k : Nat) (env : En), k < n → I k env → wp (whileN c b n) env Q E := by
  intro n
  induction n with
  | zero => intro k env h _; exact absurd h (Nat.not_lt_zero _)
  | succ n ih =>
    intro k env h hI
    rw [show whileN c b (n + 1) = M.bind c fun k => if k = true then M.bind b fun fl => match fl with
      | .next => whileN c b n
      | .cont => whileN c b n
      | .brk => sNext
      | .ret v => M.pure (.ret v) else sNext from rfl, wp_bind]
    refine wp_mono (hs k env hI) (fun r e h1 => ?_) fun _ _ z => z
    rw [wp_ite]
    split
    · rename_i hr
      rw [if_pos hr] at h1
      rw [wp_bind]
      refine wp_mono h1 (fun fl e h2 => ?_) fun _ _ z => z
      cases fl with
      | next => obtain ⟨j, hj, h3⟩ := h2; exact ih j e (by omega) h3
      | cont => obtain ⟨j, hj, h3⟩ := h2; exact ih j e (by omega) h3
      | brk => exact h2
      | ret v => exact h2
    · rename_i hr
      rw [if_neg hr] at h1
      exact h1
@[simp] theorem wp_mSaid {said : Str → Option PyData} {m : M Vl} {Q : Vl → En → Prop} : wp (mSaid said m) env Q E ↔ wp m env (fun _ e => Q (.d (.str "let")) e) (fun x e => x.arg = none ∧ opt (said x.cls) fun z => Q (.d z) e) := by
  unfold wp mSaid
  cases m env with
  | ok v e' => rfl
  | err x e' =>
    dsimp only
    cases hx : x.arg with
    | none =>
      cases hs : said x.cls with
      | none => simp
      | some z => simp
    | some a => simp
  | stuck => rfl
theorem wp_mLstRg {m : M Vl} {Q : List PyData → En → Prop} : wp (mLstRg m) env Q E ↔ wp m env (fun v e => match v with
  | .d (.int j) => (0 ≤ j ∧ j ≤ 16777216) ∧ Q ((List.range j.toNat).map fun i => .int (0 + (i : Nat))) e
  | _ => False) E := by
  unfold mLstRg
  rw [wp_bind]
  apply iff_of_eq; congr 1; funext v e
  cases v with
  | sl j => rfl
  | d x =>
    cases x with
    | int j =>
      dsimp only
      rw [wp_ite]
      by_cases h : 0 ≤ j ∧ j ≤ 16777216 <;> simp [h]
    | _ => rfl
end
end DL
end

/- EW1 -/
section
set_option maxHeartbeats 4000000
namespace DL
open PySem PySem.Spec PyProof.Rows L2

/-! ### the same words, so that simp does not look into what follows (the tag's type bears Q and E) -/
structure Kp {α : Type} (Q : α → En → Prop) (E : Er → En → Prop) : Type where
@[irreducible] def W {α : Type} (m : M α) (env : En) (Q : α → En → Prop) (E : Er → En → Prop) (t : Kp Q E := ⟨⟩) : Prop := wp m env Q E
theorem W_eq {α : Type} {m : M α} {env : En} {Q : α → En → Prop} {E : Er → En → Prop} {t : Kp Q E} : W m env Q E t ↔ wp m env Q E := by unfold W; exact Iff.rfl

section
variable {α β : Type} {m : M α} {k : α → M β} {env : En} {Q : β → En → Prop} {E : Er → En → Prop}
@[simp ↓] theorem W_bind : W (M.bind m k) env Q E ↔ W m env (fun v e => W (k v) e Q E) E := by unfold W at *; exact wp_bind
@[simp ↓] theorem W_pure {v : β} : W (M.pure v) env Q E ↔ Q v env := by unfold W at *; exact wp_pure
@[simp ↓] theorem W_stuck : W (M.stuck : M β) env Q E ↔ False := by unfold W at *; exact wp_stuck
@[simp ↓] theorem W_some {v : β} : W (M.opt (some v)) env Q E ↔ Q v env := by unfold W at *; exact wp_some
@[simp ↓] theorem W_none : W (M.opt (none : Option β)) env Q E ↔ False := by unfold W at *; exact wp_none
theorem W_opt {o : Option β} : W (M.opt o) env Q E ↔ ∃ v, o = some v ∧ Q v env := by unfold W at *; exact wp_opt
@[simp ↓] theorem W_ite {c : Prop} [Decidable c] {a b : M β} : W (if c then a else b) env Q E ↔ if c then W a env Q E else W b env Q E := by unfold W at *; exact wp_ite
@[simp ↓] theorem W_noE {m : M β} : W (noE m) env Q E ↔ W m env Q (fun _ _ => False) := by unfold W at *; exact wp_noE
end
section
variable {env : En} {E : Er → En → Prop}
@[simp ↓] theorem W_mVar {i : Nat} {Q : Vl → En → Prop} : W (mVar i) env Q E ↔ (match env[i]? with
  | some (some (.d x)) => Q (.d x) env
  | some (some (.own _ _)) => Q (.sl i) env
  | _ => False) := by unfold W at *; exact wp_mVar
@[simp ↓] theorem W_mC {x : PyData} {Q : Vl → En → Prop} : W (mC x) env Q E ↔ Q (.d x) env := by unfold W at *; exact wp_mC
@[simp ↓] theorem W_leakD {x : PyData} {Q : PyData → En → Prop} : W (leak (.d x)) env Q E ↔ Q x env := by unfold W at *; exact wp_leakD
@[simp ↓] theorem W_leakS {i : Nat} {Q : PyData → En → Prop} : W (leak (.sl i)) env Q E ↔ (match env[i]? with
  | some (some (.own false (.l ds))) => Q (.list ds) (env.set i (some (.d (.list ds))))
  | _ => False) := by unfold W at *; exact wp_leakS
@[simp ↓] theorem W_leakNil {Q : List PyData → En → Prop} : W (leakAll []) env Q E ↔ Q [] env := by unfold W at *; exact wp_leakNil
@[simp ↓] theorem W_leakCons {v : Vl} {vs : List Vl} {Q : List PyData → En → Prop} : W (leakAll (v :: vs)) env Q E ↔ W (leak v) env (fun d e => W (leakAll vs) e (fun ds e => Q (d :: ds) e) E) E := by unfold W at *; exact wp_leakCons
@[simp ↓] theorem W_getD {x : PyData} {Q : PyData → En → Prop} : W (Vl.get (.d x)) env Q E ↔ Q x env := by unfold W at *; exact wp_getD
@[simp ↓] theorem W_getS {i : Nat} {Q : PyData → En → Prop} : W (Vl.get (.sl i)) env Q E ↔ (match env[i]? with
  | some (some (.own _ (.l ds))) => Q (.list ds) env
  | _ => False) := by unfold W at *; exact wp_getS
@[simp ↓] theorem W_getNil {Q : List PyData → En → Prop} : W (getAll []) env Q E ↔ Q [] env := by unfold W at *; exact wp_getNil
@[simp ↓] theorem W_getCons {v : Vl} {vs : List Vl} {Q : List PyData → En → Prop} : W (getAll (v :: vs)) env Q E ↔ W v.get env (fun d e => W (getAll vs) e (fun ds e => Q (d :: ds) e) E) E := by unfold W at *; exact wp_getCons
@[simp ↓] theorem W_sto {i : Nat} {ev : EV} {Q : Unit → En → Prop} : W (sto i ev) env Q E ↔ (match env[i]? with
  | some (some (.own true _)) => False
  | _ => Q () (env.set i (some ev))) := by unfold W at *; exact wp_sto
@[simp ↓] theorem W_isOwn {i : Nat} {Q : Unit → En → Prop} : W (isOwn i) env Q E ↔ (match env[i]? with
  | some (some (.own _ (.l _))) => Q () env
  | _ => False) := by unfold W at *; exact wp_isOwn
@[simp ↓] theorem W_ownAt {i : Nat} {Q : OO → En → Prop} : W (ownAt i) env Q E ↔ (match env[i]? with
  | some (some (.own _ ds)) => Q ds env
  | _ => False) := by unfold W at *; exact wp_ownAt
@[simp ↓] theorem W_mIsE {i : Nat} {a : Addr} {b : Bool} {Q : Vl → En → Prop} : W (mIsE i a b) env Q E ↔ (match env[i]? with
  | some (some (.x (.ref a'))) => a' = a ∧ Q (.d (.bool b)) env
  | _ => False) := by unfold W at *; exact wp_mIsE
end
@[simp ↓] theorem W_mSrcV {env : En} {E : Er → En → Prop} {j : Nat} {Q : Src → En → Prop} : W (mSrcV j) env Q E ↔ (match env[j]? with
  | some (some (.own _ (.l _))) => Q (.own j) env
  | some (some (.d d)) => (match seqI d with
    | some xs => Q (.fix xs) env
    | none => False)
  | _ => False) := by unfold W at *; exact wp_mSrcV
section
variable {env : En} {E : Er → En → Prop} {a b c m m' : M Vl} {ms : M (List Vl)} {mo : M (List PyData)} {t u : M Bool} {st st' : M Fl}
@[simp ↓] theorem W_sSeq {Q : Fl → En → Prop} : W (sSeq st st') env Q E ↔ W st env (fun fl e => match fl with
  | .next => W st' e Q E
  | fl => Q fl e) E := by unfold W at *; exact wp_sSeq
@[simp ↓] theorem W_sNext {Q : Fl → En → Prop} : W sNext env Q E ↔ Q .next env := by unfold W at *; exact wp_sNext
@[simp ↓] theorem W_sBrk {Q : Fl → En → Prop} : W sBrk env Q E ↔ Q .brk env := by unfold W at *; exact wp_sBrk
@[simp ↓] theorem W_sCont {Q : Fl → En → Prop} : W sCont env Q E ↔ Q .cont env := by unfold W at *; exact wp_sCont
@[simp ↓] theorem W_sSet {i : Nat} {Q : Fl → En → Prop} : W (sSet i m) env Q E ↔ W m env (fun v e => W (leak v) e (fun d e => W (sto i (.d d)) e (fun _ e => Q .next e) E) E) E := by unfold W at *; exact wp_sSet
@[simp ↓] theorem W_sSetO {i : Nat} {Q : Fl → En → Prop} : W (sSetO i mo) env Q E ↔ W mo env (fun ds e => W (sto i (.own false (.l ds))) e (fun _ e => Q .next e) E) E := by unfold W at *; exact wp_sSetO
@[simp ↓] theorem W_sRet {Q : Fl → En → Prop} : W (sRet m) env Q E ↔ W m env (fun v e => W (leak v) e (fun d e => Q (.ret (.d d)) e) E) E := by unfold W at *; exact wp_sRet
@[simp ↓] theorem W_sRetO {Q : Fl → En → Prop} : W (sRetO mo) env Q E ↔ W mo env (fun ds e => Q (.ret (.o (.l ds))) e) E := by unfold W at *; exact wp_sRetO
@[simp ↓] theorem W_sSetQ {mq : M OO} {i : Nat} {Q : Fl → En → Prop} : W (sSetQ i mq) env Q E ↔ W mq env (fun ds e => W (sto i (.own false ds)) e (fun _ e => Q .next e) E) E := by unfold W at *; exact wp_sSetQ
@[simp ↓] theorem W_sRetQ {mq : M OO} {Q : Fl → En → Prop} : W (sRetQ mq) env Q E ↔ W mq env (fun ds e => Q (.ret (.o ds)) e) E := by unfold W at *; exact wp_sRetQ
@[simp ↓] theorem W_sDrop {Q : Fl → En → Prop} : W (sDrop m) env Q E ↔ W m env (fun _ e => Q .next e) E := by unfold W at *; exact wp_sDrop
@[simp ↓] theorem W_sRaise {x : Er} {Q : Fl → En → Prop} : W (sRaise x) env Q E ↔ E x env := by unfold W at *; exact wp_sRaise
@[simp ↓] theorem W_mIf {α : Type} {x y : M α} {Q : α → En → Prop} : W (mIf t x y) env Q E ↔ W t env (fun k e => if k = true then W x e Q E else W y e Q E) E := by unfold W at *; exact wp_mIf
@[simp ↓] theorem W_sIf {Q : Fl → En → Prop} : W (sIf t st st') env Q E ↔ W t env (fun k e => if k = true then W st e Q E else W st' e Q E) E := by unfold W at *; exact wp_sIf
@[simp ↓] theorem W_mNil {Q : List Vl → En → Prop} : W mNil env Q E ↔ Q [] env := by unfold W at *; exact wp_mNil
@[simp ↓] theorem W_mCons {Q : List Vl → En → Prop} : W (mCons m ms) env Q E ↔ W m env (fun v e => W ms e (fun vs e => Q (v :: vs) e) E) E := by unfold W at *; exact wp_mCons
@[simp ↓] theorem W_mTup {Q : Vl → En → Prop} : W (mTup ms) env Q E ↔ W ms env (fun vs e => W (leakAll vs) e (fun ds e => ds.length ≤ sizeLine ∧ Q (.d (.tuple ds)) e) E) E := by unfold W at *; exact wp_mTup
@[simp ↓] theorem W_mLst {Q : List PyData → En → Prop} : W (mLst ms) env Q E ↔ W ms env (fun vs e => W (leakAll vs) e (fun ds e => ds.length ≤ sizeLine ∧ Q ds e) E) E := by unfold W at *; exact wp_mLst
@[simp ↓] theorem W_mFrz {Q : Vl → En → Prop} : W (mFrz mo) env Q E ↔ W mo env (fun ds e => Q (.d (.list ds)) e) E := by unfold W at *; exact wp_mFrz
@[simp ↓] theorem W_Mopt {β : Type} {o : Option β} {Q : β → En → Prop} : W (M.opt o) env Q E ↔ opt o fun v => Q v env := by unfold W at *; exact wp_Mopt
@[simp ↓] theorem W_mBin {g : PyData → PyData → Option PyData} {Q : Vl → En → Prop} : W (mBin g a b) env Q E ↔ W a env (fun va e => W b e (fun vb e => W va.get e (fun x e => W vb.get e (fun y e => opt (g x y) fun z => Q (.d z) e) E) E) E) E := by unfold W at *; exact wp_mBin
@[simp ↓] theorem W_mBinL {g : PyData → PyData → Option (List PyData)} {Q : List PyData → En → Prop} : W (mBinL g a b) env Q E ↔ W a env (fun va e => W b e (fun vb e => W va.get e (fun x e => W vb.get e (fun y e => opt (g x y) fun z => Q z e) E) E) E) E := by unfold W at *; exact wp_mBinL
@[simp ↓] theorem W_mCall {g : List PyData → Option PyData} {Q : Vl → En → Prop} : W (mCall g ms) env Q E ↔ W ms env (fun vs e => W (getAll vs) e (fun ds e => opt (g ds) fun z => Q (.d z) e) E) E := by unfold W at *; exact wp_mCall
@[simp ↓] theorem W_mCallL {g : List PyData → Option (List PyData)} {Q : List PyData → En → Prop} : W (mCallL g ms) env Q E ↔ W ms env (fun vs e => W (getAll vs) e (fun ds e => opt (g ds) fun z => Q z e) E) E := by unfold W at *; exact wp_mCallL
@[simp ↓] theorem W_mMB {ty : PyData → Bool} {g : PyData → List PyData → Option PyData} {Q : Vl → En → Prop} : W (mMB ty g m ms) env Q E ↔ W m env (fun v e => W v.get e (fun d0 e => if ty d0 = true then W ms e (fun vs e => W v.get e (fun d e => W (getAll vs) e (fun ds e => opt (g d ds) fun z => Q (.d z) e) E) E) E else False) E) E := by unfold W at *; exact wp_mMB
@[simp ↓] theorem W_mIsi {g : PyData → Bool} {Q : Vl → En → Prop} : W (mIsi g m) env Q E ↔ W m env (fun v e => W v.get e (fun d e => Q (.d (.bool (g d))) e) E) E := by unfold W at *; exact wp_mIsi
@[simp ↓] theorem W_mTru {v : Vl} {Q : Bool → En → Prop} : W (mTru v) env Q E ↔ W v.get env (fun d e => opt (truD d) fun k => Q k e) E := by unfold W at *; exact wp_mTru
@[simp ↓] theorem W_mTst {Q : Bool → En → Prop} : W (mTst m) env Q E ↔ W m env (fun v e => W v.get e (fun d e => opt (truD d) fun k => Q k e) E) E := by unfold W at *; exact wp_mTst
@[simp ↓] theorem W_mBoo {k : Bool} {Q : Bool → En → Prop} : W (mBoo (.d (.bool k))) env Q E ↔ Q k env := by unfold W at *; exact wp_mBoo
@[simp ↓] theorem W_mTB {Q : Bool → En → Prop} : W (mTB m) env Q E ↔ W m env (fun v e => W (mBoo v) e Q E) E := by unfold W at *; exact wp_mTB
@[simp ↓] theorem W_mAnd {Q : Bool → En → Prop} : W (mAnd t u) env Q E ↔ W t env (fun k e => if k = true then W u e Q E else Q false e) E := by unfold W at *; exact wp_mAnd
@[simp ↓] theorem W_mOr {Q : Bool → En → Prop} : W (mOr t u) env Q E ↔ W t env (fun k e => if k = true then Q true e else W u e Q E) E := by unfold W at *; exact wp_mOr
@[simp ↓] theorem W_mNot {Q : Bool → En → Prop} : W (mNot t) env Q E ↔ W t env (fun k e => Q (!k) e) E := by unfold W at *; exact wp_mNot
@[simp ↓] theorem W_mAndV {Q : Vl → En → Prop} : W (mAndV a b) env Q E ↔ W a env (fun v e => W v.get e (fun d e => opt (truD d) fun k => if k = true then W b e Q E else Q v e) E) E := by unfold W at *; exact wp_mAndV
@[simp ↓] theorem W_mOrV {Q : Vl → En → Prop} : W (mOrV a b) env Q E ↔ W a env (fun v e => W v.get e (fun d e => opt (truD d) fun k => if k = true then Q v e else W b e Q E) E) E := by unfold W at *; exact wp_mOrV
@[simp ↓] theorem W_mNotV {Q : Vl → En → Prop} : W (mNotV a) env Q E ↔ W a env (fun v e => W v.get e (fun d e => opt (truD d) fun k => Q (.d (.bool (!k))) e) E) E := by unfold W at *; exact wp_mNotV
@[simp ↓] theorem W_mNeg {Q : Vl → En → Prop} : W (mNeg m) env Q E ↔ W m env (fun v e => match v with
  | .d (.int i) => Q (.d (.int (-i))) e
  | _ => False) E := by unfold W at *; exact wp_mNeg
end
section
variable {env : En} {E : Er → En → Prop} {a b c m m' : M Vl} {ms : M (List Vl)} {mo : M (List PyData)} {t u : M Bool} {st st' : M Fl}
theorem W_fin {np n : Nat} {f : M Fl} {evs : List EV} {lt : Option (Nat × Nat)} {Q : RVl → En → Prop} : W (fin np f n evs lt) env Q E ↔ evs.length = np ∧ W f (startE n evs) (fun fl e' => match fl with
  | .next => Q (.d .none) (backE lt env e')
  | .ret v => Q v (backE lt env e')
  | _ => False) (fun x e' => E x (backE lt env e')) := by unfold W at *; exact wp_fin
@[simp ↓] theorem W_callR0 {np n : Nat} {f : M Fl} {Q : RVl → En → Prop} : W (callR0 np f n ms) env Q E ↔ W ms env (fun vs e => W (leakAll vs) e (fun ds e => W (fin np f n (ds.map .d) none) e Q E) E) E := by unfold W at *; exact wp_callR0
@[simp ↓] theorem W_callR1 {np n j : Nat} {f : M Fl} {Q : RVl → En → Prop} : W (callR1 np f n j ms) env Q E ↔ W ms env (fun vs e => opt (slAt vs j) fun i => W (leakAll (vs.set j (.d .none))) e (fun ds e => W (ownAt i) e (fun es e => W (fin np f n ((ds.map EV.d).set j (.own true es)) (some (j, i))) e Q E) E) E) E := by unfold W at *; exact wp_callR1
@[simp ↓] theorem W_asD {f : M RVl} {Q : Vl → En → Prop} : W (asD f) env Q E ↔ W f env (fun v e => match v with
  | .d x => Q (.d x) e
  | .o _ => False) E := by unfold W at *; exact wp_asD
@[simp ↓] theorem W_asO {f : M RVl} {Q : List PyData → En → Prop} : W (asO f) env Q E ↔ W f env (fun v e => match v with
  | .o (.l ds) => Q ds e
  | _ => False) E := by unfold W at *; exact wp_asO
@[simp ↓] theorem W_asQ {f : M RVl} {Q : OO → En → Prop} : W (asQ f) env Q E ↔ W f env (fun v e => match v with
  | .o o => Q o e
  | .d _ => False) E := by unfold W at *; exact wp_asQ
@[simp ↓] theorem W_vNil {Q : List RVl → En → Prop} : W vNil env Q E ↔ Q [] env := by unfold W at *; exact wp_vNil
@[simp ↓] theorem W_vD {vs : M (List RVl)} {Q : List RVl → En → Prop} : W (vD m vs) env Q E ↔ W m env (fun v e => W (leak v) e (fun d e => W vs e (fun vs e => Q (.d d :: vs) e) E) E) E := by unfold W at *; exact wp_vD
@[simp ↓] theorem W_vO {vs : M (List RVl)} {Q : List RVl → En → Prop} : W (vO mo vs) env Q E ↔ W mo env (fun ds e => W vs e (fun vs e => Q (.o (.l ds) :: vs) e) E) E := by unfold W at *; exact wp_vO
@[simp ↓] theorem W_stoV {i : Nat} {v : RVl} {Q : Unit → En → Prop} : W (stoV i v) env Q E ↔ W (sto i (evOf v)) env Q E := by unfold W at *; exact wp_stoV
@[simp ↓] theorem W_sPar2 {i j : Nat} {vs : M (List RVl)} {Q : Fl → En → Prop} : W (sPar2 i j vs) env Q E ↔ W vs env (fun vs e => match vs with
  | [v, w] => W (stoV i v) e (fun _ e => W (stoV j w) e (fun _ e => Q .next e) E) E
  | _ => False) E := by unfold W at *; exact wp_sPar2
@[simp ↓] theorem W_sPar3 {i j l : Nat} {vs : M (List RVl)} {Q : Fl → En → Prop} : W (sPar3 i j l vs) env Q E ↔ W vs env (fun vs e => match vs with
  | [v, w, z] => W (stoV i v) e (fun _ e => W (stoV j w) e (fun _ e => W (stoV l z) e (fun _ e => Q .next e) E) E) E
  | _ => False) E := by unfold W at *; exact wp_sPar3
@[simp ↓] theorem W_mMeth {i : Nat} {f : List PyData → List PyData → Option (PyData × List PyData)} {Q : Vl → En → Prop} : W (mMeth i f ms) env Q E ↔ W (isOwn i) env (fun _ e => W ms e (fun vs e => W (leakAll vs) e (fun args e => W (mPut i (f args)) e Q E) E) E) E := by unfold W at *; exact wp_mMeth
@[simp ↓] theorem W_mPut {i : Nat} {f : List PyData → Option (PyData × List PyData)} {Q : Vl → En → Prop} : W (mPut i f) env Q E ↔ (match env[i]? with
  | some (some (.own b (.l ds))) => opt (f ds) fun p => Q (.d p.1) (env.set i (some (.own b (.l p.2))))
  | _ => False) := by unfold W at *; exact wp_mPut
@[simp ↓] theorem W_sSetS {i : Nat} {Q : Fl → En → Prop} : W (sSetS i m m') env Q E ↔ W m env (fun v e => W (leak v) e (fun d e => W (isOwn i) e (fun _ e => W m' e (fun k e => W k.get e (fun kd e => W (mPut i (fSet d [kd])) e (fun _ e => Q .next e) (fun _ _ => False)) (fun _ _ => False)) (fun _ _ => False)) (fun _ _ => False)) E) E := by unfold W at *; exact wp_sSetS
@[simp ↓] theorem W_mChn {g g' : PyData → PyData → Option PyData} {Q : Vl → En → Prop} : W (mChn g g' a b c) env Q E ↔ W a env (fun va e => W b e (fun vb e => W va.get e (fun x e => W vb.get e (fun y e => opt (g x y) fun r => match r with
  | .bool true => W c e (fun vc e => W vb.get e (fun y e => W vc.get e (fun z e => opt (g' y z) fun r => Q (.d r) e) E) E) E
  | .bool false => Q (.d (.bool false)) e
  | _ => False) E) E) E) E := by unfold W at *; exact wp_mChn
@[simp ↓] theorem W_sFor {mi : M Src} {g : PyData → M Unit} {Q : Fl → En → Prop} : W (sFor mi g st) env Q E ↔ W mi env (fun s e => match s with
  | .fix items => W (forL g st items) e Q E
  | .own _ => False) E := by unfold W at *; exact wp_sFor
@[simp ↓] theorem W_forNil {g : PyData → M Unit} {Q : Fl → En → Prop} : W (forL g st []) env Q E ↔ Q .next env := by unfold W at *; exact wp_forNil
@[simp ↓] theorem W_forCons {g : PyData → M Unit} {d : PyData} {ds : List PyData} {Q : Fl → En → Prop} : W (forL g st (d :: ds)) env Q E ↔ W (g d) env (fun _ e => W st e (fun fl e => match fl with
  | .next => W (forL g st ds) e Q E
  | .cont => W (forL g st ds) e Q E
  | .brk => Q .next e
  | .ret v => Q (.ret v) e) E) (fun _ _ => False) := by unfold W at *; exact wp_forCons
@[simp ↓] theorem W_gNm {i : Nat} {d : PyData} {Q : Unit → En → Prop} : W (gNm i d) env Q E ↔ W (sto i (.d d)) env Q E := by unfold W at *; exact wp_gNm
@[simp ↓] theorem W_gTp {n : Nat} {gs : List PyData → M Unit} {xs : List PyData} {Q : Unit → En → Prop} : W (gTp n gs (.tuple xs)) env Q E ↔ xs.length = n ∧ W (gs xs) env Q E := by unfold W at *; exact wp_gTp
@[simp ↓] theorem W_gCons {g : PyData → M Unit} {gs : List PyData → M Unit} {x : PyData} {xs : List PyData} {Q : Unit → En → Prop} : W (gCons' g gs (x :: xs)) env Q E ↔ W (g x) env (fun _ e => W (gs xs) e Q E) E := by unfold W at *; exact wp_gCons
@[simp ↓] theorem W_gNil {Q : Unit → En → Prop} : W (gNil' []) env Q E ↔ Q () env := by unfold W at *; exact wp_gNil
@[simp ↓] theorem W_sAsg {g : PyData → M Unit} {Q : Fl → En → Prop} : W (sAsg g m) env Q E ↔ W m env (fun v e => W (leak v) e (fun d e => W (g d) e (fun _ e => Q .next e) (fun _ _ => False)) E) E := by unfold W at *; exact wp_sAsg
@[simp ↓] theorem W_mItems {Q : Src → En → Prop} : W (mItems m) env Q E ↔ W m env (fun v e => W (leak v) e (fun d e => opt (seqI d) fun xs => Q (.fix xs) e) E) E := by unfold W at *; exact wp_mItems
@[simp ↓] theorem W_mZip {Q : Src → En → Prop} : W (mZip ms) env Q E ↔ W ms env (fun vs e => W (leakAll vs) e (fun ds e => opt (zipS ds) fun s => Q s e) E) E := by unfold W at *; exact wp_mZip
@[simp ↓] theorem W_mRange1 {Q : Src → En → Prop} : W (mRange1 ms) env Q E ↔ W ms env (fun vs e => W (getAll vs) e (fun ds e => match ds with
  | [.int j] => (-(2 ^ 62) ≤ j ∧ j < 2 ^ 62) ∧ Q (.fix ((List.range j.toNat).map fun i => .int (0 + (i : Nat)))) e
  | _ => False) E) E := by unfold W at *; exact wp_mRange1
end
section
variable {env : En} {E : Er → En → Prop} {elt : M Vl} {t : M Bool} {g : PyData → M Unit} {vs : List Nat} {items : List PyData}
@[simp ↓] theorem W_clr {Q : Unit → En → Prop} : W (clr vs) env Q E ↔ noOwn vs env = true ∧ Q () (wipeE env vs) := by unfold W at *; exact wp_clr
@[simp ↓] theorem W_mYes {Q : Bool → En → Prop} : W mYes env Q E ↔ Q true env := by unfold W at *; exact wp_mYes
@[simp ↓] theorem W_lcTurn {d : PyData} {acc : List PyData} {Q : List PyData → En → Prop} : W (lcTurn vs g t elt d acc) env Q E ↔ W (g d) env (fun _ e => W t e (fun k e => if k = true then W elt e (fun v e => W (leak v) e (fun x e => acc.length < sizeLine ∧ W (clr vs) e (fun _ e => Q (acc ++ [x]) e) E) E) (fun _ _ => False) else W (clr vs) e (fun _ e => Q acc e) E) (fun _ _ => False)) (fun _ _ => False) := by unfold W at *; exact wp_lcTurn
@[simp ↓] theorem W_mLc {mi : M Src} {Q : List PyData → En → Prop} : W (mLc vs mi g t elt) env Q E ↔ W mi env (fun s e => W (lcRun vs g t elt s) e Q E) E := by unfold W at *; exact wp_mLc
end
section
variable {env : En} {E : Er → En → Prop} {elt : M Vl} {t : M Bool} {g : PyData → M Unit} {vs : List Nat} {items : List PyData}
@[simp ↓] theorem W_dcTurn {d : PyData} {acc : List Key} {Q : List Key → En → Prop} : W (dcTurn vs g t elt d acc) env Q E ↔ W (g d) env (fun _ e => W t e (fun k e => if k = true then W elt e (fun v e => W (leak v) e (fun x e => opt (keyD x) fun kk => acc.length < sizeLine ∧ W (clr vs) e (fun _ e => Q (addK acc kk) e) E) E) (fun _ _ => False) else W (clr vs) e (fun _ e => Q acc e) E) (fun _ _ => False)) (fun _ _ => False) := by unfold W at *; exact wp_dcTurn
@[simp ↓] theorem W_mLenDc {mi : M Src} {Q : Vl → En → Prop} : W (mLenDc vs mi g t elt) env Q E ↔ W mi env (fun s e => W (dcRun vs g t elt s) e (fun ks e => Q (.d (.int ks.length)) e) E) E := by unfold W at *; exact wp_mLenDc
end
section
variable {env : En} {E : Er → En → Prop} {elt : M Vl} {t : M Bool} {g : PyData → M Unit} {vs : List Nat} {items : List PyData}
@[simp ↓] theorem W_mSaid {said : Str → Option PyData} {m : M Vl} {Q : Vl → En → Prop} : W (mSaid said m) env Q E ↔ W m env (fun _ e => Q (.d (.str "let")) e) (fun x e => x.arg = none ∧ opt (said x.cls) fun z => Q (.d z) e) := by unfold W at *; exact wp_mSaid
@[simp ↓] theorem W_mLstRg {m : M Vl} {Q : List PyData → En → Prop} : W (mLstRg m) env Q E ↔ W m env (fun v e => match v with
  | .d (.int j) => (0 ≤ j ∧ j ≤ 16777216) ∧ Q ((List.range j.toNat).map fun i => .int (0 + (i : Nat))) e
  | _ => False) E := by unfold W at *; exact wp_mLstRg
end
end DL
end

/- EW2 -/
section
set_option maxHeartbeats 4000000
namespace DL
open PySem PySem.Spec PyProof.Rows L2

/-! ### steps, promises, loops -/
section
variable {α β : Type} {env : En} {E : Er → En → Prop}
theorem W_mono {Q Q' : β → En → Prop} {E' : Er → En → Prop} {m : M β} (h : W m env Q E) (q : ∀ v e, Q v e → Q' v e) (r : ∀ v e, E v e → E' v e) : W m env Q' E' := by unfold W at *; exact wp_mono h q r
theorem W_imp {Q Q' : β → En → Prop} {m : M β} (h : W m env Q fun _ _ => False) (q : ∀ v e, Q v e → Q' v e) : W m env Q' E := by unfold W at *; exact wp_mono h q fun _ _ z => z.elim
theorem W_ok {Q : β → En → Prop} {m : M β} (h : W m env Q (fun _ _ => False)) : ∃ v env', m env = .ok v env' ∧ Q v env' := by unfold W at *; exact wp_ok h
theorem W_of {Q : β → En → Prop} {m : M β} {v : β} {env' : En} (h : m env = .ok v env') (q : Q v env') : W m env Q E := by unfold W at *; exact wp_of h q
/-- one statement, what follows kept out of sight -/
theorem W_step {st st' : M Fl} {Q : Fl → En → Prop} (h : ∀ K : Fl → En → Prop, (∀ e, W st' e Q E → K .next e) → (∀ v e, Q (.ret v) e → K (.ret v) e) → (∀ e, Q .brk e → K .brk e) → (∀ e, Q .cont e → K .cont e) → W st env K E) : W (sSeq st st') env Q E := by
  rw [W_sSeq]
  exact h (fun fl e => match fl with
    | .next => W st' e Q E
    | fl => Q fl e) (fun _ z => z) (fun _ _ z => z) (fun _ z => z) (fun _ z => z)
/-- one statement that ends in a known way -/
theorem W_cut {st st' : M Fl} {Q : Fl → En → Prop} (P : En → Prop) (h : W st env (fun fl e => fl = .next ∧ P e) E) (h' : ∀ e, P e → W st' e Q E) : W (sSeq st st') env Q E := by
  rw [W_sSeq]
  exact W_mono h (fun fl e ⟨a, b⟩ => by subst a; exact h' e b) fun _ _ z => z
/-! what a slot may be -/
def free : Option (Option EV) → Prop
  | some (some (.own true _)) => False
  | _ => True
@[simp] theorem free_none : free (some none) := trivial
@[simp] theorem free_no : free none := trivial
@[simp] theorem free_d {x : PyData} : free (some (some (.d x))) := trivial
@[simp] theorem free_x {x : V} : free (some (some (.x x))) := trivial
@[simp] theorem free_own {x : OO} : free (some (some (.own false x))) := trivial
@[simp] theorem free_lent {x : OO} : free (some (some (.own true x))) ↔ False := Iff.rfl
@[simp] theorem free_map {x : Option PyData} : free (some (x.map .d)) := by cases x <;> trivial
@[simp] theorem free_mapO {x : Option OO} : free (some (x.map (.own false))) := by cases x <;> trivial
@[simp ↓ high] theorem W_stoF {i : Nat} {ev : EV} {Q : Unit → En → Prop} : W (sto i ev) env Q E ↔ free env[i]? ∧ Q () (env.set i (some ev)) := by
  rw [W_sto]
  cases env[i]? with
  | none => simp [free]
  | some o => cases o with
    | none => simp [free]
    | some e => cases e with
      | own b ds => cases b <;> simp [free]
      | _ => simp [free]
def nown : Option (Option EV) → Bool
  | some (some (.own _ _)) => false
  | _ => true
@[simp] theorem nown_none : nown (some none) = true := rfl
@[simp] theorem nown_no : nown none = true := rfl
@[simp] theorem nown_d {x : PyData} : nown (some (some (.d x))) = true := rfl
@[simp] theorem nown_own {b : Bool} {x : OO} : nown (some (some (.own b x))) = false := rfl
@[simp] theorem nown_map {x : Option PyData} : nown (some (x.map .d)) = true := by cases x <;> rfl
@[simp] theorem noOwn_nil {env : En} : noOwn [] env = true := rfl
@[simp] theorem noOwn_cons {v : Nat} {vs : List Nat} {env : En} : noOwn (v :: vs) env = (nown env[v]? && noOwn vs env) := by
  unfold noOwn
  rw [List.all_cons]
  congr 1
@[simp] theorem wipeE_nil {env : En} : wipeE env [] = env := rfl
@[simp] theorem wipeE_cons {v : Nat} {vs : List Nat} {env : En} : wipeE env (v :: vs) = (wipeE env vs).set v none := rfl
@[simp] theorem startE_eq {n : Nat} {evs : List EV} : startE n evs = evs.map some ++ List.replicate (n - evs.length) none := rfl
/-! promises as equations -/
theorem fin_ans {np n : Nat} {f : M Fl} {evs : List EV} {r : RVl} (h : W f (startE n evs) (fun fl _ => fl = .ret r) (fun _ _ => False)) (hn : evs.length = np) : fin np f n evs none = M.pure r := by
  obtain ⟨v, e', h1, rfl⟩ := W_ok h
  funext env
  unfold fin
  rw [if_pos hn, h1]
  rfl
theorem fin_don {np n : Nat} {f : M Fl} {evs : List EV} (h : W f (startE n evs) (fun fl _ => fl = .next) (fun _ _ => False)) (hn : evs.length = np) : fin np f n evs none = M.pure (.d .none) := by
  obtain ⟨v, e', h1, rfl⟩ := W_ok h
  funext env
  unfold fin
  rw [if_pos hn, h1]
  rfl
def M.err {α : Type} (x : Er) : M α := fun env => .err x env
theorem fin_err {np n : Nat} {f : M Fl} {evs : List EV} {x : Er} (h : W f (startE n evs) (fun _ _ => False) (fun e _ => e = x)) (hn : evs.length = np) : fin np f n evs none = M.err x := by
  funext env
  unfold W wp at h
  unfold fin
  rw [if_pos hn]
  cases e : f (startE n evs) with
  | ok v e' => rw [e] at h; exact h.elim
  | err y e' => rw [e] at h; subst h; rfl
  | stuck => rw [e] at h; exact h.elim
@[simp ↓] theorem W_err {x : Er} {Q : α → En → Prop} : W (M.err x : M α) env Q E ↔ E x env := by unfold W; exact Iff.rfl
/-- a check: it passes, or it raises -/
def M.chk (c : Bool) (x : Str) : M RVl := if c then M.pure (.d .none) else M.err ⟨x, none⟩
@[simp ↓] theorem W_chk {c : Bool} {x : Str} {Q : RVl → En → Prop} : W (M.chk c x) env Q E ↔ if c = true then Q (.d .none) env else E ⟨x, none⟩ env := by
  unfold M.chk
  cases c <;> simp
theorem fin_chk {np n : Nat} {f : M Fl} {evs : List EV} {c : Bool} {x : Str} (h : W f (startE n evs) (fun fl _ => fl = .next ∧ c = true) (fun e _ => e = ⟨x, none⟩ ∧ c = false)) (hn : evs.length = np) : fin np f n evs none = M.chk c x := by
  unfold M.chk
  cases c with
  | true => exact fin_don (W_mono h (fun _ _ z => z.1) fun _ _ z => by cases z.2) hn
  | false => exact fin_err (W_mono h (fun _ _ z => by cases z.2) fun _ _ z => z.1) hn
theorem fin_of_ans {np n : Nat} {f : M Fl} {evs : List EV} {r : PyData} (h : Ans f n evs r) (hn : evs.length = np) : fin np f n evs none = M.pure (.d r) := by
  obtain ⟨e', h1⟩ := h
  funext env
  unfold fin
  rw [if_pos hn, h1]
  rfl
/-! loops -/
theorem W_for {g : PyData → M Unit} {st : M Fl} {ds : List PyData} {Q : Fl → En → Prop} (I : Nat → En → Prop) (h0 : I 0 env) (hs : ∀ i d e, ds[i]? = some d → I i e → W (g d) e (fun _ e => W st e (fun fl e => match fl with
  | .next => I (i + 1) e
  | .cont => I (i + 1) e
  | .brk => Q .next e
  | .ret v => Q (.ret v) e) E) (fun _ _ => False)) (hd : ∀ e, I ds.length e → Q .next e) : W (forL g st ds) env Q E := by unfold W at *; exact wp_for I h0 hs hd
/-- a loop over things laid as data; I speaks of those that are done -/
theorem W_forM {γ : Type} {g : PyData → M Unit} {st : M Fl} {xs : List γ} {enc : γ → PyData} {Q : Fl → En → Prop} (I : List γ → En → Prop) (h0 : I [] env) (hs : ∀ pre x post e, xs = pre ++ x :: post → I pre e → W (g (enc x)) e (fun _ e => W st e (fun fl e => match fl with
  | .next => I (pre ++ [x]) e
  | .cont => I (pre ++ [x]) e
  | .brk => Q .next e
  | .ret v => Q (.ret v) e) E) (fun _ _ => False)) (hd : ∀ e, I xs e → Q .next e) : W (forL g st (xs.map enc)) env Q E := by
  refine W_for (fun i e => I (xs.take i) e) (by simpa using h0) (fun i d e hd hI => ?_) (fun e hI => hd e (by simpa using hI))
  rw [List.getElem?_map] at hd
  cases q : xs[i]? with
  | none => rw [q] at hd; cases hd
  | some x =>
    rw [q] at hd
    cases hd
    have hi := (List.getElem?_eq_some_iff.mp q).1
    have e1 : xs = xs.take i ++ x :: xs.drop (i + 1) := by
      have h3 := (List.getElem?_eq_some_iff.mp q).2
      rw [← h3, ← List.drop_eq_getElem_cons hi, List.take_append_drop]
    have e2 : xs.take (i + 1) = xs.take i ++ [x] := by rw [List.take_add_one, q]; rfl
    have := hs _ x _ e e1 hI
    rw [← e2] at this
    exact this
theorem W_lc_fm {γ : Type} {vs : List Nat} {g : PyData → M Unit} {t : M Bool} {elt : M Vl} {xs : List γ} {enc : γ → PyData} {Q : List PyData → En → Prop} (p : γ → Bool) (f : γ → PyData) (hv : noOwn vs env = true) (hl : xs.length ≤ sizeLine)
    (hs : ∀ x ∈ xs, W (g (enc x)) (wipeE env vs) (fun _ e => W t e (fun k e => k = p x ∧ ((p x = true → W elt e (fun v e => W (leak v) e (fun d e => d = f x ∧ noOwn vs e = true ∧ wipeE e vs = wipeE env vs) fun _ _ => False) fun _ _ => False) ∧ (p x = false → noOwn vs e = true ∧ wipeE e vs = wipeE env vs))) fun _ _ => False) fun _ _ => False)
    (q : Q ((xs.filter p).map f) env) : W (lcRun vs g t elt (.fix (xs.map enc))) env Q E := by
  unfold W at hs ⊢
  refine wp_lc (fun i acc e => i ≤ xs.length ∧ acc = ((xs.take i).filter p).map f ∧ e = wipeE env vs) hv ⟨Nat.zero_le _, by simp, rfl⟩ (fun i d acc e hd hI => ?_) (fun acc e hI => ?_)
  · obtain ⟨h1, rfl, rfl⟩ := hI
    rw [List.getElem?_map] at hd
    cases q : xs[i]? with
    | none => rw [q] at hd; cases hd
    | some x =>
      rw [q] at hd
      cases hd
      have hi := (List.getElem?_eq_some_iff.mp q).1
      have hx := List.mem_of_getElem? q
      have e2 : xs.take (i + 1) = xs.take i ++ [x] := by rw [List.take_add_one, q]; rfl
      have hlen : (((xs.take i).filter p).map f).length < sizeLine := by
        rw [List.length_map]
        have := List.length_filter_le p (xs.take i)
        rw [List.length_take] at this
        omega
      rw [wp_lcTurn]
      refine wp_mono (hs x hx) (fun _ e h => ?_) fun _ _ z => z
      refine wp_mono h (fun k e h => ?_) fun _ _ z => z
      obtain ⟨rfl, ht, hf⟩ := h
      cases hp : p x with
      | true =>
        rw [if_pos rfl]
        refine wp_mono (ht hp) (fun v e h => ?_) fun _ _ z => z
        refine wp_mono h (fun d e h => ?_) fun _ _ z => z
        obtain ⟨rfl, h3, h4⟩ := h
        refine ⟨hlen, wp_clr.mpr ⟨h3, hi, ?_, h4⟩⟩
        rw [e2, List.filter_append, List.map_append]
        simp [hp]
      | false =>
        rw [if_neg (by simp)]
        obtain ⟨h3, h4⟩ := hf hp
        refine wp_clr.mpr ⟨h3, hi, ?_, h4⟩
        rw [e2, List.filter_append, List.map_append]
        simp [hp]
  · obtain ⟨_, rfl, rfl⟩ := hI
    rw [List.length_map, List.take_length, rest_wipe]
    exact q
theorem W_lc_map {γ : Type} {vs : List Nat} {g : PyData → M Unit} {elt : M Vl} {xs : List γ} {enc : γ → PyData} {Q : List PyData → En → Prop} (f : γ → PyData) (hv : noOwn vs env = true) (hl : xs.length ≤ sizeLine)
    (hs : ∀ x ∈ xs, W (g (enc x)) (wipeE env vs) (fun _ e => W elt e (fun v e => W (leak v) e (fun d e => d = f x ∧ noOwn vs e = true ∧ wipeE e vs = wipeE env vs) fun _ _ => False) fun _ _ => False) fun _ _ => False)
    (q : Q (xs.map f) env) : W (lcRun vs g mYes elt (.fix (xs.map enc))) env Q E := by
  refine W_lc_fm (fun _ => true) f hv hl (fun x hx => W_mono (hs x hx) (fun _ e h => W_mYes.mpr ⟨rfl, fun _ => h, fun z => by cases z⟩) fun _ _ z => z) ?_
  rw [List.filter_eq_self.mpr fun _ _ => rfl]
  exact q
/-- a comprehension that changes what it leaves, by an invariant -/
theorem W_lc {vs : List Nat} {g : PyData → M Unit} {t : M Bool} {elt : M Vl} {items : List PyData} {Q : List PyData → En → Prop} (I : Nat → List PyData → En → Prop) (hv : noOwn vs env = true) (h0 : I 0 [] (wipeE env vs)) (hs : ∀ i d acc e, items[i]? = some d → I i acc e → W (lcTurn vs g t elt d acc) e (fun acc' e' => I (i + 1) acc' e') (fun _ _ => False))
    (hd : ∀ acc e, I items.length acc e → Q acc (restE env e vs)) : W (lcRun vs g t elt (.fix items)) env Q E := by unfold W at *; exact wp_lc I hv h0 hs hd
theorem W_dc_map {γ : Type} {vs : List Nat} {g : PyData → M Unit} {elt : M Vl} {xs : List γ} {enc : γ → PyData} {Q : List Key → En → Prop} (f : γ → Key) (hv : noOwn vs env = true) (hl : xs.length ≤ sizeLine)
    (hs : ∀ x ∈ xs, W (g (enc x)) (wipeE env vs) (fun _ e => W elt e (fun v e => W (leak v) e (fun d e => keyD d = some (f x) ∧ noOwn vs e = true ∧ wipeE e vs = wipeE env vs) fun _ _ => False) fun _ _ => False) fun _ _ => False)
    (q : Q (xs.foldl (fun a x => addK a (f x)) []) env) : W (dcRun vs g mYes elt (.fix (xs.map enc))) env Q E := by
  unfold W at hs ⊢
  have key : ∀ d ∈ xs.map enc, ∃ k : Key, ∀ acc : List Key, acc.length < sizeLine → wp (dcTurn vs g mYes elt d acc) (wipeE env vs) (fun acc' e' => acc' = addK acc k ∧ e' = wipeE env vs) (fun _ _ => False) := by
    intro d hd
    obtain ⟨x, hx, rfl⟩ := List.mem_map.mp hd
    refine ⟨f x, fun acc ha => ?_⟩
    rw [wp_dcTurn]
    refine wp_mono (hs x hx) (fun _ e h => ?_) fun _ _ z => z
    rw [wp_mYes, if_pos rfl]
    refine wp_mono h (fun v e h => ?_) fun _ _ z => z
    refine wp_mono h (fun d e h => ?_) fun _ _ z => z
    obtain ⟨h1, h3, h4⟩ := h
    rw [h1]
    exact ⟨ha, wp_clr.mpr ⟨h3, rfl, h4⟩⟩
  have key2 : ∀ (n i : Nat) (acc : List Key), i + n = (xs.map enc).length → acc.length ≤ i → dcN (.fix (xs.map enc)) vs g mYes elt (n + 1) i acc (wipeE env vs) = .ok ((xs.drop i).foldl (fun a x => addK a (f x)) acc) (wipeE env vs) := by
    intro n
    induction n with
    | zero =>
      intro i acc hi ha
      have e0 : (xs.map enc)[i]? = none := List.getElem?_eq_none (by omega)
      show M.bind (srcAt (.fix (xs.map enc)) i) _ _ = _
      rw [M.bind_ok (show srcAt (.fix (xs.map enc)) i (wipeE env vs) = .ok (xs.map enc)[i]? (wipeE env vs) from rfl), e0, List.drop_eq_nil_of_le (by rw [List.length_map] at hi; omega)]
      rfl
    | succ n ih =>
      intro i acc hi ha
      have hlt : i < (xs.map enc).length := by omega
      have hlt' : i < xs.length := by rw [List.length_map] at hlt; exact hlt
      have e0 : (xs.map enc)[i]? = some (enc xs[i]) := by rw [List.getElem?_map, List.getElem?_eq_getElem hlt']; rfl
      have hx := hs xs[i] (List.getElem_mem hlt')
      have hacc : acc.length < sizeLine := by omega
      have ht : wp (dcTurn vs g mYes elt (enc xs[i]) acc) (wipeE env vs) (fun acc' e' => acc' = addK acc (f xs[i]) ∧ e' = wipeE env vs) (fun _ _ => False) := by
        rw [wp_dcTurn]
        refine wp_mono hx (fun _ e h => ?_) fun _ _ z => z
        rw [wp_mYes, if_pos rfl]
        refine wp_mono h (fun v e h => ?_) fun _ _ z => z
        refine wp_mono h (fun d e h => ?_) fun _ _ z => z
        obtain ⟨h1, h3, h4⟩ := h
        rw [h1]
        exact ⟨hacc, wp_clr.mpr ⟨h3, rfl, h4⟩⟩
      obtain ⟨acc', e', h1, rfl, rfl⟩ := wp_ok ht
      show M.bind (srcAt (.fix (xs.map enc)) i) _ _ = _
      rw [M.bind_ok (show srcAt (.fix (xs.map enc)) i (wipeE env vs) = .ok (xs.map enc)[i]? (wipeE env vs) from rfl), e0]
      show M.bind (dcTurn vs g mYes elt (enc xs[i]) acc) _ _ = _
      rw [M.bind_ok h1, List.drop_eq_getElem_cons hlt', List.foldl_cons]
      have := addK_len acc (f xs[i])
      exact ih (i + 1) _ (by omega) (by omega)
  have hc : clr vs env = .ok () (wipeE env vs) := by unfold clr; rw [if_pos hv]
  have : dcRun vs g mYes elt (.fix (xs.map enc)) env = .ok (xs.foldl (fun a x => addK a (f x)) []) env := by
    unfold dcRun
    rw [show srcLen (.fix (xs.map enc)) env = .ok (xs.map enc).length env from rfl]
    dsimp only
    rw [M.bind_ok hc, key2 (xs.map enc).length 0 [] (by omega) (Nat.zero_le _)]
    simp only [List.drop_zero, rest_wipe]
  exact wp_of this q
theorem W_while {c : M Bool} {b : M Fl} {Q : Fl → En → Prop} (I : Nat → En → Prop) (hs : ∀ k e, I k e → W c e (fun r e => if r = true then W b e (fun fl e => match fl with
  | .next => ∃ j, j < k ∧ I j e
  | .cont => ∃ j, j < k ∧ I j e
  | .brk => Q .next e
  | .ret v => Q (.ret v) e) E else Q .next e) E) (n k : Nat) (env : En) (h : k < n) (h0 : I k env) : W (whileN c b n) env Q E := by unfold W at *; exact wp_while I hs n k env h h0
end
/-! ### equality -/
theorem gEq_self {d : PyData} (h : SeqAt.shaped d = true) : gEq d d = some (.bool true) := by
  have h1 : d.canLay0 = true := by
    unfold SeqAt.shaped at h
    rw [Bool.and_eq_true] at h
    exact h.1
  unfold gEq
  rw [h, PySem.SeqAt.eqv_refl d h1]
  rfl
theorem gNe_self {d : PyData} (h : SeqAt.shaped d = true) : gNe d d = some (.bool false) := by
  have h1 : d.canLay0 = true := by
    unfold SeqAt.shaped at h
    rw [Bool.and_eq_true] at h
    exact h.1
  unfold gNe
  rw [h, PySem.SeqAt.eqv_refl d h1]
  rfl
end DL
end

/- EW3 -/
section
set_option maxHeartbeats 4000000
namespace DL
open PySem PySem.Spec PyProof.Rows L2

/-! ### data that can be compared -/
def Lay (n : Nat) (d : PyData) : Prop := d.canLay0 = true ∧ d.depth ≤ n
theorem Lay.mono {n m : Nat} {d : PyData} (h : Lay n d) (hm : n ≤ m) : Lay m d := ⟨h.1, Nat.le_trans h.2 hm⟩
@[simp] theorem lay_int {n : Nat} {i : Int} : Lay n (.int i) := ⟨by simp [PyData.canLay0], by simp [PyData.depth]⟩
@[simp] theorem lay_bool {n : Nat} {i : Bool} : Lay n (.bool i) := ⟨by simp [PyData.canLay0], by simp [PyData.depth]⟩
@[simp] theorem lay_str {n : Nat} {i : Str} : Lay n (.str i) ↔ PyData.strOk i = true := ⟨fun h => by have := h.1; simpa [PyData.canLay0] using this, fun h => ⟨by simpa [PyData.canLay0] using h, by simp [PyData.depth]⟩⟩
@[simp] theorem lay_none {n : Nat} : Lay n .none := ⟨by simp [PyData.canLay0], by simp [PyData.depth]⟩
theorem lay_alls {n : Nat} : ∀ {xs : List PyData}, (∀ x ∈ xs, Lay n x) → PyData.canLayAll0 xs = true ∧ PyData.depthAll xs ≤ n
  | [], _ => ⟨rfl, Nat.zero_le _⟩
  | x :: xs, h => by
    obtain ⟨a, b⟩ := lay_alls (xs := xs) fun y hy => h y (List.mem_cons_of_mem _ hy)
    obtain ⟨c, d⟩ := h x List.mem_cons_self
    refine ⟨by simp [PyData.canLayAll0, a, c], ?_⟩
    rw [PyData.depthAll]
    exact Nat.max_le.mpr ⟨d, b⟩
theorem lay_tuple {n : Nat} {xs : List PyData} (h : ∀ x ∈ xs, Lay n x) : Lay (n + 1) (.tuple xs) := by
  obtain ⟨a, b⟩ := lay_alls h
  refine ⟨by simp [PyData.canLay0, a], ?_⟩
  rw [PyData.depth]
  omega
theorem lay_list {n : Nat} {xs : List PyData} (h : ∀ x ∈ xs, Lay n x) : Lay (n + 1) (.list xs) := by
  obtain ⟨a, b⟩ := lay_alls h
  refine ⟨by simp [PyData.canLay0, a], ?_⟩
  rw [PyData.depth]
  omega
@[simp] theorem lay_tuple_iff {n : Nat} {xs : List PyData} : Lay (n + 1) (.tuple xs) ↔ ∀ x ∈ xs, Lay n x := by
  refine ⟨fun h => ?_, lay_tuple⟩
  obtain ⟨a, b⟩ := h
  have a' : PyData.canLayAll0 xs = true := by simpa [PyData.canLay0] using a
  have b' : PyData.depthAll xs ≤ n := by
    rw [PyData.depth] at b
    omega
  clear a b
  induction xs with
  | nil => simp
  | cons x xs ih =>
    have h1 : x.canLay0 = true ∧ PyData.canLayAll0 xs = true := by simpa [PyData.canLayAll0] using a'
    rw [PyData.depthAll] at b'
    have h2 := Nat.max_le.mp b'
    intro y hy
    rcases List.mem_cons.mp hy with rfl | hy
    · exact ⟨h1.1, h2.1⟩
    · exact ih h1.2 h2.2 y hy
@[simp] theorem lay_list_iff {n : Nat} {xs : List PyData} : Lay (n + 1) (.list xs) ↔ ∀ x ∈ xs, Lay n x := by
  have : Lay (n + 1) (.list xs) ↔ Lay (n + 1) (.tuple xs) := by
    unfold Lay
    rw [PyData.depth, PyData.depth]
    simp [PyData.canLay0]
  rw [this, lay_tuple_iff]
theorem Lay.shaped {n : Nat} {d : PyData} (h : Lay n d) (hn : n ≤ 64) : SeqAt.shaped d = true := by
  obtain ⟨a, b⟩ := h
  unfold SeqAt.shaped
  rw [a, decide_eq_true (Nat.le_trans b hn)]
  rfl
theorem gEq_lay {x y : PyData} (hx : Lay 60 x) (hy : Lay 60 y) : gEq x y = some (.bool (PyData.eqv x y)) := by
  unfold gEq
  rw [hx.shaped (by decide), hy.shaped (by decide)]
  rfl
theorem gNe_lay {x y : PyData} (hx : Lay 60 x) (hy : Lay 60 y) : gNe x y = some (.bool (!PyData.eqv x y)) := by
  unfold gNe
  rw [hx.shaped (by decide), hy.shaped (by decide)]
  rfl
theorem gEq_selfL {x : PyData} (hx : Lay 60 x) : gEq x x = some (.bool true) := gEq_self (hx.shaped (by decide))
theorem gNe_selfL {x : PyData} (hx : Lay 60 x) : gNe x x = some (.bool false) := gNe_self (hx.shaped (by decide))
/-! ### draws -/
/-- the hand's shape -/
def HI (ds : List PyData) : Prop := ∃ (cs : List Int) (at_ r sd ct : Int), ds = [.list (cs.map .int), .int at_, .int r, .int sd, .int ct] ∧ 0 ≤ at_ ∧ 0 ≤ r ∧ ∀ c ∈ cs, 0 ≤ c
theorem atI_nat {α : Type} {l : List α} {i : Int} (h1 : 0 ≤ i) (h2 : i < l.length) : atI l i = l[i.toNat]? := by
  unfold atI ixN
  rw [if_pos h1, if_pos h2]
  rfl
theorem HI.mk {cs : List Int} {at_ r sd ct : Int} (h1 : 0 ≤ at_) (h2 : 0 ≤ r) (h3 : ∀ c ∈ cs, 0 ≤ c) : HI [.list (cs.map .int), .int at_, .int r, .int sd, .int ct] := ⟨cs, at_, r, sd, ct, rfl, h1, h2, h3⟩
def putO (env : En) (i : Nat) (es : List PyData) : En := match env[i]? with
  | some (some (.own b _)) => env.set i (some (.own b (.l es)))
  | _ => env
theorem putO_own {env : En} {i : Nat} {b : Bool} {ds es : List PyData} (h : env[i]? = some (some (.own b (.l ds)))) : putO env i es = env.set i (some (.own b (.l es))) := by
  unfold putO
  rw [h]
theorem back_put {env e : En} {i j : Nat} {c : Bool} {es : List PyData} (e0 : e[j]? = some (some (.own c (.l es)))) : backE (some (j, i)) env e = putO env i es := by
  unfold backE putO
  dsimp only
  rw [e0]
  cases env[i]? with
  | none => rfl
  | some o => cases o with
    | none => rfl
    | some e => cases e <;> rfl
@[simp] theorem putO_zero {o : EV} {b : Bool} {ds es : List PyData} {env : En} : putO (some (.own b (.l ds)) :: env) 0 es = some (.own b (.l es)) :: env := rfl
@[simp] theorem putO_succ {o : Option EV} {i : Nat} {es : List PyData} {env : En} : putO (o :: env) (i + 1) es = o :: putO env i es := by
  unfold putO
  rw [List.getElem?_cons_succ]
  cases env[i]? with
  | none => rfl
  | some o => cases o with
    | none => rfl
    | some e => cases e <;> rfl
end DL
end

/- EL26 -/
section
set_option maxHeartbeats 4000000
namespace DL
open PySem PySem.Spec PyProof.Rows L2

/-! ### own dicts whose keys are ints and texts -/
def oAt (es : List (Key × PyData)) (k : Key) : Option PyData := (es.find? fun kv => decide (kv.1 = k)).map (·.2)
def oPut (es : List (Key × PyData)) (k : Key) (v : PyData) : List (Key × PyData) :=
  if es.any fun kv => decide (kv.1 = k) then es.map fun kv => if kv.1 = k then (kv.1, v) else kv else es ++ [(k, v)]
section
variable {K : PySem.W.Frag} {H : Hp}
theorem kv_at : ∀ {kvs : List (Key × V)} {es : List (Key × PyData)} {k : Key}, kvs.map (·.1) = es.map (·.1) → DzAll K H (kvs.map (·.2)) (es.map (·.2)) →
    match oAt es k with
    | some d => ∃ v, valV kvs k = some v ∧ Dz K H v d
    | none => valV kvs k = none
  | [], [], _, _, _ => rfl
  | [], _ :: _, _, h, _ => by simp at h
  | _ :: _, [], _, h, _ => by simp at h
  | p :: kvs, q :: es, k, h, z => by
    simp only [List.map_cons, List.cons.injEq] at h
    cases z with
    | cons z1 z2 =>
      by_cases e : q.1 = k
      · have e1 : oAt (q :: es) k = some q.2 := by unfold oAt; rw [List.find?_cons, decide_eq_true e]; rfl
        rw [e1]
        exact ⟨p.2, valV_pos (h.1.trans e), z1⟩
      · have e1 : oAt (q :: es) k = oAt es k := by unfold oAt; rw [List.find?_cons, decide_eq_false e]
        rw [e1]
        have := kv_at (k := k) h.2 z2
        have e2 : valV (p :: kvs) k = valV kvs k := valV_neg (by rw [h.1]; exact e)
        rw [e2]
        exact this
theorem kv_any {kvs : List (Key × V)} {es : List (Key × PyData)} {k : Key} (h : kvs.map (·.1) = es.map (·.1)) : (kvs.any fun kv => decide (kv.1 = k)) = es.any fun kv => decide (kv.1 = k) := by
  have e1 : (kvs.any fun kv => decide (kv.1 = k)) = (kvs.map (·.1)).any fun x => decide (x = k) := by rw [List.any_map]; rfl
  have e2 : (es.any fun kv => decide (kv.1 = k)) = (es.map (·.1)).any fun x => decide (x = k) := by rw [List.any_map]; rfl
  rw [e1, e2, h]
theorem kv_put {kvs : List (Key × V)} {es : List (Key × PyData)} {k : Key} {v : V} {d : PyData} (h : kvs.map (·.1) = es.map (·.1)) (z : DzAll K H (kvs.map (·.2)) (es.map (·.2))) (hv : Dz K H v d) :
    OOR K H (.dK (putK kvs k v)) (.k (oPut es k d)) := by
  have ha := kv_any (k := k) h
  unfold putK oPut
  rw [ha]
  cases hb : es.any fun kv => decide (kv.1 = k) with
  | true =>
    simp only [if_true]
    clear ha hb
    constructor
    · have e1 : (kvs.map fun kv => if kv.1 = k then (kv.1, v) else kv).map (·.1) = kvs.map (·.1) := by
        rw [List.map_map]
        apply List.map_congr_left
        intro x _
        show (if x.1 = k then (x.1, v) else x).1 = x.1
        split <;> rfl
      have e2 : (es.map fun kv => if kv.1 = k then (kv.1, d) else kv).map (·.1) = es.map (·.1) := by
        rw [List.map_map]
        apply List.map_congr_left
        intro x _
        show (if x.1 = k then (x.1, d) else x).1 = x.1
        split <;> rfl
      rw [e1, e2, h]
    · induction kvs generalizing es with
      | nil =>
        cases es with
        | nil => exact .nil
        | cons _ _ => simp at h
      | cons p kvs ih =>
        cases es with
        | nil => simp at h
        | cons q es =>
          simp only [List.map_cons, List.cons.injEq] at h
          cases z with
          | cons z1 z2 =>
            simp only [List.map_cons]
            refine .cons ?_ (ih h.2 z2)
            rw [h.1]
            by_cases e : q.1 = k
            · rw [if_pos e, if_pos e]; exact hv
            · rw [if_neg e, if_neg e]; exact z1
  | false =>
    simp only [Bool.false_eq_true, if_false]
    exact ⟨by rw [List.map_append, List.map_append, h]; rfl, by rw [List.map_append, List.map_append]; exact z.append (.cons hv .nil)⟩
theorem kv_len {kvs : List (Key × V)} {es : List (Key × PyData)} (h : kvs.map (·.1) = es.map (·.1)) : kvs.length = es.length := by
  have := congrArg List.length h
  rwa [List.length_map, List.length_map] at this
end
def dictAt (i : Nat) : M (List (Key × PyData)) := fun env => match env[i]? with
  | some (some (.own _ (.k es))) => .ok es env
  | _ => .stuck
def keyOf (m : M Vl) : M Key := M.bind m fun v => M.bind v.get fun d => M.opt (keyD d)
/-- d[k], d a name -/
def mDGet (i : Nat) (mk : M Vl) : M Vl := M.bind (dictAt i) fun _ => M.bind (keyOf mk) fun k => M.bind (dictAt i) fun es => M.opt ((oAt es k).map .d)
def mDIn (i : Nat) (mk : M Vl) : M Vl := M.bind (keyOf mk) fun k => M.bind (dictAt i) fun es => M.pure (.d (.bool (oAt es k).isSome))
def mDNotIn (i : Nat) (mk : M Vl) : M Vl := M.bind (keyOf mk) fun k => M.bind (dictAt i) fun es => M.pure (.d (.bool (!(oAt es k).isSome)))
def mDGet1 (i : Nat) (mk : M Vl) : M Vl := M.bind (dictAt i) fun _ => M.bind (keyOf mk) fun k => M.bind (dictAt i) fun es => M.pure (.d ((oAt es k).getD .none))
/-- data alone -/
def Vl.dat : Vl → M PyData
  | .d x => M.pure x
  | .sl _ => M.stuck
def mDGet2 (i : Nat) (mk : M Vl) (md : M Vl) : M Vl := M.bind (dictAt i) fun _ => M.bind (keyOf mk) fun k => M.bind md fun v => M.bind v.dat fun d => M.bind (dictAt i) fun es => M.pure (.d ((oAt es k).getD d))
def mDict0 : M OO := M.pure (.k [])
def dPut (i : Nat) (k : Key) (d : PyData) : M Unit := fun env => match env[i]? with
  | some (some (.own b (.k es))) => if es.length < sizeLine then .ok () (env.set i (some (.own b (.k (oPut es k d))))) else .stuck
  | _ => .stuck
/-- d[k] = v -/
def sDPut (i : Nat) (mk mv : M Vl) : M Fl := M.bind mv fun v => M.bind (leak v) fun d => M.bind (dictAt i) fun _ => M.bind (keyOf mk) fun k => M.bind (dPut i k d) fun _ => sNext
section
variable {X : Cx} {C : Ct} {T : List (Addr × Str)} {W : WX} {σ : L2.St} {H : Hp} {env : En} {α β : Type}
theorem dictAt_ok {i : Nat} {env env' : En} {es : List (Key × PyData)} (e : dictAt i env = .ok es env') : env' = env ∧ ∃ b, env[i]? = some (some (.own b (.k es))) := by
  unfold dictAt at e
  split at e
  · rename_i b es' h
    cases e
    exact ⟨rfl, b, h⟩
  · cases e
theorem dictAt_noerr {i : Nat} {env env' : En} {x : Er} : dictAt i env ≠ .err x env' := by
  unfold dictAt
  split <;> exact fun z => by cases z
theorem Rel.ownK {K : PySem.W.Frag} (r : Rel K C H σ env) (i : Nat) (b : Bool) (es : List (Key × PyData)) (h : env[i]? = some (some (.own b (.k es)))) : ∃ a kvs, σ[i]? = some (some (.ref a)) ∧ H a = some (.dK kvs) ∧ kvs.map (·.1) = es.map (·.1) ∧ DzAll K H (kvs.map (·.2)) (es.map (·.2)) ∧ (if b then C.bk i = some a else Nk C.H0 a) ∧ C.P a = none := by
  obtain ⟨a, ho, h1, h2, h3, h4⟩ := r.own i b _ h
  obtain ⟨kvs, rfl, h5, h6⟩ := h3.dk
  exact ⟨a, kvs, h1, h2, h5, h6, h4⟩
theorem Lf.dictAt {RV : β → Hp → α → En → Prop} {k : List (Key × PyData) → M α} {Q : β → Hp → Prop} {i : Nat} (h : Lf X.K X.mg C W σ H RV (M.bind (DL.dictAt i) k env) Q) (r : Rel X.K C H σ env) :
    ∃ es b a kvs, env[i]? = some (some (.own b (.k es))) ∧ σ[i]? = some (some (.ref a)) ∧ H a = some (.dK kvs) ∧ kvs.map (·.1) = es.map (·.1) ∧ DzAll X.K H (kvs.map (·.2)) (es.map (·.2)) ∧ Lf X.K X.mg C W σ H RV (k es env) Q := by
  cases e : DL.dictAt i env with
  | ok es env' =>
    rw [M.bind_ok e] at h
    obtain ⟨rfl, b, hi⟩ := dictAt_ok e
    obtain ⟨a, kvs, h1, h2, h3, h4, _⟩ := r.ownK i b es hi
    exact ⟨es, b, a, kvs, hi, h1, h2, h3, h4, h⟩
  | err x env' => exact absurd e dictAt_noerr
  | stuck => rw [M.bind_stuck e] at h; exact h.elim
theorem Lf.keyOf {RV : β → Hp → α → En → Prop} {k : Key → M α} {Q : β → Hp → Prop} {Q1 : V → Hp → Prop} {m : M Vl} (h : Lf X.K X.mg C W σ H RV (M.bind (DL.keyOf m) k env) Q)
    (q : ∀ H1 kk env', Rel X.K C H1 σ env' → Le H H1 → Lf X.K X.mg C W σ H1 RV (k kk env') Q → Q1 (kV kk) H1) : Lf X.K X.mg C W σ H (fun u H v _ => VR X.K σ u H v) (m env) Q1 := by
  have e0 : M.bind (DL.keyOf m) k = M.bind m fun v => M.bind v.get fun d => M.bind (M.opt (keyD d)) k := by
    funext e
    unfold DL.keyOf M.bind
    dsimp only
    cases m e with
    | ok v e1 =>
      dsimp only
      cases v.get e1 <;> rfl
    | err _ _ => rfl
    | stuck => rfl
  rw [e0] at h
  refine Lf.bind h fun u H1 v env1 r1 hv l1 h1 => ?_
  obtain ⟨d, z, h2⟩ := Lf.get h1 r1 hv
  obtain ⟨kk, e, h3⟩ := Lf.optB h2
  have : u = kV kk := by
    cases d with
    | int i => cases e; exact z.int
    | str x => cases e; exact z.str
    | _ => cases e
  subst this
  exact q H1 kk env1 r1 l1 h3
theorem Sf.dictAt {k : List (Key × PyData) → M Fl} {D : Ends} {i : Nat} (h : Sf X.K X.mg C W H (M.bind (DL.dictAt i) k env) D) (r : Rel X.K C H σ env) :
    ∃ es b a kvs, env[i]? = some (some (.own b (.k es))) ∧ σ[i]? = some (some (.ref a)) ∧ H a = some (.dK kvs) ∧ kvs.map (·.1) = es.map (·.1) ∧ DzAll X.K H (kvs.map (·.2)) (es.map (·.2)) ∧ Sf X.K X.mg C W H (k es env) D := by
  cases e : DL.dictAt i env with
  | ok es env' =>
    rw [M.bind_ok e] at h
    obtain ⟨rfl, b, hi⟩ := dictAt_ok e
    obtain ⟨a, kvs, h1, h2, h3, h4, _⟩ := r.ownK i b es hi
    exact ⟨es, b, a, kvs, hi, h1, h2, h3, h4, h⟩
  | err x env' => exact absurd e dictAt_noerr
  | stuck => rw [M.bind_stuck e] at h; exact h.elim
theorem Sf.keyOf {k : Key → M Fl} {D : Ends} {Q1 : V → Hp → Prop} {m : M Vl} (h : Sf X.K X.mg C W H (M.bind (DL.keyOf m) k env) D)
    (q : ∀ H1 kk env', Rel X.K C H1 σ env' → Le H H1 → Sf X.K X.mg C W H1 (k kk env') D → Q1 (kV kk) H1) : Lf X.K X.mg C W σ H (fun u H v _ => VR X.K σ u H v) (m env) Q1 := by
  have e0 : M.bind (DL.keyOf m) k = M.bind m fun v => M.bind v.get fun d => M.bind (M.opt (keyD d)) k := by
    funext e
    unfold DL.keyOf M.bind
    dsimp only
    cases m e with
    | ok v e1 =>
      dsimp only
      cases v.get e1 <;> rfl
    | err _ _ => rfl
    | stuck => rfl
  rw [e0] at h
  refine Sf.bind h fun u H1 v env1 r1 hv l1 h1 => ?_
  cases e : v.get env1 with
  | stuck => rw [M.bind_stuck e] at h1; exact h1.elim
  | err y env2 =>
    cases v with
    | d x => cases e
    | sl j =>
      unfold Vl.get at e
      dsimp only at e
      split at e <;> cases e
  | ok d env2 =>
    rw [M.bind_ok e] at h1
    have hz : env2 = env1 ∧ ∀ kk, keyD d = some kk → u = kV kk := by
      cases v with
      | d x => cases e; exact ⟨rfl, fun kk e => keyD_dz hv e⟩
      | sl j =>
        unfold Vl.get at e
        dsimp only at e
        split at e
        · cases e; exact ⟨rfl, fun kk e => by cases e⟩
        · cases e
    obtain ⟨rfl, hz⟩ := hz
    cases e2 : keyD d with
    | none => rw [e2] at h1; exact h1.elim
    | some kk =>
      rw [e2] at h1
      have := hz kk e2
      subst this
      exact q H1 kk env2 r1 l1 h1
theorem dPut_ok {i : Nat} {k : Key} {d : PyData} {env env' : En} (e : dPut i k d env = .ok () env') : ∃ b es, env[i]? = some (some (.own b (.k es))) ∧ es.length < sizeLine ∧ env' = env.set i (some (.own b (.k (oPut es k d)))) := by
  unfold dPut at e
  split at e
  · rename_i b es h
    split at e
    · rename_i hl
      cases e
      exact ⟨b, es, h, hl, rfl⟩
    · cases e
  · cases e
theorem dPut_noerr {i : Nat} {k : Key} {d : PyData} {env env' : En} {x : Er} : dPut i k d env ≠ .err x env' := by
  unfold dPut
  split
  · split <;> exact fun z => by cases z
  · exact fun z => by cases z
theorem same_slot {a a' : Addr} {i : Nat} {σ : L2.St} (h : σ[i]? = some (some (.ref a))) (h' : σ[i]? = some (some (.ref a'))) : a' = a := by
  rw [h] at h'
  cases h'
  rfl
end
section
variable {X : Cx} {T : List (Addr × Str)} {W : WX} {i : Nat} {x : Str} {k : Expr} {mk : M Vl} {pos pos' : Pos}
theorem de_dget (hu : X.A.units + 1 < cLine) (hN : X.N[i]? = some x) (hv : Vis X.env.scope x) (hk : DE X T W k mk) (hs : NoSl k)
    (hd : (x == ("__debug__" : Str)) = false := by decide) (hcd : (x == ("__classdict__" : Str)) = false := by decide) : DE X T W (.Subscript (.Name x pos') k pos) (mDGet i mk) := by
  refine ⟨fun C hC => ⟨fun pins s σ H Q I h => (pe_dget hu (pe_var (pos := pos') hN hv hd hcd) (hk.pe C hC) hs).run pins s σ H Q I ?_⟩⟩
  obtain ⟨env, r, h⟩ := h
  obtain ⟨es, b, a, kvs, _, h1, _, _, _, h⟩ := Lf.dictAt h r
  refine ⟨.ref a, h1, env, r, Lf.keyOf h fun H1 kk env1 r1 l1 h2 => ?_⟩
  obtain ⟨es, b, a', kvs, _, g1, g2, g3, g4, h⟩ := Lf.dictAt h2 r1
  obtain rfl := same_slot h1 g1
  have := kv_at (k := kk) g3 g4
  cases e : oAt es kk with
  | none => rw [e] at h; exact h.elim
  | some d =>
    rw [e] at h this
    obtain ⟨v, e1, e2⟩ := this
    exact ⟨a', v, rfl, .inl ⟨kvs, kk, .inl g2, rfl, e1.symm⟩, h v H1 r1 e2 (.refl _)⟩
theorem de_din (hu : X.A.units + 1 < cLine) (hN : X.N[i]? = some x) (hv : Vis X.env.scope x) (hk : DE X T W k mk)
    (hd : (x == ("__debug__" : Str)) = false := by decide) (hcd : (x == ("__classdict__" : Str)) = false := by decide) : DE X T W (.Compare k [.In] [.Name x pos'] pos) (mDIn i mk) := by
  refine ⟨fun C hC => ⟨fun pins s σ H Q I h => (pe_cmp (pc_din hu (hk.pe C hC) (pe_var (pos := pos') hN hv hd hcd)) (by rfl)).run pins s σ H Q I ?_⟩⟩
  obtain ⟨env, r, h⟩ := h
  refine ⟨env, r, Lf.keyOf h fun H1 kk env1 r1 l1 h2 => ?_⟩
  obtain ⟨es, b, a, kvs, _, g1, g2, g3, g4, h⟩ := Lf.dictAt h2 r1
  have := kv_at (k := kk) g3 g4
  have e0 : (valV kvs kk).isSome = (oAt es kk).isSome := by
    cases e : oAt es kk with
    | none => rw [e] at this; rw [show valV kvs kk = none from this]; rfl
    | some d => rw [e] at this; obtain ⟨v, e1, _⟩ := this; rw [e1]; rfl
  refine ⟨.ref a, g1, a, valV kvs kk, rfl, .inl ⟨kvs, kk, .inl g2, rfl, rfl⟩, ?_⟩
  rw [e0]
  exact h _ H1 r1 (Dz.bl _) (.refl _)
theorem de_dnotin (hu : X.A.units + 1 < cLine) (hN : X.N[i]? = some x) (hv : Vis X.env.scope x) (hk : DE X T W k mk)
    (hd : (x == ("__debug__" : Str)) = false := by decide) (hcd : (x == ("__classdict__" : Str)) = false := by decide) : DE X T W (.Compare k [.NotIn] [.Name x pos'] pos) (mDNotIn i mk) := by
  refine ⟨fun C hC => ⟨fun pins s σ H Q I h => (pe_cmp (pc_dnotin hu (hk.pe C hC) (pe_var (pos := pos') hN hv hd hcd)) (by rfl)).run pins s σ H Q I ?_⟩⟩
  obtain ⟨env, r, h⟩ := h
  refine ⟨env, r, Lf.keyOf h fun H1 kk env1 r1 l1 h2 => ?_⟩
  obtain ⟨es, b, a, kvs, _, g1, g2, g3, g4, h⟩ := Lf.dictAt h2 r1
  have := kv_at (k := kk) g3 g4
  have e0 : (valV kvs kk).isSome = (oAt es kk).isSome := by
    cases e : oAt es kk with
    | none => rw [e] at this; rw [show valV kvs kk = none from this]; rfl
    | some d => rw [e] at this; obtain ⟨v, e1, _⟩ := this; rw [e1]; rfl
  refine ⟨.ref a, g1, a, valV kvs kk, rfl, .inl ⟨kvs, kk, .inl g2, rfl, rfl⟩, ?_⟩
  rw [e0]
  exact h _ H1 r1 (Dz.bl _) (.refl _)
theorem dq_dict0 : DQ X T W (.Dict [] [] pos) mDict0 := by
  refine ⟨fun C hC => ⟨fun pins s σ H Q I h => pe_dnewK.run pins s σ H Q I ?_⟩⟩
  obtain ⟨env, r, h⟩ := h
  intro p hp
  have sm : Same H (upd H p (.dK [])) := Same.new hp
  refine h (.ref p) _ (r.grow sm) ⟨p, .dK [], rfl, upd_same, ⟨rfl, .nil⟩, r.dom p hp, r.domP hp, fun j b es q z => ?_⟩ (.same sm)
  obtain ⟨a, ys, q1, q2, _⟩ := r.own j b es q
  rw [q1] at z
  cases z
  rw [hp] at q2
  cases q2
theorem ds_dput {v : Expr} {mv : M Vl} {npos : Pos} (hu : X.A.units + 1 < cLine) (hN : X.N[i]? = some x) (hvs : Vis X.env.scope x) (hk : DE X T W k mk) (hv : DE X T W v mv)
    (hd : (x == ("__debug__" : Str)) = false := by decide) (hcd : (x == ("__classdict__" : Str)) = false := by decide)
    (hs : swapsWith v (some (.Subscript (.Name x npos) k pos')) pos.line X.env = pure false := by rfl) : DS X T W (.Assign [.Subscript (.Name x npos) k pos'] v pos) (sDPut i mk mv) := by
  refine ⟨fun C hC => ⟨fun pins s σ H D I h => (ps_dput hu (pe_var (pos := npos) hN hvs hd hcd) (hk.pe C hC) (pe_ghost (hv.pe C hC)) hs).run pins s σ H D I ?_⟩⟩
  obtain ⟨env, r, h⟩ := h
  refine ⟨env, r, Sf.bind h fun u H1 v env1 r1 hv1 l1 h1 => ?_⟩
  refine ghost_leak (P := fun u H' => tVar i σ H' fun x H2 => lift X.K X.mg C W mk σ H2 fun y H3 => ∃ a H4, x = .ref a ∧ DPut H3 a y u H4 ∧ D.nx σ H4) h1 r1 hv1 fun d env2 H2 r2' z2 l2 h2 => ?_
  obtain ⟨es, b, a, kvs, _, g1, _, _, _, h2⟩ := Sf.dictAt h2 r2'
  refine ⟨.ref a, g1, env2, r2', Sf.keyOf h2 fun H3 kk env3 r3 l3 h3 => ?_⟩
  cases e : dPut i kk d env3 with
  | stuck => rw [M.bind_stuck e] at h3; exact h3.elim
  | err y env4 => exact absurd e dPut_noerr
  | ok w env4 =>
    rw [M.bind_ok e] at h3
    obtain ⟨b', es', e1, e2, rfl⟩ := dPut_ok e
    obtain ⟨a', kvs', q1, q2, q3, q4, q5, q6⟩ := r3.ownK i b' es' e1
    obtain rfl := same_slot g1 q1
    refine ⟨a', _, rfl, .inl ⟨kvs', kk, q2, rfl, by rw [kv_len q3]; exact e2, rfl⟩, ?_⟩
    have l : Le H3 (upd H3 a' (.dK (putK kvs' kk u))) := Le.put q2
    exact h3 σ _ (Rel.putO (ys := .dK (putK kvs' kk u)) (es := .k (oPut es' kk d)) r3 e1 q1 q2 trivial (kv_put q3 q4 (Dz.le l3 d z2)) q5 q6) l
end
end DL
end

/- EL27 -/
section
set_option maxHeartbeats 4000000
namespace DL
open PySem PySem.Spec PyProof.Rows L2

/-! ### the order of data -/
def alikeB (xs : List PyData) : Bool := xs.all fun x => xs.all fun y => PySem.W.alike x y
def tupNE : PyData → Bool
  | .tuple (_ :: _) => true
  | _ => false
def notTN : PyData → Bool
  | .tuple _ => false
  | .none => false
  | _ => true
def notN : PyData → Bool
  | .none => false
  | _ => true
def sortOk (xs : List PyData) : Bool := alikeB xs && (xs.all tupNE || xs.all notTN) && decide (PyData.depthAll xs ≤ 60) && decide (xs.length ≤ sizeLine)
def sortD (xs : List PyData) : List PyData := xs.mergeSort (PySem.W.dataLe false id)
def gSortD : List PyData → Option (List PyData)
  | [.list xs] => if sortOk xs = true then some (sortD xs) else none
  | _ => none
def gCmpD (f : PyData → PyData → Bool) (x y : PyData) : Option PyData := if PySem.W.alike x y = true ∧ notN x = true ∧ x.depth ≤ 60 then some (.bool (f x y)) else none
def gOrB (g g' : PyData → PyData → Option PyData) (x y : PyData) : Option PyData := match g x y with
  | some z => some z
  | none => g' x y
abbrev gLtA := gOrB gLt (gCmpD fun x y => PySem.W.dataLt x y)
abbrev gGtA := gOrB gGt (gCmpD fun x y => PySem.W.dataLt y x)
abbrev gLeA := gOrB gLe (gCmpD fun x y => !PySem.W.dataLt y x)
abbrev gGeA := gOrB gGe (gCmpD fun x y => !PySem.W.dataLt x y)
def minOk (xs : List PyData) : Bool := alikeB xs && xs.all notN && decide (PyData.depthAll xs ≤ 60)
def gMinB (ds : List PyData) : Option PyData := match gMinA ds with
  | some z => some z
  | none => (match ds with
    | [.list (x :: xs)] => if minOk (x :: xs) = true then some (PySem.W.minD x xs) else none
    | [.tuple (x :: xs)] => if minOk (x :: xs) = true then some (PySem.W.minD x xs) else none
    | _ => none)
def gMaxB (ds : List PyData) : Option PyData := match gMaxA ds with
  | some z => some z
  | none => (match ds with
    | [.list (x :: xs)] => if minOk (x :: xs) = true then some (PySem.W.maxD x xs) else none
    | [.tuple (x :: xs)] => if minOk (x :: xs) = true then some (PySem.W.maxD x xs) else none
    | _ => none)
theorem alikeB_iff {xs : List PyData} (h : alikeB xs = true) : ∀ x ∈ xs, ∀ y ∈ xs, PySem.W.alike x y = true := by
  unfold alikeB at h
  rw [List.all_eq_true] at h
  intro x hx y hy
  have := h x hx
  rw [List.all_eq_true] at this
  exact this y hy
theorem depthAll_le : ∀ {xs : List PyData} {n : Nat}, PyData.depthAll xs ≤ n → ∀ x ∈ xs, x.depth ≤ n
  | y :: ys, n, h, x, hx => by
    rw [PyData.depthAll] at h
    have h2 := Nat.max_le.mp h
    rcases List.mem_cons.mp hx with rfl | hx
    · exact h2.1
    · exact depthAll_le h2.2 x hx
section
variable {X : Cx}
theorem o_cmpD {op : CmpOp} {f : PyData → PyData → Bool} (hu : X.A.units + 64 < cLine)
    (hr : ∀ {prog : Program} {w : World} {A : Around} {E : Value → Shared → Prop} {s : Shared} {a b : Value} {da db : PyData} {as bs : List Addr} {Q : Value → Shared → Prop}, Reads s.heap a da as → Reads s.heap b db bs → PySem.W.alike da db = true → da ≠ .none → A.units + min da.depth db.depth < cLine → Q (.bool (f da db)) s → wpAny (model prog w) A (compareOp op a b) Q E s) :
    Op2 X (compareOp op) (gCmpD f) := by
  intro pins s σ H x y v u dx dy dz I rx ry hx hy e Q q
  unfold gCmpD at e
  split at e
  · rename_i hh
    obtain ⟨h1, h2, h3⟩ := hh
    cases e
    obtain ⟨as, r1⟩ := Dp.reads I dx x v hx.dp rx
    obtain ⟨bs, r2⟩ := Dp.reads I dy y u hy.dp ry
    refine hr r1 r2 h1 (by rintro rfl; cases h2) ?_ ⟨.bl (f dx dy), H, I, rfl, q _ H (.refl H) (.bl _)⟩
    have := Nat.min_le_left dx.depth dy.depth
    omega
  · cases e
theorem o_orB {f : Value → Value → Sem Value} {g g' : PyData → PyData → Option PyData} (h : Op2 X f g) (h' : Op2 X f g') : Op2 X f (gOrB g g') := by
  intro pins s σ H x y v u dx dy dz I rx ry hx hy e Q q
  unfold gOrB at e
  cases e1 : g dx dy with
  | some z =>
    rw [e1] at e
    cases e
    exact h pins s σ H x y v u dx dy _ I rx ry hx hy e1 Q q
  | none =>
    rw [e1] at e
    exact h' pins s σ H x y v u dx dy _ I rx ry hx hy e Q q
theorem o_ltA (hu : X.A.units + 64 < cLine) : Op2 X (compareOp .Lt) gLtA := o_orB o_lt (o_cmpD hu PySem.W.lt_data)
theorem o_gtA (hu : X.A.units + 64 < cLine) : Op2 X (compareOp .Gt) gGtA := o_orB o_gt (o_cmpD hu PySem.W.gt_data)
theorem o_leA (hu : X.A.units + 64 < cLine) : Op2 X (compareOp .LtE) gLeA := o_orB o_le (o_cmpD hu PySem.W.le_data)
theorem o_geA (hu : X.A.units + 64 < cLine) : Op2 X (compareOp .GtE) gGeA := o_orB o_ge (o_cmpD hu PySem.W.ge_data)
/-- items by what they are, values and data -/
theorem rz_reads {pins : List (Addr × Obj)} {s : Shared} {σ : L2.St} {H : Hp} (I : Inv X pins σ H s) : ∀ {vs : List V} {ds : List PyData} {us : List Value}, DzAll X.K H vs ds → Vals vs us → ∃ as, ReadsAll s.heap us ds as
  | vs, ds, us, z, r => Dp.readsAll I ds vs us (DzAll.dp ds z) r
theorem c_sortD (hu : X.A.units + 65 < cLine) : CallDL X (.builtin "sorted") gSortD := by
  intro pins s σ H xs us ds d I r hz e Q q
  unfold gSortD at e
  split at e
  · rename_i es
    split at e
    · rename_i hok
      cases e
      unfold sortOk at hok
      simp only [Bool.and_eq_true, decide_eq_true_eq] at hok
      obtain ⟨⟨⟨ok1, ok2⟩, ok3⟩, ok4⟩ := hok
      obtain ⟨x, rfl, h⟩ := hz.one
      obtain ⟨a, vs, rfl, hr, hzz⟩ := h.list
      obtain ⟨u, rfl, ru⟩ := r.one
      cases ru
      obtain ⟨its, rv, pl, hsz⟩ := I.list hr.sq
      obtain ⟨as, hreads⟩ := rz_reads I hzz rv
      let bs : List (V × PyData) := vs.zip es
      have hl : vs.length = es.length := hzz.length
      have e1 : bs.map Prod.snd = es := by
        show (vs.zip es).map Prod.snd = es
        rw [List.map_snd_zip (by omega)]
      have hE : ∀ (vs : List V) (es : List PyData) (its : List Value) (as : List Addr), DzAll X.K H vs es → Vals vs its → ReadsAll s.heap its es as → PySem.W.EachIs (fun v (p : V × PyData) => (RelV p.1 v ∧ Dz X.K H p.1 p.2) ∧ ∃ as, Reads s.heap v p.2 as) its (vs.zip es) := by
        intro vs
        induction vs with
        | nil =>
          intro es its as z r _
          cases z
          cases r
          exact .nil
        | cons v vs ih =>
          intro es its as z r hr
          cases z with
          | cons z1 z2 =>
            cases r with
            | cons r1 r2 =>
              cases hr with
              | cons h1 h2 => exact .cons ⟨⟨r1, z1⟩, _, h1⟩ (ih _ _ _ z2 r2 h2)
      have hEE := hE vs es its as hzz rv hreads
      have hal : PySem.W.AllAlike (bs.map Prod.snd) := by
        rw [e1]
        exact fun x hx y hy => alikeB_iff ok1 x hx y hy
      have hk : PySem.W.Sortable (bs.map Prod.snd) := by
        rw [e1]
        rw [Bool.or_eq_true] at ok2
        rcases ok2 with o | o
        · refine .inl fun d hd => ?_
          have := List.all_eq_true.mp o d hd
          match d, this with
          | .tuple (x :: r), _ => exact ⟨x, r, rfl⟩
        · refine .inr fun d hd => ?_
          have := List.all_eq_true.mp o d hd
          exact ⟨by (rintro rfl; cases this), by (rintro xs rfl; cases this)⟩
      have hbl : bs.length = es.length := by
        show (vs.zip es).length = _
        rw [List.length_zip]
        omega
      refine PySem.W.sorted_data (R := fun v (p : V × PyData) => RelV p.1 v ∧ Dz X.K H p.1 p.2) (enc := Prod.snd) (bs := bs) pl.isList (hEE.mono fun _ _ h => h.1) (hEE.mono fun _ _ h => h.2) hal hk (by rw [hbl]; exact ok4) (fun b hb => ?_) (fun out ho eo => ?_)
      · have : b.2 ∈ es := by rw [← e1]; exact List.mem_map_of_mem hb
        have := depthAll_le ok3 _ this
        omega
      · have hs : (bs.mergeSort (PySem.W.dataLe false Prod.snd)).map Prod.snd = sortD es := by
          unfold sortD
          rw [PySem.W.sort_maps (r := PySem.W.dataLe false Prod.snd) (s := PySem.W.dataLe false id) Prod.snd (fun a _ b _ => rfl), e1]
        have hD : ∀ (out : List Value) (ps : List (V × PyData)), PySem.W.EachIs (fun v (p : V × PyData) => RelV p.1 v ∧ Dz X.K H p.1 p.2) out ps → Vals (ps.map Prod.fst) out ∧ DzAll X.K H (ps.map Prod.fst) (ps.map Prod.snd) := by
          intro out ps h
          induction h with
          | nil => exact ⟨.nil, .nil⟩
          | cons h1 _ ih => exact ⟨.cons h1.1 ih.1, .cons h1.2 ih.2⟩
        obtain ⟨g1, g2⟩ := hD out _ eo
        rw [hs] at g2
        obtain ⟨ep, he'⟩ := PyProof.Rows.sortedAll_at s.heap its out.toArray
        have hn := I.hok.fresh (Nat.le_succ s.heap.objs.size)
        refine ⟨.ref _, upd H (s.heap.objs.size + 1) (.lst ((bs.mergeSort (PySem.W.dataLe false Prod.snd)).map Prod.fst)), I.laid (t' := s.toks) (fun _ _ => PyProof.Rows.sortedAll_old) (Nat.le_succ _) ⟨?_, out, ep, g1, by simpa using he'⟩, rfl, q _ _ hn g2⟩
        rw [g1.length, ho, hbl]
        exact ok4
    · cases e
  · cases e
theorem dz_unique {s : Shared} {pins : List (Addr × Obj)} {σ : L2.St} {H : Hp} (I : Inv X pins σ H s) {v : V} {u : Value} {d d' : PyData} {as : List Addr} (z : Dz X.K H v d) (r : RelV v u) (h : Reads s.heap u d' as) (ha : PySem.W.alike d d' = true) : d = d' := by
  obtain ⟨bs, h1⟩ := Dp.reads I d v u z.dp r
  exact PySem.W.alike_unique d d' u bs as ha h1 h
theorem minD_mem (x : PyData) : ∀ xs : List PyData, PySem.W.minD x xs ∈ x :: xs := by
  intro xs
  unfold PySem.W.minD
  induction xs generalizing x with
  | nil => simp
  | cons y ys ih =>
    rw [List.foldl_cons]
    have := ih (if PySem.W.dataLt y x = true then y else x)
    rcases List.mem_cons.mp this with e | e
    · rw [e]
      split <;> simp
    · exact List.mem_cons_of_mem _ (List.mem_cons_of_mem _ e)
theorem maxD_mem (x : PyData) : ∀ xs : List PyData, PySem.W.maxD x xs ∈ x :: xs := by
  intro xs
  unfold PySem.W.maxD
  induction xs generalizing x with
  | nil => simp
  | cons y ys ih =>
    rw [List.foldl_cons]
    have := ih (if PySem.W.dataLt x y = true then y else x)
    rcases List.mem_cons.mp this with e | e
    · rw [e]
      split <;> simp
    · exact List.mem_cons_of_mem _ (List.mem_cons_of_mem _ e)
theorem pick_end {pins : List (Addr × Obj)} {s : Shared} {σ : L2.St} {H : Hp} {Q : VK} (I : Inv X pins σ H s) {vs : List V} {es : List PyData} {its : List Value} (hz : DzAll X.K H vs es) (rv : Vals vs its) {m : PyData} (hm : m ∈ es) (hal : alikeB es = true)
    (q : ∀ z H', Same H H' → Dz X.K H' z m → Q z H') : ∀ (i : Nat) v h' tk bs, its.toArray[i]? = some v → Reads h' v m bs → (∀ b o, s.heap.get? b = some o → h'.get? b = some o) → EP X pins σ Q v { s with heap := h', toks := tk } := by
  intro i v h' tk bs hi hr hk
  have hi' : its[i]? = some v := by simpa using hi
  have hlt := (List.getElem?_eq_some_iff.mp hi').1
  have hlv : i < vs.length := by rw [rv.length]; exact hlt
  obtain ⟨w, e1, e2⟩ := rv.get (List.getElem?_eq_getElem hlv)
  rw [hi'] at e1
  cases e1
  obtain ⟨d, e3, z⟩ := hz.getV (List.getElem?_eq_getElem hlv)
  have I2 : Inv X pins σ H { s with heap := h', toks := tk } := I.kept hk
  have : d = m := dz_unique I2 z e2 hr (alikeB_iff hal d (List.mem_of_getElem? e3) m hm)
  subst this
  exact ⟨vs[i], H, I2, e2, q _ H (.refl H) z⟩
theorem minOk_iff {xs : List PyData} (h : minOk xs = true) : PySem.W.AlikeAll xs ∧ PyData.depthAll xs ≤ 60 ∧ alikeB xs = true := by
  unfold minOk at h
  simp only [Bool.and_eq_true, decide_eq_true_eq] at h
  refine ⟨⟨alikeB_iff h.1.1, fun x hx => ?_⟩, h.2, h.1.1⟩
  have := List.all_eq_true.mp h.1.2 x hx
  rintro rfl
  cases this
theorem c_minB (hc : X.calm = true) (hu : X.A.units + 65 < cLine) : CallD X (.builtin "min") gMinB := by
  intro pins s σ H xs us ds d I r hz e Q q
  unfold gMinB at e
  cases e1 : gMinA ds with
  | some z =>
    rw [e1] at e
    cases e
    exact c_minA hc hu pins s σ H xs us ds _ I r hz e1 Q q
  | none =>
    rw [e1] at e
    dsimp only at e
    split at e
    · rename_i x es
      split at e
      · rename_i hok
        cases e
        obtain ⟨ok1, ok2, ok3⟩ := minOk_iff hok
        obtain ⟨w, rfl, h⟩ := hz.one
        obtain ⟨a, vs, rfl, hr, hzz⟩ := h.list
        obtain ⟨u, rfl, ru⟩ := r.one
        cases ru
        obtain ⟨its, rv, pl, hsz⟩ := I.list hr.sq
        obtain ⟨as, hreads⟩ := rz_reads I hzz rv
        exact PySem.W.min_list_data (I.ok.hd hc) pl.isList (by simpa using hreads) ok1 (by omega) fun i v h' tk bs hi hr hk => pick_end I hzz rv (minD_mem x es) ok3 q i v h' tk bs hi hr hk
      · cases e
    · rename_i x es
      split at e
      · rename_i hok
        cases e
        obtain ⟨ok1, ok2, ok3⟩ := minOk_iff hok
        obtain ⟨w, rfl, h⟩ := hz.one
        obtain ⟨a, vs, rfl, hr, hzz⟩ := h.tuple
        obtain ⟨u, rfl, ru⟩ := r.one
        cases ru
        obtain ⟨its, rv, pl, hsz⟩ := I.tuple hr.sq
        obtain ⟨as, hreads⟩ := rz_reads I hzz rv
        exact PySem.W.min_tuple_data (I.ok.hd hc) (show s.heap.IsTuple a its.toArray from pl) (by simpa using hreads) ok1 (by omega) fun i v h' tk bs hi hr hk => pick_end I hzz rv (minD_mem x es) ok3 q i v h' tk bs hi hr hk
      · cases e
    · cases e
theorem c_maxB (hc : X.calm = true) (hu : X.A.units + 65 < cLine) : CallD X (.builtin "max") gMaxB := by
  intro pins s σ H xs us ds d I r hz e Q q
  unfold gMaxB at e
  cases e1 : gMaxA ds with
  | some z =>
    rw [e1] at e
    cases e
    exact c_maxA hc hu pins s σ H xs us ds _ I r hz e1 Q q
  | none =>
    rw [e1] at e
    dsimp only at e
    split at e
    · rename_i x es
      split at e
      · rename_i hok
        cases e
        obtain ⟨ok1, ok2, ok3⟩ := minOk_iff hok
        obtain ⟨w, rfl, h⟩ := hz.one
        obtain ⟨a, vs, rfl, hr, hzz⟩ := h.list
        obtain ⟨u, rfl, ru⟩ := r.one
        cases ru
        obtain ⟨its, rv, pl, hsz⟩ := I.list hr.sq
        obtain ⟨as, hreads⟩ := rz_reads I hzz rv
        exact PySem.W.max_list_data (I.ok.hd hc) pl.isList (by simpa using hreads) ok1 (by omega) fun i v h' tk bs hi hr hk => pick_end I hzz rv (maxD_mem x es) ok3 q i v h' tk bs hi hr hk
      · cases e
    · rename_i x es
      split at e
      · rename_i hok
        cases e
        obtain ⟨ok1, ok2, ok3⟩ := minOk_iff hok
        obtain ⟨w, rfl, h⟩ := hz.one
        obtain ⟨a, vs, rfl, hr, hzz⟩ := h.tuple
        obtain ⟨u, rfl, ru⟩ := r.one
        cases ru
        obtain ⟨its, rv, pl, hsz⟩ := I.tuple hr.sq
        obtain ⟨as, hreads⟩ := rz_reads I hzz rv
        exact PySem.W.max_tuple_data (I.ok.hd hc) (show s.heap.IsTuple a its.toArray from pl) (by simpa using hreads) ok1 (by omega) fun i v h' tk bs hi hr hk => pick_end I hzz rv (maxD_mem x es) ok3 q i v h' tk bs hi hr hk
      · cases e
    · cases e
end
end DL
end

/- EL28 -/
section
set_option maxHeartbeats 4000000
namespace DL
open PySem PySem.Spec PyProof.Rows L2

/-! ### len(set(x)) of ints -/
def dedupI : List Int → List Int
  | [] => []
  | x :: xs => if x ∈ xs then dedupI xs else x :: dedupI xs
theorem mem_dedupI {k : Int} : ∀ {xs : List Int}, k ∈ dedupI xs ↔ k ∈ xs
  | [] => Iff.rfl
  | x :: xs => by
    unfold dedupI
    by_cases h : x ∈ xs
    · rw [if_pos h, mem_dedupI, List.mem_cons]
      exact ⟨.inr, fun z => z.elim (fun e => e ▸ h) id⟩
    · rw [if_neg h, List.mem_cons, List.mem_cons, mem_dedupI]
theorem nodup_dedupI : ∀ xs : List Int, (dedupI xs).Nodup
  | [] => List.nodup_nil
  | x :: xs => by
    unfold dedupI
    by_cases h : x ∈ xs
    · rw [if_pos h]; exact nodup_dedupI xs
    · rw [if_neg h]; exact List.nodup_cons.mpr ⟨fun z => h (mem_dedupI.mp z), nodup_dedupI xs⟩
theorem dedupI_le : ∀ xs : List Int, (dedupI xs).length ≤ xs.length
  | [] => Nat.le_refl _
  | x :: xs => by
    unfold dedupI
    have := dedupI_le xs
    split
    · rw [List.length_cons]; omega
    · rw [List.length_cons, List.length_cons]; omega
theorem nodup_le {α : Type} [DecidableEq α] : ∀ {l m : List α}, l.Nodup → (∀ x ∈ l, x ∈ m) → l.length ≤ m.length
  | [], _, _, _ => Nat.zero_le _
  | x :: l, m, h, s => by
    obtain ⟨h1, h2⟩ := List.nodup_cons.mp h
    have hx := s x List.mem_cons_self
    have := nodup_le (l := l) (m := m.erase x) h2 fun y hy => by
      rw [List.mem_erase_of_ne (by rintro rfl; exact h1 hy)]
      exact s y (List.mem_cons_of_mem _ hy)
    rw [List.length_erase_of_mem hx] at this
    have := List.length_pos_of_mem hx
    rw [List.length_cons]
    omega
theorem nodup_len {α : Type} [DecidableEq α] {l m : List α} (h1 : l.Nodup) (h2 : m.Nodup) (h : ∀ x, x ∈ l ↔ x ∈ m) : l.length = m.length :=
  Nat.le_antisymm (nodup_le h1 fun x hx => (h x).mp hx) (nodup_le h2 fun x hx => (h x).mpr hx)
theorem dedupI_nodup {xs : List Int} (h : xs.Nodup) : dedupI xs = xs := by
  induction xs with
  | nil => rfl
  | cons x xs ih =>
    obtain ⟨h1, h2⟩ := List.nodup_cons.mp h
    unfold dedupI
    rw [if_neg h1, ih h2]
theorem dedupI_len_iff {xs : List Int} : (dedupI xs).length = xs.length ↔ xs.Nodup := by
  constructor
  · intro h
    induction xs with
    | nil => exact List.nodup_nil
    | cons x xs ih =>
      unfold dedupI at h
      split at h
      · have := dedupI_le xs
        rw [List.length_cons] at h
        omega
      · rename_i hx
        simp only [List.length_cons, Nat.add_right_cancel_iff] at h
        exact List.nodup_cons.mpr ⟨hx, ih h⟩
  · intro h
    rw [dedupI_nodup h]
def gLenSet : PyData → Option PyData
  | .list xs => (toInts xs).bind fun ns => if ns.length ≤ 4000 then some (.int (dedupI ns).length) else none
  | .tuple xs => (toInts xs).bind fun ns => if ns.length ≤ 4000 then some (.int (dedupI ns).length) else none
  | _ => none
def mUn (g : PyData → Option PyData) (m : M Vl) : M Vl := M.bind m fun v => M.bind v.get fun d => M.opt ((g d).map .d)
theorem firstMet_list (ns : List Int) : (PyProof.Rows.firstMet (fun i => ns.getD i 0) ns.length).Nodup ∧ ∀ k, k ∈ PyProof.Rows.firstMet (fun i => ns.getD i 0) ns.length ↔ k ∈ ns := by
  have e : (List.range ns.length).map (fun i => ns.getD i 0) = ns := by
    apply List.ext_getElem?
    intro i
    rw [List.getElem?_map]
    by_cases h : i < ns.length
    · rw [List.getElem?_range h, List.getElem?_eq_getElem h]
      simp [List.getD_eq_getElem?_getD, List.getElem?_eq_getElem h]
    · rw [List.getElem?_eq_none (by simpa using h), List.getElem?_eq_none (by omega)]
      rfl
  have key : ∀ (l acc : List Int), acc.Nodup → (l.foldl PyProof.Rows.step_dedup acc).Nodup ∧ ∀ k, k ∈ l.foldl PyProof.Rows.step_dedup acc ↔ k ∈ acc ∨ k ∈ l := by
    intro l
    induction l with
    | nil => intro acc h; exact ⟨h, fun k => by simp⟩
    | cons x l ih =>
      intro acc h
      rw [List.foldl_cons]
      have hstep : (PyProof.Rows.step_dedup acc x).Nodup ∧ ∀ k, k ∈ PyProof.Rows.step_dedup acc x ↔ k ∈ acc ∨ k = x := by
        unfold PyProof.Rows.step_dedup
        by_cases hx : x ∈ acc
        · have : (acc.any fun y => y == x) = true := List.any_eq_true.mpr ⟨x, hx, by simp⟩
          simp only [this, if_true]
          exact ⟨h, fun k => ⟨.inl, fun z => z.elim id fun e => e ▸ hx⟩⟩
        · have : ¬ (acc.any fun y => y == x) = true := by
            rw [List.any_eq_true]
            rintro ⟨y, hy, e⟩
            exact hx ((beq_iff_eq.mp e) ▸ hy)
          rw [if_neg this]
          refine ⟨List.nodup_append.mpr ⟨h, by simp, fun a ha b hb => ?_⟩, fun k => by simp⟩
          simp at hb
          subst hb
          rintro rfl
          exact hx ha
      obtain ⟨q1, q2⟩ := ih _ hstep.1
      refine ⟨q1, fun k => ?_⟩
      rw [q2, hstep.2, List.mem_cons]
      constructor
      · rintro ((h | h) | h)
        · exact .inl h
        · exact .inr (.inl h)
        · exact .inr (.inr h)
      · rintro (h | h | h)
        · exact .inl (.inl h)
        · exact .inl (.inr h)
        · exact .inr h
  unfold PyProof.Rows.firstMet
  rw [e]
  obtain ⟨q1, q2⟩ := key ns [] List.nodup_nil
  exact ⟨q1, fun k => by rw [q2]; simp⟩
section
variable {X : Cx} {T : List (Addr × Str)} {W : WX} {a : Expr} {m : M Vl} {p p2 q pos : Pos}
theorem de_lenSet (hc : X.calm = true) (hg : Gl X "len") (hm : X.mg "len" = none) (hg2 : Gl X "set") (hm2 : X.mg "set" = none) (ha : DE X T W a m)
    (na : starEach [a] X.env = (false, eval a X.env) :: starEach [] X.env := by rfl) : DE X T W (.Call (.Name "len" p) [.Call (.Name "set" p2) [a] [] q] [] pos) (mUn gLenSet m) := by
  refine ⟨fun C hC => ⟨fun pins s σ H Q I h => ?_⟩⟩
  obtain ⟨env, r, h⟩ := h
  refine Call_ (ld_blt I hg hm PySem.boot_len ?_)
  refine PyProof.Rows.callWith_builtin1 (PyProof.Rows.args_cons ?_ rfl) rfl rfl
  refine Call_ (ld_blt I hg2 hm2 PyProof.Rows.boot_set ?_)
  refine PyProof.Rows.callWith_type1 (PyProof.Rows.args_cons (thn ((ha.pe C hC).run pins s σ H (fun x H1 => ∃ ns : List Int, ns.length ≤ 4000 ∧ ((∃ l, x = .ref l ∧ SqL X.K H1 l (ns.map V.int)) ∨ ∃ l, x = .ref l ∧ SqT X.K H1 l (ns.map V.int)) ∧ Q (.int (dedupI ns).length) H1) I ⟨env, r, Lf.bind h fun u H1 v env1 r1 hv l1 h1 => ?_⟩) fun v s1 ⟨x, H1, I1, r1, q1⟩ => PyProof.Rows.args_nil ?_) na) na rfl
  · obtain ⟨d, z, h2⟩ := Lf.get h1 r1 hv
    obtain ⟨d', e, h3⟩ := Lf.opt h2 r1
    unfold gLenSet at e
    split at e
    · rename_i xs
      cases e1 : toInts xs with
      | none => rw [e1] at e; cases e
      | some ns =>
        rw [e1] at e
        simp only [Option.bind_some] at e
        split at e
        · rename_i hl
          cases e
          obtain ⟨a, rfl, g⟩ := z.ints e1
          exact ⟨ns, hl, .inl ⟨a, rfl, g⟩, h3 _ H1 (.refl _) (.int _)⟩
        · cases e
    · rename_i xs
      cases e1 : toInts xs with
      | none => rw [e1] at e; cases e
      | some ns =>
        rw [e1] at e
        simp only [Option.bind_some] at e
        split at e
        · rename_i hl
          cases e
          obtain ⟨a, vs, rfl, g, hz⟩ := z.tuple
          have e2 := toInts_eq e1
          subst e2
          have := hz.ints
          subst this
          exact ⟨ns, hl, .inr ⟨a, rfl, g.sq⟩, h3 _ H1 (.refl _) (.int _)⟩
        · cases e
    · cases e
  · obtain ⟨ns, hl, hh, q1⟩ := q1
    rcases hh with ⟨l, rfl, hq⟩ | ⟨l, rfl, hq⟩
    · cases r1
      obtain ⟨its, rr, pl, hz⟩ := I1.list hq
      have hl' : its.toArray.size = ns.length := by rw [List.size_toArray, ← rr.length, List.length_map]
      refine call_set_list (I1.ok.hd hc) pl.isList (ns := ns) (by simpa using rr.ints) (by unfold scanBound; omega) fun h' tk hS hk => ?_
      rw [hl'] at hS
      refine PyProof.Rows.args_nil ?_
      obtain ⟨o, es, ep, t, ho, hex, hd, _, _, hb, hf, hn⟩ := hS
      obtain ⟨f1, f2⟩ := firstMet_list ns
      have hlen : es.size = (dedupI ns).length := by
        rw [hn]
        exact nodup_len f1 (nodup_dedupI ns) fun k => by rw [f2, mem_dedupI]
      have I2 : Inv X pins σ H1 { s1 with heap := h', toks := tk } := I1.kept fun b o e => hk b o (Heap.lt_size e) e
      refine call_len_set ho hex hd hf (by unfold scanBound at hb; omega) ⟨.int (dedupI ns).length, H1, I2.tok _, ⟨_, by rw [hlen]⟩, q1⟩
    · cases r1
      obtain ⟨its, rr, pl, hz⟩ := I1.tuple hq
      refine call_set_tupI ns (I1.ok.hd hc) (show s1.heap.IsTuple l its.toArray from pl) (by simpa using rr.ints) (by unfold scanBound; omega) fun h' tk c hS hcl hk => ?_
      refine PyProof.Rows.args_nil ?_
      obtain ⟨o, es, ep, t, ho, hex, hd, _, nd, hmem, hb, hf, hn, _⟩ := hS
      have hlen : es.size = (dedupI ns).length := by
        have := nodup_len nd (nodup_dedupI ns) fun k => by rw [← hmem k, mem_dedupI, decide_eq_true_eq]
        rw [List.length_map, Array.length_toList] at this
        exact this
      have I2 : Inv X pins σ H1 { s1 with heap := h', toks := tk } := I1.kept hk
      refine call_len_set ho hex hd hf (by unfold scanBound at hb; omega) ⟨.int (dedupI ns).length, H1, I2.tok _, ⟨_, by rw [hlen]⟩, q1⟩
end
end DL
end

/- EL29 -/
section
set_option maxHeartbeats 4000000
namespace DL
open PySem PySem.Spec PyProof.Rows L2 PySem.W HT

/-! ### x[::-1] of a list or a tuple -/
section
variable {prog : Program} {w : World} {A : Around} {E : Value → Shared → Prop} {s : Shared}
theorem pick_rev (xs : Array Value) : ((List.range xs.size).filterMap fun (m : Nat) => xs[(((xs.size : Int) - 1) + (m : Int) * (-1)).toNat]?) = xs.toList.reverse := by
  have e : ∀ m ∈ List.range xs.size, xs[(((xs.size : Int) - 1) + (m : Int) * (-1)).toNat]? = xs.toList.reverse[m]? := by
    intro m hm
    have hm' : m < xs.size := by simpa using hm
    have e1 : (((xs.size : Int) - 1) + (m : Int) * (-1)).toNat = xs.size - 1 - m := by omega
    rw [e1, List.getElem?_reverse (by simpa using hm')]
    simp
  have e2 : (List.range xs.size).filterMap (fun (m : Nat) => xs[(((xs.size : Int) - 1) + (m : Int) * (-1)).toNat]?) = (List.range xs.size).filterMap fun m => xs.toList.reverse[m]? := by
    revert e
    generalize List.range xs.size = l
    intro e
    induction l with
    | nil => rfl
    | cons x l ih =>
      rw [List.filterMap_cons, List.filterMap_cons, e x List.mem_cons_self, ih fun m hm => e m (List.mem_cons_of_mem _ hm)]
  rw [e2]
  have key : ∀ l : List Value, ((List.range l.length).filterMap fun m => l[m]?) = l := by
    intro l
    induction l with
    | nil => rfl
    | cons x l ih =>
      rw [List.length_cons, List.range_succ_eq_map, List.filterMap_cons, List.filterMap_map]
      simp only [List.getElem?_cons_zero]
      congr 1
  have := key xs.toList.reverse
  rw [List.length_reverse, Array.length_toList] at this
  exact this
theorem sliceApplied_rev {sl : Addr} {vs : Value} {n : Nat} {Q : Int × Int × Nat → Shared → Prop} (hs : s.heap.IsSliceOf sl .none .none vs) (ps : IsPart vs (some (-1)))
    (h : Q ((n : Int) - 1, -1, n) s) : wpAny (model prog w) A (Builtin.Slice.sliceApplied (.ref sl) (pure (n : Int))) Q E s := by
  obtain ⟨os, hos, hcs, hds⟩ := id hs
  unfold Builtin.Slice.sliceApplied Builtin.Slice.sliceFields
  refine wpAny_bind (wpAny_bind (wpAny_field hos hds (x := .none) rfl (wpAny_bind (wpAny_field hos hds (x := .none) rfl (wpAny_bind (wpAny_field hos hds (x := vs) rfl (wpAny_pure ?_)))))))
  refine wpAny_bind (slicePart_ ps ?_)
  show wpAny _ _ (if ((-1 : Int) == 0) = true then _ else _) _ _ s
  rw [if_neg (by decide)]
  refine wpAny_bind (slicePart_none (wpAny_bind (slicePart_none (wpAny_bind (wpAny_pure ?_)))))
  have e : Builtin.Slice.slicePlaces ((n : Int) - 1) (-1) (-1) = n := by
    unfold Builtin.Slice.slicePlaces
    rw [if_neg (by decide)]
    by_cases h0 : (n : Int) - 1 > -1
    · rw [if_pos h0, show (-(-1) : Int) = 1 from rfl, Int.ediv_one]
      omega
    · rw [if_neg h0]
      omega
  show wpAny _ _ (pure ((n : Int) - 1, (-1 : Int), Builtin.Slice.slicePlaces ((n : Int) - 1) (-1) (-1))) _ _ s
  rw [e]
  exact wpAny_pure h
theorem getItem_tuple_rev {t sl : Addr} {items : Array Value} {vs : Value} {Q : Value → Shared → Prop} (ht : IsTup s.heap t items) (hs : s.heap.IsSliceOf sl .none .none vs) (ps : IsPart vs (some (-1)))
    (h : Q (.ref s.heap.objs.size) { s with heap := s.heap.push { cls := .type "tuple", data := .seq (items.toList.reverse).toArray } })
    (hsz : items.size ≤ sizeLine) : wpAny (model prog w) A (getItem (.ref t) (.ref sl)) Q E s := by
  have htake : sizeOk (.seq (items.toList.reverse).toArray) := by
    show ((items.toList.reverse).toArray).size ≤ sizeLine
    rw [List.size_toArray, List.length_reverse, Array.length_toList]
    exact hsz
  obtain ⟨os, hos, hcs, hds⟩ := id hs
  have hTs : s.TypeIs (.ref sl) "slice" := ⟨os, hos, hcs⟩
  unfold getItem
  try with_reducible refine wpAny_holding ?_
  first | refine wpAny_bind (wpAny_pure ?_) | skip
  refine wpAny_bind (wpAny_sequenceKey ht.typeIs (by decide) ?_)
  refine wpAny_bind (wpAny_callSpecial?_slot (name := Str.ofString "__getitem__") ht.typeIs PyProof.Rows.slot_tuple_getitem
    (wpAny_call_entry PyProof.Rows.slot_tuple_getitem ht.typeIs entry_tuple_getitem ?_ (args_tuple_getitem _ _)))
  show wpAny _ _ (Builtin.Tuple.tupleItemsOf (.ref t) >>= _) _ _ s
  refine wpAny_bind (tupleItemsOf_ ht ?_)
  refine wpAny_bind (wpAny_typeOf hTs ?_)
  rw [if_pos (by decide)]
  refine wpAny_bind (sliceApplied_rev hs ps ?_)
  have hno : ¬ ((((items.size : Int) - 1) == 0 && (-1 : Int) == 1 && items.size == items.size) = true) := by
    intro q
    rw [Bool.and_eq_true, Bool.and_eq_true] at q
    exact absurd q.1.2 (by decide)
  show wpAny _ _ (if (((items.size : Int) - 1) == 0 && (-1 : Int) == 1 && items.size == items.size) = true then _ else _) _ _ s
  rw [if_neg hno, pick_rev]
  first
    | exact wpAny_bind (m := Builtin.Tuple.tupleExact _) (wpAny_newObj_type (wpAny_pure ⟨_, rfl, wpAny_pure h⟩) htake)
    | exact wpAny_bind (m := Builtin.Tuple.tupleExact _) (wpAny_newObj_type (wpAny_bind (wpAny_pure (wpAny_pure ⟨_, rfl, wpAny_pure h⟩))) htake)
    | exact wpAny_bind (wpAny_bind (m := Builtin.Tuple.tupleExact _) (wpAny_newObj_type (wpAny_pure (wpAny_pure ⟨_, rfl, wpAny_pure h⟩)) htake))
    | exact wpAny_bind (wpAny_bind (m := Builtin.Tuple.tupleExact _) (wpAny_newObj_type (wpAny_pure ⟨_, rfl, wpAny_pure h⟩) htake))
end
theorem DzAll.rev {K : PySem.W.Frag} {H : Hp} {vs : List V} {ds : List PyData} (h : DzAll K H vs ds) : DzAll K H vs.reverse ds.reverse := h.reverse
/-- x[::-1], of data -/
def gRev : PyData → Option PyData
  | .tuple xs => some (.tuple xs.reverse)
  | _ => none
def gRevL : PyData → Option (List PyData)
  | .list xs => some xs.reverse
  | _ => none
def mRev (m : M Vl) : M Vl := M.bind m fun v => M.bind v.get fun d => match gRev d with
  | some z => M.pure (.d z)
  | none => M.opt ((gRevL d).map fun xs => .d (.list xs))
def tRevT (K : PySem.W.Frag) (te : TE) : TE := fun σ H Q => te σ H fun x H1 => (∃ a xs, x = .ref a ∧ SqT K H1 a xs ∧ ∀ p, H1 p = none → Q (.ref p) (upd H1 p (.tup xs.reverse))) ∨ ∃ a xs, x = .ref a ∧ SqL K H1 a xs ∧ ∀ p, H1 p = none → Q (.ref p) (upd H1 p (.lst xs.reverse))
theorem pe_revT {X : Cx} {e : Expr} {te : TE} {k : Nat} {p1 p2 p3 pos : Pos} (he : PE X e te) : PE X (.Subscript e (.Slice none none (some (.UnaryOp .USub (.Constant (.int 1) k p1) p2)) p3) pos) (tRevT X.K te) := by
  refine ⟨fun pins s σ H Q I h => ?_⟩
  refine Subscript_ (thn (he.run pins s σ H _ I h) fun v s1 ⟨x, H1, I1, r1, q1⟩ => ?_)
  have hst : L2.PO X (some (.UnaryOp .USub (.Constant (.int 1) k p1) p2)) (tPart (tUn (rU fun i => .int (-i)) (tC (.int 1)))) := po_some (pe_un un_neg pe_int)
  have hv : ∃ a, v = Value.ref a ∧ x = .ref a := by
    rcases q1 with ⟨a, xs, ex, _⟩ | ⟨a, xs, ex, _⟩ <;> (subst ex; exact ⟨a, r1, rfl⟩)
  obtain ⟨a, rfl, rfl⟩ := hv
  refine wpAny_Slice (thn (po_none.run pins s1 σ H1 (fun o H2 => o = none ∧ H2 = H1) I1 ⟨rfl, rfl⟩) fun vl s2 ⟨l, H2, I2, pl, el, e2⟩ => ?_)
  subst el e2
  refine thn (po_none.run pins s2 σ H2 (fun o H3 => o = none ∧ H3 = H2) I2 ⟨rfl, rfl⟩) fun vu s3 ⟨u, H3, I3, pu, eu, e3⟩ => ?_
  subst eu e3
  refine thn (hst.run pins s3 σ H3 (fun o H4 => o = some (-1) ∧ H4 = H3) I3 ⟨1, rfl, -1, rfl, rfl, rfl⟩) fun vs s4 ⟨o, H4, I4, ps, eo, e4⟩ => ?_
  subst eo e4
  have I5 : Inv X pins σ H4 { s4 with heap := s4.heap.push { cls := .type "slice", data := .fields #[vl, vu, vs] } } := I4.kept (t' := s4.toks) fun b ob q => Heap.get?_push_of_some _ q
  show wpAny (model X.prog X.w) X.A (subscriptTail e (.Slice none none (some (.UnaryOp .USub (.Constant (.int 1) k p1) p2)) p3) (.ref a) (.ref s4.heap.objs.size)) (EP X pins σ Q) X.xe { s4 with heap := s4.heap.push { cls := .type "slice", data := .fields #[vl, vu, vs] } }
  rcases q1 with ⟨a', xs, ex, hx, q⟩ | ⟨a', xs, ex, hx, q⟩
  · cases ex
    obtain ⟨its, r, ht, hz⟩ := I5.tuple hx
    have hlen := r.length
    have hn : ∀ {v : Value}, IsPart v none → v = .none := by
      intro v h
      cases h
      rfl
    obtain rfl := hn pl
    obtain rfl := hn pu
    refine tail_any (ops := [.ref a, .ref s4.heap.objs.size]) ht.typeIs (PyProof.Rows.slot_tuple_getitem.lookup) ?_ (by with_unfolding_all rfl)
    refine getItem_tuple_rev ht (Heap.IsSliceOf.new _ .none .none vs) ps ?_ (by rw [List.size_toArray]; omega)
    refine ⟨.ref _, _, I5.laid (t' := s4.toks) (o := .tup xs.reverse) (fun b ob q => Heap.get?_push_of_some _ q) (Nat.le_refl _) ?_, rfl, q _ (I5.hok.fresh (Nat.le_refl _))⟩
    exact ⟨by rw [List.length_reverse]; exact hz, _, by simpa using r.reverse, IsTup.new _ _⟩
  · cases ex
    obtain ⟨its, r, ht, hz⟩ := I5.list hx
    have hlen := r.length
    refine tail_any (ops := [.ref a, .ref s4.heap.objs.size]) ht.isList.typeIs (PySem.slot_list_getitem.lookup) ?_ (by with_unfolding_all rfl)
    refine wpAny_getItem_list_slice ht.isList (Heap.IsSliceOf.new _ vl vu vs) pl pu ps (by decide) ?_ (by rw [List.size_toArray]; omega)
    rw [PySem.W.krv_pick]
    refine ⟨.ref _, _, I5.laid (t' := s4.toks) (o := .lst xs.reverse) (fun b ob q => Heap.get?_push_of_some _ q) (Nat.le_refl _) ?_, rfl, q _ (I5.hok.fresh (Nat.le_refl _))⟩
    exact ⟨by rw [List.length_reverse]; exact hz, _, 0, r.reverse, Heap.get?_push_size _ rfl⟩
section
variable {X : Cx} {T : List (Addr × Str)} {W : WX} {e : Expr} {m : M Vl} {k : Nat} {p1 p2 p3 pos : Pos}
theorem de_rev (he : DE X T W e m) : DE X T W (.Subscript e (.Slice none none (some (.UnaryOp .USub (.Constant (.int 1) k p1) p2)) p3) pos) (mRev m) := by
  refine ⟨fun C hC => ⟨fun pins s σ H Q I h => (pe_ghost (pe_revT (he.pe C hC))).run pins s σ H Q I ?_⟩⟩
  obtain ⟨env, r, h⟩ := h
  refine ⟨env, r, Lf.bind h fun u H1 v env1 r1 hv l1 h1 => ?_⟩
  obtain ⟨d, z, h2⟩ := Lf.get h1 r1 hv
  cases d with
  | tuple ds =>
    obtain ⟨a, xs, rfl, g, hz⟩ := z.tuple
    refine .inl ⟨a, xs, rfl, g.sq, fun p hp => .now ?_⟩
    have sm : Same H1 (upd H1 p (.tup xs.reverse)) := Same.new hp
    exact h2 (.ref p) _ (r1.grow sm) (.tup (.inl upd_same) (DzAll.le (.same sm) _ hz.reverse)) (.same sm)
  | list ds =>
    obtain ⟨a, xs, rfl, g, hz⟩ := z.list
    refine .inr ⟨a, xs, rfl, g.sq, fun p hp => ghost_new r1 hp hz.reverse fun H' r3 z3 l3 => ?_⟩
    exact h2 (.ref p) H' r3 z3 l3
  | _ => exact h2.elim
end
end DL
end

/- EL30 -/
section
set_option maxHeartbeats 4000000
namespace DL
open PySem PySem.Spec PyProof.Rows L2

/-! ### d.update(a new dict) -/
def rUpdK : V → List V → Hp → VK → Prop := fun x vs H Q => ∃ (a o : Addr) (kvs more : List (Key × V)), x = .ref a ∧ vs = [.ref o] ∧ a ≠ o ∧ H a = some (.dK kvs) ∧ H o = some (.dK more) ∧ kvs.length + more.length ≤ sizeLine ∧ Q .non (upd H a (.dK (mergeK kvs more)))
def mergeD (es more : List (Key × PyData)) : List (Key × PyData) := more.foldl (fun acc kv => oPut acc kv.1 kv.2) es
theorem kv_merge {K : PySem.W.Frag} {H : Hp} : ∀ {more : List (Key × V)} {ms : List (Key × PyData)} {kvs : List (Key × V)} {es : List (Key × PyData)}, OOR K H (.dK more) (.k ms) → OOR K H (.dK kvs) (.k es) → OOR K H (.dK (mergeK kvs more)) (.k (mergeD es ms))
  | [], [], kvs, es, _, h => h
  | [], _ :: _, _, _, h, _ => by have := h.1; simp at this
  | _ :: _, [], _, _, h, _ => by have := h.1; simp at this
  | p :: more, q :: ms, kvs, es, h, h' => by
    obtain ⟨h1, h2⟩ := h
    simp only [List.map_cons, List.cons.injEq] at h1
    cases h2 with
    | cons z1 z2 =>
      have := kv_put (k := q.1) h'.1 h'.2 z1
      have hm := kv_merge (kvs := putK kvs q.1 p.2) (es := oPut es q.1 q.2) (show OOR K H (.dK more) (.k ms) from ⟨h1.2, z2⟩) this
      have e1 : mergeK kvs (p :: more) = mergeK (putK kvs q.1 p.2) more := by
        unfold mergeK
        rw [List.foldl_cons, h1.1]
      rw [e1]
      exact hm
section
variable {X : Cx}
theorem m_update : MtR X "dict.update" rUpdK := by
  intro pins s σ H x us v vals Q I rx rv h
  obtain ⟨a, o, kvs, more, rfl, rfl, hne, h1, h2, hl, q⟩ := h
  cases rx
  obtain ⟨u, rfl, ru⟩ := rv.one
  cases ru
  obtain ⟨z1, hd1, vs1, rel1, dd1⟩ := dk_of I.hok h1
  obtain ⟨z2, hd2, vs2, rel2, dd2⟩ := dk_of I.hok h2
  refine call_meetsIn PySem.F.slot_dict_update dd1.typeIs PySem.F.entry_dict_update (PySem.F.args_dict_update_2 _ _) (meets_dict_update (mixKind X.prog X.w) a o hne hd2)
    ⟨vs1, vs2, dd1, dd2, by rw [← rel1.length, ← rel2.length]; exact hl, fun h' dd' _ hs => ?_⟩
  have he : ∃ q, h'.get? a = some q := let ⟨q, _, _, hq, _⟩ := dd'; ⟨q, hq⟩
  have hlen : (mergeK kvs more).length ≤ sizeLine := Nat.le_trans (length_mergeK more kvs) hl
  exact ⟨.non, _, d_write (t' := s.toks) I (by rw [h1]; exact True.intro) hs he (dk_new hlen hd1 (KV.merge rel2 rel1) dd'), rfl, q⟩
end
def dUpd (i : Nat) (ms : List (Key × PyData)) : M Unit := fun env => match env[i]? with
  | some (some (.own b (.k es))) => if es.length + ms.length ≤ sizeLine then .ok () (env.set i (some (.own b (.k (mergeD es ms))))) else .stuck
  | _ => .stuck
/-- d.update(e), e a new dict -/
def mDUpd (i : Nat) (mq : M OO) : M Vl := M.bind (dictAt i) fun _ => M.bind mq fun o => match o with
  | .k ms => M.bind (dUpd i ms) fun _ => mC .none
  | _ => M.stuck
section
variable {X : Cx} {T : List (Addr × Str)} {W : WX} {i : Nat} {x : Str} {e : Expr} {mq : M OO} {pos pos' apos cpos : Pos}
theorem dUpd_ok {i : Nat} {ms : List (Key × PyData)} {env env' : En} (e : dUpd i ms env = .ok () env') : ∃ b es, env[i]? = some (some (.own b (.k es))) ∧ es.length + ms.length ≤ sizeLine ∧ env' = env.set i (some (.own b (.k (mergeD es ms)))) := by
  unfold dUpd at e
  split at e
  · rename_i b es h
    split at e
    · rename_i hl
      cases e
      exact ⟨b, es, h, hl, rfl⟩
    · cases e
  · cases e
theorem dUpd_noerr {i : Nat} {ms : List (Key × PyData)} {env env' : En} {x : Er} : dUpd i ms env ≠ .err x env' := by
  unfold dUpd
  split
  · split <;> exact fun z => by cases z
  · exact fun z => by cases z
theorem de_dupd (hN : X.N[i]? = some x) (hv : Vis X.env.scope x) (he : DQ X T W e mq)
    (hd : (x == ("__debug__" : Str)) = false := by decide) (hcd : (x == ("__classdict__" : Str)) = false := by decide)
    (hbase : attributeBase (.Name x pos) "update" X.env (eval (.Name x pos) X.env) = eval (.Name x pos) X.env := by rfl)
    (hfew : ((backTo cpos (starEach [e] X.env)).all (fun x => !x.1) && (backToKw cpos (keywordEach [] X.env)).all (fun x => x.1.isSome)
      && decide (([e] : List Expr).length + ([] : List Keyword).length + (if ([] : List Keyword).isEmpty then 0 else 1) < 30)) = true := by rfl)
    (hline : (apos.endLine == cpos.line) = true := by rfl) (hs : starEach [e] X.env = (false, eval e X.env) :: starEach [] X.env := by rfl) (hplain : (backTo cpos (starEach [] X.env)).any (·.1) = false := by rfl) :
    DE X T W (.Call (.Attribute (.Name x pos) "update" apos) [e] [] cpos) (mDUpd i mq) := by
  refine ⟨fun C hC => ⟨fun pins s σ H Q I h => (pe_bm (T := "dict") PySem.F.plainAttrs_dict PySem.F.slot_dict_update PySem.F.type_dict_update m_update (pe_var (pos := pos) hN hv hd hcd) (pa_cons (he.pe C hC) pa_nil hs) hbase hfew hline hs hplain).run pins s σ H Q I ?_⟩⟩
  obtain ⟨env, r, h⟩ := h
  obtain ⟨es, b, a, kvs, _, h1, h2, _, _, h⟩ := Lf.dictAt h r
  refine ⟨.ref a, h1, .inr (.inr (.inl ⟨rfl, .inl ⟨kvs, h2⟩⟩)), env, r, Lf.bind h fun u H1 o env1 r1 ho l1 h3 => ?_⟩
  cases o with
  | l _ => exact h3.elim
  | t _ => exact h3.elim
  | f _ => exact h3.elim
  | k ms =>
    obtain ⟨p, hh, rfl, g1, g2, g3, g4, g5⟩ := ho
    obtain ⟨more, rfl, g6, g7⟩ := g2.dk
    have h3 : Lf X.K X.mg C W σ H1 (fun u H v _ => VR X.K σ u H v) (M.bind (dUpd i ms) (fun _ => mC .none) env1) Q := h3
    cases e0 : dUpd i ms env1 with
    | stuck => rw [M.bind_stuck e0] at h3; exact h3.elim
    | err y env2 => exact absurd e0 dUpd_noerr
    | ok w env2 =>
      rw [M.bind_ok e0] at h3
      obtain ⟨b', es', q1, q2, rfl⟩ := dUpd_ok e0
      obtain ⟨a', kvs', q3, q4, q5, q6, q7, q8⟩ := r1.ownK i b' es' q1
      obtain rfl := same_slot h1 q3
      have hne : a' ≠ p := by
        rintro rfl
        exact g5 i _ _ q1 q3
      refine ⟨a', p, kvs', more, rfl, rfl, hne, q4, g1, by rw [kv_len q5, kv_len g6]; exact q2, ?_⟩
      have l : Le H1 (upd H1 a' (.dK (mergeK kvs' more))) := Le.put q4
      exact h3 .non _ (Rel.putO (ys := .dK (mergeK kvs' more)) (es := .k (mergeD es' ms)) r1 q1 q3 q4 trivial (kv_merge (show OOR X.K H1 (.dK more) (.k ms) from ⟨g6, g7⟩) (show OOR X.K H1 (.dK kvs') (.k es') from ⟨q5, q6⟩)) q7 q8) .non l
/-! ### sorted(d) of int keys -/
def keysI : List (Key × PyData) → Option (List Int)
  | [] => some []
  | (.inl k, _) :: es => (keysI es).map (k :: ·)
  | (.inr _, _) :: _ => none
theorem keysI_eq : ∀ {es : List (Key × PyData)} {ns : List Int}, keysI es = some ns → es.map (·.1) = ns.map Sum.inl
  | [], ns, e => by cases e; rfl
  | (.inl k, v) :: es, ns, e => by
    unfold keysI at e
    rw [Option.map_eq_some_iff] at e
    obtain ⟨ms, e1, rfl⟩ := e
    rw [List.map_cons, keysI_eq e1]
    rfl
  | (.inr _, _) :: _, _, e => by cases e
/-- sorted(d): fewer than 64 keys, all ints -/
def mDSorted (i : Nat) : M (List PyData) := M.bind (dictAt i) fun es => M.opt ((keysI es).bind fun ns => if ns.length < 64 then some ((sortI ns).map .int) else none)
theorem do_dsorted {p : Pos} (hc : X.calm = true) (hg : Gl X "sorted") (hm : X.mg "sorted" = none) (hN : X.N[i]? = some x) (hv : Vis X.env.scope x)
    (hd : (x == ("__debug__" : Str)) = false := by decide) (hcd : (x == ("__classdict__" : Str)) = false := by decide)
    (hst : starEach [.Name x pos] X.env = (false, eval (.Name x pos) X.env) :: starEach [] X.env := by rfl) : DO X T W (.Call (.Name "sorted" p) [.Name x pos] [] cpos) (mDSorted i) := by
  refine ⟨fun C hC => ⟨fun pins s σ H Q I h => (pe_callB (call_sortedDI hc) hg hm (by decide +kernel) (pa_cons (pe_var (pos := pos) hN hv hd hcd) pa_nil hst) (he := hst)).run pins s σ H Q I ?_⟩⟩
  obtain ⟨env, r, h⟩ := h
  obtain ⟨es, b, a, kvs, _, h1, h2, h3, h4, h⟩ := Lf.dictAt h r
  refine ⟨.ref a, h1, ?_⟩
  cases e : keysI es with
  | none => rw [e] at h; exact h.elim
  | some ns =>
    rw [e] at h
    simp only [Option.bind_some] at h
    by_cases hl : ns.length < 64
    · rw [if_pos hl] at h
      refine ⟨a, kvs, ns, rfl, .inl h2, h3.trans (keysI_eq e), hl, fun ys p hp hs hn => ?_⟩
      rw [sorted_one (hp.trans (sortI_perm ns).symm) hs (sortI_le ns)]
      have sm : Same H (upd H p (.lst ((sortI ns).map V.int))) := Same.new hn
      refine h (.ref p) _ (r.grow sm) ⟨p, _, rfl, upd_same, DzAll.of_ints _, r.dom p hn, r.domP hn, fun j b' es' q z => ?_⟩ (.same sm)
      obtain ⟨a', ys', q1, q2, _⟩ := r.own j b' es' q
      rw [q1] at z
      cases z
      rw [hn] at q2
      cases q2
    · rw [if_neg hl] at h
      exact h.elim
end
end DL
end

/- EL31 -/
section
set_option maxHeartbeats 4000000
namespace DL
open PySem PySem.Spec PyProof.Rows L2

/-! ### a, b, .. = x, y, .. by a tuple, own objects among the values -/
def stoAll : List Nat → List RVl → M Unit
  | [], [] => M.pure ()
  | i :: is, v :: vs => M.bind (stoV i v) fun _ => stoAll is vs
  | _, _ => M.stuck
def sParN (is : List Nat) (ms : M (List RVl)) : M Fl := M.bind ms fun vs => if vs.length ≤ sizeLine then M.bind (stoAll is vs) fun _ => sNext else M.stuck
theorem stoAll_len : ∀ {is : List Nat} {vs : List RVl} {env env' : En}, stoAll is vs env = .ok () env' → is.length = vs.length
  | [], [], _, _, _ => rfl
  | i :: is, v :: vs, env, env', e => by
    obtain ⟨_, env1, e1, e2⟩ := noE_bind_ok (show M.bind (stoV i v) (fun _ => stoAll is vs) env = .ok () env' from e)
    exact congrArg Nat.succ (stoAll_len e2)
  | [], _ :: _, _, _, e => by cases e
  | _ :: _, [], _, _, e => by cases e
theorem stoAll_noerr : ∀ {is : List Nat} {vs : List RVl} {env env' : En} {x : Er}, stoAll is vs env ≠ .err x env'
  | [], [], _, _, _ => fun z => by cases z
  | i :: is, v :: vs, env, env', x => fun z => by
    have z : M.bind (stoV i v) (fun _ => stoAll is vs) env = .err x env' := z
    cases e : stoV i v env with
    | ok w env1 => rw [M.bind_ok e] at z; exact stoAll_noerr z
    | err y env1 => exact absurd (show sto i (evOf v) env = .err y env1 from e) sto_noerr
    | stuck => rw [M.bind_stuck e] at z; cases z
  | [], _ :: _, _, _, _ => fun z => by cases z
  | _ :: _, [], _, _, _ => fun z => by cases z
def liftGV (K : PySem.W.Frag) (C : Ct) (is : List Nat) : TGs := fun us σ H Q => ∃ env vs, Rel K C H σ env ∧ RRs K C σ H env us vs ∧ match stoAll is vs env with
  | .ok _ env' => ∀ σ', Rel K C H σ' env' → Q σ' H
  | _ => False
structure DGV (X : Cx) (tgs : List Expr) (is : List Nat) : Prop where
  pgs : ∀ C : Ct, PGs X tgs (liftGV X.K C is)
theorem RRs.len {K : PySem.W.Frag} {C : Ct} {σ : L2.St} {H : Hp} {env : En} : ∀ {us : List V} {vs : List RVl}, RRs K C σ H env us vs → us.length = vs.length
  | [], [], _ => rfl
  | u :: us, .d x :: vs, h => congrArg Nat.succ (RRs.len h.2)
  | u :: us, .o ds :: vs, h => congrArg Nat.succ (RRs.len h.2)
  | [], _ :: _, h => h.elim
  | _ :: _, [], h => h.elim
theorem RRs.grow {K : PySem.W.Frag} {C : Ct} {σ : L2.St} {H H' : Hp} {env : En} (e : Same H H') : ∀ {us : List V} {vs : List RVl}, RRs K C σ H env us vs → RRs K C σ H' env us vs
  | [], [], _ => trivial
  | u :: us, .d x :: vs, h => ⟨Dz.le (.same e) x h.1, RRs.grow e h.2⟩
  | u :: us, .o ds :: vs, h => by
    obtain ⟨⟨p, xs, h0, h1, h2, h3⟩, h6⟩ := h
    exact ⟨⟨p, xs, h0, e _ _ h1, OOR.le (.same e) h2, h3⟩, RRs.grow e h6⟩
  | [], _ :: _, h => h.elim
  | _ :: _, [], h => h.elim
section
variable {X : Cx} {T : List (Addr × Str)} {W : WX} {pos : Pos}
theorem dgv_nil : DGV X [] [] := by
  refine ⟨fun C => ⟨fun pins s σ H us ws Q I rv h => pgs_nil.run pins s σ H us ws Q I rv ?_⟩⟩
  obtain ⟨env, vs, r, hv, h⟩ := h
  match us, vs, hv, h with
  | [], [], _, h => exact ⟨rfl, h σ r⟩
  | _ :: _, [], hv, _ => exact hv.elim
  | us, _ :: _, hv, h => exact h.elim
theorem dgv_cons {i : Nat} {is : List Nat} {x : Str} {es : List Expr} (hN : X.N.Nodup) (hi : X.N[i]? = some x) (hx : Loc X.env.scope x) (hr : DGV X es is) (hf : X.fn x = true ∨ X.env.scope.names.lookup x = some .local := by first | exact .inl rfl | exact .inr rfl | assumption)
    (hs : (assignEach (.Name x pos :: es) X.env).map (·.2) = assign (.Name x pos) X.env :: (assignEach es X.env).map (·.2) := by rfl) : DGV X (.Name x pos :: es) (i :: is) := by
  refine ⟨fun C => ⟨fun pins s σ H us ws Q I rv h => (pgs_cons (pg_name hN hi hx hf) (hr.pgs C) hs).run pins s σ H us ws Q I rv ?_⟩⟩
  obtain ⟨env, vs, r, hv, h⟩ := h
  match us, vs, hv, h with
  | [], [], _, h => exact h.elim
  | [], _ :: _, hv, _ => exact hv.elim
  | _ :: _, [], hv, _ => exact hv.elim
  | u :: us, v :: vs, hv, h =>
    have h : match M.bind (stoV i v) (fun _ => stoAll is vs) env with
      | .ok _ env' => ∀ σ', Rel X.K C H σ' env' → Q σ' H
      | _ => False := h
    refine ⟨u, us, rfl, ?_⟩
    cases e : stoV i v env with
    | stuck => rw [M.bind_stuck e] at h; exact h.elim
    | err y env1 => exact absurd (show sto i (evOf v) env = .err y env1 from e) sto_noerr
    | ok w env1 =>
      rw [M.bind_ok e] at h
      obtain ⟨hn, rfl⟩ := sto_ok (show sto i (evOf v) env = .ok () env1 from e)
      obtain ⟨r2, hv2⟩ := stoV_ok r hv hn
      exact ⟨_, vs, r2, hv2, h⟩
theorem ds_parN {tgs es : List Expr} {is : List Nat} {ms : M (List RVl)} {pt : Pos} {kt k2 pt2} (hc : X.calm = true) (hg : DGV X tgs is) (ha : DAV X T W es ms)
    (hn : (assignEach tgs X.env).length = is.length := by rfl) (hst : (assignEach tgs X.env).findIdx? (·.1) = none := by rfl)
    (hs : swapsWithSole [.Tuple tgs kt pt] (.Tuple es k2 pt2) pos.line X.env = pure false := by rfl) (hw : swappedStores [.Tuple tgs kt pt] (.Tuple es k2 pt2) X.env = pure none := by rfl)
    (h1 : (assignEach [.Tuple tgs kt pt] X.env).map (·.2) = [assign (.Tuple tgs kt pt) X.env] := by rfl) : DS X T W (.Assign [.Tuple tgs kt pt] (.Tuple es k2 pt2) pos) (sParN is ms) := by
  refine ⟨fun C hC => ⟨fun pins s σ H D I h => (ps_asg (pe_tup (ha.pa C hC)) (pg_tup hc (hg.pgs C) hn hst) hs hw h1).run pins s σ H D I ?_⟩⟩
  obtain ⟨env, r, h⟩ := h
  refine ⟨env, r, Sf.bind h fun us H1 vs env1 r1 hv l1 h1 => ?_⟩
  by_cases hl : vs.length ≤ sizeLine
  · rw [if_pos hl] at h1
    cases e : stoAll is vs env1 with
    | stuck => rw [M.bind_stuck e] at h1; exact h1.elim
    | err y env2 => exact absurd e stoAll_noerr
    | ok w env2 =>
      rw [M.bind_ok e] at h1
      have e1 := hv.len
      have e2 := stoAll_len e
      refine ⟨by omega, fun p hp => ?_⟩
      have sm : Same H1 (upd H1 p (.tup us)) := Same.new hp
      refine ⟨p, us, rfl, .inl (.inl upd_same), by omega, env1, vs, r1.grow sm, hv.grow sm, ?_⟩
      rw [e]
      exact fun σ' r' => h1 σ' _ r' (.same sm)
  · rw [if_neg hl] at h1
    exact h1.elim
end
end DL
end

/- EL32 -/
section
set_option maxHeartbeats 4000000
namespace DL
open PySem PySem.Spec PyProof.Rows L2

/-! ### repr of an int, a truth value, None -/
def gReprA : List PyData → Option PyData
  | [.int i] => if i.natAbs.log2 < 1920 then some (.str (toString i)) else none
  | [.bool b] => some (.str (if b then "True" else "False"))
  | [.none] => some (.str "None")
  | _ => none
/-- sorted of ints or of data, a list; of a tuple of ints -/
def gSortB (ds : List PyData) : Option (List PyData) := match gSorted ds with
  | some z => some z
  | none => gSortD ds
section
variable {X : Cx}
theorem c_reprA : CallD X (.builtin "repr") gReprA := by
  intro pins s σ H xs us ds d I r hz e Q q
  unfold gReprA at e
  split at e
  · split at e
    · rename_i i hi
      cases e
      obtain ⟨x, rfl, h⟩ := hz.one
      cases h.int
      obtain ⟨u, rfl, ru⟩ := r.one
      obtain ⟨t, rfl⟩ := ru
      exact PySem.P.repr_of_int hi ⟨.str _, H, I.tok _, ⟨_, rfl⟩, q _ H (.refl _) (.str _)⟩
    · cases e
  · rename_i b
    cases e
    obtain ⟨x, rfl, h⟩ := hz.one
    cases h.bool
    obtain ⟨u, rfl, ru⟩ := r.one
    obtain rfl : u = Value.bool b := ru
    exact PySem.P.repr_of_bool ⟨.str _, H, I.tok _, ⟨_, rfl⟩, q _ H (.refl _) (.str _)⟩
  · cases e
    obtain ⟨x, rfl, h⟩ := hz.one
    cases h.non
    obtain ⟨u, rfl, ru⟩ := r.one
    obtain rfl : u = Value.none := ru
    exact PySem.P.repr_of_none ⟨.str _, H, I.tok _, ⟨_, rfl⟩, q _ H (.refl _) (.str _)⟩
  · cases e
theorem c_sortB (hu : X.A.units + 65 < cLine) : CallDL X (.builtin "sorted") gSortB := by
  intro pins s σ H xs us ds d I r hz e Q q
  unfold gSortB at e
  cases e1 : gSorted ds with
  | some z =>
    rw [e1] at e
    cases e
    exact c_sorted pins s σ H xs us ds _ I r hz e1 Q q
  | none =>
    rw [e1] at e
    exact c_sortD hu pins s σ H xs us ds d I r hz e Q q
end
/-! what the readings' words are on numbers -/
@[simp] theorem gLtA_int {i j : Int} : gLtA (.int i) (.int j) = some (.bool (decide (i < j))) := rfl
@[simp] theorem gGtA_int {i j : Int} : gGtA (.int i) (.int j) = some (.bool (decide (i > j))) := rfl
@[simp] theorem gLeA_int {i j : Int} : gLeA (.int i) (.int j) = some (.bool (decide (i ≤ j))) := rfl
@[simp] theorem gGeA_int {i j : Int} : gGeA (.int i) (.int j) = some (.bool (decide (i ≥ j))) := rfl
theorem gSortB_int {ns : List Int} : gSortB [.list (ns.map .int)] = some ((sortI ns).map .int) := by
  unfold gSortB
  rw [show gSorted [.list (ns.map .int)] = some ((sortI ns).map .int) from by unfold gSorted; dsimp only; rw [toInts_map] <;> rfl]
theorem gMinB_int {n : Int} {ns : List Int} : gMinB [.list ((n :: ns).map .int)] = some (.int (ns.foldl min n)) := by
  unfold gMinB
  rw [show gMinA [.list ((n :: ns).map .int)] = some (.int (ns.foldl min n)) from by unfold gMinA gMin; dsimp only; rw [toInts_map] <;> rfl]
theorem gMaxB_int {n : Int} {ns : List Int} : gMaxB [.list ((n :: ns).map .int)] = some (.int (ns.foldl max n)) := by
  unfold gMaxB
  rw [show gMaxA [.list ((n :: ns).map .int)] = some (.int (ns.foldl max n)) from by unfold gMaxA gMax; dsimp only; rw [toInts_map] <;> rfl]
@[simp] theorem gMinB_two {i j : Int} : gMinB [.int i, .int j] = some (.int (if j < i then j else i)) := rfl
@[simp] theorem gMaxB_two {i j : Int} : gMaxB [.int i, .int j] = some (.int (if j > i then j else i)) := rfl
end DL
end

/- EL33 -/
section
set_option maxHeartbeats 4000000
namespace DL
open PySem PySem.Spec PyProof.Rows L2

theorem rmo {n : Nat} (h : n + 64 < cLine) : n + 1 < cLine := by omega
section
variable {env : En} {E : Er → En → Prop} {mk md mv m : M Vl} {mq : M OO} {i : Nat}
theorem wp_opt' {β : Type} {o : Option β} {Q : β → En → Prop} : wp (M.opt o) env Q E ↔ opt o fun v => Q v env := wp_Mopt
theorem wp_dictAt {Q : List (Key × PyData) → En → Prop} : wp (dictAt i) env Q E ↔ (match env[i]? with
  | some (some (.own _ (.k es))) => Q es env
  | _ => False) := by
  unfold wp dictAt
  cases env[i]? with
  | none => rfl
  | some o => cases o with
    | none => rfl
    | some ev => cases ev with
      | d x => rfl
      | own b ds => cases ds <;> rfl
      | x v => rfl
theorem wp_keyOf {Q : Key → En → Prop} : wp (DL.keyOf mk) env Q E ↔ wp mk env (fun v e => wp v.get e (fun d e => opt (keyD d) fun k => Q k e) E) E := by
  unfold DL.keyOf
  simp only [wp_bind, wp_opt']
theorem wp_mDGet {Q : Vl → En → Prop} : wp (mDGet i mk) env Q E ↔ wp (dictAt i) env (fun _ e => wp (DL.keyOf mk) e (fun k e => wp (dictAt i) e (fun es e => opt (oAt es k) fun x => Q (.d x) e) E) E) E := by
  unfold mDGet
  simp only [wp_bind, wp_opt', opt_map]
theorem wp_mDIn {Q : Vl → En → Prop} : wp (mDIn i mk) env Q E ↔ wp (DL.keyOf mk) env (fun k e => wp (dictAt i) e (fun es e => Q (.d (.bool (oAt es k).isSome)) e) E) E := by
  unfold mDIn
  simp only [wp_bind, wp_pure]
theorem wp_mDNotIn {Q : Vl → En → Prop} : wp (mDNotIn i mk) env Q E ↔ wp (DL.keyOf mk) env (fun k e => wp (dictAt i) e (fun es e => Q (.d (.bool (!(oAt es k).isSome))) e) E) E := by
  unfold mDNotIn
  simp only [wp_bind, wp_pure]
theorem wp_mDict0 {Q : OO → En → Prop} : wp mDict0 env Q E ↔ Q (.k []) env := Iff.rfl
theorem wp_dPut {k : Key} {d : PyData} {Q : Unit → En → Prop} : wp (dPut i k d) env Q E ↔ (match env[i]? with
  | some (some (.own b (.k es))) => es.length < sizeLine ∧ Q () (env.set i (some (.own b (.k (oPut es k d)))))
  | _ => False) := by
  unfold wp dPut
  cases env[i]? with
  | none => rfl
  | some o => cases o with
    | none => rfl
    | some ev => cases ev with
      | d x => rfl
      | own b ds =>
        cases ds with
        | k es =>
          dsimp only
          by_cases h : es.length < sizeLine <;> simp [h]
        | _ => rfl
      | x v => rfl
theorem wp_dUpd {ms : List (Key × PyData)} {Q : Unit → En → Prop} : wp (dUpd i ms) env Q E ↔ (match env[i]? with
  | some (some (.own b (.k es))) => es.length + ms.length ≤ sizeLine ∧ Q () (env.set i (some (.own b (.k (mergeD es ms)))))
  | _ => False) := by
  unfold wp dUpd
  cases env[i]? with
  | none => rfl
  | some o => cases o with
    | none => rfl
    | some ev => cases ev with
      | d x => rfl
      | own b ds =>
        cases ds with
        | k es =>
          dsimp only
          by_cases h : es.length + ms.length ≤ sizeLine <;> simp [h]
        | _ => rfl
      | x v => rfl
theorem wp_sDPut {Q : Fl → En → Prop} : wp (sDPut i mk mv) env Q E ↔ wp mv env (fun v e => wp (leak v) e (fun d e => wp (dictAt i) e (fun _ e => wp (DL.keyOf mk) e (fun k e => wp (dPut i k d) e (fun _ e => Q .next e) E) E) E) E) E := by
  unfold sDPut
  simp only [wp_bind, wp_sNext]
theorem wp_mDUpd {Q : Vl → En → Prop} : wp (mDUpd i mq) env Q E ↔ wp (dictAt i) env (fun _ e => wp mq e (fun o e => match o with
  | .k ms => wp (dUpd i ms) e (fun _ e => Q (.d .none) e) E
  | _ => False) E) E := by
  unfold mDUpd
  simp only [wp_bind]
  apply iff_of_eq; congr 1; funext _ e; congr 1; funext o e
  cases o with
  | k ms => simp only [wp_bind, wp_mC]
  | _ => rfl
theorem wp_mDc {vs : List Nat} {mi : M Src} {g : PyData → M Unit} {t : M Bool} {e : M Vl} {d : PyData} {Q : OO → En → Prop} : wp (mDc vs mi g t e d) env Q E ↔ wp mi env (fun s en => wp (dcRun vs g t e s) en (fun ks en => Q (.k (ks.map fun k => (k, d))) en) E) E := by
  unfold mDc
  simp only [wp_bind, wp_pure]
theorem wp_mDSorted {Q : List PyData → En → Prop} : wp (mDSorted i) env Q E ↔ wp (dictAt i) env (fun es e => opt ((keysI es).bind fun ns => if ns.length < 64 then some ((sortI ns).map PyData.int) else none) fun xs => Q xs e) E := by
  unfold mDSorted
  simp only [wp_bind, wp_opt']
theorem wp_mUn {g : PyData → Option PyData} {Q : Vl → En → Prop} : wp (mUn g m) env Q E ↔ wp m env (fun v e => wp v.get e (fun d e => opt (g d) fun z => Q (.d z) e) E) E := by
  unfold mUn
  simp only [wp_bind, wp_opt', opt_map]
theorem wp_mRev {Q : Vl → En → Prop} : wp (mRev m) env Q E ↔ wp m env (fun v e => wp v.get e (fun d e => match d with
  | .tuple xs => Q (.d (.tuple xs.reverse)) e
  | .list xs => Q (.d (.list xs.reverse)) e
  | _ => False) E) E := by
  unfold mRev
  simp only [wp_bind]
  apply iff_of_eq; congr 1; funext _ e; congr 1; funext d e
  cases d <;> rfl
theorem wp_stoNil {Q : Unit → En → Prop} : wp (stoAll [] []) env Q E ↔ Q () env := Iff.rfl
theorem wp_stoCons {is : List Nat} {v : RVl} {vs : List RVl} {Q : Unit → En → Prop} : wp (stoAll (i :: is) (v :: vs)) env Q E ↔ wp (sto i (evOf v)) env (fun _ e => wp (stoAll is vs) e Q E) E := by
  show wp (M.bind (stoV i v) fun _ => stoAll is vs) env Q E ↔ _
  rw [wp_bind]
  rfl
theorem wp_sParN {is : List Nat} {ms : M (List RVl)} {Q : Fl → En → Prop} : wp (sParN is ms) env Q E ↔ wp ms env (fun vs e => vs.length ≤ sizeLine ∧ wp (stoAll is vs) e (fun _ e => Q .next e) E) E := by
  unfold sParN
  rw [wp_bind]
  apply iff_of_eq; congr 1; funext vs e
  by_cases h : vs.length ≤ sizeLine
  · rw [if_pos h]
    simp only [wp_bind, wp_sNext, h, true_and]
  · rw [if_neg h]
    simp [h]
@[simp ↓] theorem W_dictAt {Q : List (Key × PyData) → En → Prop} : W (dictAt i) env Q E ↔ (match env[i]? with
  | some (some (.own _ (.k es))) => Q es env
  | _ => False) := by unfold W at *; exact wp_dictAt
@[simp ↓] theorem W_keyOf {Q : Key → En → Prop} : W (DL.keyOf mk) env Q E ↔ W mk env (fun v e => W v.get e (fun d e => opt (keyD d) fun k => Q k e) E) E := by unfold W at *; exact wp_keyOf
@[simp ↓] theorem W_mDGet {Q : Vl → En → Prop} : W (mDGet i mk) env Q E ↔ W (dictAt i) env (fun _ e => W (DL.keyOf mk) e (fun k e => W (dictAt i) e (fun es e => opt (oAt es k) fun x => Q (.d x) e) E) E) E := by unfold W at *; exact wp_mDGet
@[simp ↓] theorem W_mDIn {Q : Vl → En → Prop} : W (mDIn i mk) env Q E ↔ W (DL.keyOf mk) env (fun k e => W (dictAt i) e (fun es e => Q (.d (.bool (oAt es k).isSome)) e) E) E := by unfold W at *; exact wp_mDIn
@[simp ↓] theorem W_mDNotIn {Q : Vl → En → Prop} : W (mDNotIn i mk) env Q E ↔ W (DL.keyOf mk) env (fun k e => W (dictAt i) e (fun es e => Q (.d (.bool (!(oAt es k).isSome))) e) E) E := by unfold W at *; exact wp_mDNotIn
@[simp ↓] theorem W_mDict0 {Q : OO → En → Prop} : W mDict0 env Q E ↔ Q (.k []) env := by unfold W at *; exact wp_mDict0
@[simp ↓] theorem W_dPut {k : Key} {d : PyData} {Q : Unit → En → Prop} : W (dPut i k d) env Q E ↔ (match env[i]? with
  | some (some (.own b (.k es))) => es.length < sizeLine ∧ Q () (env.set i (some (.own b (.k (oPut es k d)))))
  | _ => False) := by unfold W at *; exact wp_dPut
@[simp ↓] theorem W_dUpd {ms : List (Key × PyData)} {Q : Unit → En → Prop} : W (dUpd i ms) env Q E ↔ (match env[i]? with
  | some (some (.own b (.k es))) => es.length + ms.length ≤ sizeLine ∧ Q () (env.set i (some (.own b (.k (mergeD es ms)))))
  | _ => False) := by unfold W at *; exact wp_dUpd
@[simp ↓] theorem W_sDPut {Q : Fl → En → Prop} : W (sDPut i mk mv) env Q E ↔ W mv env (fun v e => W (leak v) e (fun d e => W (dictAt i) e (fun _ e => W (DL.keyOf mk) e (fun k e => W (dPut i k d) e (fun _ e => Q .next e) E) E) E) E) E := by unfold W at *; exact wp_sDPut
@[simp ↓] theorem W_mDUpd {Q : Vl → En → Prop} : W (mDUpd i mq) env Q E ↔ W (dictAt i) env (fun _ e => W mq e (fun o e => match o with
  | .k ms => W (dUpd i ms) e (fun _ e => Q (.d .none) e) E
  | _ => False) E) E := by unfold W at *; exact wp_mDUpd
@[simp ↓] theorem W_mDc {vs : List Nat} {mi : M Src} {g : PyData → M Unit} {t : M Bool} {e : M Vl} {d : PyData} {Q : OO → En → Prop} : W (mDc vs mi g t e d) env Q E ↔ W mi env (fun s en => W (dcRun vs g t e s) en (fun ks en => Q (.k (ks.map fun k => (k, d))) en) E) E := by unfold W at *; exact wp_mDc
@[simp ↓] theorem W_mDSorted {Q : List PyData → En → Prop} : W (mDSorted i) env Q E ↔ W (dictAt i) env (fun es e => opt ((keysI es).bind fun ns => if ns.length < 64 then some ((sortI ns).map PyData.int) else none) fun xs => Q xs e) E := by unfold W at *; exact wp_mDSorted
@[simp ↓] theorem W_mUn {g : PyData → Option PyData} {Q : Vl → En → Prop} : W (mUn g m) env Q E ↔ W m env (fun v e => W v.get e (fun d e => opt (g d) fun z => Q (.d z) e) E) E := by unfold W at *; exact wp_mUn
@[simp ↓] theorem W_mRev {Q : Vl → En → Prop} : W (mRev m) env Q E ↔ W m env (fun v e => W v.get e (fun d e => match d with
  | .tuple xs => Q (.d (.tuple xs.reverse)) e
  | .list xs => Q (.d (.list xs.reverse)) e
  | _ => False) E) E := by unfold W at *; exact wp_mRev
@[simp ↓] theorem W_stoNil {Q : Unit → En → Prop} : W (stoAll [] []) env Q E ↔ Q () env := by unfold W at *; exact wp_stoNil
@[simp ↓] theorem W_stoCons {is : List Nat} {v : RVl} {vs : List RVl} {Q : Unit → En → Prop} : W (stoAll (i :: is) (v :: vs)) env Q E ↔ W (sto i (evOf v)) env (fun _ e => W (stoAll is vs) e Q E) E := by unfold W at *; exact wp_stoCons
@[simp ↓] theorem W_sParN {is : List Nat} {ms : M (List RVl)} {Q : Fl → En → Prop} : W (sParN is ms) env Q E ↔ W ms env (fun vs e => vs.length ≤ sizeLine ∧ W (stoAll is vs) e (fun _ e => Q .next e) E) E := by unfold W at *; exact wp_sParN
end
end DL
end

/- EW4 -/
section
set_option maxHeartbeats 4000000
namespace DL
open PySem PySem.Spec PyProof.Rows L2

/-! ### plain facts of the readings' words -/
def intD : PyData → Bool
  | .int _ => true
  | _ => false
def withinD (d : PyData) (lo hi : Int) : Bool := match d with
  | .int i => decide (lo ≤ i) && decide (i ≤ hi)
  | _ => false
def sizedD (d : PyData) (lo hi : Int) : Bool := match d with
  | .tuple xs => decide (lo ≤ (xs.length : Int)) && decide ((xs.length : Int) ≤ hi)
  | _ => false
@[simp] theorem withinD_int {i lo hi : Int} : withinD (.int i) lo hi = (decide (lo ≤ i) && decide (i ≤ hi)) := rfl
@[simp] theorem withinD_none {lo hi : Int} : withinD .none lo hi = false := rfl
@[simp] theorem withinD_bool {b : Bool} {lo hi : Int} : withinD (.bool b) lo hi = false := rfl
@[simp] theorem withinD_str {b : Str} {lo hi : Int} : withinD (.str b) lo hi = false := rfl
@[simp] theorem withinD_tup {b : List PyData} {lo hi : Int} : withinD (.tuple b) lo hi = false := rfl
@[simp] theorem withinD_lst {b : List PyData} {lo hi : Int} : withinD (.list b) lo hi = false := rfl
@[simp] theorem withinD_dic {b : List (PyData × PyData)} {lo hi : Int} : withinD (.dict b) lo hi = false := rfl
@[simp] theorem sizedD_dic {b : List (PyData × PyData)} {lo hi : Int} : sizedD (.dict b) lo hi = false := rfl
@[simp] theorem sizedD_tup {xs : List PyData} {lo hi : Int} : sizedD (.tuple xs) lo hi = (decide (lo ≤ (xs.length : Int)) && decide ((xs.length : Int) ≤ hi)) := rfl
@[simp] theorem sizedD_none {lo hi : Int} : sizedD .none lo hi = false := rfl
@[simp] theorem sizedD_bool {b : Bool} {lo hi : Int} : sizedD (.bool b) lo hi = false := rfl
@[simp] theorem sizedD_int {b : Int} {lo hi : Int} : sizedD (.int b) lo hi = false := rfl
@[simp] theorem sizedD_str {b : Str} {lo hi : Int} : sizedD (.str b) lo hi = false := rfl
@[simp] theorem sizedD_lst {b : List PyData} {lo hi : Int} : sizedD (.list b) lo hi = false := rfl
theorem small_of {i : Int} (h1 : -1000000000000000000 ≤ i) (h2 : i ≤ 1000000000000000000) : DL.small64 i = true := by
  unfold DL.small64
  simp only [Bool.and_eq_true, decide_eq_true_eq]
  constructor <;> omega
@[simp] theorem gAddA_int {i j : Int} : gAddA (.int i) (.int j) = some (.int (i + j)) := rfl
theorem gAddA_tup {xs ys : List PyData} (h : xs.length + ys.length ≤ 16777216) : gAddA (.tuple xs) (.tuple ys) = some (.tuple (xs ++ ys)) := by
  show (match (if xs.length + ys.length ≤ sizeLine then some (PyData.tuple (xs ++ ys)) else none) with
    | some z => some z
    | none => (gCat (.tuple xs) (.tuple ys)).map .list) = _
  rw [if_pos (by rw [sizeLine_eq]; exact h)]
theorem gAddA_lst {xs ys : List PyData} (h : xs.length + ys.length ≤ 16777216) : gAddA (.list xs) (.list ys) = some (.list (xs ++ ys)) := by
  show ((if xs.length + ys.length ≤ sizeLine then some (xs ++ ys) else none).map PyData.list) = _
  rw [if_pos (by rw [sizeLine_eq]; exact h)]
  rfl
theorem gCat_lst {xs ys : List PyData} (h : xs.length + ys.length ≤ 16777216) : gCat (.list xs) (.list ys) = some (xs ++ ys) := by
  show (if xs.length + ys.length ≤ sizeLine then some (xs ++ ys) else none) = _
  rw [if_pos (by rw [sizeLine_eq]; exact h)]
@[simp] theorem gSub_int {i j : Int} : DL.gSub (.int i) (.int j) = some (.int (i - j)) := rfl
theorem gMulA_int {i j : Int} (h : DL.small64 i = true ∨ DL.small64 j = true) : gMulA (.int i) (.int j) = some (.int (i * j)) := by
  have : gMul (.int i) (.int j) = some (.int (i * j)) := by
    unfold gMul
    rcases h with h | h <;> simp [h]
  unfold gMulA gOr
  rw [this]
@[simp] theorem gEq_int {a b : Int} : gEq (.int a) (.int b) = some (.bool (a == b)) := rfl
@[simp] theorem gNe_int {a b : Int} : gNe (.int a) (.int b) = some (.bool (!(a == b))) := rfl
@[simp] theorem gIs_none {d : PyData} : gIs .none .none = some (.bool true) := rfl
@[simp] theorem gIs_int {i : Int} : gIs (.int i) .none = some (.bool false) := rfl
@[simp] theorem gIsNot_none : gIsNot .none .none = some (.bool false) := rfl
@[simp] theorem gIsNot_int {i : Int} : gIsNot (.int i) .none = some (.bool true) := rfl
@[simp] theorem gIs_tup {i : List PyData} : gIs (.tuple i) .none = some (.bool false) := rfl
@[simp] theorem gIsNot_tup {i : List PyData} : gIsNot (.tuple i) .none = some (.bool true) := rfl
@[simp] theorem gIs_lst {i : List PyData} : gIs (.list i) .none = some (.bool false) := rfl
@[simp] theorem gIsNot_lst {i : List PyData} : gIsNot (.list i) .none = some (.bool true) := rfl
@[simp] theorem truD_none : truD .none = some false := rfl
@[simp] theorem truD_int {i : Int} : truD (.int i) = some (!(i == 0)) := rfl
@[simp] theorem truD_bool {b : Bool} : truD (.bool b) = some b := rfl
@[simp] theorem gTup_lst {xs : List PyData} : DL.gTup [.list xs] = some (.tuple xs) := rfl
@[simp] theorem gTup_tup {xs : List PyData} : DL.gTup [.tuple xs] = some (.tuple xs) := rfl
@[simp] theorem gLen_lst {xs : List PyData} : gLen [.list xs] = some (.int xs.length) := rfl
@[simp] theorem gLen_tup {xs : List PyData} : gLen [.tuple xs] = some (.int xs.length) := rfl
@[simp] theorem isTup_tup {xs : List PyData} : DL.isTup (.tuple xs) = true := rfl
@[simp] theorem isTup_lst {xs : List PyData} : DL.isTup (.list xs) = false := rfl
@[simp] theorem isTup_int {i : Int} : DL.isTup (.int i) = false := rfl
@[simp] theorem isTup_none : DL.isTup .none = false := rfl
@[simp] theorem isTup_str {x : Str} : DL.isTup (.str x) = false := rfl
@[simp] theorem isTup_bool {x : Bool} : DL.isTup (.bool x) = false := rfl
@[simp] theorem isStr_str {x : Str} : DL.isStr (.str x) = true := rfl
@[simp] theorem isStr_tup {xs : List PyData} : DL.isStr (.tuple xs) = false := rfl
@[simp] theorem isStr_int {i : Int} : DL.isStr (.int i) = false := rfl
@[simp] theorem isStr_none : DL.isStr .none = false := rfl
@[simp] theorem isStr_bool {x : Bool} : DL.isStr (.bool x) = false := rfl
@[simp] theorem isStr_lst {xs : List PyData} : DL.isStr (.list xs) = false := rfl
@[simp] theorem seqI_lst {xs : List PyData} : seqI (.list xs) = some xs := rfl
@[simp] theorem seqI_tup {xs : List PyData} : seqI (.tuple xs) = some xs := rfl
@[simp] theorem gIx_t0 {a : PyData} {r : List PyData} : gIx (.tuple (a :: r)) (.int 0) = some a := by simp [gIx, atI, ixN]
@[simp] theorem gIx_t1 {a b : PyData} {r : List PyData} : gIx (.tuple (a :: b :: r)) (.int 1) = some b := by
  show atI _ 1 = _
  rw [atI_nat (by omega) (by simp only [List.length_cons]; omega)]
  rfl
@[simp] theorem gIx_t2 {a b c : PyData} {r : List PyData} : gIx (.tuple (a :: b :: c :: r)) (.int 2) = some c := by
  show atI _ 2 = _
  rw [atI_nat (by omega) (by simp only [List.length_cons]; omega)]
  rfl
@[simp] theorem gIx_t3 {a b c d : PyData} {r : List PyData} : gIx (.tuple (a :: b :: c :: d :: r)) (.int 3) = some d := by
  show atI _ 3 = _
  rw [atI_nat (by omega) (by simp only [List.length_cons]; omega)]
  rfl
@[simp] theorem gIx_l0 {a : PyData} {r : List PyData} : gIx (.list (a :: r)) (.int 0) = some a := by simp [gIx, atI, ixN]
@[simp] theorem gIx_l1 {a b : PyData} {r : List PyData} : gIx (.list (a :: b :: r)) (.int 1) = some b := by
  show atI _ 1 = _
  rw [atI_nat (by omega) (by simp only [List.length_cons]; omega)]
  rfl
@[simp] theorem gIx_l2 {a b c : PyData} {r : List PyData} : gIx (.list (a :: b :: c :: r)) (.int 2) = some c := by
  show atI _ 2 = _
  rw [atI_nat (by omega) (by simp only [List.length_cons]; omega)]
  rfl
@[simp] theorem gIx_l3 {a b c d : PyData} {r : List PyData} : gIx (.list (a :: b :: c :: d :: r)) (.int 3) = some d := by
  show atI _ 3 = _
  rw [atI_nat (by omega) (by simp only [List.length_cons]; omega)]
  rfl
theorem gIx_map {γ : Type} {xs : List γ} {f : γ → PyData} {n : Int} {x : γ} (h1 : 0 ≤ n) (h2 : xs[n.toNat]? = some x) : gIx (.tuple (xs.map f)) (.int n) = some (f x) := by
  have hl := (List.getElem?_eq_some_iff.mp h2).1
  show atI (xs.map f) n = _
  rw [atI_nat h1 (by rw [List.length_map]; omega), List.getElem?_map, h2]
  rfl
theorem gIx_mapL {γ : Type} {xs : List γ} {f : γ → PyData} {n : Int} {x : γ} (h1 : 0 ≤ n) (h2 : xs[n.toNat]? = some x) : gIx (.list (xs.map f)) (.int n) = some (f x) := by
  have hl := (List.getElem?_eq_some_iff.mp h2).1
  show atI (xs.map f) n = _
  rw [atI_nat h1 (by rw [List.length_map]; omega), List.getElem?_map, h2]
  rfl
@[simp] theorem ints_len {ns : List Int} : (ns.map PyData.int).length = ns.length := List.length_map ..
theorem gSum_ints {ns : List Int} : gSum [.list (ns.map .int)] = some (.int ns.sum) := by
  show (toInts (ns.map .int)).map _ = _
  rw [toInts_map]
  rfl
theorem all_bools {α : Type} (xs : List α) (f : α → Bool) : gAllA [.list (xs.map fun x => .bool (f x))] = some (.bool (xs.all f)) := by
  have h1 : (xs.map fun x => PyData.bool (f x)).all flatD = true := by
    rw [List.all_map, List.all_eq_true]
    intro x _
    rfl
  show (if (xs.map fun x => PyData.bool (f x)).all flatD then some (PyData.bool ((xs.map fun x => PyData.bool (f x)).all PyData.truthy)) else none) = _
  rw [if_pos h1, List.all_map]
  rfl
theorem any_bools {α : Type} (xs : List α) (f : α → Bool) : gAnyA [.list (xs.map fun x => .bool (f x))] = some (.bool (xs.any f)) := by
  have h1 : (xs.map fun x => PyData.bool (f x)).all flatD = true := by
    rw [List.all_map, List.all_eq_true]
    intro x _
    rfl
  show (if (xs.map fun x => PyData.bool (f x)).all flatD then some (PyData.bool ((xs.map fun x => PyData.bool (f x)).any PyData.truthy)) else none) = _
  rw [if_pos h1, List.any_map]
  rfl
theorem eqv_int_int (a b : Int) : PyData.eqv (.int a) (.int b) = (a == b) := by simp [PyData.eqv]
theorem any_eqv_ints (ns : List Int) (k : Int) : ((ns.map PyData.int).any fun z => PyData.eqv z (.int k)) = decide (k ∈ ns) := by
  rw [List.any_map]
  rw [Bool.eq_iff_iff, List.any_eq_true, decide_eq_true_eq]
  constructor
  · rintro ⟨x, hx, h⟩
    have : x = k := by simpa [PyData.eqv] using h
    exact this ▸ hx
  · intro h
    exact ⟨k, h, by simp [PyData.eqv]⟩
theorem lay_ints {n : Nat} (ns : List Int) : Lay (n + 1) (.tuple (ns.map .int)) := lay_tuple fun x hx => by
  obtain ⟨k, _, rfl⟩ := List.mem_map.mp hx
  simp
theorem lay_lints {n : Nat} (ns : List Int) : Lay (n + 1) (.list (ns.map .int)) := lay_list fun x hx => by
  obtain ⟨k, _, rfl⟩ := List.mem_map.mp hx
  simp
theorem gIn_ints (ns : List Int) (k : Int) : gIn (.int k) (.list (ns.map .int)) = some (.bool (decide (k ∈ ns))) := by
  show (if SeqAt.shaped (.int k) && SeqAt.shaped (.list (ns.map .int)) then some (PyData.bool ((ns.map PyData.int).any fun z => PyData.eqv z (.int k))) else none) = _
  rw [Lay.shaped (n := 0) lay_int (by decide), (lay_lints (n := 0) ns).shaped (by decide), any_eqv_ints]
  rfl
theorem gIn_tints (ns : List Int) (k : Int) : gIn (.int k) (.tuple (ns.map .int)) = some (.bool (decide (k ∈ ns))) := by
  show (if SeqAt.shaped (.int k) && SeqAt.shaped (.tuple (ns.map .int)) then some (PyData.bool ((ns.map PyData.int).any fun z => PyData.eqv z (.int k))) else none) = _
  rw [Lay.shaped (n := 0) lay_int (by decide), (lay_ints (n := 0) ns).shaped (by decide), any_eqv_ints]
  rfl
theorem gNotIn_of {x y : PyData} {b : Bool} (h : gIn x y = some (.bool b)) : gNotIn x y = some (.bool (!b)) := by
  unfold gNotIn
  rw [h]
theorem zip_map {α : Type} (xs : List α) (f g : α → PyData) : zipD (xs.map f) (xs.map g) = xs.map fun x => .tuple [f x, g x] := by
  induction xs with
  | nil => rfl
  | cons t ts ih =>
    unfold zipD at ih ⊢
    simp only [List.map_cons, List.zipWith_cons_cons, List.cons.injEq, true_and]
    exact ih
theorem zipS_map {α : Type} (xs : List α) (f g : α → PyData) : zipS [.tuple (xs.map f), .list (xs.map g)] = some (.fix (xs.map fun x => .tuple [f x, g x])) := by
  rw [← zip_map]; rfl
theorem zipS_mapL {α : Type} (xs : List α) (f g : α → PyData) : zipS [.list (xs.map f), .tuple (xs.map g)] = some (.fix (xs.map fun x => .tuple [f x, g x])) := by
  rw [← zip_map]; rfl
theorem gNe_bool {a b : Bool} : gNe (.bool a) (.bool b) = some (.bool (a != b)) := by
  rw [gNe_lay lay_bool lay_bool]
  cases a <;> cases b <;> rfl
theorem gEq_bool {a b : Bool} : gEq (.bool a) (.bool b) = some (.bool (a == b)) := by
  rw [gEq_lay lay_bool lay_bool]
  cases a <;> cases b <;> rfl
theorem gEq_str {a b : Str} (ha : PyData.strOk a = true) (hb : PyData.strOk b = true) : gEq (.str a) (.str b) = some (.bool (a == b)) := by
  rw [gEq_lay (lay_str.mpr ha) (lay_str.mpr hb)]
  rfl
theorem gNe_str {a b : Str} (ha : PyData.strOk a = true) (hb : PyData.strOk b = true) : gNe (.str a) (.str b) = some (.bool (!(a == b))) := by
  rw [gNe_lay (lay_str.mpr ha) (lay_str.mpr hb)]
  rfl
theorem range_fix {n : Nat} : ((List.range n).map fun i : Nat => PyData.int (0 + (i : Int))) = (List.range n).map fun i : Nat => PyData.int (i : Int) := by simp
theorem eqv_lint_nil {ns : List Int} : PyData.eqv (.list (ns.map .int)) (.list []) = decide (ns = []) := by
  cases ns <;> simp [PyData.eqv, PyData.eqvAll]
/-! loops over data that is not laid from elsewhere -/
section
variable {env : En} {E : Er → En → Prop}
theorem W_lc_mapI {vs : List Nat} {g : PyData → M Unit} {elt : M Vl} {xs : List PyData} {Q : List PyData → En → Prop} (f : PyData → PyData) (hv : noOwn vs env = true) (hl : xs.length ≤ sizeLine)
    (hs : ∀ x ∈ xs, W (g x) (wipeE env vs) (fun _ e => W elt e (fun v e => W (leak v) e (fun d e => d = f x ∧ noOwn vs e = true ∧ wipeE e vs = wipeE env vs) fun _ _ => False) fun _ _ => False) fun _ _ => False)
    (q : Q (xs.map f) env) : W (lcRun vs g mYes elt (.fix xs)) env Q E := by
  have := W_lc_map (enc := fun x => x) (E := E) f hv hl hs q
  rwa [List.map_id'] at this
theorem W_lc_fmI {vs : List Nat} {g : PyData → M Unit} {t : M Bool} {elt : M Vl} {xs : List PyData} {Q : List PyData → En → Prop} (p : PyData → Bool) (f : PyData → PyData) (hv : noOwn vs env = true) (hl : xs.length ≤ sizeLine)
    (hs : ∀ x ∈ xs, W (g x) (wipeE env vs) (fun _ e => W t e (fun k e => k = p x ∧ ((p x = true → W elt e (fun v e => W (leak v) e (fun d e => d = f x ∧ noOwn vs e = true ∧ wipeE e vs = wipeE env vs) fun _ _ => False) fun _ _ => False) ∧ (p x = false → noOwn vs e = true ∧ wipeE e vs = wipeE env vs))) fun _ _ => False) fun _ _ => False)
    (q : Q ((xs.filter p).map f) env) : W (lcRun vs g t elt (.fix xs)) env Q E := by
  have := W_lc_fm (enc := fun x => x) (E := E) p f hv hl hs q
  rwa [List.map_id'] at this
theorem W_dc_mapI {vs : List Nat} {g : PyData → M Unit} {elt : M Vl} {xs : List PyData} {Q : List Key → En → Prop} (f : PyData → Key) (hv : noOwn vs env = true) (hl : xs.length ≤ sizeLine)
    (hs : ∀ x ∈ xs, W (g x) (wipeE env vs) (fun _ e => W elt e (fun v e => W (leak v) e (fun d e => keyD d = some (f x) ∧ noOwn vs e = true ∧ wipeE e vs = wipeE env vs) fun _ _ => False) fun _ _ => False) fun _ _ => False)
    (q : Q (xs.foldl (fun a x => addK a (f x)) []) env) : W (dcRun vs g mYes elt (.fix xs)) env Q E := by
  have := W_dc_map (enc := fun x => x) (E := E) f hv hl hs q
  rwa [List.map_id'] at this
theorem W_forI {g : PyData → M Unit} {st : M Fl} {xs : List PyData} {Q : Fl → En → Prop} (I : List PyData → En → Prop) (h0 : I [] env) (hs : ∀ pre x post e, xs = pre ++ x :: post → I pre e → W (g x) e (fun _ e => W st e (fun fl e => match fl with
  | .next => I (pre ++ [x]) e
  | .cont => I (pre ++ [x]) e
  | .brk => Q .next e
  | .ret v => Q (.ret v) e) E) (fun _ _ => False)) (hd : ∀ e, I xs e → Q .next e) : W (forL g st xs) env Q E := by
  have := W_forM (enc := fun x => x) I h0 hs hd
  rwa [List.map_id'] at this
end
end DL
end

/- EW5 -/
section
set_option maxHeartbeats 4000000
namespace DL
open PySem PySem.Spec PyProof.Rows L2

/-! ### draws -/
def drawM (c1 c2 c3 : Int) : M Fl := (sSeq (sIf (mAnd (mTB (mBin gEq (mBin gIx (mVar 0) (mC (.int 2))) (mC (.int 0)))) (mTB (mBin gLtA (mBin gIx (mVar 0) (mC (.int 1))) (mCall gLen (mCons (mBin gIx (mVar 0) (mC (.int 0))) mNil))))) (sSeq (sSet 2 (mBin gIx (mBin gIx (mVar 0) (mC (.int 0))) (mBin gIx (mVar 0) (mC (.int 1))))) (sSeq (sSetS 0 (mBin gAddA (mBin gIx (mVar 0) (mC (.int 1))) (mC (.int 1))) (mC (.int 1))) (sSeq (sSetS 0 (mBin gMod (mCall gInt (mCons (mBin gAddA (mBin gAddA (mBin gMulA (mBin gIx (mVar 0) (mC (.int 3))) (mC (.int 69621))) (mBin gMulA (mVar 2) (mC (.int c1)))) (mC (.int c2))) mNil)) (mC (.int 2147483629))) (mC (.int 3))) (sIf (mTB (mBin gGeA (mVar 2) (mBin gPow (mC (.int 10)) (mC (.int 18))))) (sSetS 0 (mVar 2) (mC (.int 2))) sNext)))) sNext) (sSeq (sIf (mTB (mBin gGtA (mBin gIx (mVar 0) (mC (.int 2))) (mC (.int 0)))) (sSeq (sSet 3 (mBin gMod (mCall gInt (mCons (mBin gIx (mVar 0) (mC (.int 2))) mNil)) (mVar 1))) (sSeq (sSetS 0 (mBin DL.gDiv (mBin gIx (mVar 0) (mC (.int 2))) (mVar 1)) (mC (.int 2))) (sRet (mVar 3)))) sNext) (sSeq (sSetS 0 (mBin gAddA (mBin gIx (mVar 0) (mC (.int 4))) (mC (.int 1))) (mC (.int 4))) (sSeq (sSet 4 (mBin gMod (mCall gInt (mCons (mBin gMulA (mCall gInt (mCons (mBin gAddA (mBin gIx (mVar 0) (mC (.int 3))) (mBin gMulA (mC (.int 7919)) (mBin gIx (mVar 0) (mC (.int 4))))) mNil)) (mC (.int c3))) mNil)) (mC (.int 2147483647)))) (sSeq (sSet 4 (mBin gMod (mCall gInt (mCons (mBin gMulA (mVar 4) (mBin gAddA (mBin DL.gDiv (mVar 4) (mC (.int 1009))) (mC (.int 69621)))) mNil)) (mC (.int 2147483647)))) (sSeq (sSet 4 (mBin gMod (mCall gInt (mCons (mBin gMulA (mVar 4) (mBin gAddA (mBin DL.gDiv (mVar 4) (mC (.int 2003))) (mC (.int 40014)))) mNil)) (mC (.int 2147483563)))) (sRet (mBin gMod (mCall gInt (mCons (mBin DL.gDiv (mVar 4) (mC (.int 16))) mNil)) (mVar 1)))))))))
def anyM (c1 c2 c3 : Int) : M Fl := (sRet (mBin gIx (mVar 1) (asD (callR1 2 (drawM c1 c2 c3) 5 0 (mCons (mVar 0) (mCons (mCall gLen (mCons (mVar 1) mNil)) mNil))))))
theorem s_draw {ds : List PyData} {many c1 c2 c3 : Int} (k1 : DL.small64 c1 = true) (k3 : DL.small64 c3 = true) (hi : HI ds) (h1 : 0 < many) (h2 : many < 1073741824) : wp (drawM c1 c2 c3) (startE 5 [.own true (.l ds), .d (.int many)]) (fun fl e => ∃ r ds', fl = .ret (.d (.int r)) ∧ e[0]? = some (some (.own true (.l ds'))) ∧ HI ds' ∧ 0 ≤ r ∧ r < many) (fun _ _ => False) := by
  unfold drawM startE
  rw [wp_sSeq]
  refine wp_mono (Q := fun fl e => fl = .next ∧ ∃ (ds' : List PyData) (x : Option PyData), HI ds' ∧ e = [some (.own true (.l ds')), some (.d (.int many)), x.map .d, none, none]) ?_ ?_ (fun _ _ z => z)
  · obtain ⟨cs, at_, r, sd, ct, rfl, a1, a2, a3⟩ := hi
    simp [gIx, atI, ixN, gEq, SeqAt.shaped, PyData.canLay0, PyData.depth, PyData.eqv, gLen]
    by_cases hr : r = 0
    · simp [hr]
      by_cases hlt : at_ < (cs.length : Int)
      · have hn : at_.toNat < cs.length := by omega
        have hc := a3 _ (List.getElem_mem hn)
        simp [hlt, a1, hn, gAddA, gOr, gAdd, gMulA, gMul, k1, show DL.small64 69621 = true from rfl, gInt, gMod, fSet, ixN, gPow, isLst]
        by_cases hb : (1000000000000000000 : Int) ≤ cs[at_.toNat]
        · simp [hb, fSet, ixN]
          exact ⟨_, HI.mk (by omega) hc a3, rfl, some (.int cs[at_.toNat]), rfl⟩
        · simp [hb]
          exact ⟨_, HI.mk (by omega) (by omega) a3, rfl, some (.int cs[at_.toNat]), rfl⟩
      · simp [hlt]
        exact ⟨_, HI.mk a1 (by omega) a3, rfl, none, rfl⟩
    · simp [hr]
      exact ⟨_, HI.mk a1 a2 a3, rfl, none, rfl⟩
  · rintro fl e ⟨rfl, ds', x, hi, rfl⟩
    obtain ⟨cs, at_, r, sd, ct, rfl, a1, a2, a3⟩ := hi
    have sm : ∀ i : Int, 0 ≤ i → i < 2147483647 → DL.small64 i = true := fun i p q => by
      unfold DL.small64
      simp only [Bool.and_eq_true, decide_eq_true_eq]
      constructor <;> omega
    have m1 : ∀ k : Int, 0 ≤ k % 2147483647 := fun k => Int.emod_nonneg k (by omega)
    have m2 : ∀ k : Int, k % 2147483647 < 2147483647 := fun k => Int.emod_lt_of_pos k (by omega)
    rw [wp_sSeq]
    refine wp_mono (Q := fun fl e => (fl = .next ∧ e = [some (.own true (.l [.list (cs.map .int), .int at_, .int r, .int sd, .int ct])), some (.d (.int many)), x.map .d, none, none]) ∨ ∃ r ds', fl = .ret (.d (.int r)) ∧ e[0]? = some (some (.own true (.l ds'))) ∧ HI ds' ∧ 0 ≤ r ∧ r < many) ?_ ?_ (fun _ _ z => z)
    · by_cases hr : 0 < r
      · rcases x with _ | x <;> (
          simp [gIx, atI, ixN, gInt, gMod, DL.gDiv, fSet, h1, h2, hr]
          exact ⟨HI.mk a1 (Int.ediv_nonneg a2 (by omega)) a3, Int.emod_nonneg _ (by omega), Int.emod_lt_of_pos _ h1⟩)
      · rcases x with _ | x <;> simp [gIx, atI, ixN, hr]
    · rintro fl e (⟨rfl, rfl⟩ | ⟨r', ds', rfl, hh⟩)
      · dsimp only
        rw [wp_sSeq]
        refine wp_mono (Q := fun fl e => fl = .next ∧ e = [some (.own true (.l [.list (cs.map .int), .int at_, .int r, .int sd, .int (ct + 1)])), some (.d (.int many)), x.map .d, none, none]) ?_ ?_ (fun _ _ z => z)
        · rcases x with _ | x <;> simp [gIx, atI, ixN, gAddA, gOr, gAdd, fSet]
        · rintro fl e ⟨rfl, rfl⟩
          dsimp only
          rw [wp_sSeq]
          refine wp_mono (Q := fun fl e => fl = .next ∧ ∃ n : Int, 0 ≤ n ∧ n < 2147483647 ∧ e = [some (.own true (.l [.list (cs.map .int), .int at_, .int r, .int sd, .int (ct + 1)])), some (.d (.int many)), x.map .d, none, some (.d (.int n))]) ?_ ?_ (fun _ _ z => z)
          · rcases x with _ | x <;> (
              simp [gIx, atI, ixN, gAddA, gMulA, gOr, gAdd, gMul, gInt, gMod, sm 7919 (by omega) (by omega), k3]
              exact ⟨m1 _, m2 _⟩)
          · rintro fl e ⟨rfl, n, n1, n2, rfl⟩
            dsimp only
            rw [wp_sSeq]
            refine wp_mono (Q := fun fl e => fl = .next ∧ ∃ n : Int, 0 ≤ n ∧ n < 2147483647 ∧ e = [some (.own true (.l [.list (cs.map .int), .int at_, .int r, .int sd, .int (ct + 1)])), some (.d (.int many)), x.map .d, none, some (.d (.int n))]) ?_ ?_ (fun _ _ z => z)
            · rcases x with _ | x <;> (
                simp [gAddA, gMulA, gOr, gAdd, gMul, gInt, gMod, DL.gDiv, sm n n1 n2]
                exact ⟨m1 _, m2 _⟩)
            · rintro fl e ⟨rfl, n, n1, n2, rfl⟩
              dsimp only
              rw [wp_sSeq]
              refine wp_mono (Q := fun fl e => fl = .next ∧ ∃ n : Int, 0 ≤ n ∧ n < 2147483647 ∧ e = [some (.own true (.l [.list (cs.map .int), .int at_, .int r, .int sd, .int (ct + 1)])), some (.d (.int many)), x.map .d, none, some (.d (.int n))]) ?_ ?_ (fun _ _ z => z)
              · have k1 : ∀ k : Int, 0 ≤ k % 2147483563 := fun k => Int.emod_nonneg k (by omega)
                have k2 : ∀ k : Int, k % 2147483563 < 2147483647 := fun k => by
                  have := Int.emod_lt_of_pos k (show (0 : Int) < 2147483563 by omega)
                  omega
                rcases x with _ | x <;> (
                  simp [gAddA, gMulA, gOr, gAdd, gMul, gInt, gMod, DL.gDiv, sm n n1 n2]
                  exact ⟨k1 _, k2 _⟩)
              · rintro fl e ⟨rfl, n, n1, n2, rfl⟩
                dsimp only
                rcases x with _ | x <;> (
                  simp [gInt, gMod, DL.gDiv, h1]
                  exact ⟨HI.mk a1 a2 a3, Int.emod_nonneg _ (by omega), Int.emod_lt_of_pos _ h1⟩)
      · exact ⟨r', ds', rfl, hh⟩
/-! the draws as functions -/
noncomputable def drO (c1 c2 c3 : Int) (ds : List PyData) (many : Int) : Int × List PyData := match drawM c1 c2 c3 (startE 5 [.own true (.l ds), .d (.int many)]) with
  | .ok (.ret (.d (.int r))) e => (match (e : List (Option EV))[0]? with
    | some (some (EV.own _ (.l ds'))) => (r, ds')
    | _ => (0, []))
  | _ => (0, [])
noncomputable def drR (c1 c2 c3 : Int) (ds : List PyData) (many : Int) : Int := (drO c1 c2 c3 ds many).1
noncomputable def drH (c1 c2 c3 : Int) (ds : List PyData) (many : Int) : List PyData := (drO c1 c2 c3 ds many).2
structure DrK (c1 c3 : Int) : Prop where
  k1 : DL.small64 c1 = true
  k3 : DL.small64 c3 = true
section
variable {c1 c2 c3 : Int} {ds : List PyData} {many : Int}
theorem dr_all (k : DrK c1 c3) (hi : HI ds) (h1 : 0 < many) (h2 : many < 1073741824) : ∃ e, drawM c1 c2 c3 (startE 5 [.own true (.l ds), .d (.int many)]) = .ok (.ret (.d (.int (drR c1 c2 c3 ds many)))) e ∧ e[0]? = some (some (.own true (.l (drH c1 c2 c3 ds many)))) ∧ HI (drH c1 c2 c3 ds many) ∧ 0 ≤ drR c1 c2 c3 ds many ∧ drR c1 c2 c3 ds many < many := by
  obtain ⟨v, e, q1, r, ds', rfl, q2, q3, q4, q5⟩ := wp_ok (s_draw (c2 := c2) k.k1 k.k3 hi h1 h2)
  have : drO c1 c2 c3 ds many = (r, ds') := by
    unfold drO
    rw [q1]
    dsimp only
    rw [q2]
  unfold drR drH
  rw [this]
  exact ⟨e, q1, q2, q3, q4, q5⟩
theorem drH_HI (k : DrK c1 c3) (hi : HI ds) (h1 : 0 < many) (h2 : many < 1073741824) : HI (drH c1 c2 c3 ds many) := (dr_all k hi h1 h2).choose_spec.2.2.1
theorem drR_lo (k : DrK c1 c3) (hi : HI ds) (h1 : 0 < many) (h2 : many < 1073741824) : 0 ≤ drR c1 c2 c3 ds many := (dr_all k hi h1 h2).choose_spec.2.2.2.1
theorem drR_hi (k : DrK c1 c3) (hi : HI ds) (h1 : 0 < many) (h2 : many < 1073741824) : drR c1 c2 c3 ds many < many := (dr_all k hi h1 h2).choose_spec.2.2.2.2
theorem W_draw {env : En} {i : Nat} {Q : RVl → En → Prop} {E : Er → En → Prop} (k : DrK c1 c3) (hi : HI ds) (h1 : 0 < many) (h2 : many < 1073741824) : W (fin 2 (drawM c1 c2 c3) 5 [.own true (.l ds), .d (.int many)] (some (0, i))) env Q E ↔ Q (.d (.int (drR c1 c2 c3 ds many))) (putO env i (drH c1 c2 c3 ds many)) := by
  obtain ⟨e, q1, q2, _⟩ := dr_all (c2 := c2) k hi h1 h2
  rw [W_fin]
  unfold W wp
  rw [q1]
  dsimp only
  rw [back_put q2]
  exact ⟨fun z => z.2, fun z => ⟨rfl, z⟩⟩
/-- one of some -/
noncomputable def anD (c1 c2 c3 : Int) (ds xs : List PyData) : PyData := xs.getD (drR c1 c2 c3 ds xs.length).toNat .none
theorem anD_mem {xs : List PyData} (k : DrK c1 c3) (hi : HI ds) (h1 : 0 < xs.length) (h2 : xs.length ≤ 1000000) : anD c1 c2 c3 ds xs ∈ xs := by
  have a := drR_lo (c2 := c2) k hi (many := xs.length) (by omega) (by omega)
  have b := drR_hi (c2 := c2) k hi (many := xs.length) (by omega) (by omega)
  unfold anD
  have : (drR c1 c2 c3 ds xs.length).toNat < xs.length := by omega
  rw [List.getD_eq_getElem?_getD, List.getElem?_eq_getElem this]
  exact List.getElem_mem this
theorem W_any {env : En} {i : Nat} {xs : List PyData} {Q : RVl → En → Prop} {E : Er → En → Prop} (k : DrK c1 c3) (hi : HI ds) (h1 : 0 < xs.length) (h2 : xs.length ≤ 1000000) : W (fin 2 (anyM c1 c2 c3) 2 [.own true (.l ds), .d (.list xs)] (some (0, i))) env Q E ↔ Q (.d (anD c1 c2 c3 ds xs)) (putO env i (drH c1 c2 c3 ds xs.length)) := by
  have a := drR_lo (c2 := c2) k hi (many := xs.length) (by omega) (by omega)
  have b := drR_hi (c2 := c2) k hi (many := xs.length) (by omega) (by omega)
  have c : (drR c1 c2 c3 ds xs.length).toNat < xs.length := by omega
  rw [W_fin]
  unfold anyM
  simp [gLen]
  rw [W_draw k hi (by omega) (by omega)]
  simp [gIx, atI_nat a b, c]
  rw [back_put rfl]
  unfold anD
  rw [List.getD_eq_getElem?_getD, List.getElem?_eq_getElem c]
  rfl
end
/-! ### more words -/
section
variable {env : En} {E : Er → En → Prop} {ms : M (List Vl)}
@[simp ↓] theorem W_mRange2 {Q : Src → En → Prop} : W (mRange2 ms) env Q E ↔ W ms env (fun vs e => W (getAll vs) e (fun ds e => match ds with
  | [.int i, .int j] => (-(2 ^ 62) ≤ i ∧ i < 2 ^ 62 ∧ -(2 ^ 62) ≤ j ∧ j < 2 ^ 62) ∧ Q (.fix ((List.range (j - i).toNat).map fun k => .int (i + (k : Nat)))) e
  | _ => False) E) E := by
  rw [W_eq]
  unfold mRange2
  simp only [wp_bind]
  unfold W
  apply iff_of_eq; congr 1; funext vs e; congr 1; funext ds e
  match ds with
  | [] => rfl
  | [d] => cases d <;> rfl
  | d :: d' :: _ :: _ => cases d <;> cases d' <;> rfl
  | [d, d'] =>
    cases d with
    | int i =>
      cases d' with
      | int j =>
        show wp (if -(2 ^ 62) ≤ i ∧ i < 2 ^ 62 ∧ -(2 ^ 62) ≤ j ∧ j < 2 ^ 62 then M.pure (Src.fix ((List.range (j - i).toNat).map fun k => PyData.int (i + (k : Nat)))) else M.stuck) e Q E = ((-(2 ^ 62) ≤ i ∧ i < 2 ^ 62 ∧ -(2 ^ 62) ≤ j ∧ j < 2 ^ 62) ∧ Q (.fix ((List.range (j - i).toNat).map fun k => .int (i + (k : Nat)))) e)
        by_cases h : -(2 ^ 62) ≤ i ∧ i < 2 ^ 62 ∧ -(2 ^ 62) ≤ j ∧ j < 2 ^ 62
        · rw [if_pos h]
          exact propext ⟨fun z => ⟨h, z⟩, fun z => z.2⟩
        · rw [if_neg h]
          exact propext ⟨fun z => z.elim, fun z => h z.1⟩
      | _ => rfl
    | _ => cases d' <;> rfl
@[simp ↓] theorem W_mEnum {Q : Src → En → Prop} : W (mEnum ms) env Q E ↔ W ms env (fun vs e => W (leakAll vs) e (fun ds e => opt (enumS 0 ds) fun s => Q s e) E) E := by
  rw [W_eq]
  unfold mEnum
  simp only [wp_bind, wp_Mopt]
  unfold W; exact Iff.rfl
theorem enumS_map {α : Type} (xs : List α) (f : α → PyData) : enumS 0 [.tuple (xs.map f)] = some (.fix (xs.mapIdx fun i x => .tuple [.int (i : Nat), f x])) := by
  show some (Src.fix (enumD 0 (xs.map f))) = _
  unfold enumD
  rw [List.mapIdx_eq_zipIdx_map, List.mapIdx_eq_zipIdx_map]
  simp [List.zipIdx_map, Function.comp_def]
theorem enumS_mapL {α : Type} (xs : List α) (f : α → PyData) : enumS 0 [.list (xs.map f)] = some (.fix (xs.mapIdx fun i x => .tuple [.int (i : Nat), f x])) := by
  show some (Src.fix (enumD 0 (xs.map f))) = _
  unfold enumD
  rw [List.mapIdx_eq_zipIdx_map, List.mapIdx_eq_zipIdx_map]
  simp [List.zipIdx_map, Function.comp_def]
/-- over an own list, which the turns leave alone -/
theorem W_lc_ownI {vs : List Nat} {g : PyData → M Unit} {elt : M Vl} {t : M Bool} {xs : List PyData} {j : Nat} {b : Bool} {Q : List PyData → En → Prop} (p : PyData → Bool) (f : PyData → PyData) (hj : env[j]? = some (some (.own b (.l xs)))) (hw : (wipeE env vs)[j]? = some (some (.own b (.l xs)))) (hv : noOwn vs env = true) (hl : xs.length ≤ sizeLine)
    (hs : ∀ x ∈ xs, W (g x) (wipeE env vs) (fun _ e => W t e (fun k e => k = p x ∧ ((p x = true → W elt e (fun v e => W (leak v) e (fun d e => d = f x ∧ noOwn vs e = true ∧ wipeE e vs = wipeE env vs) fun _ _ => False) fun _ _ => False) ∧ (p x = false → noOwn vs e = true ∧ wipeE e vs = wipeE env vs))) fun _ _ => False) fun _ _ => False)
    (q : Q ((xs.filter p).map f) env) : W (lcRun vs g t elt (.own j)) env Q E := by
  unfold W at hs ⊢
  have turn : ∀ x ∈ xs, ∀ acc : List PyData, acc.length < sizeLine → lcTurn vs g t elt x acc (wipeE env vs) = .ok (acc ++ ([x].filter p).map f) (wipeE env vs) := by
    intro x hx acc ha
    have : wp (lcTurn vs g t elt x acc) (wipeE env vs) (fun acc' e' => acc' = acc ++ ([x].filter p).map f ∧ e' = wipeE env vs) (fun _ _ => False) := by
      rw [wp_lcTurn]
      refine wp_mono (hs x hx) (fun _ e h => ?_) fun _ _ z => z
      refine wp_mono h (fun k e h => ?_) fun _ _ z => z
      obtain ⟨rfl, ht, hf⟩ := h
      cases hp : p x with
      | true =>
        rw [if_pos rfl]
        refine wp_mono (ht hp) (fun v e h => ?_) fun _ _ z => z
        refine wp_mono h (fun d e h => ?_) fun _ _ z => z
        obtain ⟨rfl, h3, h4⟩ := h
        exact ⟨ha, wp_clr.mpr ⟨h3, by simp [hp], h4⟩⟩
      | false =>
        rw [if_neg (by simp)]
        obtain ⟨h3, h4⟩ := hf hp
        exact wp_clr.mpr ⟨h3, by simp [hp], h4⟩
    obtain ⟨acc', e', h1, rfl, rfl⟩ := wp_ok this
    exact h1
  have key : ∀ (n i : Nat) (acc : List PyData), i + n = xs.length → acc.length ≤ i → lcN (.own j) vs g t elt (n + 1) i acc (wipeE env vs) = .ok (acc ++ ((xs.drop i).filter p).map f) (wipeE env vs) := by
    intro n
    induction n with
    | zero =>
      intro i acc hi ha
      have e0 : xs[i]? = none := List.getElem?_eq_none (by omega)
      show M.bind (srcAt (.own j) i) _ _ = _
      rw [M.bind_ok (show srcAt (.own j) i (wipeE env vs) = .ok xs[i]? (wipeE env vs) from by unfold srcAt; dsimp only; rw [hw]), e0, List.drop_eq_nil_of_le (by omega)]
      simp
      rfl
    | succ n ih =>
      intro i acc hi ha
      have hlt : i < xs.length := by omega
      have e0 : xs[i]? = some xs[i] := List.getElem?_eq_getElem hlt
      show M.bind (srcAt (.own j) i) _ _ = _
      rw [M.bind_ok (show srcAt (.own j) i (wipeE env vs) = .ok xs[i]? (wipeE env vs) from by unfold srcAt; dsimp only; rw [hw]), e0]
      show M.bind (lcTurn vs g t elt xs[i] acc) _ _ = _
      have hsz : acc.length < sizeLine := by omega
      rw [M.bind_ok (turn xs[i] (List.getElem_mem hlt) acc hsz), List.drop_eq_getElem_cons hlt]
      have hle : (([xs[i]].filter p).map f).length ≤ 1 := by
        rw [List.length_map]
        exact List.length_filter_le _ _
      rw [ih (i + 1) _ (by omega) (by rw [List.length_append]; omega)]
      rw [show xs[i] :: xs.drop (i + 1) = [xs[i]] ++ xs.drop (i + 1) from rfl, List.filter_append, List.map_append, List.append_assoc]
  have hc : clr vs env = .ok () (wipeE env vs) := by unfold clr; rw [if_pos hv]
  have : lcRun vs g t elt (.own j) env = .ok ((xs.filter p).map f) env := by
    unfold lcRun
    rw [show srcLen (.own j) env = .ok xs.length env from by unfold srcLen; dsimp only; rw [hj]]
    dsimp only
    rw [M.bind_ok hc, key xs.length 0 [] (by omega) (Nat.zero_le _)]
    simp only [List.drop_zero, rest_wipe, List.nil_append]
  exact wp_of this q
end
end DL
end

/- EW6 -/
section
set_option maxHeartbeats 4000000
namespace DL
open PySem PySem.Spec PyProof.Rows L2

/-! ### equality and order of data -/
mutual
theorem eqv_alike : ∀ (x y : PyData), PySem.W.alike x y = true → PyData.eqv x y = true → x = y
  | .none, y, h, e => by
    cases y with
    | none => rfl
    | _ => exact absurd h (by simp [PySem.W.alike])
  | .bool a, y, h, e => by
    cases y with
    | bool b => have e' : a = b := by simpa [PyData.eqv] using e
                rw [e']
    | _ => exact absurd h (by simp [PySem.W.alike])
  | .int a, y, h, e => by
    cases y with
    | int b => have e' : a = b := by simpa [PyData.eqv] using e
               rw [e']
    | _ => exact absurd h (by simp [PySem.W.alike])
  | .str a, y, h, e => by
    cases y with
    | str b => have e' : a = b := by simpa [PyData.eqv] using e
               rw [e']
    | _ => exact absurd h (by simp [PySem.W.alike])
  | .list xs, y, h, e => by
    cases y with
    | list ys => rw [eqvAll_alike xs ys (by simpa [PySem.W.alike] using h) (by simpa [PyData.eqv] using e)]
    | _ => exact absurd h (by simp [PySem.W.alike])
  | .tuple xs, y, h, e => by
    cases y with
    | tuple ys => rw [eqvAll_alike xs ys (by simpa [PySem.W.alike] using h) (by simpa [PyData.eqv] using e)]
    | _ => exact absurd h (by simp [PySem.W.alike])
  | .dict _, y, h, e => absurd h (by cases y <;> simp [PySem.W.alike])
theorem eqvAll_alike : ∀ (xs ys : List PyData), PySem.W.alikeAll xs ys = true → PyData.eqvAll xs ys = true → xs = ys
  | [], [], _, _ => rfl
  | [], _ :: _, _, e => absurd e (by simp [PyData.eqvAll])
  | _ :: _, [], _, e => absurd e (by simp [PyData.eqvAll])
  | x :: xs, y :: ys, h, e => by
    rw [PySem.W.alikeAll, Bool.and_eq_true] at h
    rw [PyData.eqvAll, Bool.and_eq_true] at e
    rw [eqv_alike x y h.1 e.1, eqvAll_alike xs ys h.2 e.2]
end
theorem eqv_refl' {x : PyData} {n : Nat} (h : Lay n x) : PyData.eqv x x = true := PySem.SeqAt.eqv_refl x h.1
theorem eqv_iff {x y : PyData} {n : Nat} (h : PySem.W.alike x y = true) (hx : Lay n x) : PyData.eqv x y = true ↔ x = y :=
  ⟨eqv_alike x y h, fun e => e ▸ eqv_refl' hx⟩
theorem gEq_alike {x y : PyData} {b : Bool} (h : PySem.W.alike x y = true) (hx : Lay 60 x) (hy : Lay 60 y) (hb : b = true ↔ x = y) : gEq x y = some (.bool b) := by
  rw [gEq_lay hx hy]
  congr 2
  rw [Bool.eq_iff_iff, eqv_iff h hx, hb]
theorem gNe_alike {x y : PyData} {b : Bool} (h : PySem.W.alike x y = true) (hx : Lay 60 x) (hy : Lay 60 y) (hb : b = true ↔ x = y) : gNe x y = some (.bool (!b)) := by
  rw [gNe_lay hx hy]
  congr 3
  rw [Bool.eq_iff_iff, eqv_iff h hx, hb]
theorem alikeAll_of : ∀ {xs ys : List PyData}, (∀ x ∈ xs, ∀ y ∈ ys, PySem.W.alike x y = true) → PySem.W.alikeAll xs ys = true
  | [], _, _ => by rw [PySem.W.alikeAll]
  | _ :: _, [], _ => by rw [PySem.W.alikeAll]
  | x :: xs, y :: ys, h => by
    rw [PySem.W.alikeAll, h x (by simp) y (by simp), alikeAll_of fun a ha b hb => h a (by simp [ha]) b (by simp [hb])]
    rfl
theorem alike_ints2 (xs ys : List Int) : PySem.W.alikeAll (xs.map PyData.int) (ys.map PyData.int) = true := alikeAll_of fun x hx y hy => by
  obtain ⟨a, _, rfl⟩ := List.mem_map.mp hx
  obtain ⟨b, _, rfl⟩ := List.mem_map.mp hy
  simp [PySem.W.alike]
theorem gEq_tints {xs ys : List Int} : gEq (.tuple (xs.map .int)) (.tuple (ys.map .int)) = some (.bool (decide (xs = ys))) := by
  refine gEq_alike (by rw [PySem.W.alike]; exact alike_ints2 xs ys) (lay_ints xs) (lay_ints ys) ?_
  rw [PyData.tuple.injEq, decide_eq_true_eq]
  exact ⟨fun h => by rw [h], fun h => (List.map_inj_right fun a b e => by cases e; rfl).mp h⟩
theorem gEq_lints {xs ys : List Int} : gEq (.list (xs.map .int)) (.list (ys.map .int)) = some (.bool (decide (xs = ys))) := by
  refine gEq_alike (by rw [PySem.W.alike]; exact alike_ints2 xs ys) (lay_lints xs) (lay_lints ys) ?_
  rw [PyData.list.injEq, decide_eq_true_eq]
  exact ⟨fun h => by rw [h], fun h => (List.map_inj_right fun a b e => by cases e; rfl).mp h⟩
theorem gNe_of {x y : PyData} {b : Bool} (hx : Lay 60 x) (hy : Lay 60 y) (h : gEq x y = some (.bool b)) : gNe x y = some (.bool (!b)) := by
  rw [gEq_lay hx hy] at h
  rw [gNe_lay hx hy]
  have : PyData.eqv x y = b := by simpa using h
  rw [this]
theorem gNe_tints {xs ys : List Int} : gNe (.tuple (xs.map .int)) (.tuple (ys.map .int)) = some (.bool (!decide (xs = ys))) := gNe_of (lay_ints xs) (lay_ints ys) gEq_tints
theorem gNe_lints {xs ys : List Int} : gNe (.list (xs.map .int)) (.list (ys.map .int)) = some (.bool (!decide (xs = ys))) := gNe_of (lay_lints xs) (lay_lints ys) gEq_lints
/-- the order of data -/
abbrev dlt (x y : PyData) : Bool := PySem.W.dataLt x y
theorem dlt_irr (x : PyData) : dlt x x = false := PyProof.Rows.lex_irrefl _
theorem dlt_trans {x y z : PyData} (h : dlt x y = true) (h' : dlt y z = true) : dlt x z = true := lex_trans _ _ _ h h'
theorem dlt_asym {x y : PyData} (h : dlt x y = true) : dlt y x = false := by
  cases e : dlt y x with
  | false => rfl
  | true => have := dlt_trans h e; rw [dlt_irr] at this; cases this
theorem dlt_tri {x y : PyData} (ha : PySem.W.alike x y = true) (h : dlt x y = false) (h' : dlt y x = false) : x = y := by
  have e : PySem.W.keyToks x = PySem.W.keyToks y := lex_total _ _ h h'
  refine eqv_alike x y ha ?_
  cases q : PyData.eqv x y with
  | true => rfl
  | false =>
    have := (PySem.W.toks_eqv x y ha).2 q [] [.inl 0]
    rw [e, PySem.W.lex_pre, PyProof.Rows.lex_irrefl] at this
    cases this
theorem gCmpD_some {f : PyData → PyData → Bool} {x y : PyData} (h : PySem.W.alike x y = true) (h2 : notN x = true) (h3 : x.depth ≤ 60) : gCmpD f x y = some (.bool (f x y)) := by
  unfold gCmpD
  rw [if_pos ⟨h, h2, h3⟩]
theorem gLtA_tup {xs ys : List PyData} (h : PySem.W.alikeAll xs ys = true) (h3 : Lay 60 (.tuple xs)) : gLtA (.tuple xs) (.tuple ys) = some (.bool (dlt (.tuple xs) (.tuple ys))) := by
  show (match gLt (.tuple xs) (.tuple ys) with
    | some z => some z
    | none => gCmpD (fun x y => PySem.W.dataLt x y) (.tuple xs) (.tuple ys)) = _
  rw [show gLt (.tuple xs) (.tuple ys) = none from rfl]
  exact gCmpD_some (by rw [PySem.W.alike]; exact h) rfl h3.2
/-! sorted -/
theorem sortD_pair (xs : List PyData) : (sortD xs).Pairwise fun a b => dlt b a = false := by
  have := List.pairwise_mergeSort (le := PySem.W.dataLe false id) (fun a b c h1 h2 => (PySem.W.sortLe_total _ _ _).trans a b c h1 h2) (fun a b => Bool.or_eq_true_iff.mpr ((PySem.W.sortLe_total _ _ _).total a b)) xs
  exact this.imp fun h => by simpa [PySem.W.dataLe_eq] using h
theorem sortD_perm (xs : List PyData) : (sortD xs).Perm xs := List.mergeSort_perm _ _
theorem sortD_id {xs : List PyData} (h : xs.Pairwise fun a b => dlt b a = false) : sortD xs = xs := List.mergeSort_of_pairwise (h.imp fun h => by simpa [PySem.W.dataLe_eq] using h)
theorem sortD_iff {xs : List PyData} : sortD xs = xs ↔ xs.Pairwise fun a b => dlt b a = false := ⟨fun h => h ▸ sortD_pair xs, sortD_id⟩
theorem alikeB_of {xs : List PyData} (h : ∀ x ∈ xs, ∀ y ∈ xs, PySem.W.alike x y = true) : alikeB xs = true := by
  unfold alikeB
  rw [List.all_eq_true]
  intro x hx
  rw [List.all_eq_true]
  exact fun y hy => h x hx y hy
theorem depthAll_of {n : Nat} : ∀ {xs : List PyData}, (∀ x ∈ xs, x.depth ≤ n) → PyData.depthAll xs ≤ n
  | [], _ => by simp [PyData.depthAll]
  | x :: xs, h => by
    have := h x (by simp)
    have := depthAll_of (xs := xs) fun y hy => h y (by simp [hy])
    simp only [PyData.depthAll]
    omega
theorem gSortB_tups {xs : List (List PyData)} (h : ∀ x ∈ xs, ∀ y ∈ xs, PySem.W.alikeAll x y = true) (hl : ∀ x ∈ xs, Lay 60 (.tuple x)) (hn : ∀ x ∈ xs, x ≠ []) (hs : xs.length ≤ 1000000) : gSortB [.list (xs.map .tuple)] = some (sortD (xs.map .tuple)) := by
  cases xs with
  | nil => simp [gSortB, gSorted, toInts, sortD, sortI]
  | cons x xs =>
    have e : gSorted [.list ((x :: xs).map .tuple)] = none := rfl
    unfold gSortB
    rw [e]
    show (if sortOk ((x :: xs).map PyData.tuple) = true then some (sortD ((x :: xs).map PyData.tuple)) else none) = _
    have hok : sortOk ((x :: xs).map PyData.tuple) = true := by
      unfold sortOk
      rw [Bool.and_eq_true, Bool.and_eq_true, Bool.and_eq_true]
      refine ⟨⟨⟨alikeB_of fun a ha b hb => ?_, ?_⟩, decide_eq_true (depthAll_of fun a ha => ?_)⟩, decide_eq_true (by rw [List.length_map, sizeLine_eq]; omega)⟩
      · obtain ⟨p, hp, rfl⟩ := List.mem_map.mp ha
        obtain ⟨q, hq, rfl⟩ := List.mem_map.mp hb
        rw [PySem.W.alike]
        exact h p hp q hq
      · rw [Bool.or_eq_true]
        left
        rw [List.all_eq_true]
        intro a ha
        obtain ⟨p, hp, rfl⟩ := List.mem_map.mp ha
        have := hn p hp
        cases p with
        | nil => exact absurd rfl this
        | cons _ _ => rfl
      · obtain ⟨p, hp, rfl⟩ := List.mem_map.mp ha
        exact (hl p hp).2
    rw [if_pos hok]
/-! keys -/
def keyed (es : List (Key × PyData)) (k : Key) : Bool := (oAt es k).isSome
theorem keyed_iff {es : List (Key × PyData)} {k : Key} : (oAt es k).isSome = true ↔ k ∈ es.map (·.1) := by
  unfold oAt
  rw [Option.isSome_map, List.find?_isSome, List.mem_map]
  constructor
  · rintro ⟨x, hx, h⟩
    exact ⟨x, hx, of_decide_eq_true h⟩
  · rintro ⟨x, hx, h⟩
    exact ⟨x, hx, decide_eq_true h⟩
theorem oPut_keys {es : List (Key × PyData)} {k j : Key} {v : PyData} : j ∈ (oPut es k v).map (·.1) ↔ j ∈ es.map (·.1) ∨ j = k := by
  unfold oPut
  split
  · rename_i h
    rw [List.any_eq_true] at h
    obtain ⟨x, hx, hk⟩ := h
    have hk := of_decide_eq_true hk
    have e : (es.map fun kv => if kv.1 = k then (kv.1, v) else kv).map (·.1) = es.map (·.1) := by
      rw [List.map_map]
      apply List.map_congr_left
      intro a _
      show (if a.1 = k then (a.1, v) else a).1 = a.1
      split <;> rfl
    rw [e]
    constructor
    · exact .inl
    · rintro (h | rfl)
      · exact h
      · exact List.mem_map.mpr ⟨x, hx, hk⟩
  · rw [List.map_append, List.mem_append]
    simp
theorem mergeD_keys {j : Key} : ∀ {ms es : List (Key × PyData)}, j ∈ (mergeD es ms).map (·.1) ↔ j ∈ es.map (·.1) ∨ j ∈ ms.map (·.1)
  | [], es => by simp [mergeD]
  | m :: ms, es => by
    show j ∈ (mergeD (oPut es m.1 m.2) ms).map (·.1) ↔ _
    rw [mergeD_keys, oPut_keys, List.map_cons, List.mem_cons, or_assoc]
theorem oPut_len {es : List (Key × PyData)} {k : Key} {v : PyData} : (oPut es k v).length ≤ es.length + 1 := by
  unfold oPut
  split
  · rw [List.length_map]; omega
  · simp
theorem mergeD_len : ∀ {ms es : List (Key × PyData)}, (mergeD es ms).length ≤ es.length + ms.length
  | [], es => Nat.le_refl _
  | m :: ms, es => by
    show (mergeD (oPut es m.1 m.2) ms).length ≤ _
    have := mergeD_len (ms := ms) (es := oPut es m.1 m.2)
    have := oPut_len (es := es) (k := m.1) (v := m.2)
    rw [List.length_cons]
    omega
theorem addK_mem {acc : List Key} {k j : Key} : j ∈ addK acc k ↔ j ∈ acc ∨ j = k := by
  unfold addK
  split
  · rename_i h
    rw [List.any_eq_true] at h
    obtain ⟨x, hx, hk⟩ := h
    have hk := of_decide_eq_true hk
    constructor
    · exact .inl
    · rintro (h | rfl)
      · exact h
      · exact hk ▸ hx
  · simp
theorem foldl_addK_mem {α : Type} {f : α → Key} {j : Key} : ∀ {xs : List α} {acc : List Key}, j ∈ xs.foldl (fun a x => addK a (f x)) acc ↔ j ∈ acc ∨ j ∈ xs.map f
  | [], acc => by simp
  | x :: xs, acc => by
    rw [List.foldl_cons, foldl_addK_mem, addK_mem, List.map_cons, List.mem_cons, or_assoc]
theorem foldl_addK_le {α : Type} {f : α → Key} : ∀ {xs : List α} {acc : List Key}, (xs.foldl (fun a x => addK a (f x)) acc).length ≤ acc.length + xs.length
  | [], acc => by simp
  | x :: xs, acc => by
    rw [List.foldl_cons]
    have := foldl_addK_le (f := f) (xs := xs) (acc := addK acc (f x))
    have := addK_len acc (f x)
    rw [List.length_cons]
    omega
theorem foldl_addK_len_iff {α : Type} {f : α → Key} : ∀ {xs : List α} {acc : List Key}, acc.Nodup → ((xs.foldl (fun a x => addK a (f x)) acc).length = acc.length + xs.length ↔ (acc ++ xs.map f).Nodup)
  | [], acc, h => by simpa using h
  | x :: xs, acc, h => by
    rw [List.foldl_cons, List.map_cons, List.length_cons]
    by_cases hx : f x ∈ acc
    · have e : addK acc (f x) = acc := by
        unfold addK
        rw [if_pos (List.any_eq_true.mpr ⟨f x, hx, decide_eq_true rfl⟩)]
      rw [e]
      constructor
      · intro z
        have := foldl_addK_le (f := f) (xs := xs) (acc := acc)
        omega
      · intro z
        exact ((List.nodup_append.mp z).2.2 _ hx _ (by simp) rfl).elim
    · have e : addK acc (f x) = acc ++ [f x] := by
        unfold addK
        rw [if_neg]
        rw [List.any_eq_true]
        rintro ⟨y, hy, e⟩
        exact hx ((of_decide_eq_true e) ▸ hy)
      rw [e]
      have hn : (acc ++ [f x]).Nodup := List.nodup_append.mpr ⟨h, by simp, fun a ha b hb => by
        rw [List.mem_singleton.mp hb]
        exact fun z => hx (z ▸ ha)⟩
      have := foldl_addK_len_iff (f := f) (xs := xs) hn
      rw [List.length_append, List.append_assoc] at this
      rw [show acc.length + (xs.length + 1) = acc.length + [f x].length + xs.length from by simp; omega]
      exact this
/-! slices -/
section
variable {env : En} {E : Er → En → Prop} {m : M Vl} {lo hi : Option (M Vl)}
@[simp ↓] theorem W_mPart0 {Q : Option Int → En → Prop} : W (mPart none) env Q E ↔ Q none env := by unfold W at *; exact Iff.rfl
@[simp ↓] theorem W_mPart1 {Q : Option Int → En → Prop} : W (mPart (some m)) env Q E ↔ W m env (fun v e => match v with
  | .d (.int i) => Q (some i) e
  | _ => False) E := by
  rw [W_eq]
  unfold mPart
  simp only [wp_bind]
  unfold W
  apply iff_of_eq; congr 1; funext v e
  cases v with
  | d x => cases x <;> rfl
  | _ => rfl
@[simp ↓] theorem W_mSl {Q : Vl → En → Prop} : W (mSl m lo hi) env Q E ↔ W m env (fun v e => W (mPart lo) e (fun l e => W (mPart hi) e (fun h e => W v.get e (fun d e => opt (gSl d l h) fun z => Q (.d z) e) E) E) E) E := by
  rw [W_eq]
  unfold mSl
  simp only [wp_bind, wp_Mopt]
  unfold W
  apply iff_of_eq; congr 1; funext v e; congr 1; funext l e; congr 1; funext h e; congr 1; funext d e
  cases gSl d l h <;> rfl
end
theorem cutD_from (xs : List PyData) (n : Nat) : cutD xs (some (n : Int)) none = xs.drop n := by
  unfold cutD
  rw [HT.sIx_nat, HT.sIx_none]
  by_cases h : n ≤ xs.length
  · rw [Nat.min_eq_left h, List.take_of_length_le (by rw [List.length_drop]; exact Nat.le_refl _)]
  · rw [Nat.min_eq_right (by omega), List.drop_eq_nil_of_le (Nat.le_refl _), List.drop_eq_nil_of_le (by omega)]
    simp
theorem cutD_to (xs : List PyData) (n : Nat) : cutD xs none (some (n : Int)) = xs.take n := by
  unfold cutD
  rw [HT.sIx_nat, HT.sIx_none, List.drop_zero, Nat.sub_zero]
  by_cases h : n ≤ xs.length
  · rw [Nat.min_eq_left h]
  · rw [Nat.min_eq_right (by omega), List.take_length, List.take_of_length_le (by omega)]
@[simp] theorem gSl_lst {xs : List PyData} {lo hi : Option Int} : gSl (.list xs) lo hi = some (.list (cutD xs lo hi)) := rfl
@[simp] theorem gSl_tup {xs : List PyData} {lo hi : Option Int} : gSl (.tuple xs) lo hi = some (.tuple (cutD xs lo hi)) := rfl
end DL
end

/- EW7 -/
section
set_option maxHeartbeats 4000000
namespace DL
open PySem PySem.Spec PyProof.Rows L2

/-! ### texts of numbers -/
abbrev txt (i : Int) : Str := Str.ofString (toString i)
theorem txt_nat (m : Nat) : (txt (m : Int)).cps.toList = (Nat.toDigits 10 m).map Char.toNat := PySem.W.KIN.signs_num m
theorem txt_neg (m : Nat) : (txt (Int.negSucc m)).cps.toList = 45 :: (Nat.toDigits 10 (m + 1)).map Char.toNat := by
  show (Str.ofString (toString (Int.negSucc m))).cps.toList = _
  rw [signs_ofString]
  show ("-" ++ Nat.repr (m + 1)).toList.map Char.toNat = _
  rw [String.toList_append, List.map_append, Nat.toList_repr]
  rfl
theorem digits_no45 (m : Nat) : 45 ∉ (Nat.toDigits 10 m).map Char.toNat := fun h => by
  obtain ⟨c, hc, e⟩ := List.mem_map.mp h
  have := digit_range (Nat.isDigit_of_mem_toDigits (by decide) (by decide) hc)
  omega
theorem digits_inj {m n : Nat} (h : (Nat.toDigits 10 m).map Char.toNat = (Nat.toDigits 10 n).map Char.toNat) : m = n := by
  rw [← PySem.W.KIN.val_back m, h, PySem.W.KIN.val_back]
theorem txt_inj {i j : Int} (h : txt i = txt j) : i = j := by
  have h : (txt i).cps.toList = (txt j).cps.toList := by rw [h]
  cases i with
  | ofNat m =>
    have e1 := txt_nat m
    cases j with
    | ofNat n =>
      have e2 := txt_nat n
      rw [show (Int.ofNat m) = (m : Int) from rfl, show (Int.ofNat n) = (n : Int) from rfl, e1, e2] at h
      rw [digits_inj h]
    | negSucc n =>
      rw [show (Int.ofNat m) = (m : Int) from rfl, e1, txt_neg] at h
      exact absurd (h ▸ List.mem_cons_self) (digits_no45 m)
  | negSucc m =>
    cases j with
    | ofNat n =>
      rw [show (Int.ofNat n) = (n : Int) from rfl, txt_nat, txt_neg] at h
      exact absurd (h ▸ List.mem_cons_self) (digits_no45 n)
    | negSucc n =>
      rw [txt_neg, txt_neg] at h
      have := digits_inj (List.cons.inj h).2
      omega
theorem str_okS (s : String) : PyData.strOk (Str.ofString s) = true := by
  unfold PyData.strOk
  rw [Array.all_eq_true']
  intro c hc
  have hc : c ∈ (Str.ofString s).cps.toList := Array.mem_toList_iff.mpr hc
  rw [signs_ofString] at hc
  obtain ⟨ch, _, rfl⟩ := List.mem_map.mp hc
  have := ch.valid
  rw [decide_eq_true_eq]
  show ch.val.toNat < 0x110000
  rcases this with h | h
  · have h : ch.val.toNat < 0xd800 := h
    omega
  · have h := h.2
    exact h
theorem txt_ok (i : Int) : PyData.strOk (txt i) = true := str_okS _
theorem txt_no (i : Int) {k : Nat} (hk : k ≠ 45 ∧ (k < 48 ∨ 57 < k)) {s : Str} (hs : k ∈ s.cps.toList) : txt i ≠ s := fun e => by
  subst e
  exact int_text_free' k hk i hs
@[simp] theorem gReprA_int {i : Int} (h : -1000000 ≤ i ∧ i ≤ 1000000) : gReprA [.int i] = some (.str (txt i)) := by
  show (if i.natAbs.log2 < 1920 then some (PyData.str (txt i)) else none) = _
  rw [if_pos]
  have : i.natAbs < 2 ^ 1920 := Nat.lt_of_lt_of_le (show i.natAbs < 2 ^ 20 by omega) (Nat.pow_le_pow_right (by decide) (by decide))
  by_cases h0 : i.natAbs = 0
  · rw [h0]; decide
  · exact (Nat.log2_lt h0).mpr this
@[simp] theorem gReprA_bool {b : Bool} : gReprA [.bool b] = some (.str (if b then "True" else "False")) := rfl
@[simp] theorem gReprA_none : gReprA [.none] = some (.str "None") := rfl
theorem gEq_strC {a b : Str} {c : Bool} (h : (PyData.strOk a && PyData.strOk b && ((a == b) == c)) = true) : gEq (.str a) (.str b) = some (.bool c) := by
  rw [Bool.and_eq_true, Bool.and_eq_true, beq_iff_eq] at h
  rw [gEq_str h.1.1 h.1.2, h.2]
theorem gNe_strC {a b : Str} {c : Bool} (h : (PyData.strOk a && PyData.strOk b && ((a == b) == c)) = true) : gNe (.str a) (.str b) = some (.bool (!c)) := by
  rw [Bool.and_eq_true, Bool.and_eq_true, beq_iff_eq] at h
  rw [gNe_str h.1.1 h.1.2, h.2]
/-! membership -/
theorem gIn_lst {x : PyData} {xs : List PyData} (hx : Lay 59 x) (hl : ∀ y ∈ xs, Lay 59 y) : gIn x (.list xs) = some (.bool (xs.any fun z => PyData.eqv z x)) := by
  show (if SeqAt.shaped x && SeqAt.shaped (.list xs) then some (PyData.bool (xs.any fun z => PyData.eqv z x)) else none) = _
  rw [Lay.shaped hx (by decide), (lay_list hl).shaped (by decide)]
  rfl
theorem gIn_tup {x : PyData} {xs : List PyData} (hx : Lay 59 x) (hl : ∀ y ∈ xs, Lay 59 y) : gIn x (.tuple xs) = some (.bool (xs.any fun z => PyData.eqv z x)) := by
  show (if SeqAt.shaped x && SeqAt.shaped (.tuple xs) then some (PyData.bool (xs.any fun z => PyData.eqv z x)) else none) = _
  rw [Lay.shaped hx (by decide), (lay_tuple hl).shaped (by decide)]
  rfl
theorem gIn_strs {ss : List Str} {s : Str} (hs : PyData.strOk s = true) (hl : ∀ y ∈ ss, PyData.strOk y = true) : gIn (.str s) (.list (ss.map .str)) = some (.bool (decide (s ∈ ss))) := by
  rw [gIn_lst (by simpa using hs) (fun y hy => by obtain ⟨z, hz, rfl⟩ := List.mem_map.mp hy; simpa using hl z hz)]
  congr 2
  rw [List.any_map, Bool.eq_iff_iff, List.any_eq_true, decide_eq_true_eq]
  constructor
  · rintro ⟨x, hx, h⟩
    have : x = s := by simpa [PyData.eqv] using h
    exact this ▸ hx
  · intro h
    exact ⟨s, h, by simp [PyData.eqv]⟩
/-- the text of a number among those of numbers -/
theorem gIn_txts {ns : List Int} {i : Int} : gIn (.str (txt i)) (.list (ns.map fun n => .str (txt n))) = some (.bool (decide (i ∈ ns))) := by
  rw [show (ns.map fun n => PyData.str (txt n)) = (ns.map txt).map .str from by rw [List.map_map]; rfl]
  rw [gIn_strs (txt_ok i) (fun y hy => by obtain ⟨z, hz, rfl⟩ := List.mem_map.mp hy; exact txt_ok z)]
  congr 3
  refine propext ⟨fun h => ?_, fun h => List.mem_map.mpr ⟨i, h, rfl⟩⟩
  obtain ⟨z, hz, e⟩ := List.mem_map.mp h
  exact txt_inj e ▸ hz
theorem gIn_txtsN {ns : List Int} {s : Str} {k : Nat} (hs : PyData.strOk s = true) (hk : k ≠ 45 ∧ (k < 48 ∨ 57 < k)) (hm : k ∈ s.cps.toList) : gIn (.str s) (.list (ns.map fun n => .str (txt n))) = some (.bool false) := by
  rw [show (ns.map fun n => PyData.str (txt n)) = (ns.map txt).map .str from by rw [List.map_map]; rfl]
  rw [gIn_strs hs (fun y hy => by obtain ⟨z, hz, rfl⟩ := List.mem_map.mp hy; exact txt_ok z)]
  congr 2
  rw [decide_eq_false_iff_not]
  intro h
  obtain ⟨z, hz, e⟩ := List.mem_map.mp h
  exact txt_no z hk hm e
end DL
end

/- EW8 -/
section
set_option maxHeartbeats 4000000
namespace DL
open PySem PySem.Spec PyProof.Rows L2

/-! ### draws, what is drawn forgotten but for its bounds -/
section
variable {c1 c2 c3 : Int} {ds : List PyData} {many : Int} {env : En} {i : Nat} {b : Bool} {Q : RVl → En → Prop} {E : Er → En → Prop}
theorem W_drawn (k : DrK c1 c3) (hi : HI ds) (he : env[i]? = some (some (.own b (.l ds)))) (h1 : 0 < many) (h2 : many < 1073741824) (q : ∀ r ds', HI ds' → 0 ≤ r → r < many → Q (.d (.int r)) (env.set i (some (.own b (.l ds'))))) : W (fin 2 (drawM c1 c2 c3) 5 [.own true (.l ds), .d (.int many)] (some (0, i))) env Q E := by
  rw [W_draw k hi h1 h2, putO_own he]
  exact q _ _ (drH_HI k hi h1 h2) (drR_lo k hi h1 h2) (drR_hi k hi h1 h2)
theorem W_anyd {xs : List PyData} (k : DrK c1 c3) (hi : HI ds) (he : env[i]? = some (some (.own b (.l ds)))) (h1 : 0 < xs.length) (h2 : xs.length ≤ 1000) (q : ∀ x ∈ xs, ∀ ds', HI ds' → Q (.d x) (env.set i (some (.own b (.l ds'))))) : W (fin 2 (anyM c1 c2 c3) 2 [.own true (.l ds), .d (.list xs)] (some (0, i))) env Q E := by
  rw [W_any k hi h1 (by omega), putO_own he]
  exact q _ (anD_mem k hi h1 (by omega)) _ (drH_HI k hi (by omega) (by omega))
theorem back_some {e : En} {j : Nat} {c : Bool} {es ds : List PyData} (e0 : e[j]? = some (some (.own c (.l es)))) (he : env[i]? = some (some (.own b (.l ds)))) : backE (some (j, i)) env e = env.set i (some (.own b (.l es))) := by
  rw [back_put e0, putO_own he]
end
/-! ### the hand -/
theorem cut63 {ds : List PyData} (h : ds.length ≤ 63) : cutD ds none (some 63) = ds := by
  rw [show (some (63 : Int)) = some ((63 : Nat) : Int) from rfl, cutD_to, List.take_of_length_le h]
def cellI (n : Int) : Int := (if n < 0 then -n else n) % 1000000000000000000000000000000000000
def handM : M Fl := (sSeq (sSetO 1 (mLc [2] (mItems (mSl (mVar 0) none (some (mC (.int 63))))) (gNm 2) mYes (mBin gMod (mCall gInt (mCons (mCall gAbs (mCons (mCall gInt (mCons (mVar 2) mNil)) mNil)) mNil)) (mBin gPow (mC (.int 10)) (mC (.int 36)))))) (sRetO (mLst (mCons (mVar 1) (mCons (mC (.int 0)) (mCons (mC (.int 0)) (mCons (mBin gAddA (mC (.int 463)) (mBin gMulA (mC (.int 347)) (mCall gLen (mCons (mVar 1) mNil)))) (mCons (mC (.int 0)) mNil))))))))
theorem W_hand {ns : List Int} {env : En} {Q : RVl → En → Prop} {E : Er → En → Prop} (h : ns.length ≤ 63) (q : ∀ ds, HI ds → Q (.o (.l ds)) env) : W (fin 1 handM 3 [.d (.list (ns.map .int))] none) env Q E := by
  rw [W_fin]
  refine ⟨rfl, ?_⟩
  unfold handM
  simp [-List.map_map, startE]
  rw [cut63 (by simpa using h)]
  refine W_lc_map (fun n : Int => .int (cellI n)) (by simp) (by rw [sizeLine_eq]; omega) (fun n hn => ?_) ?_
  · simp [gInt, gAbs, gPow, gMod, cellI]
  · rw [show (ns.map fun n => PyData.int (cellI n)) = (ns.map cellI).map .int from by rw [List.map_map]; rfl]
    simp [-List.map_map, gMulA_int (.inl (show DL.small64 347 = true from rfl)), sizeLine_eq]
    have := HI.mk (cs := ns.map cellI) (at_ := 0) (r := 0) (sd := 463 + 347 * (ns.length : Int)) (ct := 0) (Int.le_refl 0) (Int.le_refl 0) fun c hc => by
      obtain ⟨n, _, rfl⟩ := List.mem_map.mp hc
      exact Int.emod_nonneg _ (by omega)
    exact q _ this
end DL
end

/- EL34 -/
section
set_option maxHeartbeats 4000000
namespace DL
open PySem PySem.Spec PyProof.Rows L2

section
variable {P : Program} {w : World} {K : PySem.W.Frag} {mg : Str → Option Value} {base : Heap} {x qual : Str} {params : Arguments} {body : List Stmt} {scope : Scope} {fd : FuncData} {N ps : List Str} {k : Nat}
/-- a def that makes lambdas, by any spec: its code object is told -/
theorem okC {CX : CXT} {sp : Sp} {p : Str × Option Str} (F : FunD K x qual params body scope [] [] (He.fAd K p) fd) (S : FnScope N ps scope) (len : ∀ vs H Q E, sp vs H Q E → vs.length = ps.length)
    (hbody : ∀ (cdv : Value) (A : Around) (outer : List Env) (s : Shared) (H : Hp) (vs : List V) (Q : VK) (E : XK), cdv = .ref (He.codeOf K p) → Room k (A.deeper (envOfC qual scope s.heap.objs.size (He.fAd K p) cdv)) → sp vs H Q E →
      ∃ t, PSs (cxOf CX P w K mg base N qual scope (He.fAd K p) cdv A outer s H E) body t ∧ t { nx := fun _ H' => Q .non H', rt := Q } (start N vs) H) : FnOk P w K mg base CX (k + 1) (He.fAd K p) fd ps sp := by
  obtain ⟨oc, od, dV, kV, doc, pm, an, cdv, ct, osl, rfl, lk, hcd, _, _⟩ := F.ex
  obtain ⟨c, hc⟩ := He.codeIn_ref hcd
  have e : He.codeOf K p = c := He.codeOf_eq lk hc
  exact fn_of lk hcd S len fun A outer s H vs Q E hr hsp => hbody cdv A outer s H vs Q E (by rw [e]; exact hc) hr hsp
end
end DL
end

/- EL35 -/
section
set_option maxHeartbeats 4000000
namespace DL
open PySem PySem.Spec PyProof.Rows L2

/-! ### except x as n, except y as n, .. -/
def gone (i : Nat) (D : Ends) : Ends := { nx := fun σ H => D.nx (σ.set i none) H, rt := D.rt, bk := fun σ H => D.bk (σ.set i none) H, ct := fun σ H => D.ct (σ.set i none) H }
def wAsMany (K : PySem.W.Frag) (i : Nat) (Wout : WX) (D : Ends) : List (Value × (Addr → Value → Option Addr → TS)) → WX
  | [] => Wout
  | p :: r => fun cls d σ H => ∃ b, PySem.W.exmOne K cls p.1 = some b ∧ (b = true → ∀ a, H a = none → p.2 a cls d (gone i D) (σ.set i (some (.ref a))) H) ∧ (b = false → wAsMany K i Wout D r cls d σ H)
inductive AsOk (X : Cx) (n : Str) : List ExceptHandler → List (Value × (Addr → Value → Option Addr → TS)) → Prop
  | nil : AsOk X n [] []
  | cons {x : Str} {c : Value} {ts : Addr → Value → Option Addr → TS} {b0 : Stmt} {suite : List Stmt} {p1 p2 : Pos} {hds : List ExceptHandler} {l : List (Value × (Addr → Value → Option Addr → TS))} (hc : Names X x c)
      (hsu : ∀ (a : Addr) (oe : Obj) (cls : Value) (d : Option Addr) (pn : List (Addr × Obj)), Zc cls d oe → (∃ vs, oe.data = .fields vs) → PSs (X.suite a ((a, oe) :: pn)) (b0 :: suite) (ts a cls d)) (r : AsOk X n hds l) :
      AsOk X n (.ExceptHandler (some (.Name x p1)) (some n) (b0 :: suite) p2 :: hds) ((c, ts) :: l)
section
variable {X : Cx} {n : Str} {i : Nat} {body : List Stmt} {hd : ExceptHandler} {hds : List ExceptHandler} {l : List (Value × (Addr → Value → Option Addr → TS))} {pos : Pos} {tb : WX → TS} {Wout : WX}
theorem ps_try_as_many (hs : X.stack = X.env :: X.outer) (hf : X.env.frame = some X.env.locals) (hN : X.N.Nodup) (hi : X.N[i]? = some n) (hln : X.env.kindOf n = some .local) (tk : Takes X Wout)
    (hb : ∀ (W : WX) (pn : List (Addr × Obj)) (xe : Value → Shared → Prop), Takes (X.tr pn xe) W → PassesOwn (model X.prog X.w) X.A X.env xe → PSs (X.tr pn xe) body (tb W))
    (hh : AsOk X n (hd :: hds) l) : PS X (.Try body (hd :: hds) [] [] pos) (fun D σ H => tb (wAsMany X.K i Wout D l) D σ H) := by
  refine ⟨fun pins s σ H D I h => ?_⟩
  have ok := I.ok
  have hfr : X.A.frames = some (X.env :: X.outer) := by rw [ok.frames, hs]
  have hloc : Loc X.env.scope n := .inl hln
  refine wpAny_Try_except ?_
  refine wpAny_mono ((hb (wAsMany X.K i Wout D l) (X.pn ++ pins) (fun e s1 => wpAny (model X.prog X.w) X.A (noteFrame e X.env) (fun _ s2 => wpAny (model X.prog X.w) X.A (setFlight e none) (fun _ s3 =>
    wpAny (model X.prog X.w) X.A (handleBy e X.env (hd :: hds)) (SP X pins D) X.xe s3) X.xe s2) X.xe s1) (fun u s' xx => ?_) PassesOwn.looking).run [] s σ H D (I.toTry _) h) (fun f s1 hsp => ?_) (fun e s1 he => he)
  · obtain ⟨a, B, sI, pins', σ', H', cls, d, rfl, J', nb, up, sky, na, os, ag, w⟩ := xx
    have J : Inv X pins σ' H' sI := J'.ofTry ok
    have sky' : Sky B (X.env :: X.outer) a (Zc cls d) X.env.locals s'.heap := by rw [← hs]; exact sky
    show wpAny (model X.prog X.w) X.A (noteFrame (.ref a) X.env) _ _ _
    refine Sky.land Zc.steady hfr hf sky' fun h3 fl3 up3 => ?_
    have J3 : Inv X pins σ' H' { s' with heap := h3 } := J.landed nb fl3.1 (up.trans up3) os ag
    obtain ⟨oe3, vs3, he3, hz3, hd3⟩ := fl3.there
    have nfr : a ∉ frs (X.env :: X.outer) := fun hm => by
      obtain ⟨_, o', e', hnf⟩ := (fl3.2.2.1).mem hm
      rw [he3] at e'
      cases e'
      exact hnf _ hd3
    have nL : a ≠ X.env.locals := fun z => nfr (List.mem_filterMap.mpr ⟨X.env, List.mem_cons_self, by rw [hf, z]⟩)
    have nF : a ∉ X.fs := fun hm => by
      obtain ⟨e, he, q⟩ := List.mem_filterMap.mp hm
      exact nfr (List.mem_filterMap.mpr ⟨e, List.mem_cons_of_mem _ he, q⟩)
    have S3 := J3.suite he3 hd3 na nL nF
    have each : ∀ {hds' : List ExceptHandler} {l' : List (Value × (Addr → Value → Option Addr → TS))}, AsOk X n hds' l' → wAsMany X.K i Wout D l' cls d σ' H' →
        wpAny (model X.prog X.w) X.A (handleBy (.ref a) X.env hds') (SP X pins D) X.xe { s' with heap := h3 } := by
      intro hds' l' hk
      induction hk with
      | nil =>
        intro w
        refine wpAny_handleBy_nil ?_
        obtain ⟨k1, k2, k3, oe, vs, T, oT, ts', he, hz, hd, h1, hr⟩ := id fl3
        unfold PySem.passOn
        refine wpAny_bind (wpAny_field he hd h1 ?_)
        rw [if_neg (show ¬ ((Value.ref T == Value.none) = true) from by simp)]
        have fin : wpAny (model X.prog X.w) X.A (setFlight (.ref a) X.env.frame) (fun _ s4 => wpAny (model X.prog X.w) X.A (throw (.ref a) : Sem Flow) (SP X pins D) X.xe s4) X.xe { s' with heap := h3 } := by
          rw [hf]
          refine HandSPX.setFlight_upZ fl3 fun h4 hh4 up4 => wpAny_throw (tk _ _ ?_)
          exact ⟨a, B, sI, pins, σ', H', cls, d, rfl, J, nb, (up.trans up3).trans up4, .inr (.inr (by rw [hs]; exact hh4)), na, os, ag, w⟩
        first
          | exact wpAny_bind (wpAny_pure (wpAny_bind fin))
          | exact wpAny_bind fin
      | @cons x c ts b0 suite p1 p2 hds2 l2 hc hsu r ih =>
        intro w
        obtain ⟨b, hb1, hyes, hno⟩ := w
        refine wpAny_handleBy_cons (codeAny_handlers_test ?_) (by intro q; cases q)
        have LT : PySem.W.Looks (model X.prog X.w) h3 (typeOf (.ref a)) cls := fun A Q E s k q => wpAny_typeOf_ref (k _ _ he3) (by rw [hz3.1]; exact q)
        have LM := PySem.W.exm_one (M := model X.prog X.w) (J3.kIn) LT hb1
        have test : ∀ {Q : Value → Shared → Prop} {E : Value → Shared → Prop}, Q c { s' with heap := h3 } → wpAny (model X.prog X.w) (X.A.mark (some (.ref a))) (eval (.Name x p1) X.env) Q E { s' with heap := h3 } := fun {Q E} q => by
          obtain ⟨hg, hdbg, hm | ⟨hm, hv, hnn⟩⟩ := hc
          · exact ld_glob (X := X.suite a ((a, oe3) :: (X.pn ++ pins))) S3 hg hm q hdbg
          · exact ld_blt (X := X.suite a ((a, oe3) :: (X.pn ++ pins))) S3 hg hm hv q hnn hdbg
        refine test (LM.here ?_)
        cases b with
        | true =>
          refine codeAny_handlers_suite_as ?_
          refine HandSPX.lands_againZ fl3 fun h4 fl4 up4 => ?_
          have J4 : Inv X pins σ' H' { s' with heap := h4 } := J.landed nb fl4.1 ((up.trans up3).trans up4) os ag
          obtain ⟨oe4, vs4, he4, hz4, hd4⟩ := fl4.there
          have S4 := J4.suite he4 hd4 na nL nF
          refine store_ok (X := X.suite a ((a, oe4) :: (X.pn ++ pins))) (v := .ref a) S4 hN hi hloc rfl (fun s5 S5 => ?_) (.inr hln)
          refine wpAny_mono ((hsu a oe4 cls d (X.pn ++ pins) hz4 ⟨_, hd4⟩).run [] s5 _ H' _ S5 (hyes rfl a na)) (fun f s6 hsp => ?_) (fun _ _ z => False.elim z)
          have end_ : ∀ {σ6 : L2.St} {H6 : Hp} {Q : Shared → Prop}, Inv (X.suite a ((a, oe4) :: (X.pn ++ pins))) [] σ6 H6 s6 → (∀ s7, Inv X pins (σ6.set i none) H6 s7 → Q s7) →
              wpAny (model X.prog X.w) X.A (do bindName X.env n .none; unbindBehindTheSuite X.env n p2) (fun _ s7 => Q s7) X.xe s6 := fun {σ6 H6 Q} S6 hq => gone_ok (S6.unsuite ok) hN hi hln hq
          cases f with
          | next =>
            obtain ⟨σ6, H6, S6, q6⟩ := hsp
            exact end_ S6 fun s7 J7 => ⟨_, _, J7, q6⟩
          | brk =>
            obtain ⟨σ6, H6, S6, q6⟩ := hsp
            exact end_ S6 fun s7 J7 => ⟨_, _, J7, q6⟩
          | cont =>
            obtain ⟨σ6, H6, S6, q6⟩ := hsp
            exact end_ S6 fun s7 J7 => ⟨_, _, J7, q6⟩
          | ret u =>
            obtain ⟨v6, σ6, H6, S6, r6, q6⟩ := hsp
            exact end_ S6 fun s7 J7 => ⟨_, _, _, J7, r6, q6⟩
        | false =>
          show wpAny _ X.A (handleBy (.ref a) X.env hds2) _ _ _
          exact ih (hno rfl)
    exact each hh w
  · cases f with
    | next =>
      obtain ⟨σ', H', J', q⟩ := hsp
      exact wpAny_execs_nil ⟨σ', H', J'.ofTry ok, q⟩
    | brk =>
      obtain ⟨σ', H', J', q⟩ := hsp
      exact ⟨σ', H', J'.ofTry ok, q⟩
    | cont =>
      obtain ⟨σ', H', J', q⟩ := hsp
      exact ⟨σ', H', J'.ofTry ok, q⟩
    | ret u =>
      obtain ⟨v, σ', H', J', r, q⟩ := hsp
      exact ⟨v, σ', H', J'.ofTry ok, r, q⟩
end
end DL
end

/- EL36 -/
section
set_option maxHeartbeats 4000000
namespace DL
open PySem PySem.Spec PyProof.Rows L2

/-! ### word(lambda: ..): a def that catches by several clauses -/
def TTword (K : PySem.W.Frag) (mg : Str → Option Value) (T : List (Addr × Str)) (dn : Str) (said : Str → Option PyData) : (XK → Hp → VK → Prop) → Hp → VK → Prop := fun tl H Q =>
  tl (fun cls od H' => ∃ D x z, cls = .ref D ∧ od = none ∧ mg x = some (.ref D) ∧ said x = some z ∧ LamX.Tabs T H' ∧ ∀ u H'' σ' env', Rel K ⟨T, H', fun _ => none, fun _ => none⟩ H'' σ' env' → Dz K H'' u z → Le H' H'' → Q u H'') H (fun _ H' => Q (.str dn) H')
def mWord (dn : Str) (said : Str → Option PyData) (m : M Vl) : M Vl := fun env => match m env with
  | .ok _ env' => .ok (.d (.str dn)) env'
  | .err e env' => match e.arg, said e.cls with
    | none, some z => .ok (.d z) env'
    | _, _ => .stuck
  | .stuck => .stuck
section
variable {X : Cx} {T : List (Addr × Str)} {W : WX}
structure WordD (X : Cx) (T : List (Addr × Str)) (k : Nat) (x : Str) (dn : Str) (said : Str → Option PyData) : Prop where
  ex : ∃ (g : Addr) (oc : Value) (pg : Arguments) (bg : List Stmt) (sg : Scope) (dV kV doc pm cdv ct : Value) (an od : Option Addr) (osl : Array (Option Value)) (Ng : List Str) (a : Str),
    X.mg x = some (.ref g) ∧ PySem.W.keepIn X.K (.ref g) = true ∧ X.K.lookup g = some ⟨oc, od, .func (PySem.W.fnOf x x pg bg sg dV kV doc pm an cdv ct), osl⟩ ∧ PySem.W.codeIn X.K cdv x = true ∧ L2.Binds X.K (PySem.W.fnOf x x pg bg sg dV kV doc pm an cdv ct) [a] [] ∧
      FnScope Ng [a] sg ∧ Ng[0]? = some a ∧ Vis sg a ∧ (a == ("__debug__" : Str)) = false ∧ (a == ("__classdict__" : Str)) = false ∧ LamX.GivesTo X Ng x sg g cdv bg a (X.env.qual ++ "<lambda>") (TTword X.K X.mg T dn said)
theorem de_word {x dn : Str} {said : Str → Option PyData} {k : Nat} {c P : Addr} {params : Arguments} {body : Expr} {scope : Scope} {m : M Vl} {p lpos pos : Pos} (S : WordD X T k x dn said) (hg : Gl X x)
    (TB : LamX.TabB X.base X.mg c P) (hcode : X.env.code = .ref c) (hmT : (P, X.env.qual ++ "<lambda>") ∈ T) (hu : ∀ p ∈ T, p.1 = P → p.2 = X.env.qual ++ "<lambda>") (hr : Room (k + 2) X.A) (L : LamX.LamS X.env.scope scope)
    (hbody : ∀ (A : Around) (outer : List Env) (s : Shared) (H : Hp) (E : XK) (f c' : Addr), Room k (A.deeper (LamX.lamEnv X scope s.heap.objs.size f c')) → DE (LamX.lamCx X A outer s H E scope f c') T (fun cls d _ H => E cls d H) body m)
    (hdef : defaultsOf params X.env = ([], []) := by rfl) (hbind : ∀ (q : Str) (cl : List (Str × Addr)) (pm cv ctv : Value), bindArgs (PySem.W.kla_fn "<lambda>" q params body scope cl pm cv ctv) ⟨[], []⟩ = pure [] := by intros; rfl)
    (hdb : (x == ("__debug__" : Str)) = false := by decide) :
    DE X T W (.Call (.Name x p) [.Lambda params body scope lpos] [] pos) (mWord dn said m) := by
  obtain ⟨g, oc, pg, bg, sg, dV, kV, doc, pm, cdv, ct, an, od, osl, Ng, a, hm, hk, lk, hcg, hb, Sg, hNg, hva, hd, hcd, hG⟩ := S.ex
  refine ⟨fun C hC => ⟨fun pins s σ H Q I h => (LamX.pe_lamcall (t := fun E => lift X.K X.mg C (fun cls d _ H => E cls d H) m) hg hm hk lk hcg hb Sg hNg hva hG TB hcode hmT hu hr L hdef hbind (fun A outer s H E f c' hr' => (hbody A outer s H E f c' hr').pe C hC) hdb hd hcd).run pins s σ H Q I ?_⟩⟩
  obtain ⟨env, r, h⟩ := h
  refine ⟨by rw [← hC]; exact r.tab, fun H1 eN T1 => ?_⟩
  have l0 : Le H H1 := .extN eN
  have r1 := r.extN eN (by rw [hC]; exact T1)
  refine ⟨env, r1, ?_⟩
  unfold mWord at h
  cases e : m env with
  | stuck => rw [e] at h; exact h.elim
  | ok v env' =>
    rw [e] at h
    exact fun u H' r' _ l => h (.str dn) H' r' (.str _) (l0.trans l)
  | err x env' =>
    rw [e] at h
    obtain ⟨y, arg⟩ := x
    cases arg with
    | some q => exact h.elim
    | none =>
      dsimp only at h
      cases hs : said y with
      | none => rw [hs] at h; exact h.elim
      | some z =>
        rw [hs] at h
        intro cls od H' r' er l
        obtain ⟨D, ec, em, eo⟩ := er
        refine ⟨D, y, z, ec, eo, em, hs, by rw [← hC]; exact r'.tab, fun u H'' σ' env'' r'' zu l' => ?_⟩
        refine h u H'' ?_ zu ((l0.trans l).trans l')
        have A : ArgsOk X.K H' σ env' [] [] none := ⟨rfl, fun j x e => (by cases e), fun j b es e => (by cases e), fun j v e => (by cases e), fun j i e => (by cases e)⟩
        have r3 : Rel X.K (callCt C H' σ none) H'' σ' env'' := by
          unfold callCt
          rw [hC]
          exact r''
        exact caller_back r' A r3 l'
/-- the clauses: each names a class and has its suite's reading for errors of just that class -/
inductive WordH (X : Cx) (T : List (Addr × Str)) (n : Str) : List ExceptHandler → List (Addr × (Addr → M Fl)) → Prop
  | nil : WordH X T n [] []
  | cons {x : Str} {D : Addr} {sd : Addr → M Fl} {b0 : Stmt} {suite : List Stmt} {p1 p2 : Pos} {hds : List ExceptHandler} {l : List (Addr × (Addr → M Fl))} (hc : Names X x (.ref D))
      (hsu : ∀ (a : Addr) (oe : Obj) (pn : List (Addr × Obj)), Zc (.ref D) none oe → (∃ vs, oe.data = .fields vs) → DSs (Cx.suite X a ((a, oe) :: pn)) T Wno (b0 :: suite) (sd a)) (r : WordH X T n hds l) :
      WordH X T n (.ExceptHandler (some (.Name x p1)) (some n) (b0 :: suite) p2 :: hds) ((D, sd) :: l)
def tsW (K : PySem.W.Frag) (mg : Str → Option Value) (T : List (Addr × Str)) (p : Addr × (Addr → M Fl)) : Value × (Addr → Value → Option Addr → TS) :=
  (.ref p.1, fun a cls d D σ H => cls = .ref p.1 ∧ d = none ∧ ∃ C, C.T = T ∧ liftS K mg C Wno (p.2 a) D σ H)
theorem WordH.as {n : Str} {hds : List ExceptHandler} {l : List (Addr × (Addr → M Fl))} (h : WordH X T n hds l) : AsOk X n hds (l.map (tsW X.K X.mg T)) := by
  induction h with
  | nil => exact .nil
  | cons hc hsu r ih =>
    refine .cons hc (fun a oe cls d pn hz hf => ⟨fun pins s σ H D I h => ?_⟩) ih
    obtain ⟨rfl, rfl, C, hC, h⟩ := h
    exact ((hsu a oe pn hz hf).pss C hC).run pins s σ H D I h
/-- which clause catches, and what it leaves -/
def Picks (K : PySem.W.Frag) (D : Addr) (z : PyData) (n i wi : Nat) : List (Addr × (Addr → M Fl)) → Prop
  | [] => False
  | p :: r => (p.1 = D ∧ PySem.W.exmOne K (.ref D) (.ref p.1) = some true ∧ ∀ a, ∃ env', p.2 a (envX n i a) = .ok .next env' ∧ env'[wi]? = some (some (.d z))) ∨ (PySem.W.exmOne K (.ref D) (.ref p.1) = some false ∧ Picks K D z n i wi r)
theorem picks_as {K : PySem.W.Frag} {mg : Str → Option Value} {D : Addr} {z : PyData} {n i wi : Nat} {E : Ends} {σ : L2.St} {H : Hp} (hT : LamX.Tabs T H) (hl : σ.length = n)
    (hE : ∀ σ' H' env' v, Rel K ⟨T, H, fun _ => none, fun _ => none⟩ H' σ' env' → Le H H' → σ'[wi]? = some (some v) → Dz K H' v z → E.nx (σ'.set i none) H') :
    ∀ {l : List (Addr × (Addr → M Fl))}, Picks K D z n i wi l → wAsMany K i Wno E (l.map (tsW K mg T)) (.ref D) none σ H
  | [], h => h.elim
  | p :: r, h => by
    rcases h with ⟨e, h1, h2⟩ | ⟨h1, h2⟩
    · refine ⟨true, h1, fun _ a ha => ?_, fun q => by cases q⟩
      obtain ⟨env', er, ew⟩ := h2 a
      refine ⟨by rw [e], rfl, ⟨T, H, fun _ => none, fun _ => none⟩, rfl, envX n i a, ?_, ?_⟩
      · have := envX_rel (K := K) (σ := σ) (i := i) (a := a) hT
        rw [hl] at this
        exact this
      · rw [er]
        intro σ' H' r1 le
        obtain ⟨v, q1, q2⟩ := r1.dat wi z ew
        exact hE σ' H' env' v r1 le q1 q2
    · exact ⟨false, h1, fun q => (by cases q), fun _ => picks_as hT hl hE h2⟩
theorem word_gives {Ng : List Str} {x a wn en q dn oth : Str} {sg : Scope} {g : Addr} {cdg : Value} {j1 j2 wi i : Nat} {hd : ExceptHandler} {hds : List ExceptHandler} {l : List (Addr × (Addr → M Fl))} {said : Str → Option PyData} {p1 p2 p3 p5 p6 p8 q1 q2 q3 r1 r2 r3 : Pos}
    (hNg : Ng.Nodup) (hw : Ng[wi]? = some wn) (hwl : sg.names.lookup wn = some .local) (hi : Ng[i]? = some en) (hln : sg.names.lookup en = some .local) (h0 : ∀ f : Addr, (L2.start Ng [V.ref f])[0]? = some (some (V.ref f))) (hw0 : wi ≠ 0) (hwi : i ≠ wi)
    (hdw : (wn == ("__debug__" : Str)) = false) (hcw : (wn == ("__classdict__" : Str)) = false)
    (hh : ∀ (s : Shared) (H : Hp), WordH (cxOf C8.CX0 X.prog X.w X.K X.mg X.base Ng x sg g cdg X.A X.stack s H C8.E0).nox T en (hd :: hds) l)
    (hp : ∀ y z D, said y = some z → X.mg y = some (.ref D) → Picks X.K D z Ng.length i wi l)
    (hs1 : ∀ env : Env, swapsWith (.Constant (.str oth) j1 q2) (some (.Name wn q1)) q3.line env = pure false := by intros; rfl)
    (hs2 : ∀ env : Env, swapsWith (.Constant (.str dn) j2 r2) (some (.Name wn r1)) r3.line env = pure false := by intros; rfl) :
    LamX.GivesTo X Ng x sg g cdg [.Assign [.Name wn q1] (.Constant (.str oth) j1 q2) q3, .Try [.Expr (.Call (.Name a p1) [] [] p2) p3, .Assign [.Name wn r1] (.Constant (.str dn) j2 r2) r3] (hd :: hds) [] [] p8, .Return (some (.Name wn p5)) p6] a q (TTword X.K X.mg T dn said) := by
  intro f c' s H Q tl act hc h
  have hloc : Loc (cxOf C8.CX0 X.prog X.w X.K X.mg X.base Ng x sg g cdg X.A X.stack s H C8.E0).nox.env.scope wn := .inl hwl
  have hvis : Vis (cxOf C8.CX0 X.prog X.w X.K X.mg X.base Ng x sg g cdg X.A X.stack s H C8.E0).nox.env.scope wn := .inl hwl
  refine ⟨_, pss_cons (ps_set (X := (cxOf C8.CX0 X.prog X.w X.K X.mg X.base Ng x sg g cdg X.A X.stack s H C8.E0).nox) (i := wi) hNg hw hloc pe_str (hs1 _) (.inr hwl)) (pss_cons (ps_try_as_many (X := (cxOf C8.CX0 X.prog X.w X.K X.mg X.base Ng x sg g cdg X.A X.stack s H C8.E0).nox) (n := en) (i := i) (Wout := Wno)
      (tb := fun W D σ H => ∃ Ech : XK, (∀ cls d σ' H', Ech cls d H' → σ'.length = Ng.length → W cls d σ' H') ∧ σ[0]? = some (some (.ref f)) ∧ H c' = some (LamX.CodeO c' q) ∧ tl Ech H (fun _ H' => D.nx (σ.set wi (some (.str dn))) H'))
      rfl rfl hNg hi hln LamX.takes0 (fun W pn xe tk _ => ?_) (hh s H).as) (pss_one (ps_ret (pe_var (X := (cxOf C8.CX0 X.prog X.w X.K X.mg X.base Ng x sg g cdg X.A X.stack s H C8.E0).nox) hw hvis hdw hcw)))), ?_⟩
  · refine ⟨fun pins s' σ H' D I h' => ?_⟩
    obtain ⟨Ech, hW, h1, h2, h3⟩ := h'
    have hp' := act (fun cls d σ H => σ.length = Ng.length → W cls d σ H) pn xe Ech p1 p2 (Takes.len tk) (fun cls d σ' H' z hl => hW cls d σ' H' z hl)
    have hq := pss_cons (ps_expr (pos := p3) hp' (by rfl)) (pss_one (ps_set (X := Cx.tr (cxOf C8.CX0 X.prog X.w X.K X.mg X.base Ng x sg g cdg X.A X.stack s H C8.E0).nox pn xe) (i := wi) (x := wn) hNg hw hloc pe_str (hs2 _) (.inr hwl)))
    exact hq.run pins s' σ H' D I ⟨h1, h2, h3⟩
  · have hlen : (L2.start Ng [V.ref f]).length = Ng.length := by
      unfold L2.start
      have : 1 ≤ Ng.length := by
        cases Ng with
        | nil => simp at hw
        | cons _ _ => simp
      simp
      omega
    have hwlt : wi < Ng.length := (List.getElem?_eq_some_iff.mp hw).1
    refine ⟨fun cls od H' => ∃ D y z, cls = .ref D ∧ od = none ∧ X.mg y = some (.ref D) ∧ said y = some z ∧ LamX.Tabs T H' ∧ ∀ u H'' σ' env', Rel X.K ⟨T, H', fun _ => none, fun _ => none⟩ H'' σ' env' → Dz X.K H'' u z → Le H' H'' → Q u H'', fun cls d σ' H' z hl => ?_, ?_, hc, ?_⟩
    · obtain ⟨D, y, z, rfl, rfl, hy, hs, hT, hq⟩ := z
      refine picks_as (mg := X.mg) hT hl (fun σ1 H1 env1 v r1 le hv hz => ?_) (hp y z D hs hy)
      refine ⟨v, ?_, hq v H1 σ1 env1 r1 hz le⟩
      rw [List.getElem?_set_ne hwi]
      exact hv
    · rw [List.getElem?_set_ne hw0]
      exact h0 f
    · have e : (fun (_ : V) (H' : Hp) => ∃ v, (((L2.start Ng [V.ref f]).set wi (some (V.str oth))).set wi (some (V.str dn)))[wi]? = some (some v) ∧ Q v H') = fun _ H' => Q (.str dn) H' := by
        have hg : (((L2.start Ng [V.ref f]).set wi (some (V.str oth))).set wi (some (V.str dn)))[wi]? = some (some (.str dn)) := List.getElem?_set_self (by rw [List.length_set, hlen]; exact hwlt)
        funext _ H'
        refine propext ⟨fun ⟨v, h1, h2⟩ => ?_, fun h => ⟨.str dn, hg, h⟩⟩
        rw [hg] at h1
        cases h1
        exact h2
      show tl _ H (fun (_ : V) (H' : Hp) => ∃ v, (((L2.start Ng [V.ref f]).set wi (some (V.str oth))).set wi (some (V.str dn)))[wi]? = some (some v) ∧ Q v H')
      rw [e]
      exact h
end
/-! readings -/
section
variable {env : En} {E : Er → En → Prop}
@[simp ↓] theorem W_mWord {dn : Str} {said : Str → Option PyData} {m : M Vl} {Q : Vl → En → Prop} : W (mWord dn said m) env Q E ↔ W m env (fun _ e => Q (.d (.str dn)) e) (fun x e => x.arg = none ∧ opt (said x.cls) fun z => Q (.d z) e) := by
  unfold W wp mWord
  cases m env with
  | ok v e => exact Iff.rfl
  | stuck => exact Iff.rfl
  | err x e =>
    obtain ⟨c, a⟩ := x
    cases a with
    | some a => simp
    | none => cases h : said c <;> simp [h, opt]
end
end DL
end

/- EL37 -/
section
set_option maxHeartbeats 4000000
namespace DL
open PySem PySem.Spec PyProof.Rows L2

/-! ### a call that lends two own objects -/
def refAt (σ : L2.St) (i : Nat) : Option Addr := match σ[i]? with
  | some (some (.ref a)) => some a
  | _ => none
theorem refAt_some {σ : L2.St} {i : Nat} {a : Addr} : refAt σ i = some a ↔ σ[i]? = some (some (.ref a)) := by
  unfold refAt
  constructor
  · intro h
    split at h
    · rename_i b e
      cases h
      exact e
    · cases h
  · intro h
    rw [h]
def bk2 (σ : L2.St) (j1 i1 j2 i2 : Nat) (k : Nat) : Option Addr := if k = j1 then refAt σ i1 else if k = j2 then refAt σ i2 else none
structure Args2 (K : PySem.W.Frag) (H : Hp) (σ : L2.St) (env : En) (us : List V) (evs : List EV) (j1 i1 j2 i2 : Nat) : Prop where
  len : us.length = evs.length
  dat : ∀ (j : Nat) x, evs[j]? = some (.d x) → ∃ u, us[j]? = some u ∧ Dz K H u x
  own : ∀ (j : Nat) b es, evs[j]? = some (.own b es) → b = true ∧ ∃ i b' a, (j = j1 ∧ i = i1 ∨ j = j2 ∧ i = i2) ∧ env[i]? = some (some (.own b' es)) ∧ us[j]? = some (.ref a) ∧ σ[i]? = some (some (.ref a))
  nox : ∀ (j : Nat) v, evs[j]? ≠ some (.x v)
  l1 : ∃ es, evs[j1]? = some (.own true es)
  l2 : ∃ es, evs[j2]? = some (.own true es)
  nj : j1 ≠ j2
  ni : i1 ≠ i2
section
variable {K : PySem.W.Frag} {C : Ct} {σ σ' : L2.St} {H H' : Hp} {env env' : En} {us : List V} {evs : List EV} {j1 i1 j2 i2 : Nat} {N : List Str}
theorem Args2.at1 (A : Args2 K H σ env us evs j1 i1 j2 i2) : ∃ es b a, evs[j1]? = some (.own true es) ∧ env[i1]? = some (some (.own b es)) ∧ us[j1]? = some (.ref a) ∧ σ[i1]? = some (some (.ref a)) := by
  obtain ⟨es, h⟩ := A.l1
  obtain ⟨_, i, b, a, (⟨_, rfl⟩ | ⟨e, _⟩), q2, q3, q4⟩ := A.own j1 true es h
  · exact ⟨es, b, a, h, q2, q3, q4⟩
  · exact absurd e A.nj
theorem Args2.at2 (A : Args2 K H σ env us evs j1 i1 j2 i2) : ∃ es b a, evs[j2]? = some (.own true es) ∧ env[i2]? = some (some (.own b es)) ∧ us[j2]? = some (.ref a) ∧ σ[i2]? = some (some (.ref a)) := by
  obtain ⟨es, h⟩ := A.l2
  obtain ⟨_, i, b, a, (⟨e, _⟩ | ⟨_, rfl⟩), q2, q3, q4⟩ := A.own j2 true es h
  · exact absurd e.symm A.nj
  · exact ⟨es, b, a, h, q2, q3, q4⟩
abbrev callCt2 (C : Ct) (H : Hp) (σ : L2.St) (j1 i1 j2 i2 : Nat) : Ct := ⟨C.T, H, bk2 σ j1 i1 j2 i2, fun _ => none⟩
theorem callee_start2 (r : Rel K C H σ env) (A : Args2 K H σ env us evs j1 i1 j2 i2) : Rel K (callCt2 C H σ j1 i1 j2 i2) H (L2.start N us) (startE N.length evs) where
  len := by
    unfold startE L2.start
    rw [List.length_append, List.length_append, List.length_map, List.length_map, List.length_replicate, List.length_replicate, A.len]
  dat := fun j x h => by
    obtain ⟨u, q1, q2⟩ := A.dat j x (pad_get h)
    exact ⟨u, pad_get' q1, q2⟩
  own := fun j b es h => by
    obtain ⟨rfl, i, b', a, q1, q2, q3, q4⟩ := A.own j b es (pad_get h)
    obtain ⟨a', xs, p1, p2, p3, p4, p5⟩ := r.own i b' es q2
    rw [q4] at p1
    cases p1
    refine ⟨a, xs, pad_get' q3, p2, p3, ?_, rfl⟩
    rw [if_pos rfl]
    show bk2 σ j1 i1 j2 i2 j = some a
    unfold bk2
    rcases q1 with ⟨rfl, rfl⟩ | ⟨rfl, rfl⟩
    · rw [if_pos rfl]
      exact refAt_some.mpr q4
    · rw [if_neg A.nj.symm, if_pos rfl]
      exact refAt_some.mpr q4
  bkd := fun k a h => by
    have h : bk2 σ j1 i1 j2 i2 k = some a := h
    unfold bk2 at h
    split at h
    · rename_i e
      subst e
      obtain ⟨es, q⟩ := A.l1
      exact ⟨es, pad_get' q⟩
    · split at h
      · rename_i e
        subst e
        obtain ⟨es, q⟩ := A.l2
        exact ⟨es, pad_get' q⟩
      · cases h
  dis := fun j k b c es fs a hjk e1 e2 e3 e4 => by
    obtain ⟨_, i, b', a', q1, q2, q3, q4⟩ := A.own j b es (pad_get e1)
    obtain ⟨_, i', b'', a'', q1', q2', q3', q4'⟩ := A.own k c fs (pad_get e2)
    have u1 : a' = a := by
      have := pad_get' (n := N.length) q3
      unfold L2.start at e3
      rw [this] at e3
      cases e3
      rfl
    have u2 : a'' = a := by
      have := pad_get' (n := N.length) q3'
      unfold L2.start at e4
      rw [this] at e4
      cases e4
      rfl
    subst u1
    subst u2
    have hne : i ≠ i' := by
      rcases q1 with ⟨rfl, rfl⟩ | ⟨rfl, rfl⟩ <;> rcases q1' with ⟨rfl, rfl⟩ | ⟨rfl, rfl⟩
      · exact absurd rfl hjk
      · exact A.ni
      · exact A.ni.symm
      · exact absurd rfl hjk
    exact r.dis i i' b' b'' es fs _ hne q2 q2' q4 q4'
  keep := fun a o h _ _ => h
  prot := fun a xs h => by cases h
  opq := fun j v h => absurd (pad_get h) (A.nox j v)
  tab := r.tab
def back2 (j1 i1 j2 i2 : Nat) (env env' : En) : En := backE (some (j2, i2)) (backE (some (j1, i1)) env env') env'
theorem back2_eq (A : Args2 K H σ env us evs j1 i1 j2 i2) {es1 es2 fs1 fs2 : OO} {b1 b2 c1 c2 : Bool} (g1 : env'[j1]? = some (some (.own c1 es1))) (g2 : env'[j2]? = some (some (.own c2 es2))) (h1 : env[i1]? = some (some (.own b1 fs1))) (h2 : env[i2]? = some (some (.own b2 fs2))) :
    back2 j1 i1 j2 i2 env env' = (env.set i1 (some (.own b1 es1))).set i2 (some (.own b2 es2)) := by
  have e1 : backE (some (j1, i1)) env env' = env.set i1 (some (.own b1 es1)) := by
    unfold backE
    dsimp only
    rw [g1, h1]
  unfold back2
  rw [e1]
  unfold backE
  dsimp only
  rw [g2, List.getElem?_set_ne A.ni, h2]
theorem get_set2 {α : Type} {l : List α} {i k m : Nat} {x y z : α} (h : ((l.set i x).set k y)[m]? = some z) : (m = k ∧ z = y) ∨ (m ≠ k ∧ m = i ∧ z = x) ∨ (m ≠ k ∧ m ≠ i ∧ l[m]? = some z) := by
  by_cases h1 : k = m
  · subst h1
    have hl := (List.getElem?_eq_some_iff.mp h).1
    rw [List.length_set] at hl
    rw [List.getElem?_set_self hl] at h
    exact .inl ⟨rfl, (Option.some.inj h).symm⟩
  · rw [List.getElem?_set_ne h1] at h
    by_cases h2 : i = m
    · subst h2
      have hl := (List.getElem?_eq_some_iff.mp h).1
      rw [List.length_set] at hl
      rw [List.getElem?_set_self hl] at h
      exact .inr (.inl ⟨fun e => h1 e.symm, rfl, (Option.some.inj h).symm⟩)
    · rw [List.getElem?_set_ne h2] at h
      exact .inr (.inr ⟨fun e => h1 e.symm, fun e => h2 e.symm, h⟩)
theorem caller_back2 (r : Rel K C H σ env) (A : Args2 K H σ env us evs j1 i1 j2 i2) (r' : Rel K (callCt2 C H σ j1 i1 j2 i2) H' σ' env') (l : Le H H') : Rel K C H' σ (back2 j1 i1 j2 i2 env env') := by
  obtain ⟨fs1, b1, a1, _, q12, q13, q14⟩ := A.at1
  obtain ⟨fs2, b2, a2, _, q22, q23, q24⟩ := A.at2
  have k1 : bk2 σ j1 i1 j2 i2 j1 = some a1 := by unfold bk2; rw [if_pos rfl]; exact refAt_some.mpr q14
  have k2 : bk2 σ j1 i1 j2 i2 j2 = some a2 := by unfold bk2; rw [if_neg A.nj.symm, if_pos rfl]; exact refAt_some.mpr q24
  have kb : ∀ k c, bk2 σ j1 i1 j2 i2 k = some c → c = a1 ∨ c = a2 := fun k c h => by
    unfold bk2 at h
    split at h
    · rw [refAt_some.mpr q14] at h; cases h; exact .inl rfl
    · split at h
      · rw [refAt_some.mpr q24] at h; cases h; exact .inr rfl
      · cases h
  obtain ⟨_, xs1, p11, p12, p13, p14, p15⟩ := r.own i1 b1 fs1 q12
  rw [q14] at p11
  cases p11
  obtain ⟨_, xs2, p21, p22, p23, p24, p25⟩ := r.own i2 b2 fs2 q22
  rw [q24] at p21
  cases p21
  obtain ⟨es1, g11⟩ := r'.bkd j1 a1 k1
  obtain ⟨_, ys1, g12, g13, g14, g15, _⟩ := r'.own j1 true es1 g11
  rw [if_pos rfl] at g15
  have g15 : bk2 σ j1 i1 j2 i2 j1 = some _ := g15
  rw [k1] at g15
  cases g15
  obtain ⟨es2, g21⟩ := r'.bkd j2 a2 k2
  obtain ⟨_, ys2, g22, g23, g24, g25, _⟩ := r'.own j2 true es2 g21
  rw [if_pos rfl] at g25
  have g25 : bk2 σ j1 i1 j2 i2 j2 = some _ := g25
  rw [k2] at g25
  cases g25
  have st : ∀ c o, H c = some o → c ≠ a1 → c ≠ a2 → (∀ ps, o ≠ .tbl ps) → H' c = some o := fun c o h1 h2 h2' h3 => r'.keep c o h1 (fun k e => (kb k c e).elim h2 h2') h3
  have notOwn : ∀ c o, H c = some o → (∀ ps, o ≠ .tbl ps) → (∀ k, C.bk k ≠ some c) → C.H0 c = some o → c ≠ a1 ∧ c ≠ a2 := fun c o h1 h3 h4 h5 => by
    constructor
    · rintro rfl
      cases b1 with
      | true => exact h4 i1 p14
      | false =>
        have p14 : Nk C.H0 c := p14
        obtain ⟨ps, z⟩ := p14 _ h5
        exact h3 ps z
    · rintro rfl
      cases b2 with
      | true => exact h4 i2 p24
      | false =>
        have p24 : Nk C.H0 c := p24
        obtain ⟨ps, z⟩ := p24 _ h5
        exact h3 ps z
  rw [back2_eq A g11 g21 q12 q22]
  exact {
    len := by rw [List.length_set, List.length_set]; exact r.len
    dat := fun k x h => by
      rcases get_set2 h with ⟨_, e⟩ | ⟨_, _, e⟩ | ⟨_, _, h⟩
      · cases e
      · cases e
      · obtain ⟨v, z1, z2⟩ := r.dat k x h
        exact ⟨v, z1, Dz.le l _ z2⟩
    own := fun k b ds h => by
      rcases get_set2 h with ⟨rfl, e⟩ | ⟨_, rfl, e⟩ | ⟨n2, n1, h⟩
      · cases e
        exact ⟨a2, ys2, q24, g23, g24, p24, p25⟩
      · cases e
        exact ⟨a1, ys1, q14, g13, g14, p14, p15⟩
      · obtain ⟨c, zs, z1, z2, z3, z4, z5⟩ := r.own k b ds h
        have c1 : c ≠ a1 := by
          rintro rfl
          exact r.dis i1 k b1 b fs1 ds c (fun e => n1 e.symm) q12 h q14 z1
        have c2 : c ≠ a2 := by
          rintro rfl
          exact r.dis i2 k b2 b fs2 ds c (fun e => n2 e.symm) q22 h q24 z1
        exact ⟨c, zs, z1, st _ _ z2 c1 c2 z3.ntbl, OOR.le l z3, z4, z5⟩
    bkd := fun k c h => by
      obtain ⟨ds, e⟩ := r.bkd k c h
      by_cases h2 : i2 = k
      · subst h2
        rw [q22] at e
        cases e
        exact ⟨es2, List.getElem?_set_self (by rw [List.length_set]; exact (List.getElem?_eq_some_iff.mp q22).1)⟩
      · by_cases h1 : i1 = k
        · subst h1
          rw [q12] at e
          cases e
          exact ⟨es1, by rw [List.getElem?_set_ne h2]; exact List.getElem?_set_self (List.getElem?_eq_some_iff.mp q12).1⟩
        · exact ⟨ds, by rw [List.getElem?_set_ne h2, List.getElem?_set_ne h1]; exact e⟩
    dis := fun k m b c ds fs x hkm e1 e2 e3 e4 => by
      have key : ∀ k b ds, ((env.set i1 (some (EV.own b1 es1))).set i2 (some (EV.own b2 es2)))[k]? = some (some (EV.own b ds)) → ∃ b' ds', env[k]? = some (some (EV.own b' ds')) := fun k b ds h => by
        rcases get_set2 h with ⟨z, _⟩ | ⟨_, z, _⟩ | ⟨_, _, h⟩
        · exact ⟨b2, fs2, by rw [z]; exact q22⟩
        · exact ⟨b1, fs1, by rw [z]; exact q12⟩
        · exact ⟨_, _, h⟩
      obtain ⟨b', ds', e1⟩ := key k b ds e1
      obtain ⟨c', fs', e2⟩ := key m c fs e2
      exact r.dis k m b' c' ds' fs' x hkm e1 e2 e3 e4
    keep := fun c o h1 h2 h3 => by
      have hk := r.keep c o h1 h2 h3
      obtain ⟨n1, n2⟩ := notOwn c o hk h3 h2 h1
      exact st _ _ hk n1 n2 h3
    prot := fun c zs h => by
      have hk := r.prot c zs h
      have c1 : c ≠ a1 := by
        rintro rfl
        rw [p15] at h
        cases h
      have c2 : c ≠ a2 := by
        rintro rfl
        rw [p25] at h
        cases h
      exact st _ _ hk c1 c2 (PO.ntbl zs)
    opq := fun j v h => by
      rcases get_set2 h with ⟨_, e⟩ | ⟨_, _, e⟩ | ⟨_, _, h⟩
      · cases e
      · cases e
      · exact r.opq j v h
    tab := r'.tab }
end
/-- what a call gives -/
def fin2 (np : Nat) (m : M Fl) (n : Nat) (evs : List EV) (j1 i1 j2 i2 : Nat) : M RVl := fun env => if evs.length = np then (match m (startE n evs) with
  | .ok .next env' => .ok (.d .none) (back2 j1 i1 j2 i2 env env')
  | .ok (.ret v) env' => .ok v (back2 j1 i1 j2 i2 env env')
  | .err e env' => .err e (back2 j1 i1 j2 i2 env env')
  | _ => .stuck) else .stuck
def callR2 (np : Nat) (m : M Fl) (n : Nat) (j1 j2 : Nat) (ms : M (List Vl)) : M RVl := M.bind ms fun vs => M.bind (M.opt (slAt vs j1)) fun i1 => M.bind (M.opt (slAt vs j2)) fun i2 => M.bind (leakAll ((vs.set j1 (.d .none)).set j2 (.d .none))) fun ds => M.bind (ownAt i1) fun es1 => M.bind (ownAt i2) fun es2 =>
  if i1 ≠ i2 then fin2 np m n (((ds.map EV.d).set j1 (.own true es1)).set j2 (.own true es2)) j1 i1 j2 i2 else M.stuck
section
variable {X : Cx} {C : Ct} {T : List (Addr × Str)} {W : WX} {σ : L2.St} {H : Hp} {env : En} {us : List V} {evs : List EV} {j1 i1 j2 i2 : Nat} {N : List Str} {m : M Fl}
theorem fin_prom2 {np : Nat} {Q : VK} (hC : C.T = T) (r : Rel X.K C H σ env) (A : Args2 X.K H σ env us evs j1 i1 j2 i2)
    (h : Lf X.K X.mg C W σ H (fun u H v env => RR X.K C σ u H env v) (fin2 np m N.length evs j1 i1 j2 i2 env) Q) : prom T X.mg X.K np N m us H Q (WE W σ) := by
  unfold fin2 at h
  by_cases hl : evs.length = np
  case neg => rw [if_neg hl] at h; exact h.elim
  rw [if_pos hl] at h
  refine ⟨A.len.trans hl, bk2 σ j1 i1 j2 i2, startE N.length evs, ?_, ?_⟩
  · have := callee_start2 (N := N) r A
    unfold callCt2 at this
    rw [hC] at this
    exact this
  · have key : ∀ {σ' H' env'}, Rel X.K ⟨T, H, bk2 σ j1 i1 j2 i2, fun _ => none⟩ H' σ' env' → Le H H' → Rel X.K C H' σ (back2 j1 i1 j2 i2 env env') := fun {σ' H' env'} r' l => caller_back2 r A (by unfold callCt2; rw [hC]; exact r') l
    cases e : m (startE N.length evs) with
    | ok fl env' =>
      rw [e] at h
      cases fl with
      | next => exact fun σ' H' r' l => h .non H' (key r' l) .non l
      | brk => exact h.elim
      | cont => exact h.elim
      | ret v =>
        intro u σ' H' r' rr l
        have rb := key r' l
        refine h u H' rb ?_ l
        cases v with
        | d x => exact rr
        | o ds =>
          obtain ⟨p, xs, e1, e2, e3, e4, e5, e6⟩ := rr
          have e4 : Nk H p := e4
          have hP : C.P p = none := by
            cases e : C.P p with
            | none => rfl
            | some zs =>
              obtain ⟨ps, z⟩ := e4 _ (r.prot p zs e)
              exact absurd z (PO.ntbl _ _)
          refine ⟨p, xs, e1, e2, e3, r.nk e4, hP, fun k b es q1 q2 => ?_⟩
          have : ∃ b es, env[k]? = some (some (.own b es)) := by
            have step : ∀ {j i : Nat} {en : En} {b : Bool} {es : OO}, (backE (some (j, i)) en env')[k]? = some (some (.own b es)) → ∃ b es, en[k]? = some (some (.own b es)) := fun {j i en b es} q1 => by
              unfold backE at q1
              dsimp only at q1
              split at q1
              · rename_i _ _ _ b0 es0 _ g
                rcases get_set q1 with ⟨rfl, _⟩ | ⟨_, q1⟩
                · exact ⟨_, _, g⟩
                · exact ⟨b, es, q1⟩
              · exact ⟨b, es, q1⟩
            obtain ⟨b1, es1, q⟩ := step (show (backE (some (j2, i2)) (backE (some (j1, i1)) env env') env')[k]? = _ from q1)
            exact step q
          obtain ⟨b1, es1, q⟩ := this
          obtain ⟨a, zs, p1, p2, p3, _⟩ := r.own k b1 es1 q
          rw [q2] at p1
          cases p1
          obtain ⟨ps, z⟩ := e4 _ p2
          exact absurd z (p3.ntbl ps)
    | err x env' =>
      rw [e] at h
      exact fun cls od σ' H' r' z l => h cls od H' (key r' l) z l
    | stuck => rw [e] at h; exact h.elim
theorem args2_of {K : PySem.W.Frag} {ds : List PyData} {es1 es2 : OO} {b1 b2 : Bool} {a1 a2 : Addr} (z : DzAll K H ((us.set j1 .non).set j2 .non) ds) (nj : j1 ≠ j2) (ni : i1 ≠ i2) (h1 : env[i1]? = some (some (.own b1 es1))) (h2 : env[i2]? = some (some (.own b2 es2)))
    (u1 : us[j1]? = some (.ref a1)) (u2 : us[j2]? = some (.ref a2)) (s1 : σ[i1]? = some (some (.ref a1))) (s2 : σ[i2]? = some (some (.ref a2))) : Args2 K H σ env us (((ds.map EV.d).set j1 (.own true es1)).set j2 (.own true es2)) j1 i1 j2 i2 := by
  have hlen : us.length = ds.length := by
    have := z.length
    rw [List.length_set, List.length_set] at this
    exact this
  have at_ : ∀ {k : Nat} {v : EV}, (((ds.map EV.d).set j1 (.own true es1)).set j2 (.own true es2))[k]? = some v → (k = j2 ∧ v = .own true es2) ∨ (k ≠ j2 ∧ k = j1 ∧ v = .own true es1) ∨ (k ≠ j2 ∧ k ≠ j1 ∧ ∃ d, ds[k]? = some d ∧ v = .d d) := fun {k v} h => by
    rcases get_set2 h with q | q | ⟨q1, q2, q⟩
    · exact .inl q
    · exact .inr (.inl q)
    · rw [List.getElem?_map] at q
      cases e : ds[k]? with
      | none => rw [e] at q; cases q
      | some d =>
        rw [e] at q
        cases q
        exact .inr (.inr ⟨q1, q2, d, rfl, rfl⟩)
  have l1 : j1 < ds.length := by rw [← hlen]; exact (List.getElem?_eq_some_iff.mp u1).1
  have l2 : j2 < ds.length := by rw [← hlen]; exact (List.getElem?_eq_some_iff.mp u2).1
  exact {
    len := by rw [List.length_set, List.length_set, List.length_map]; exact hlen
    dat := fun k x h => by
      rcases at_ h with ⟨_, e⟩ | ⟨_, _, e⟩ | ⟨n2, n1, d, e1, e⟩
      · cases e
      · cases e
      · cases e
        obtain ⟨u, g1, g2⟩ := z.get e1
        rw [List.getElem?_set_ne (fun e => n2 e.symm), List.getElem?_set_ne (fun e => n1 e.symm)] at g1
        exact ⟨u, g1, g2⟩
    own := fun k b es h => by
      rcases at_ h with ⟨rfl, e⟩ | ⟨_, rfl, e⟩ | ⟨_, _, d, _, e⟩
      · cases e
        exact ⟨rfl, i2, b2, a2, .inr ⟨rfl, rfl⟩, h2, u2, s2⟩
      · cases e
        exact ⟨rfl, i1, b1, a1, .inl ⟨rfl, rfl⟩, h1, u1, s1⟩
      · cases e
    nox := fun k v h => by
      rcases at_ h with ⟨_, e⟩ | ⟨_, _, e⟩ | ⟨_, _, d, _, e⟩ <;> cases e
    l1 := ⟨es1, by rw [List.getElem?_set_ne nj.symm]; exact List.getElem?_set_self (by rw [List.length_map]; exact l1)⟩
    l2 := ⟨es2, List.getElem?_set_self (by rw [List.length_set, List.length_map]; exact l2)⟩
    nj := nj
    ni := ni }
end
section
variable {X : Cx} {T : List (Addr × Str)} {W : WX} {x : Str} {p pos : Pos} {e : Expr} {es : List Expr} {ms : M (List Vl)} {m : M Fl} {k np : Nat} {N : List Str}
theorem dv_call2 {n : Nat} (j1 j2 : Nat) (F : FnD X.prog X.w X.K X.mg X.base T k x np N m) (hr : Room k X.A) (tk : Takes X W) (hg : Gl X x) (ha : DA X T W (e :: es) ms) (nj : j1 ≠ j2 := by decide) (hn : N.length = n := by rfl)
    (hdb : (x == ("__debug__" : Str)) = false := by decide) (he : starEach (e :: es) X.env = (false, eval e X.env) :: starEach es X.env := by rfl) (hpl : (backTo pos (starEach es X.env)).any (·.1) = false := by rfl) :
    DV X T W (.Call (.Name x p) (e :: es) [] pos) (callR2 np m n j1 j2 ms) := by
  subst hn
  obtain ⟨f, fd, ps, F, hm, hk, hb⟩ := F.ex
  refine ⟨fun C hC => ⟨fun pins s σ H Q I h => (pe_callSD (dvs := []) (E := WE W) F hr hg hm hk hb .nil (passAt tk) (pa_ghost (ha.pa C hC)) hdb he hpl).run pins s σ H Q I ?_⟩⟩
  obtain ⟨env, r, h⟩ := h
  refine ⟨env, r, Lf.bind h fun us H1 vs env1 r1 hv l1 h1 => ?_⟩
  obtain ⟨i1, hj1, h1⟩ := Lf.optB h1
  obtain ⟨i2, hj2, h1⟩ := Lf.optB h1
  have hj1 := slAt_some hj1
  have hj2 := slAt_some hj2
  obtain ⟨u1, hu1, hs1⟩ := hv.get hj1
  obtain ⟨u2, hu2, hs2⟩ := hv.get hj2
  have hv2 : VRs X.K σ H1 ((us.set j1 .non).set j2 .non) ((vs.set j1 (.d .none)).set j2 (.d .none)) := VRs.set (show VR X.K σ .non H1 (.d .none) from .non) j2 (VRs.set (show VR X.K σ .non H1 (.d .none) from .non) j1 hv)
  obtain ⟨ds, env2, e1, h2⟩ := Lf.leakAll h1 r1 hv2
  refine (leakAll_ok r1 hv2 e1).imp fun H2 ⟨r2', z2, l2, _, _⟩ => ?_
  show prom T X.mg X.K np N m (us ++ []) H2 Q (WE W σ)
  rw [List.append_nil]
  cases e3 : ownAt i1 env2 with
  | err x env' => exact absurd e3 ownAt_noerr
  | stuck => rw [M.bind_stuck e3] at h2; exact h2.elim
  | ok es1 env3 =>
    rw [M.bind_ok e3] at h2
    obtain ⟨e30, b1, hi1⟩ := ownAt_ok e3
    rw [e30] at h2
    cases e4 : ownAt i2 env2 with
    | err x env' => exact absurd e4 ownAt_noerr
    | stuck => rw [M.bind_stuck e4] at h2; exact h2.elim
    | ok es2 env4 =>
      rw [M.bind_ok e4] at h2
      obtain ⟨e40, b2, hi2⟩ := ownAt_ok e4
      rw [e40] at h2
      by_cases ni : i1 ≠ i2
      case neg => rw [if_neg ni] at h2; exact h2.elim
      rw [if_pos ni] at h2
      obtain ⟨a1, xs1, q1, _⟩ := r2'.own i1 b1 es1 hi1
      obtain ⟨a2, xs2, q2, _⟩ := r2'.own i2 b2 es2 hi2
      have hs1 : σ[i1]? = some (some u1) := hs1
      have hs2 : σ[i2]? = some (some u2) := hs2
      have g1 := q1
      have g2 := q2
      rw [g1] at hs1
      cases hs1
      rw [g2] at hs2
      cases hs2
      exact fin_prom2 hC r2' (args2_of z2 nj ni hi1 hi2 hu1 hu2 q1 q2) (h2.mono l2 fun _ _ z => z)
end
/-! readings -/
section
variable {env : En} {E : Er → En → Prop} {ms : M (List Vl)}
theorem W_fin2 {np n : Nat} {f : M Fl} {evs : List EV} {j1 i1 j2 i2 : Nat} {Q : RVl → En → Prop} : W (fin2 np f n evs j1 i1 j2 i2) env Q E ↔ evs.length = np ∧ W f (startE n evs) (fun fl e' => match fl with
  | .next => Q (.d .none) (back2 j1 i1 j2 i2 env e')
  | .ret v => Q v (back2 j1 i1 j2 i2 env e')
  | _ => False) (fun x e' => E x (back2 j1 i1 j2 i2 env e')) := by
  unfold W wp fin2
  by_cases h : evs.length = np
  · rw [if_pos h]
    cases f (startE n evs) with
    | ok fl e => cases fl <;> simp [h]
    | err x e => simp [h]
    | stuck => simp
  · rw [if_neg h]
    simp [h]
@[simp ↓] theorem W_callR2 {np n j1 j2 : Nat} {f : M Fl} {Q : RVl → En → Prop} : W (callR2 np f n j1 j2 ms) env Q E ↔ W ms env (fun vs e => opt (slAt vs j1) fun i1 => opt (slAt vs j2) fun i2 => W (leakAll ((vs.set j1 (.d .none)).set j2 (.d .none))) e (fun ds e => W (ownAt i1) e (fun es1 e => W (ownAt i2) e (fun es2 e => i1 ≠ i2 ∧ W (fin2 np f n (((ds.map EV.d).set j1 (.own true es1)).set j2 (.own true es2)) j1 i1 j2 i2) e Q E) E) E) E) E := by
  rw [W_eq]
  unfold callR2
  simp only [wp_bind, wp_Mopt]
  unfold W
  apply iff_of_eq; congr 1; funext vs e; congr 1; funext i1; congr 1; funext i2; congr 1; funext ds e; congr 1; funext es1 e; congr 1; funext es2 e
  by_cases h : i1 ≠ i2
  · rw [if_pos h]
    simp only [h, not_false_eq_true, true_and, ne_eq]
  · rw [if_neg h]
    simp [h]
end
end DL
end

/- EL38 -/
section
set_option maxHeartbeats 4000000
namespace DL
open PySem PySem.Spec PyProof.Rows L2

/-! ### for x in an own dict, which stands locked meanwhile -/
def keyPD : Key → PyData
  | .inl i => .int i
  | .inr x => .str x
theorem keyPD_dz {K : PySem.W.Frag} {H : Hp} (k : Key) : Dz K H (kV k) (keyPD k) := by
  cases k with
  | inl i => exact .int i
  | inr x => exact .str x
section
variable {K : PySem.W.Frag} {H H' : Hp}
mutual
/-- tuples and frozen lists are all that data lean on -/
theorem Dz.tl (e1 : ∀ a xs, H a = some (.tup xs) → H' a = some (.tup xs)) (e2 : ∀ a o xs, H a = some (.frz o (.lst xs)) → H' a = some (.frz o (.lst xs))) : ∀ (d : PyData) {v : V}, Dz K H v d → Dz K H' v d
  | .none, _, h => by cases h; exact .non
  | .bool b, _, h => by cases h; exact .bl b
  | .int i, _, h => by cases h; exact .int i
  | .str x, _, h => by cases h; exact .str x
  | .list ds, _, h => by
    cases h with
    | lst hs ha => exact .lst (hs.elim (fun ⟨o, z⟩ => .inl ⟨o, e2 _ _ _ z⟩) .inr) (DzAll.tl e1 e2 ds ha)
  | .tuple ds, _, h => by
    cases h with
    | tup hs ha => exact .tup (hs.elim (fun z => .inl (e1 _ _ z)) .inr) (DzAll.tl e1 e2 ds ha)
  | .dict _, _, h => by cases h
theorem DzAll.tl (e1 : ∀ a xs, H a = some (.tup xs) → H' a = some (.tup xs)) (e2 : ∀ a o xs, H a = some (.frz o (.lst xs)) → H' a = some (.frz o (.lst xs))) : ∀ (ds : List PyData) {vs : List V}, DzAll K H vs ds → DzAll K H' vs ds
  | [], _, h => by cases h; exact .nil
  | d :: ds, _, h => by
    cases h with
    | cons h1 h2 => exact .cons (Dz.tl e1 e2 d h1) (DzAll.tl e1 e2 ds h2)
end
theorem OOR.tl (e1 : ∀ a xs, H a = some (.tup xs) → H' a = some (.tup xs)) (e2 : ∀ a o xs, H a = some (.frz o (.lst xs)) → H' a = some (.frz o (.lst xs))) {ho : HO} {o : OO} (h : OOR K H ho o) : OOR K H' ho o := by
  cases ho <;> cases o <;> first | exact h.elim | exact DzAll.tl e1 e2 _ h | exact ⟨h.1, DzAll.tl e1 e2 _ h.2⟩ | skip
  rename_i o u es
  cases u <;> first | exact h.elim | exact ⟨h.1, DzAll.tl e1 e2 _ h.2⟩
end
/-- slot i's object is lent for a while -/
def lockCt (C : Ct) (i : Nat) (a : Addr) : Ct := ⟨C.T, C.H0, fun k => if k = i then some a else C.bk k, C.P⟩
section
variable {K : PySem.W.Frag} {C : Ct} {σ σ' : L2.St} {H H' : Hp} {env env' : En} {i : Nat} {a : Addr} {bb : Bool} {es : List (Key × PyData)} {kvs : List (Key × V)} {od : Obj}
theorem tabs_upd {T : List (Addr × Str)} {u : HO} (t : LamX.Tabs T H) (h : ∀ ps, H a ≠ some (.tbl ps)) (hc : ∀ c q, H a ≠ some (LamX.CodeO c q)) : LamX.Tabs T (upd H a u) := fun p hp => by
  obtain ⟨ps, h1, h2, h3⟩ := t p hp
  have n1 : p.1 ≠ a := fun z => h ps (z ▸ h1)
  refine ⟨ps, by rw [upd_ne n1]; exact h1, h2, fun pos cv q => ?_⟩
  obtain ⟨c, e1, e2⟩ := h3 pos cv q
  have n2 : c ≠ a := fun z => hc _ _ (z ▸ e2)
  exact ⟨c, e1, by rw [upd_ne n2]; exact e2⟩
theorem lockRel (r : Rel K C H σ env) (e : env[i]? = some (some (.own bb (.k es)))) (hs : σ[i]? = some (some (.ref a))) (ha : H a = some (.dK kvs)) (hk : kvs.map (·.1) = es.map (·.1)) (hz : DzAll K H (kvs.map (·.2)) (es.map (·.2))) (hP : C.P a = none) :
    Rel K (lockCt C i a) (upd H a (.frz od (.dK kvs))) σ (env.set i (some (.own true (.f es)))) := by
  have le : Le H (upd H a (.frz od (.dK kvs))) := ⟨fun c xs h => by
    have : c ≠ a := fun z => by rw [z, ha] at h; cases h
    rw [upd_ne this]; exact h, fun c o u h => by
    have : c ≠ a := fun z => by rw [z, ha] at h; cases h
    rw [upd_ne this]; exact h⟩
  exact {
    len := by rw [List.length_set]; exact r.len
    dat := fun k x h => by
      rcases get_set h with ⟨_, z⟩ | ⟨_, h⟩
      · cases z
      · obtain ⟨v, q1, q2⟩ := r.dat k x h
        exact ⟨v, q1, Dz.le le _ q2⟩
    own := fun k b ds h => by
      rcases get_set h with ⟨rfl, z⟩ | ⟨hne, h⟩
      · cases z
        refine ⟨a, _, hs, upd_same, ⟨hk, DzAll.le le _ hz⟩, ?_, hP⟩
        show (if i = i then some a else C.bk i) = some a
        rw [if_pos rfl]
      · obtain ⟨c, ho, q1, q2, q3, q4, q5⟩ := r.own k b ds h
        have hc : c ≠ a := by
          rintro rfl
          exact r.dis i k bb b (.k es) ds c hne e h hs q1
        refine ⟨c, ho, q1, by rw [upd_ne hc]; exact q2, OOR.le le q3, ?_, q5⟩
        cases b with
        | true =>
          show (if k = i then some a else C.bk k) = some c
          rw [if_neg (fun z => hne z.symm)]
          exact q4
        | false => exact q4
    opq := fun j v h => by
      rcases get_set h with ⟨_, z⟩ | ⟨_, h⟩
      · cases z
      · exact r.opq j v h
    bkd := fun k c h => by
      have h : (if k = i then some a else C.bk k) = some c := h
      by_cases hk : k = i
      · subst hk
        exact ⟨.f es, List.getElem?_set_self (List.getElem?_eq_some_iff.mp e).1⟩
      · rw [if_neg hk] at h
        obtain ⟨ds, q⟩ := r.bkd k c h
        exact ⟨ds, by rw [List.getElem?_set_ne (fun z => hk z.symm)]; exact q⟩
    dis := fun k m b c ds fs x hkm e1 e2 e3 e4 => by
      have key : ∀ k b ds, (env.set i (some (EV.own true (.f es))))[k]? = some (some (EV.own b ds)) → ∃ b' ds', env[k]? = some (some (EV.own b' ds')) := fun k b ds h => by
        rcases get_set h with ⟨z, _⟩ | ⟨_, h⟩
        · exact ⟨bb, .k es, by rw [← z]; exact e⟩
        · exact ⟨_, _, h⟩
      obtain ⟨b', ds', e1⟩ := key k b ds e1
      obtain ⟨c', fs', e2⟩ := key m c fs e2
      exact r.dis k m b' c' ds' fs' x hkm e1 e2 e3 e4
    keep := fun c o h1 h2 h3 => by
      have hca : c ≠ a := fun z => h2 i (show (if i = i then some a else C.bk i) = some c by rw [if_pos rfl, z])
      rw [upd_ne hca]
      refine r.keep c o h1 (fun k z => ?_) h3
      by_cases hk : k = i
      · subst hk
        obtain ⟨ds, q⟩ := r.bkd k c z
        rw [e] at q
        cases q
        obtain ⟨a', _, p1, _, _, p4, _⟩ := r.own k true (.k es) e
        rw [hs] at p1
        cases p1
        have p4 : C.bk k = some a := p4
        rw [p4] at z
        cases z
        exact hca rfl
      · exact h2 k (show (if k = i then some a else C.bk k) = some c by rw [if_neg hk]; exact z)
    prot := fun c o h => by
      have hca : c ≠ a := fun z => by
        have h : C.P c = some o := h
        rw [z, hP] at h
        cases h
      rw [upd_ne hca]
      exact r.prot c o h
    tab := tabs_upd r.tab (fun ps z => by rw [ha] at z; cases z) (fun c q z => by rw [ha] at z; cases z) }
theorem unlockRel (r0 : Rel K C H σ env) (e0 : env[i]? = some (some (.own bb (.k es)))) (hs0 : σ[i]? = some (some (.ref a))) (r : Rel K (lockCt C i a) H' σ' env') {fs : List (Key × PyData)} (e : env'[i]? = some (some (.own true (.f fs)))) (ha : H' a = some (.frz od (.dK kvs))) :
    Rel K C (upd H' a (.dK kvs)) σ' (env'.set i (some (.own bb (.k fs)))) := by
  obtain ⟨a', ho, q1, q2, q3, q4, q5⟩ := r.own i true (.f fs) e
  have q4 : (if i = i then some a else C.bk i) = some a' := q4
  rw [if_pos rfl] at q4
  cases q4
  rw [ha] at q2
  cases q2
  obtain ⟨k1, k2⟩ : FK K H' (.dK kvs) fs := q3
  obtain ⟨a0, ho0, p1, p2, p3, p4, p5⟩ := r0.own i bb (.k es) e0
  rw [hs0] at p1
  cases p1
  have e1 : ∀ c xs, H' c = some (.tup xs) → upd H' a (.dK kvs) c = some (.tup xs) := fun c xs h => by
    have : c ≠ a := fun z => by rw [z, ha] at h; cases h
    rw [upd_ne this]; exact h
  have e2 : ∀ c o xs, H' c = some (.frz o (.lst xs)) → upd H' a (.dK kvs) c = some (.frz o (.lst xs)) := fun c o xs h => by
    have : c ≠ a := fun z => by rw [z, ha] at h; cases h
    rw [upd_ne this]; exact h
  exact {
    len := by rw [List.length_set]; exact r.len
    dat := fun k x h => by
      rcases get_set h with ⟨_, z⟩ | ⟨_, h⟩
      · cases z
      · obtain ⟨v, g1, g2⟩ := r.dat k x h
        exact ⟨v, g1, Dz.tl e1 e2 _ g2⟩
    own := fun k b ds h => by
      rcases get_set h with ⟨rfl, z⟩ | ⟨hne, h⟩
      · cases z
        exact ⟨a, _, q1, upd_same, ⟨k1, DzAll.tl e1 e2 _ k2⟩, p4, p5⟩
      · obtain ⟨c, ho, g1, g2, g3, g4, g5⟩ := r.own k b ds h
        have hc : c ≠ a := by
          rintro rfl
          exact r.dis i k true b (.f fs) ds c hne e h q1 g1
        refine ⟨c, ho, g1, by rw [upd_ne hc]; exact g2, OOR.tl e1 e2 g3, ?_, g5⟩
        cases b with
        | true =>
          have g4 : (if k = i then some a else C.bk k) = some c := g4
          rw [if_neg (fun z => hne z.symm)] at g4
          exact g4
        | false => exact g4
    opq := fun j v h => by
      rcases get_set h with ⟨_, z⟩ | ⟨_, h⟩
      · cases z
      · exact r.opq j v h
    bkd := fun k c h => by
      by_cases hk : k = i
      · subst hk
        obtain ⟨ds, q⟩ := r0.bkd k c h
        rw [e0] at q
        cases q
        exact ⟨.k fs, List.getElem?_set_self (List.getElem?_eq_some_iff.mp e).1⟩
      · obtain ⟨ds, q⟩ := r.bkd k c (show (if k = i then some a else C.bk k) = some c by rw [if_neg hk]; exact h)
        exact ⟨ds, by rw [List.getElem?_set_ne (fun z => hk z.symm)]; exact q⟩
    dis := fun k m b c ds gs x hkm h1 h2 h3 h4 => by
      have key : ∀ k b ds, (env'.set i (some (EV.own bb (.k fs))))[k]? = some (some (EV.own b ds)) → ∃ b' ds', env'[k]? = some (some (EV.own b' ds')) := fun k b ds h => by
        rcases get_set h with ⟨z, _⟩ | ⟨_, h⟩
        · exact ⟨true, .f fs, by rw [← z]; exact e⟩
        · exact ⟨_, _, h⟩
      obtain ⟨b', ds', h1⟩ := key k b ds h1
      obtain ⟨c', gs', h2⟩ := key m c gs h2
      exact r.dis k m b' c' ds' gs' x hkm h1 h2 h3 h4
    keep := fun c o h1 h2 h3 => by
      have hca : c ≠ a := by
        rintro rfl
        cases bb with
        | true => exact h2 i p4
        | false =>
          have p4 : Nk C.H0 c := p4
          obtain ⟨ps, z⟩ := p4 _ h1
          exact h3 ps z
      rw [upd_ne hca]
      refine r.keep c o h1 (fun k z => ?_) h3
      have z : (if k = i then some a else C.bk k) = some c := z
      by_cases hk : k = i
      · rw [if_pos hk] at z
        cases z
        exact hca rfl
      · rw [if_neg hk] at z
        exact h2 k z
    prot := fun c o h => by
      have hca : c ≠ a := fun z => by
        rw [z, p5] at h
        cases h
      rw [upd_ne hca]
      exact r.prot c o h
    tab := tabs_upd r.tab (fun ps z => by rw [ha] at z; cases z) (fun c q z => by rw [ha] at z; cases z) }
end
/-- the loop's end: the dict is free again -/
def unlk (bb : Bool) (i : Nat) : R Fl → R Fl
  | .ok (.ret (.o _)) _ => .stuck
  | .ok fl env' => (match env'[i]? with
    | some (some (.own true (.f es))) => .ok fl (env'.set i (some (.own bb (.k es))))
    | _ => .stuck)
  | _ => .stuck
def sForD (i : Nat) (g : PyData → M Unit) (b : M Fl) : M Fl := fun env => match env[i]? with
  | some (some (.own bb (.k es))) => unlk bb i (forL g b (es.map fun p => keyPD p.1) (env.set i (some (.own true (.f es)))))
  | _ => .stuck
section
variable {X : Cx} {T : List (Addr × Str)} {W : WX} {pos p : Pos} {vs : List Nat} {i : Nat} {x : Str}
theorem sf_lock {C : Ct} {mg : Str → Option Value} {K : PySem.W.Frag} {σ : L2.St} {H H1 : Hp} {env : En} {a : Addr} {bb : Bool} {es : List (Key × PyData)} {kvs : List (Key × V)} {od : Obj} {R0 : R Fl} {D : Ends}
    (r0 : Rel K C H σ env) (e0 : env[i]? = some (some (.own bb (.k es)))) (hs0 : σ[i]? = some (some (.ref a))) (ha : H a = some (.dK kvs)) (le1 : Le (upd H a (.frz od (.dK kvs))) H1)
    (h : Sf K mg C W H (unlk bb i R0) D) : Sf K mg (lockCt C i a) W H1 R0 ⟨fun σ' H' => H' a = some (.frz od (.dK kvs)) ∧ D.nx σ' (upd H' a (.dK kvs)), fun v H' => H' a = some (.frz od (.dK kvs)) ∧ D.rt v (upd H' a (.dK kvs)), fun σ' H' => H' a = some (.frz od (.dK kvs)) ∧ D.bk σ' (upd H' a (.dK kvs)), fun σ' H' => H' a = some (.frz od (.dK kvs)) ∧ D.ct σ' (upd H' a (.dK kvs))⟩ := by
  have fz : ∀ {H'}, Le H1 H' → H' a = some (.frz od (.dK kvs)) := fun {H'} l => l.f _ _ _ (le1.f _ _ _ upd_same)
  have lz : ∀ {H'}, Le H1 H' → Le H (upd H' a (.dK kvs)) := fun {H'} l => ⟨fun c xs h => by
    have hc : c ≠ a := fun z => by rw [z, ha] at h; cases h
    rw [upd_ne hc]
    exact l.t _ _ (le1.t _ _ (by rw [upd_ne hc]; exact h)), fun c o u h => by
    have hc : c ≠ a := fun z => by rw [z, ha] at h; cases h
    rw [upd_ne hc]
    exact l.f _ _ _ (le1.f _ _ _ (by rw [upd_ne hc]; exact h))⟩
  cases R0 with
  | stuck => exact h.elim
  | err e env' => exact h.elim
  | ok fl env' =>
    have get : ∀ {fl : Fl} {D' : R Fl → Prop}, (∀ v, fl ≠ .ret (.o v)) → Sf K mg C W H (unlk bb i (.ok fl env')) D → ∃ fs, env'[i]? = some (some (.own true (.f fs))) ∧ Sf K mg C W H (.ok fl (env'.set i (some (.own bb (.k fs))))) D := fun {fl D'} hn h => by
      unfold unlk at h
      cases q : env'[i]? with
      | none => cases fl with
        | ret v => cases v with
          | d x => simp only [q] at h; exact h.elim
          | o v => exact absurd rfl (hn v)
        | _ => simp only [q] at h; exact h.elim
      | some o => cases o with
        | none => cases fl with
          | ret v => cases v with
            | d x => simp only [q] at h; exact h.elim
            | o v => exact absurd rfl (hn v)
          | _ => simp only [q] at h; exact h.elim
        | some ev => cases ev with
          | own b oo => cases b with
            | false => cases fl with
              | ret v => cases v with
                | d x => simp only [q] at h; exact h.elim
                | o v => exact absurd rfl (hn v)
              | _ => simp only [q] at h; exact h.elim
            | true => cases oo with
              | f fs => cases fl with
                | ret v => cases v with
                  | d x => simp only [q] at h; exact ⟨fs, rfl, h⟩
                  | o v => exact absurd rfl (hn v)
                | _ => simp only [q] at h; exact ⟨fs, rfl, h⟩
              | _ => cases fl with
                | ret v => cases v with
                  | d x => simp only [q] at h; exact h.elim
                  | o v => exact absurd rfl (hn v)
                | _ => simp only [q] at h; exact h.elim
          | _ => cases fl with
            | ret v => cases v with
              | d x => simp only [q] at h; exact h.elim
              | o v => exact absurd rfl (hn v)
            | _ => simp only [q] at h; exact h.elim
    cases fl with
    | next =>
      obtain ⟨fs, q, h⟩ := get (D' := fun _ => True) (fun v z => by cases z) h
      exact fun σ' H' r' l => ⟨fz l, h σ' _ (unlockRel r0 e0 hs0 r' q (fz l)) (lz l)⟩
    | brk =>
      obtain ⟨fs, q, h⟩ := get (D' := fun _ => True) (fun v z => by cases z) h
      exact fun σ' H' r' l => ⟨fz l, h σ' _ (unlockRel r0 e0 hs0 r' q (fz l)) (lz l)⟩
    | cont =>
      obtain ⟨fs, q, h⟩ := get (D' := fun _ => True) (fun v z => by cases z) h
      exact fun σ' H' r' l => ⟨fz l, h σ' _ (unlockRel r0 e0 hs0 r' q (fz l)) (lz l)⟩
    | ret v =>
      cases v with
      | o v => exact h.elim
      | d x =>
        obtain ⟨fs, q, h⟩ := get (D' := fun _ => True) (fun v z => by cases z) h
        intro u σ' H' r' rr l
        have hz : Dz K H' u x := rr
        refine ⟨fz l, h u σ' _ (unlockRel r0 e0 hs0 r' q (fz l)) (show Dz K _ u x from Dz.tl (fun c xs h => ?_) (fun c o xs h => ?_) _ hz) (lz l)⟩
        · have : c ≠ a := fun z => by rw [z, fz l] at h; cases h
          rw [upd_ne this]; exact h
        · have : c ≠ a := fun z => by rw [z, fz l] at h; cases h
          rw [upd_ne this]; exact h
theorem ds_forD {tg : Expr} {body : List Stmt} {g : PyData → M Unit} {mb : M Fl} (hp : PassesOwn (model X.prog X.w) X.A X.env X.xe) (hc : X.calm = true) (hN : X.N[i]? = some x) (hv : Vis X.env.scope x) (hg : DG X tg vs g) (hb : DSs X T W body mb)
    (hd : (x == ("__debug__" : Str)) = false := by decide) (hcd : (x == ("__classdict__" : Str)) = false := by decide)
    (hs : ∀ v, foldedSetIterable (.Name x p) X.env v = pure v := by intro _; rfl) : DS X T W (.For tg (.Name x p) body [] pos) (sForD i g mb) := by
  refine ⟨fun C hC => ⟨fun pins s σ H D I h => ?_⟩⟩
  obtain ⟨env, r, h⟩ := h
  unfold sForD at h
  split at h
  case h_2 => exact h.elim
  rename_i bb es e0
  obtain ⟨a, ho, q1, q2, q3, q4, q5⟩ := r.own i bb (.k es) e0
  obtain ⟨kvs, rfl, k1, k2⟩ := q3.dk
  refine (ps_lock (ps_for hp hc (pi_keys (pe_var (pos := p) hN hv hd hcd)) (hg.pg (lockCt C i a)) (hb.pss (lockCt C i a) hC) hs)).run pins s σ H D I ?_
  refine ⟨a, .dK kvs, q2, ?_, fun od => ?_⟩
  · trivial
  have r1 := lockRel (od := od) r e0 q1 q2 k1 k2 q5
  refine ⟨.ref a, q1, a, od, rfl, .inl ⟨kvs, upd_same, ?_⟩⟩
  have h1 := sf_lock (od := od) r e0 q1 q2 (.refl _) h
  have hlen : kvs.length = es.length := by
    have := congrArg List.length k1
    rw [List.length_map, List.length_map] at this
    exact this
  generalize hitems : (es.map fun p => keyPD p.1) = items at h1
  have hil : items.length = kvs.length := by rw [← hitems, List.length_map, hlen]
  have hat : ∀ (j : Nat) (hj : j < items.length) k v, kvs[j]? = some (k, v) → items[j] = keyPD k := fun j hj k v hk => by
    have : (kvs.map (·.1))[j]? = some k := by rw [List.getElem?_map, hk]; rfl
    rw [k1, List.getElem?_map] at this
    have h2 : items[j]? = some (keyPD k) := by
      rw [← hitems, List.getElem?_map]
      cases q : es[j]? with
      | none => rw [q] at this; cases this
      | some z =>
        rw [q] at this
        cases this
        rfl
    rw [List.getElem?_eq_getElem hj] at h2
    exact Option.some.inj h2
  have fr : ∀ {H'}, Le (upd H a (.frz od (.dK kvs))) H' → H' a = some (.frz od (.dK kvs)) := fun {H'} l => l.f _ _ _ upd_same
  refine ⟨fun j m σ H' => m = items.length - j ∧ j ≤ items.length ∧ Le (upd H a (.frz od (.dK kvs))) H' ∧ ∃ env, Rel X.K (lockCt C i a) H' σ env ∧ Sf X.K X.mg (lockCt C i a) W H' (forL g mb (items.drop j) env) _, ⟨items.length, by simp, Nat.zero_le _, .refl _, _, r1, h1⟩, ?_⟩
  rintro j m σ2 H2 ⟨rfl, hi, l, env2, r2, h2⟩
  by_cases hlt : j < items.length
  · refine .inr ⟨⟨fr l, by omega⟩, fun σ H' => j + 1 ≤ items.length ∧ Le (upd H a (.frz od (.dK kvs))) H' ∧ ∃ env, Rel X.K (lockCt C i a) H' σ env ∧ Sf X.K X.mg (lockCt C i a) W H' (forL g mb (items.drop (j + 1)) env) _, fun σ' H' p' => ⟨items.length - (j + 1), by omega, rfl, p'⟩, fun y H' hy => ?_⟩
    obtain ⟨rfl, k, v, hkv, rfl⟩ := hy
    rw [List.drop_eq_getElem_cons hlt] at h2
    unfold forL M.bind at h2
    refine ⟨env2, items[j], r2, by rw [hat j hlt k v hkv]; exact keyPD_dz k, ?_⟩
    cases e : noE (g items[j]) env2 with
    | ok w env3 =>
      rw [e] at h2
      rw [noE_ok e]
      dsimp only at h2 ⊢
      intro σ3 r3 _
      refine ⟨env3, r3, ?_⟩
      cases e2 : mb env3 with
      | ok fl env4 =>
        rw [e2] at h2
        cases fl with
        | next => exact fun σ4 H4 r4 l4 => ⟨hlt, l.trans l4, env4, r4, Sf.le (show Sf X.K X.mg (lockCt C i a) W H' (forL g mb (items.drop (j + 1)) env4) _ from h2) l4⟩
        | cont => exact fun σ4 H4 r4 l4 => ⟨hlt, l.trans l4, env4, r4, Sf.le (show Sf X.K X.mg (lockCt C i a) W H' (forL g mb (items.drop (j + 1)) env4) _ from h2) l4⟩
        | brk => exact h2
        | ret v => exact h2
      | err x env' => rw [e2] at h2; exact h2
      | stuck => rw [e2] at h2; exact h2.elim
    | err x env' => exact (noE_err e).elim
    | stuck => rw [e] at h2; exact h2.elim
  · have e : j = items.length := by omega
    subst e
    rw [List.drop_length] at h2
    exact .inl ⟨⟨fr l, by omega⟩, h2 σ2 H2 r2 (.refl _)⟩
end
end DL
end

/- EL39 -/
section
set_option maxHeartbeats 4000000
namespace DL
open PySem PySem.Spec PyProof.Rows L2

/-! ### small ones: {name: constant}, an own dict among values in parallel, list(range(a, b)) -/
def mDictV (i : Nat) (d : PyData) : M OO := fun env => match env[i]? with
  | some (some (.d x)) => match keyD x with
    | some k => .ok (.k [(k, d)]) env
    | none => .stuck
  | _ => .stuck
def vQ (m : M OO) (ms : M (List RVl)) : M (List RVl) := M.bind m fun o => match o with
  | .k es => M.bind ms fun vs => M.pure (.o (.k es) :: vs)
  | _ => M.stuck
def mLstRg2 (ma mb : M Vl) : M (List PyData) := M.bind ma fun v => M.bind mb fun w => match v, w with
  | .d (.int i), .d (.int j) => if 0 ≤ i ∧ j ≤ 16777216 ∧ i ≤ 16777216 ∧ 0 ≤ j then M.pure ((List.range (j - i).toNat).map fun k => .int (i + (k : Nat))) else M.stuck
  | _, _ => M.stuck
section
variable {X : Cx} {T : List (Addr × Str)} {W : WX} {i : Nat} {x : Str} {e e2 v : Expr} {es : List Expr} {p pos q p2 : Pos} {m m2 : M Vl} {mo : M OO} {ms : M (List RVl)}
theorem dq_dictV {vv : V} {d : PyData} (hN : X.N[i]? = some x) (hvs : Vis X.env.scope x) (hc : PE X v (tC vv)) (hz : ∀ H, Dz X.K H vv d) (hd : (x == ("__debug__" : Str)) = false := by decide) (hcd : (x == ("__classdict__" : Str)) = false := by decide) :
    DQ X T W (.Dict [some (.Name x p)] [v] pos) (mDictV i d) := by
  refine ⟨fun C hC => ⟨fun pins s σ H Q I h => (pe_disp (pps_cons (pe_var (pos := p) hN hvs hd hcd) hc pps_nil) rfl rfl (by simp) (by simp)).run pins s σ H Q I ?_⟩⟩
  obtain ⟨env, r, h⟩ := h
  unfold mDictV at h
  split at h
  case h_2 => exact h.elim
  rename_i y hy
  cases hk : keyD y with
  | none => rw [hk] at h; exact h.elim
  | some k =>
    rw [hk] at h
    obtain ⟨u, q1, q2⟩ := r.dat i y hy
    have hu := keyD_dz q2 hk
    intro p hp
    refine ⟨u, q1, ⟨upd_same, [(k, vv)], by rw [hu]; rfl, by simp, ?_⟩⟩
    have e0 : upd (upd H p (.dK [])) p (.dK (mergeK [] [(k, vv)])) = upd H p (.dK [(k, vv)]) := by
      rw [L2.upd_upd]
      rfl
    rw [e0]
    have sm : Same H (upd H p (.dK [(k, vv)])) := Same.new hp
    refine h (.ref p) _ (r.grow sm) ⟨p, _, rfl, upd_same, ⟨rfl, .cons (hz _) .nil⟩, r.dom p hp, r.domP hp, fun j b es q z => ?_⟩ (.same sm)
    obtain ⟨a, ys, q1, q2, _⟩ := r.own j b es q
    rw [q1] at z
    cases z
    rw [hp] at q2
    cases q2
theorem dav_q (he : DQ X T W e mo) (hs : DAV X T W es ms) (hst : starEach (e :: es) X.env = (false, eval e X.env) :: starEach es X.env := by rfl) : DAV X T W (e :: es) (vQ mo ms) := by
  refine ⟨fun C hC => ⟨fun pos pins s σ H Q I h => (pa_cons (he.pe C hC) (pa_any (T := T) hs.pa) hst).run pos pins s σ H Q I ?_⟩⟩
  obtain ⟨env, r, h⟩ := h
  refine ⟨env, r, Lf.bind h fun u H1 o env1 r1 hv l1 h1 => ?_⟩
  cases o with
  | l _ => exact h1.elim
  | t _ => exact h1.elim
  | f _ => exact h1.elim
  | k ds =>
    obtain ⟨p, ho, rfl, h2, h3, h4, h5, h6⟩ := hv
    obtain ⟨xs, rfl, h3a, h3b⟩ := h3.dk
    refine ⟨C.withP p (.k xs), hC, env1, r1.addP (xs := .k xs) h2 h6, ?_⟩
    dsimp only at h1
    unfold M.bind at h1
    cases e : ms env1 with
    | stuck => rw [e] at h1; exact h1.elim
    | err x env' =>
      rw [e] at h1
      exact fun cls od H' r' er l => h1 cls od H' (r'.unP h5) er l
    | ok vs env2 =>
      rw [e] at h1
      refine fun us H2 r2 hvs l2 => h1 (.ref p :: us) H2 (r2.unP h5) ⟨⟨p, .dK xs, rfl, r2.atP, ⟨h3a, DzAll.le l2 _ h3b⟩, h4, h5, fun i b es q => r2.offP q, fun j es q z => ?_⟩, hvs.unP⟩ l2
      obtain ⟨p', q1, q2⟩ := hvs.own j es q
      rw [z] at q1
      cases q1
      have q2 : (if p = p then some (PO.k xs) else C.P p) = none := q2
      rw [if_pos rfl] at q2
      cases q2
theorem do_lstRg2 (hc : X.calm = true) (hg : Gl X "list") (hm : X.mg "list" = none) (hg2 : Gl X "range") (hm2 : X.mg "range" = none) (he : DE X T W e m) (he2 : DE X T W e2 m2)
    (na : starEach [e, e2] X.env = (false, eval e X.env) :: starEach [e2] X.env := by rfl) (nb : starEach [e2] X.env = (false, eval e2 X.env) :: starEach [] X.env := by rfl) (hp : (backTo q (starEach [e2] X.env)).any (·.1) = false := by rfl)
    (na2 : starEach [.Call (.Name "range" p2) [e, e2] [] q] X.env = (false, eval (.Call (.Name "range" p2) [e, e2] [] q) X.env) :: starEach [] X.env := by rfl) : DO X T W (.Call (.Name "list" p) [.Call (.Name "range" p2) [e, e2] [] q] [] pos) (mLstRg2 m m2) := by
  refine ⟨fun C hC => ⟨fun pins s σ H Q I h => (pe_listRg hc hg hm (prg_2 hg2 hm2 (he.pe C hC) (he2.pe C hC) na nb hp) na2).run pins s σ H Q I ?_⟩⟩
  obtain ⟨env, r, h⟩ := h
  refine ⟨env, r, Lf.bind h fun u H1 v env1 r1 hv l1 h1 => ⟨env1, r1, Lf.bind h1 fun u2 H2 w env2 r2 hw l2 h2 => ?_⟩⟩
  match v, hv, w, hw, h2 with
  | .d (.int i), hv, .d (.int j), hw, h2 =>
    cases (show Dz X.K H1 u (.int i) from hv)
    cases (show Dz X.K H2 u2 (.int j) from hw)
    dsimp only at h2
    by_cases hj : 0 ≤ i ∧ j ≤ 16777216 ∧ i ≤ 16777216 ∧ 0 ≤ j
    · rw [if_pos hj] at h2
      refine ⟨i, j, rfl, rfl, RgOk.of_le hj.1 hj.2.1 hj.2.2.1 hj.2.2.2, fun p hp => ?_⟩
      have hz : DzAll X.K H2 (rgV i j) ((List.range (j - i).toNat).map fun k => .int (i + (k : Nat))) := by
        have := DzAll.of_ints (K := X.K) (H := H2) ((List.range (j - i).toNat).map fun k => i + ((k : Nat) : Int))
        rw [List.map_map, List.map_map] at this
        unfold rgV
        exact this
      exact h2 (.ref p) _ (r2.grow (Same.new hp)) (new_OR r2 hp hz) (.same (Same.new hp))
    · rw [if_neg hj] at h2
      exact h2.elim
end
/-! readings -/
section
variable {env : En} {E : Er → En → Prop} {i : Nat}
@[simp ↓] theorem W_mDictV {d : PyData} {Q : OO → En → Prop} : W (mDictV i d) env Q E ↔ (match env[i]? with
  | some (some (.d x)) => opt (keyD x) fun k => Q (.k [(k, d)]) env
  | _ => False) := by
  unfold W wp mDictV
  cases env[i]? with
  | none => exact Iff.rfl
  | some o => cases o with
    | none => exact Iff.rfl
    | some ev => cases ev with
      | d x =>
        dsimp only
        cases h : keyD x <;> simp [opt]
      | _ => exact Iff.rfl
@[simp ↓] theorem W_vQ {m : M OO} {ms : M (List RVl)} {Q : List RVl → En → Prop} : W (vQ m ms) env Q E ↔ W m env (fun o e => match o with
  | .k es => W ms e (fun vs e => Q (.o (.k es) :: vs) e) E
  | _ => False) E := by
  rw [W_eq]
  unfold vQ
  simp only [wp_bind]
  unfold W
  apply iff_of_eq; congr 1; funext o e
  cases o with
  | k es => simp only [wp_bind, wp_pure]
  | _ => rfl
@[simp ↓] theorem W_mLstRg2 {ma mb : M Vl} {Q : List PyData → En → Prop} : W (mLstRg2 ma mb) env Q E ↔ W ma env (fun v e => W mb e (fun w e => match v, w with
  | .d (.int i), .d (.int j) => (0 ≤ i ∧ j ≤ 16777216 ∧ i ≤ 16777216 ∧ 0 ≤ j) ∧ Q ((List.range (j - i).toNat).map fun k => .int (i + (k : Nat))) e
  | _, _ => False) E) E := by
  rw [W_eq]
  unfold mLstRg2
  simp only [wp_bind]
  unfold W
  apply iff_of_eq; congr 1; funext v e; congr 1; funext w e
  cases v with
  | d x => cases w with
    | d y => cases x with
      | int i => cases y with
        | int j =>
          show wp (if 0 ≤ i ∧ j ≤ 16777216 ∧ i ≤ 16777216 ∧ 0 ≤ j then M.pure ((List.range (j - i).toNat).map fun k => PyData.int (i + (k : Nat))) else M.stuck) e Q E = ((0 ≤ i ∧ j ≤ 16777216 ∧ i ≤ 16777216 ∧ 0 ≤ j) ∧ Q ((List.range (j - i).toNat).map fun k => .int (i + (k : Nat))) e)
          by_cases h : 0 ≤ i ∧ j ≤ 16777216 ∧ i ≤ 16777216 ∧ 0 ≤ j
          · rw [if_pos h]
            exact propext ⟨fun z => ⟨h, z⟩, fun z => z.2⟩
          · rw [if_neg h]
            exact propext ⟨fun z => z.elim, fun z => h z.1⟩
        | _ => rfl
      | _ => cases y <;> rfl
    | _ => cases x <;> rfl
  | _ => rfl
@[simp ↓] theorem W_sForD {g : PyData → M Unit} {b : M Fl} {Q : Fl → En → Prop} {bb : Bool} {es : List (Key × PyData)} (h : env[i]? = some (some (.own bb (.k es)))) : W (sForD i g b) env Q E ↔ W (forL g b (es.map fun p => keyPD p.1)) (env.set i (some (.own true (.f es)))) (fun fl e => match fl with
  | .ret (.o _) => False
  | fl => (match e[i]? with
    | some (some (.own true (.f es))) => Q fl (e.set i (some (.own bb (.k es))))
    | _ => False)) (fun _ _ => False) := by
  unfold W wp sForD
  rw [h]
  dsimp only
  cases forL g b (es.map fun p => keyPD p.1) (env.set i (some (.own true (.f es)))) with
  | stuck => exact Iff.rfl
  | err x e => exact Iff.rfl
  | ok fl e =>
    cases fl with
    | ret v => cases v with
      | d x =>
        unfold unlk
        dsimp only
        rcases e[i]? with _ | _ | ev
        · exact Iff.rfl
        · exact Iff.rfl
        · rcases ev with x | ⟨b, oo⟩ | v
          · exact Iff.rfl
          · cases b
            · exact Iff.rfl
            · cases oo <;> exact Iff.rfl
          · exact Iff.rfl
      | o v => exact Iff.rfl
    | next =>
      unfold unlk
      dsimp only
      rcases e[i]? with _ | _ | ev
      · exact Iff.rfl
      · exact Iff.rfl
      · rcases ev with x | ⟨b, oo⟩ | v
        · exact Iff.rfl
        · cases b
          · exact Iff.rfl
          · cases oo <;> exact Iff.rfl
        · exact Iff.rfl
    | brk =>
      unfold unlk
      dsimp only
      rcases e[i]? with _ | _ | ev
      · exact Iff.rfl
      · exact Iff.rfl
      · rcases ev with x | ⟨b, oo⟩ | v
        · exact Iff.rfl
        · cases b
          · exact Iff.rfl
          · cases oo <;> exact Iff.rfl
        · exact Iff.rfl
    | cont =>
      unfold unlk
      dsimp only
      rcases e[i]? with _ | _ | ev
      · exact Iff.rfl
      · exact Iff.rfl
      · rcases ev with x | ⟨b, oo⟩ | v
        · exact Iff.rfl
        · cases b
          · exact Iff.rfl
          · cases oo <;> exact Iff.rfl
        · exact Iff.rfl
end
end DL
end

/- EL40 -/
section
set_option maxHeartbeats 4000000
namespace DL
open PySem PySem.Spec PyProof.Rows L2

/-! ### tests: a key in an own dict -/
section
variable {X : Cx} {T : List (Addr × Str)} {W : WX} {i : Nat} {x : Str} {k : Expr} {pos pos' : Pos} {mk : M Vl} {C : Ct} {σ : L2.St} {H : Hp} {Q : VK}
theorem lift_din (h : lift X.K X.mg C W (mDIn i mk) σ H Q) : tDIn (lift X.K X.mg C W mk) (tVar i) σ H Q := by
  obtain ⟨env, r, h⟩ := h
  refine ⟨env, r, Lf.keyOf h fun H1 kk env1 r1 l1 h2 => ?_⟩
  obtain ⟨es, b, a, kvs, _, g1, g2, g3, g4, h⟩ := Lf.dictAt h2 r1
  have := kv_at (k := kk) g3 g4
  have e0 : (valV kvs kk).isSome = (oAt es kk).isSome := by
    cases e : oAt es kk with
    | none => rw [e] at this; rw [show valV kvs kk = none from this]; rfl
    | some d => rw [e] at this; obtain ⟨v, e1, _⟩ := this; rw [e1]; rfl
  refine ⟨.ref a, g1, a, valV kvs kk, rfl, .inl ⟨kvs, kk, .inl g2, rfl, rfl⟩, ?_⟩
  rw [e0]
  exact h _ H1 r1 (Dz.bl _) (.refl _)
theorem lift_dnotin (h : lift X.K X.mg C W (mDNotIn i mk) σ H Q) : tDNotIn (lift X.K X.mg C W mk) (tVar i) σ H Q := by
  obtain ⟨env, r, h⟩ := h
  refine ⟨env, r, Lf.keyOf h fun H1 kk env1 r1 l1 h2 => ?_⟩
  obtain ⟨es, b, a, kvs, _, g1, g2, g3, g4, h⟩ := Lf.dictAt h2 r1
  have := kv_at (k := kk) g3 g4
  have e0 : (valV kvs kk).isSome = (oAt es kk).isSome := by
    cases e : oAt es kk with
    | none => rw [e] at this; rw [show valV kvs kk = none from this]; rfl
    | some d => rw [e] at this; obtain ⟨v, e1, _⟩ := this; rw [e1]; rfl
  refine ⟨.ref a, g1, a, valV kvs kk, rfl, .inl ⟨kvs, kk, .inl g2, rfl, rfl⟩, ?_⟩
  rw [e0]
  exact h _ H1 r1 (Dz.bl _) (.refl _)
theorem dt_din (hu : X.A.units + 1 < cLine) (hN : X.N[i]? = some x) (hv : Vis X.env.scope x) (hk : DE X T W k mk)
    (hd : (x == ("__debug__" : Str)) = false := by decide) (hcd : (x == ("__classdict__" : Str)) = false := by decide) : DT X T W (.Compare k [.In] [.Name x pos'] pos) (mTB (mDIn i mk)) := by
  refine ⟨fun C hC => ⟨fun pins s σ H Q I h => (pt_cmp (pc_din hu (hk.pe C hC) (pe_var (pos := pos') hN hv hd hcd)) (by rfl)).run pins s σ H Q I ?_⟩⟩
  obtain ⟨env, r, h⟩ := h
  have h2 : lift X.K X.mg C W (mDIn i mk) σ H fun u H1 => ∃ k, u = .bl k ∧ Q k H1 := ⟨env, r, Lf.bind h fun u H1 v env1 r1 hv l1 h1 => Lf.boo h1 r1 hv⟩
  exact lift_din h2
theorem dt_dnotin (hu : X.A.units + 1 < cLine) (hN : X.N[i]? = some x) (hv : Vis X.env.scope x) (hk : DE X T W k mk)
    (hd : (x == ("__debug__" : Str)) = false := by decide) (hcd : (x == ("__classdict__" : Str)) = false := by decide) : DT X T W (.Compare k [.NotIn] [.Name x pos'] pos) (mTB (mDNotIn i mk)) := by
  refine ⟨fun C hC => ⟨fun pins s σ H Q I h => (pt_cmp (pc_dnotin hu (hk.pe C hC) (pe_var (pos := pos') hN hv hd hcd)) (by rfl)).run pins s σ H Q I ?_⟩⟩
  obtain ⟨env, r, h⟩ := h
  have h2 : lift X.K X.mg C W (mDNotIn i mk) σ H fun u H1 => ∃ k, u = .bl k ∧ Q k H1 := ⟨env, r, Lf.bind h fun u H1 v env1 r1 hv l1 h1 => Lf.boo h1 r1 hv⟩
  exact lift_dnotin h2
end
end DL
end

/- EL41 -/
section
set_option maxHeartbeats 4000000
namespace DL
open PySem PySem.Spec PyProof.Rows L2 PySem.Calls

/-! ### sorted(a tuple of ints) -/
section
variable {prog : Program} {w : World} {A : Around} {E : Value → Shared → Prop} {s : Shared}
theorem collect_tup {l : Addr} {vs : List Value} {Q : List Value → Shared → Prop} (hl : IsTup s.heap l vs.toArray)
    (h : Q vs { s with heap := (s.heap.push (seqObj "list" #[] 0)).update s.heap.objs.size (Obj.mapSeq (· ++ vs.toArray)) }) (hsz : vs.length ≤ sizeLine) :
    wpAny (model prog w) A (collect (.ref l)) Q E s := by
  obtain ⟨o, ho, hc, n, hd⟩ := id hl
  unfold collect
  refine wpAny_bind (wpAny_runValue (codeAny_builtin entry_proto_collect' ?_))
  show wpAny _ _ (do again (.builtin "list.__iadd__" ⟨[← newList [], .ref l], []⟩)) _ _ s
  refine wpAny_bind (wpAny_newList (wpAny_pure ⟨Code.quiet_builtin _ (by decide +kernel), codeAny_builtin entry_list_iadd' ?_⟩))
  show wpAny _ _ (Builtin.List.listExtendWith (.ref s.heap.objs.size) (.ref l) (.ref s.heap.objs.size)) _ _ { s with heap := s.heap.push (seqObj "list" #[] 0) }
  unfold Builtin.List.listExtendWith
  have ho' : (s.heap.push (seqObj "list" #[] 0)).get? l = some o := Heap.get?_push_of_some _ ho
  refine wpAny_bind (wpAny_typeOf (T := "tuple") ⟨o, ho', hc⟩ ?_)
  have ht : (Value.type "tuple" == Value.type "tuple") = true := by rfl
  rw [if_pos (by rw [ht]; simp)]
  refine wpAny_bind (listItems_at ho' hd ?_)
  refine wpAny_bind (listItems_at (xs := #[]) (n := 0) (Heap.get?_push_size _ rfl) rfl ?_)
  rw [if_neg (by simp)]
  refine wpAny_bind (listUpdate_at (xs := #[]) (n := 0) (Heap.get?_push_size _ rfl) rfl ?_ (Nat.zero_le _) (by show (#[] ++ vs.toArray).size ≤ sizeLine + 1; simp only [Array.size_append, List.size_toArray, List.length_nil]; omega))
  refine wpAny_pure ?_
  show wpAny (model prog w) A (do
      let o ← load s.heap.objs.size
      match o.data with
      | .seq xs _ => pure xs.toList
      | _ => unsupported "internal:collect") Q E { s with heap := (s.heap.push (seqObj "list" #[] 0)).update s.heap.objs.size (Obj.mapSeq (· ++ vs.toArray)) }
  refine wpAny_bind (wpAny_load (get?_update_seq (Heap.get?_push_size _ rfl) _) ?_)
  show wpAny _ _ (pure ((#[] : Array Value) ++ vs.toArray).toList) Q E _
  rw [show ((#[] : Array Value) ++ vs.toArray).toList = vs by simp]
  exact wpAny_pure h
end
end DL
namespace SrtO
open PySem PySem.Spec PyProof.Rows L2 Srt
section
variable {prog : Program} {w : World} {A : Around} {E : Value → Shared → Prop} {s : Shared}
theorem sorted_ordTup {l : Addr} {vs : List Value} {ltv : Value → Value → Bool} {Q : Value → Shared → Prop} (O : Swo ltv) (hl : IsTup s.heap l vs.toArray) (hz : vs.length ≤ sizeLine)
    (hS : 2 ≤ vs.length → ∀ (h₁ : Heap) (a : Addr), h₁.get? a = some (seqObj "list" vs.toArray 0) → (∀ b o, s.heap.get? b = some o → b ≠ a ∧ h₁.get? b = some o) → SortableO prog w A.in1.in1 { s with heap := h₁ } a vs ltv)
    (h : ∀ out : List Value, Srtd ltv out → Stb ltv out vs → Q (.ref (s.heap.objs.size + 1)) { s with heap := sortedAll s.heap vs out.toArray }) :
    wpAny (model prog w) A (call (.builtin "sorted") [.ref l]) Q E s := by
  refine Calls.call_function_entry kind_sorted plain_sorted entry_sorted (args_sorted1 _) ?_
  unfold Builtin.«sorted»
  refine wpAny_bind (m := checkCount "sorted" 1 1 _) (wpAny_pure ?_)
  refine wpAny_bind (DL.collect_tup hl ?_ hz)
  refine wpAny_bind (wpAny_newList ?_ hz)
  have hsz : ((s.heap.push (seqObj "list" #[] 0)).update s.heap.objs.size (Obj.mapSeq (· ++ vs.toArray))).objs.size = s.heap.objs.size + 1 := by
    rw [Heap.size_update, size_push']
  have hoL : (((s.heap.push (seqObj "list" #[] 0)).update s.heap.objs.size (Obj.mapSeq (· ++ vs.toArray))).push (seqObj "list" vs.toArray 0)).get? (s.heap.objs.size + 1) = some (seqObj "list" vs.toArray 0) := by
    rw [← hsz]; exact Heap.get?_push_size _ rfl
  have keep : ∀ b o, s.heap.get? b = some o → b ≠ s.heap.objs.size + 1 ∧ (((s.heap.push (seqObj "list" #[] 0)).update s.heap.objs.size (Obj.mapSeq (· ++ vs.toArray))).push (seqObj "list" vs.toArray 0)).get? b = some o := fun b o q => by
    have hlt : b < s.heap.objs.size := Heap.lt_size q
    refine ⟨Nat.ne_of_lt (Nat.lt_succ_of_lt hlt), Heap.get?_push_of_some _ ?_⟩
    rw [Heap.get?_update_ne _ _ _ _ (Nat.ne_of_lt hlt)]
    exact Heap.get?_push_of_some _ q
  show wpAny _ _ _ _ _ { s with heap := ((s.heap.push (seqObj "list" #[] 0)).update s.heap.objs.size (Obj.mapSeq (· ++ vs.toArray))).push (seqObj "list" vs.toArray 0) }
  rw [hsz]
  refine wpAny_bind (wpAny_holding (wpAny_call_entry slot_list_sort ⟨_, hoL, rfl⟩ entry_list_sort (list_sort_ord O hoL hz (fun h2 => hS h2 _ _ hoL keep) fun out hs hb => ⟨_, rfl, ?_⟩) (args_list_sort _)))
  exact wpAny_pure ⟨_, rfl, h out hs hb⟩
end
end SrtO
namespace DL
open PySem PySem.Spec PyProof.Rows L2
def gSortT (ds : List PyData) : Option (List PyData) := match ds with
  | [.tuple xs] => (toInts xs).map fun ns => (sortI ns).map .int
  | ds => gSortB ds
section
variable {X : Cx}
theorem c_sortT (hu : X.A.units + 65 < cLine) : CallDL X (.builtin "sorted") gSortT := by
  intro pins s σ H xs us ds d I r hz e Q q
  unfold gSortT at e
  split at e
  · rename_i es
    cases q2 : toInts es with
    | none => rw [q2] at e; cases e
    | some ns =>
      rw [q2] at e
      cases e
      obtain ⟨x, rfl, h⟩ := hz.one
      obtain ⟨a, ys, rfl, h1, h2⟩ := h.tuple
      rw [toInts_eq q2] at h2
      rw [DzAll.ints h2] at h1
      obtain ⟨its, rv, hl, hz'⟩ := I.tuple h1.sq
      rw [Vals.ref1 r]
      have hi := rv.ints
      refine SrtO.sorted_ordTup SrtO.swo_int hl (by rw [← rv.length]; exact hz') (fun h2 h₁ a' _ _ => SrtO.ints_sortable hi h2) fun out h1 h2 => ?_
      obtain ⟨k1, k2, k3⟩ := SrtO.ints_out hi h1 h2
      obtain ⟨ep, he'⟩ := PyProof.Rows.sortedAll_at s.heap its out.toArray
      have hlen : ((out.map SrtO.iv).map V.int).length ≤ sizeLine := by
        rw [List.length_map, k2.length_eq]
        rw [List.length_map] at hz'
        exact hz'
      refine ⟨.ref _, upd H (s.heap.objs.size + 1) (.lst ((out.map SrtO.iv).map V.int)), I.laid (t' := s.toks) (fun _ _ => PyProof.Rows.sortedAll_old) (Nat.le_succ _) ⟨hlen, out, ep, vals_of_ints k1, he'⟩, rfl, ?_⟩
      rw [sorted_one (k2.trans (sortI_perm ns).symm) k3 (sortI_le ns)]
      exact q _ _ (I.hok.fresh (Nat.le_succ _)) (DzAll.of_ints _)
  · exact c_sortB hu pins s σ H xs us ds d I r hz e Q q
end
@[simp] theorem gSortT_tup {ns : List Int} : gSortT [.tuple (ns.map .int)] = some ((sortI ns).map .int) := by
  unfold gSortT
  dsimp only
  rw [toInts_map]
  rfl
@[simp] theorem gSortT_lst {xs : List PyData} : gSortT [.list xs] = gSortB [.list xs] := rfl
end DL
end

/- EL42 -/
section
set_option maxHeartbeats 4000000
namespace DL
open PySem PySem.Spec PyProof.Rows L2

/-! ### a tuple once -/
theorem tuple_mul1W (l : Addr) (items : Array Value) (n : Nat) (dd : Option Addr) (sl : Array (Option Value)) (u : Tok) :
    Meets (Builtin.«tuple.__mul__» ⟨[.ref l, .int 1 u], []⟩) (fun _ R s => s.heap.get? l = some { cls := .type "tuple", dict := dd, data := .seq items n, slots := sl } ∧
      R (.ok (.ret (Value.ref l))) s) :=
  .of_wp fun prog w A R s h => by
    obtain ⟨hp, g, d, tk, os⟩ := s
    obtain ⟨hl, h⟩ := h
    have f1 := AutoSeq1.idx_int
    have c1 : (items.isEmpty || (1 : Int) == 1) = true := by simp
    wp_walk using wpAny_loadPart' hl
    all_goals exact ⟨_, rfl, h⟩
def gMulOne : PyData → PyData → Option PyData
  | .tuple xs, .int 1 => some (.tuple xs)
  | _, _ => none
section
variable {X : Cx}
theorem o_mulOne : Op2 X (binaryOp .Mult) gMulOne := by
  intro pins s σ H x y v u dx dy dz I rx ry hx hy e Q q
  unfold gMulOne at e
  split at e
  · rename_i ds
    cases e
    obtain ⟨l, xs, rfl, h1, h2⟩ := hx.tuple
    cases hy.int
    cases rx
    obtain ⟨t, rfl⟩ := ry
    obtain ⟨its, r, ⟨⟨cls, dd, data, sl⟩, ho, hc, n, hd⟩, hs⟩ := I.tuple h1.sq
    simp only at hc hd
    subst hc hd
    refine wpAny_binaryOp_repeat_ref (T := "tuple") (U := "int") (by decide) ⟨_, ho, rfl⟩ (fun s' => typeIs_int s' 1 t) noFill_tuple_mul F.fills_int_mul F.slot_int_rmul repeat_tuple F.slot_int_index.lookup
      (call_meets F.slot_int_rmul (typeIs_int s 1 t) F.entry_int_rmul (F.args_int_rmul_2 _ _) (int_rmul_tuple 1 t l its.toArray n dd sl)
        ⟨ho, rfl, ⟨_, ho, rfl⟩, call_meets F.slot_tuple_mul ⟨_, ho, rfl⟩ F.entry_tuple_mul (F.args_tuple_mul_2 _ _) (tuple_mul1W l its.toArray n dd sl t) ⟨ho, ?_⟩⟩)
    exact ⟨.ref l, H, I, rfl, q _ H (.refl H) (.tup h1 h2)⟩
  · cases e
theorem o_mulB : Op2 X (binaryOp .Mult) (gOrB gMul gMulOne) := o_orB o_mul o_mulOne
end
abbrev gMulB := gOr (gOrB gMul gMulOne) gRep
@[simp] theorem gMulB_one {xs : List PyData} : gMulB (.tuple xs) (.int 1) = some (.tuple xs) := by
  unfold gMulB gOr gOrB gMul
  simp [gMulOne]
theorem gMulB_tup {x : PyData} {xs : List PyData} {k : Nat} (h2 : 1 ≤ k) (h3 : k ≤ 1000) (h4 : xs.length < 1000) : gMulB (.tuple (x :: xs)) (.int k) = some (.tuple (List.replicate k (x :: xs)).flatten) := by
  by_cases h : k = 1
  · subst h
    rw [show ((1 : Nat) : Int) = 1 from rfl, gMulB_one]
    simp
  · have e : gMul (.tuple (x :: xs)) (.int k) = some (.tuple (List.replicate k (x :: xs)).flatten) := by
      show (if (!(x :: xs).isEmpty && decide (2 ≤ (k : Int)) && decide ((k : Int) ≤ 1000) && decide ((x :: xs).length ≤ 1000)) = true then some (PyData.tuple (List.replicate (k : Int).toNat (x :: xs)).flatten) else none) = _
      rw [if_pos]
      · rfl
      · simp
        omega
    unfold gMulB gOr gOrB
    rw [e]
theorem gMulB_fill {x : PyData} {k : Nat} (h2 : 1 ≤ k) (h3 : k ≤ 1000) : gMulB (.tuple [x]) (.int k) = some (.tuple (List.replicate k x)) := by
  rw [gMulB_tup h2 h3 (by simp)]
  congr 2
  induction k with
  | zero => rfl
  | succ k ih => 
    clear ih
    rw [List.flatten_replicate_singleton]
end DL
end

/- EL43 -/
section
set_option maxHeartbeats 4000000
namespace DL
open PySem PySem.Spec PyProof.Rows L2

/-! ### sum(a tuple of ints) -/
section
variable {prog : Program} {w : World} {A : Around} {E : Value → Shared → Prop} {s : Shared} {l : Addr} {its : List Value} {ns : List Int} {Q : Value → Shared → Prop}
theorem sum_rawT (hh : A.handled = none) (hl : s.heap.IsTuple l its.toArray) (hi : IntsAre its ns)
    (h : ∀ h' tk t', (∀ b o, s.heap.get? b = some o → h'.get? b = some o) → Q (.int ns.sum t') { s with heap := h', toks := tk }) : wpAny (model prog w) A (call (.builtin "sum") [.ref l]) Q E s := by
  obtain ⟨xs, e⟩ := hi.allInts.items
  have hn : numsOf (intItems xs).toList = ns := by rw [← e]; exact hi.numsOf
  rw [nums_intItems] at hn
  rw [e] at hl
  refine PySem.W.ktm_sumG hh hl fun h' tk t' hk => ?_
  have := h h' tk t' hk
  rw [preSum_eq, List.take_of_length_le (by simp), hn]; exact this
end
def gSumT : List PyData → Option PyData
  | [.list xs] => (toInts xs).map fun ns => .int ns.sum
  | [.tuple xs] => (toInts xs).map fun ns => .int ns.sum
  | _ => none
theorem c_sumT {X : Cx} (hc : X.calm = true) : CallD X (.builtin "sum") gSumT := by
  intro pins s σ H xs us ds d I r hz e Q q
  unfold gSumT at e
  split at e
  · exact c_sum hc pins s σ H xs us _ d I r hz e Q q
  · rename_i es
    cases q2 : toInts es with
    | none => rw [q2] at e; cases e
    | some ns =>
      rw [q2] at e
      cases e
      obtain ⟨x, rfl, h⟩ := hz.one
      obtain ⟨a, ys, rfl, h1, h2⟩ := h.tuple
      rw [toInts_eq q2] at h2
      rw [DzAll.ints h2] at h1
      obtain ⟨its, rv, hl, hz'⟩ := I.tuple h1.sq
      rw [Vals.ref1 r]
      exact sum_rawT (I.ok.hd hc) (show s.heap.IsTuple a its.toArray from hl) rv.ints fun h' tk t' hk => ⟨.int _, H, I.kept hk, ⟨_, rfl⟩, q _ H (.refl H) (.int _)⟩
  · cases e
theorem gSumT_ints {ns : List Int} : gSumT [.list (ns.map .int)] = some (.int ns.sum) := by
  show (toInts (ns.map .int)).map _ = _
  rw [toInts_map]
  rfl
theorem gSumT_tup {ns : List Int} : gSumT [.tuple (ns.map .int)] = some (.int ns.sum) := by
  show (toInts (ns.map .int)).map _ = _
  rw [toInts_map]
  rfl
end DL
end

/- EL44 -/
section
set_option maxHeartbeats 4000000
namespace DL
open PySem PySem.Spec PyProof.Rows L2 PySem.Calls

/-! ### sorted by keys, the keys told by any reading -/
section
variable {X : Cx} {pins : List (Addr × Obj)} {σ : L2.St} {H : Hp} {s : Shared}
/-- an address of ours that nothing else speaks of -/
structure Ours (X : Cx) (pins : List (Addr × Obj)) (p : Addr) : Prop where
  ge : X.s_0.heap.objs.size ≤ p
  nL : p ≠ X.env.locals
  nf : p ∉ X.fs
  nc : ∀ x c, X.env.cells.lookup x = some c → c ≠ p
  np : ∀ q ∈ X.pn ++ pins, q.1 ≠ p
theorem Ours.fresh (I : Inv X pins σ H s) {p : Addr} (h : s.heap.objs.size ≤ p) : Ours X pins p where
  ge := Nat.le_trans I.sz h
  nL := fun e => absurd (Nat.lt_of_lt_of_le I.lt (e ▸ h)) (Nat.lt_irrefl _)
  nf := I.nofs h
  nc := fun x c e z => by
    obtain ⟨v, o, ho, _⟩ := I.cell x c e
    exact absurd (Nat.lt_of_lt_of_le (Heap.lt_size ho) (z ▸ h)) (Nat.lt_irrefl _)
  np := fun q hq z => by
    exact absurd (Nat.lt_of_lt_of_le (Heap.lt_size (I.pin q hq).1) (z ▸ h)) (Nat.lt_irrefl _)
theorem Ours.cons {p : Addr} {q : Addr × Obj} (u : Ours X pins p) (h : q.1 ≠ p) : Ours X (q :: pins) p :=
  ⟨u.ge, u.nL, u.nf, u.nc, fun r hr => by
    rcases List.mem_append.mp hr with hr | hr
    · exact u.np r (List.mem_append_left _ hr)
    · rcases List.mem_cons.mp hr with rfl | hr
      · exact h
      · exact u.np r (List.mem_append_right _ hr)⟩
theorem pin_add (I : Inv X pins σ H s) {p : Addr} {o : Obj} (u : Ours X pins p) (h : s.heap.get? p = some o) (n : H p = none) (d : ∀ v, o.data ≠ .cell v) : Inv X ((p, o) :: pins) σ H s :=
  I.pins_of fun q hq => by
    rcases List.mem_cons.mp hq with rfl | hq
    · exact ⟨h, n, u.nL, u.nf, d⟩
    · exact I.pin q (List.mem_append_right _ hq)
theorem pin_drop {q : Addr × Obj} (I : Inv X (q :: pins) σ H s) : Inv X pins σ H s :=
  I.pins_of fun r hr => I.pin r (List.mem_append_right _ (List.mem_cons_of_mem _ hr))
theorem own_turn {h' : Heap} {t' : Nat} {p : Addr} (I : Inv X pins σ H s) (u : Ours X pins p) (n : H p = none) (k : ∀ b o, b ≠ p → s.heap.get? b = some o → h'.get? b = some o) : Inv X pins σ H { s with heap := h', toks := t' } :=
  I.turned k n u.nL (.inr u.ge) u.nc u.np
theorem keptL {h' : Heap} {t' : Nat} {ch : List Addr} (I : Inv X pins σ H s) (hc : ∀ b ∈ ch, Ours X pins b ∧ H b = none) (k : ∀ b o, b ≠ X.env.locals → b ∉ ch → s.heap.get? b = some o → h'.get? b = some o) (ns : ∀ m, s.heap.Ns X.env.locals m → h'.Ns X.env.locals m) : Inv X pins σ H { s with heap := h', toks := t' } := by
  refine I.step (g' := s.gens) (d' := s.drawn) (ch := ch) (fun b hb => ?_) (fun b o hL _ hn e _ => k b o hL hn e) (fun b o hL _ hn e _ => ⟨o.slots, k b o hL hn e⟩) (fun _ _ _ _ n => n)
    (fun b o hn e => ?_) (fun _ _ e => e) (fun _ _ _ e => e) (fun b ps e => ⟨#[], by rw [e]; simp⟩) ns (fun b u e => ?_) I.bare
  · obtain ⟨u, _⟩ := hc b hb
    exact ⟨.inr u.ge, u.nL, u.nc, u.np⟩
  · by_cases hb : b = X.env.locals
    · subst hb
      obtain ⟨m, hm, _⟩ := I.loc
      obtain ⟨o', _, _, ho', _⟩ := ns m hm
      exact ⟨o', ho'⟩
    · exact ⟨o, k b o hb hn e⟩
  · refine (I.hok b u e).stay (fun c v hcc q => k c v ?_ (fun hm => ?_) q) (fun _ q => q) fun _ _ q => q
    · rintro rfl
      rcases hcc with z | z
      · rw [← z, I.free] at e; cases e
      · exact absurd z (by rw [I.free]; exact fun z => by cases z)
    · have n := (hc c hm).2
      rcases hcc with z | z
      · rw [← z, n] at e; cases e
      · exact absurd z (by rw [n]; exact fun z => by cases z)
/-- all other objects -/
def others (h B : Heap) (L : Addr) (ch : List Addr) : List (Addr × Obj) := (List.range h.objs.size).filterMap fun b => if (b : Addr) = L ∨ b ∈ ch ∨ (B.get? b).isSome = true then none else (h.get? b).map fun o => (b, o)
theorem mem_others {h B : Heap} {L b : Addr} {o : Obj} {ch : List Addr} : (b, o) ∈ others h B L ch ↔ h.get? b = some o ∧ b ≠ L ∧ b ∉ ch ∧ B.get? b = none := by
  unfold others
  rw [List.mem_filterMap]
  constructor
  · rintro ⟨c, hc, e⟩
    split at e
    · cases e
    · rename_i hn
      rw [not_or, not_or] at hn
      cases q : h.get? c with
      | none => rw [q] at e; cases e
      | some o' =>
        rw [q] at e
        cases e
        exact ⟨q, hn.1, hn.2.1, by simpa using hn.2.2⟩
  · rintro ⟨h1, h2, h3, h4⟩
    refine ⟨b, List.mem_range.mpr (Heap.lt_size h1), ?_⟩
    rw [if_neg (by rw [h4]; simp [h2, h3]), h1]
    rfl
theorem others_kept {h h' B : Heap} {L : Addr} {m : Str → Option Value} {ch : List Addr} (F : Fr B L h m) (F' : Fr B L h' m) (N : ∀ p ∈ others h B L ch, h'.get? p.1 = some p.2) : ∀ b o, b ≠ L → b ∉ ch → h.get? b = some o → h'.get? b = some o := fun b o h1 h2 e => by
  cases q : B.get? b with
  | some o' =>
    have := F.keep b o' q
    rw [e] at this
    cases this
    exact F'.keep b o q
  | none => exact N (b, o) (mem_others.mpr ⟨e, h1, h2, q⟩)
theorem ns_one {h h' : Heap} {L : Addr} {m : Str → Option Value} (hm : h.Ns L m) (hm' : h'.Ns L m) : ∀ m', h.Ns L m' → h'.Ns L m' := fun m' q => by
  obtain ⟨o, es, ep, h1, h2, h3, h4⟩ := hm
  obtain ⟨o', es', ep', g1, g2, g3, g4⟩ := q
  rw [h1] at g1
  cases g1
  rw [h2] at g2
  cases g2
  have : m' = m := funext fun x => by rw [← h4, ← g4]
  rw [this]
  exact hm'
/-- what a call of the key tells -/
def KeyTurn (X : Cx) (pins : List (Addr × Obj)) (σ : L2.St) (J : Hp → Prop) (A : Around) (f v : Value) (d : PyData) : Prop :=
  ∀ (more : List (Addr × Obj)) (H1 : Hp) (s1 : Shared), Inv X (more ++ pins) σ H1 s1 → J H1 → wpAny (model X.prog X.w) A (call f [v]) (fun u s2 => ∃ H2 y, Inv X (more ++ pins) σ H2 s2 ∧ J H2 ∧ Le H1 H2 ∧ RelV y u ∧ Dz X.K H2 y d) (fun _ _ => False) s1
theorem list_nocell {xs : Array Value} {n : Nat} : ∀ v, (seqObj "list" xs n).data ≠ .cell v := fun v z => by cases z
theorem key_loop {J : Hp → Prop} (J0 : J H) {A : Around} {E : Value → Shared → Prop} {P : PySem.Fin → Shared → Prop} {kS a : Addr} {e1 : Nat} {vs : List Value} {ks : List PyData} {f : Value} (I : Inv X pins σ H s) (hk : s.heap.get? kS = some (seqObj "list" #[] 0)) (ha : s.heap.get? a = some (seqObj "list" #[] e1))
    (uk : Ours X pins kS) (ua : Ours X pins a) (nk : H kS = none) (na : H a = none) (hne : kS ≠ a) (hlen : ks.length = vs.length) (hZ : vs.length ≤ sizeLine) (hal : PySem.W.AllAlike ks) (hsk : PySem.W.Sortable ks) (hu : ∀ d, d ∈ ks → A.units + d.depth < cLine)
    (turn : ∀ (i : Nat) v d, vs[i]? = some v → ks[i]? = some d → KeyTurn X pins σ J A f v d)
    (h : ∀ H' s' out c, Inv X pins σ H' s' → J H' → H' a = none → s'.heap.get? a = some (seqObj "list" (List.toArray out) c) → PySem.W.KeyedOut false ks vs out → P (.done (.ret .none)) s') :
    wpAny (model X.prog X.w) A (ksk_rest a f false vs.toArray e1 (.ref kS)) P E s := by
  have I1 := pin_add (pin_add I ua ha na list_nocell) (uk.cons (fun z => hne z.symm)) hk nk list_nocell
  unfold ksk_rest
  refine wpAny_bind (wpAny_rule ?_)
  rw [List.forIn_toArray]
  refine wpAny_bind (ksk_fold (fun i s' => ∃ H' kA e, Inv X ((kS, seqObj "list" kA e) :: (a, seqObj "list" #[] e1) :: pins) σ H' s' ∧ J H' ∧ PySem.W.EachIs (fun u d => ∃ y, RelV y u ∧ Dz X.K H' y d) kA.toList (ks.take i)) vs 0 s ⟨H, #[], 0, I1, J0, by rw [List.take_zero]; exact .nil⟩ ?step ?done)
  case step =>
    rintro j x s' hx ⟨H', kA, e, I', le, hks⟩
    rw [Nat.zero_add] at hks ⊢
    have hj := (List.getElem?_eq_some_iff.mp hx).1
    have hkj : ks[j]? = some (ks[j]'(by omega)) := List.getElem?_eq_getElem (by omega)
    have hkl := hks.length
    rw [Array.length_toList, List.length_take] at hkl
    refine wpAny_bind (wpAny_attempt (wpAny_mono (turn j x _ hx hkj [(kS, seqObj "list" kA e), (a, seqObj "list" #[] e1)] H' s' I' le) (fun u s2 q => ?_) fun _ _ z => z.elim))
    obtain ⟨H2, y, I2, j2, le2, ry, dy⟩ := q
    have I2 : Inv X ((kS, seqObj "list" kA e) :: (a, seqObj "list" #[] e1) :: pins) σ H2 s2 := I2
    obtain ⟨gk, nk2, _⟩ := I2.pin (kS, seqObj "list" kA e) (by simp)
    have ga := (I2.pin (a, seqObj "list" #[] e1) (by simp)).1
    obtain ⟨c2, hc2⟩ : ∃ c2, (s2.heap.update kS (Obj.mapSeq (·.push u))).get? kS = some (seqObj "list" (kA.push u) c2) := ⟨_, get?_update_seq gk (·.push u)⟩
    have sb := Heap.SameBut.update s2.heap kS (Obj.mapSeq (·.push u))
    dsimp only
    refine wpAny_bind (listUpdate_at gk rfl ?_ (by omega) (by rw [Array.size_push]; omega))
    refine wpAny_pure ⟨rfl, H2, kA.push u, c2, ?_, j2, ?_⟩
    · have I3 := own_turn (h' := s2.heap.update kS (Obj.mapSeq (·.push u))) (t' := s2.toks) (pin_drop I2) (uk.cons (fun z => hne z.symm)) nk2 fun b o hb q => (sb.2 b hb).trans q
      exact pin_add I3 (uk.cons (fun z => hne z.symm)) hc2 nk2 list_nocell
    · rw [List.take_add_one, hkj, Array.toList_push]
      exact PySem.W.each_snoc ⟨y, ry, dy⟩ (hks.mono fun u d ⟨y, h1, h2⟩ => ⟨y, h1, Dz.le le2 _ h2⟩)
  case done =>
    rintro s' ⟨H', kA, e, I', le, hks⟩
    rw [List.take_of_length_le (by omega)] at hks
    have hkl := hks.length
    rw [Array.length_toList] at hkl
    obtain ⟨gk, nk2, _⟩ := I'.pin (kS, seqObj "list" kA e) (by simp)
    obtain ⟨ga, na2, _⟩ := I'.pin (a, seqObj "list" #[] e1) (by simp)
    have I2 := pin_drop (pin_drop I')
    obtain ⟨m, F⟩ := I2.fr
    have hrd : PySem.W.EachIs (fun u d => ∃ as, Reads s'.heap u d as) kA.toList ks := hks.mono fun u d ⟨y, h1, h2⟩ => Dp.reads I2 d y u h2.dp h1
    have hB : ∀ b : Addr, X.s_0.heap.objs.size ≤ b → X.base.get? b = none := fun b hb => Heap.get?_none_of_le (Nat.le_trans I.ok.bsz hb)
    refine wpAny_bind (listItems_at gk rfl ?_)
    refine PySem.W.key_end (e := e) (κ := PySem.W.dataKind s'.heap ks) (news := others s'.heap X.base X.env.locals [kS, a]) F (fun p hp => ?_) hne (fun p hp => ?_) (fun p hp => ?_) (PySem.W.SortsAt.data (s := s') hrd hal hsk hu) (by omega) hZ fun h' tk c F' N' => ?_
    · rcases List.mem_append.mp hp with hp | hp
      · obtain ⟨h1, h2, _, h4⟩ := mem_others.mp hp
        exact ⟨h1, h2, h4⟩
      · rcases List.mem_cons.mp hp with rfl | hp
        · exact ⟨gk, uk.nL, hB _ uk.ge⟩
        · rw [List.mem_singleton.mp hp]
          exact ⟨ga, ua.nL, hB _ ua.ge⟩
    · have := (mem_others.mp hp).2.2.1
      exact fun z => this (by rw [z]; simp)
    · have := (mem_others.mp hp).2.2.1
      exact fun z => this (by rw [z]; simp)
    · have k := others_kept (ch := [kS, a]) F F' fun p hp => (N' p (List.mem_cons_of_mem _ hp)).1
      refine h H' _ _ c (keptL (ch := [kS, a]) I2 (fun b hb => ?_) k (ns_one F.ns F'.ns)) le na2 (N' _ List.mem_cons_self).1 ⟨s'.heap, kA.toList, hal, rfl, hrd⟩
      simp at hb
      rcases hb with rfl | rfl
      · exact ⟨uk, nk2⟩
      · exact ⟨ua, na2⟩
end
end DL
end

/- EL45 -/
section
set_option maxHeartbeats 4000000
namespace DL
open PySem PySem.Spec PyProof.Rows L2 PySem.Calls

/-! ### a lambda of one parameter, called by what is built in -/
/-- its names: the parameter a, captured ones, globals -/
structure LamP (sc scope : Scope) (a : Str) : Prop where
  kind : scope.kind = .function
  co : scope.isCoroutine = false
  gen : scope.isGenerator = false
  loc : ∀ y ∈ scope.names, y.2 = .local → y.1 = a
  nc : ∀ y ∈ scope.names, y.2 ≠ .cell
  prm : scope.names.lookup a = some .local
  free : ∀ y ∈ scope.names, y.2 = .free → sc.names.lookup y.1 = some .cell ∨ sc.names.lookup y.1 = some .free
def lamPB (sc scope : Scope) (a : Str) : Bool :=
  (decide (scope.kind = .function) && !scope.isCoroutine && !scope.isGenerator) && (decide (scope.names.lookup a = some .local) &&
    scope.names.all fun y => (!decide (y.2 = .local) || decide (y.1 = a)) && (!decide (y.2 = .cell) && (!decide (y.2 = .free) || (decide (sc.names.lookup y.1 = some .cell) || decide (sc.names.lookup y.1 = some .free)))))
theorem lamP_by {sc scope : Scope} {a : Str} (h : lamPB sc scope a = true) : LamP sc scope a := by
  unfold lamPB at h
  simp only [Bool.and_eq_true, Bool.or_eq_true, Bool.not_eq_true', decide_eq_true_eq, decide_eq_false_iff_not, List.all_eq_true] at h
  obtain ⟨⟨⟨h1, h2⟩, h3⟩, h4, h5⟩ := h
  exact {
    kind := h1, co := h2, gen := h3, prm := h4
    loc := fun y hy e => (h5 y hy).1.resolve_left fun z => z e
    nc := fun y hy => (h5 y hy).2.1
    free := fun y hy e => (h5 y hy).2.2.resolve_left fun z => z e }
section
variable {X : Cx} {pins : List (Addr × Obj)} {σ : L2.St} {H : Hp} {s : Shared}
theorem LamP.has {scope : Scope} {a : Str} (L : LamP X.env.scope scope a) (ok : X.Ok) : ∀ y ∈ scope.names, y.2 = .free → ∃ c, X.env.cells.lookup y.1 = some c :=
  fun y hy e => (L.free y hy e).elim (fun k => ok.has _ (.inl k)) fun k => ok.has _ (.inr k)
theorem lamP_start {A : Around} {E : XK} {scope : Scope} {f c' : Addr} {h₁ : Heap} {tk : Nat} {a : Str} {i : Nat} {v : V} {u : Value} (I : Inv X pins σ H s) (L : LamP X.env.scope scope a) (hA : A.frames = some X.stack) (hd : A.handled = none)
    (hns : h₁.Ns s.heap.objs.size fun y => [(a, u)].reverse.lookup y) (kp : ∀ b o, s.heap.get? b = some o → h₁.get? b = some o) (rv : RelV v u) (hi : X.N[i]? = some a) (hnd : X.N.Nodup) :
    Inv (LamX.lamCx X A X.stack s H E scope f c') [] ((wipe σ [i]).set i (some v)) H { s with heap := h₁, toks := tk } := by
  have e0 := I.env0
  have cm : ∀ y c, (cloFrom X.env.cells scope.names []).lookup y = some c → X.env.cells.lookup y = some c := by
    intro y c e
    rcases cloFrom_mem (PySem.mem_of_lookup e) with hm | ⟨h1, h2⟩
    · exact absurd hm (by simp)
    · obtain ⟨c1, h3⟩ := L.has I.ok _ h1 rfl
      have h3 : X.env.cells.lookup y = some c1 := h3
      have e3 : c = c1 := by rw [h2, h3] <;> rfl
      exact e3 ▸ h3
  have lk : ∀ y, scope.names.lookup y = some .free → ∃ c, (cloFrom X.env.cells scope.names []).lookup y = some c :=
    fun y hl => mem_lookup (cloFrom_has (cells := X.env.cells) (acc := []) (PySem.mem_of_lookup hl))
  have ck : ∀ c w, s.heap.IsCell c w → h₁.IsCell c w := fun c w ⟨o, ho, q⟩ => ⟨o, kp c o ho, q⟩
  have no : ∀ b : Addr, b ∉ ([] : List Addr) := fun b => by simp
  exact {
    ok := {
      mod := e0.mod
      kind := L.kind
      glob := rfl
      blt := rfl
      above := Nat.le_refl _
      inj := fun y z c e1 e2 => I.ok.inj y z c (cm y c e1) (cm z c e2)
      has := fun y hy => by
        rcases (show scope.names.lookup y = some .cell ∨ scope.names.lookup y = some .free from hy) with q | q
        · exact absurd rfl (L.nc _ (PySem.mem_of_lookup q))
        · exact lk y q
      cab := fun y c z _ => by cases (show false = true from z)
      hd := fun _ => hd
      frames := Around.frames_deeper hA
      stk := .inr ⟨rfl, rfl⟩
      exf := fun b z => absurd z (no b)
      bs := e0.bs
      bsz := e0.bsz
      noex := fun b _ _ => no b
      exfs := fun b z => absurd z (no b)
      funs := e0.funs
      frf := e0.frf }
    os := rfl
    bare := e0.bare
    base := Un.kept kp
    loc := by
      refine ⟨_, hns, fun j y w h1 h2 h3 => ?_⟩
      have h1 : X.N[j]? = some y := h1
      by_cases hj : j = i
      · subst hj
        rw [hi] at h1
        cases h1
        have hlt : j < (wipe σ [j]).length := by
          rw [wipe_length, I.len]
          exact (List.getElem?_eq_some_iff.mp hi).1
        rw [List.getElem?_set_self hlt] at h2
        cases h2
        refine ⟨u, rv, .inl ⟨L.prm, ?_⟩⟩
        show List.lookup a [(a, u)] = some u
        rw [List.lookup_cons, beq_self_eq_true]
      · rw [List.getElem?_set_ne (fun z => hj z.symm)] at h2
        have h2 := (wipe_some h2).1
        have hya : y ≠ a := fun z => hj (nodup_ix hnd h1 (z ▸ hi))
        rcases (show scope.names.lookup y = some .local ∨ scope.names.lookup y = some .cell ∨ scope.names.lookup y = some .free from h3) with k | k | k
        · exact absurd (L.loc _ (PySem.mem_of_lookup k) rfl) hya
        · exact absurd rfl (L.nc _ (PySem.mem_of_lookup k))
        · obtain ⟨m, _, hl⟩ := I.loc
          have hv : Vis X.env.scope y := .inr (L.free _ (PySem.mem_of_lookup k) rfl)
          obtain ⟨w', r, q⟩ := hl j y w h1 h2 hv
          obtain ⟨c2, hc2⟩ := lk y k
          refine ⟨w', r, .inr ⟨.inr k, c2, hc2, ck _ _ ?_⟩⟩
          rcases q with ⟨k', _⟩ | ⟨_, c3, e', z⟩
          · have k' : X.env.scope.names.lookup y = some .local := k'
            rcases L.free _ (PySem.mem_of_lookup k) rfl with k2 | k2 <;> (rw [k'] at k2; cases k2)
          · rw [cm y c2 hc2] at e'
            cases e'
            exact z
    cell := fun y c e => by
      obtain ⟨w', z⟩ := I.cell y c (cm y c e)
      exact ⟨w', ck _ _ z⟩
    free := e0.hok.fresh (Nat.le_refl _)
    freeC := fun y c e => I.freeC y c (cm y c e)
    pin := fun q hq => absurd hq (by show q ∉ ([] : List (Addr × Obj)) ++ []; simp)
    hok := e0.hok.kept kp
    len := by rw [List.length_set, wipe_length]; exact I.len }
/-- the lambda called -/
theorem lamP_call {A : Around} {scope : Scope} {f c' : Addr} {a : Str} {i k : Nat} {v : V} {u : Value} {params : Arguments} {body : Expr} {pm ctv : Value} {tb : TE} {Q : VK} (I : Inv X pins σ H s) (L : LamP X.env.scope scope a)
    (hf : s.heap.get? f = some (PySem.W.kla_obj "<lambda>" (X.env.qual ++ "<lambda>") params body scope (cloFrom X.env.cells scope.names []) pm c' ctv)) (hc : H c' = some (LamX.CodeO c' (X.env.qual ++ "<lambda>")))
    (hb : bindArgs (PySem.W.kla_fn "<lambda>" (X.env.qual ++ "<lambda>") params body scope (cloFrom X.env.cells scope.names []) pm (.ref c') ctv) ⟨[u], []⟩ = pure [(a, u)])
    (hA : A.frames = some X.stack) (hr : Room (k + 1) A) (rv : RelV v u) (hi : X.N[i]? = some a) (hnd : X.N.Nodup)
    (hbody : PE (LamX.lamCx X A X.stack s H C8.E0 scope f c') body tb) (h : tb ((wipe σ [i]).set i (some v)) H Q) :
    wpAny (model X.prog X.w) A (call (.ref f) [u]) (EP X pins σ Q) (fun _ _ => False) s := by
  obtain ⟨⟨oc, vs, t, hoc, hdc, hvc⟩, _, _⟩ := I.hok c' _ hc
  have rc : codeAny (model X.prog X.w) A (.call (.ref f) ⟨[u], []⟩) (CR (L2.CX X.prog X.w) X.stack X.prog X.w H s Q C8.E0) s := by
    refine PySem.W.kla_callFunE hr.depth hf rfl L.co L.gen rfl ⟨c', oc, vs, t, rfl, hoc, hdc, hvc⟩ ?_
    rw [hb]
    refine wpAny_pure (wpAny_newFunctionEnv L.nc (fun y hy => ?_) (fun h₁ hns hsb => ⟨I.nolimit.fresh _ hsb, ?_⟩) L.kind)
    · rw [List.mem_singleton.mp hy]
      exact L.prm
    · have kp : ∀ b o, s.heap.get? b = some o → h₁.get? b = some o := fun b o e => (hsb.2 b (Nat.ne_of_lt (Heap.lt_size e))).trans (Heap.get?_push_of_some _ e)
      have J := lamP_start (E := C8.E0) (f := f) (c' := c') (tk := s.toks + [(a, u)].length) I L hA hr.hd hns kp rv hi hnd
      show codeAny _ _ (.expr body (LamX.lamEnv X scope s.heap.objs.size f c')) _ _
      refine PySem.W.kla_codeExpr (wpAny_mono (hbody.run [] _ _ H Q J h) (fun z s' q => ?_) fun e s' q => q)
      obtain ⟨y, H', J', ry, q⟩ := q
      exact ⟨y, H', J'.os, J'.bare, J'.base, J'.hok, ry, q⟩
  refine wpAny_call (codeAny_mono rc fun r s' q => ?_)
  match r, q with
  | .error e, q =>
    obtain ⟨_, _, _, _, _, _, _, _, _, _, _, _, z⟩ := (show L2.CX X.prog X.w X.stack H s C8.E0 e s' from q)
    exact (show False from z)
  | .ok (.ret z), q => exact I.after q
  | .ok .next, q => exact False.elim q
  | .ok .brk, q => exact False.elim q
  | .ok .cont, q => exact False.elim q
end
end DL
end

/- EL46 -/
section
set_option maxHeartbeats 4000000
namespace DL
open PySem PySem.Spec PyProof.Rows L2 PySem.Calls

/-! ### sorted(.., key=f): the list that comes of it -/
theorem zip3_left {α β γ : Type} : ∀ {a : List α} {b : List β} {c : List γ}, b.length = a.length → ((a.zip b).zip c).map (fun x => (x.1.1, x.2)) = a.zip c
  | [], _, _, _ => rfl
  | _ :: _, [], _, h => by simp at h
  | _ :: _, _ :: _, [], _ => rfl
  | x :: a, y :: b, z :: c, h => by
    simp only [List.zip_cons_cons, List.map_cons]
    rw [zip3_left (by simpa using h)]
theorem zip3_right {α β γ : Type} : ∀ {a : List α} {b : List β} {c : List γ}, b.length = a.length → ((a.zip b).zip c).map (fun x => (x.1.2, x.2)) = b.zip c
  | [], [], _, _ => rfl
  | [], _ :: _, _, h => by simp at h
  | _ :: _, [], _, h => by simp at h
  | _ :: _, _ :: _, [], _ => rfl
  | x :: a, y :: b, z :: c, h => by
    simp only [List.zip_cons_cons, List.map_cons]
    rw [zip3_right (by simpa using h)]
theorem dz_zip {K : PySem.W.Frag} {H : Hp} : ∀ {ys : List V} {ds : List PyData}, DzAll K H ys ds → ∀ x ∈ ys.zip ds, Dz K H x.1 x.2
  | _, _, .nil, _, h => by simp at h
  | _, _, .cons h1 h2, x, h => by
    rcases List.mem_cons.mp h with rfl | h
    · exact h1
    · exact dz_zip h2 x h
theorem dz_maps {K : PySem.W.Frag} {H : Hp} {α : Type} {f : α → V} {g : α → PyData} : ∀ {l : List α}, (∀ x ∈ l, Dz K H (f x) (g x)) → DzAll K H (l.map f) (l.map g)
  | [], _ => .nil
  | x :: l, h => .cons (h x (by simp)) (dz_maps fun y hy => h y (by simp [hy]))
theorem each_zip {ys : List V} {us : List Value} : ∀ {ks : List PyData}, Vals ys us → ks.length = ys.length → PySem.W.EachIs (fun u (b : V × PyData) => RelV b.1 u) us (ys.zip ks)
  | [], r, h => by
    cases r with
    | nil => exact .nil
    | cons _ _ => simp at h
  | k :: ks, r, h => by
    cases r with
    | nil => simp at h
    | cons r1 r2 => exact .cons r1 (each_zip r2 (by simpa using h))
theorem each_vals {out : List Value} : ∀ {bs : List (V × PyData)}, PySem.W.EachIs (fun u (b : V × PyData) => RelV b.1 u) out bs → Vals (bs.map (·.1)) out
  | _, .nil => .nil
  | _, .cons h1 h2 => .cons h1 (each_vals h2)
/-- sorted by keys told apart -/
def byKeys (ds ks : List PyData) : List PyData := ((ds.zip ks).mergeSort (PySem.W.dataLe false (·.2))).map (·.1)
section
variable {X : Cx} {pins : List (Addr × Obj)} {σ : L2.St} {H : Hp} {s : Shared}
/-- a list of ours is known from now on -/
theorem track {a : Addr} {its : List Value} {c : Nat} {zs : List V} (I : Inv X pins σ H s) (u : Ours X pins a) (n : H a = none) (o : s.heap.get? a = some (seqObj "list" its.toArray c)) (rv : Vals zs its) (hl : zs.length ≤ sizeLine) : Inv X pins σ (upd H a (.lst zs)) s := by
  have sm : Same H (upd H a (.lst zs)) := Same.new n
  have ne : ∀ b, b ≠ a → upd H a (.lst zs) b = H b := fun b hb => upd_ne hb
  refine I.step (h' := s.heap) (g' := s.gens) (d' := s.drawn) (t' := s.toks) (ch := [a]) (fun b hb => ?_) (fun b o _ _ _ e _ => e) (fun b o _ _ _ e _ => ⟨o.slots, e⟩)
    (fun b o hb e q => by rw [ne b (fun z => hb (by simp [z]))]; exact q) (fun b o _ e => ⟨o, e⟩) (fun b xs e => sm b _ e) (fun b o xs e => sm b _ e) (fun b ps e => ⟨#[], by rw [sm b _ e]; simp⟩) (fun m hm => hm) (fun b w e => ?_) I.bare
  · rw [List.mem_singleton.mp hb]
    exact ⟨.inr u.ge, u.nL, u.nc, u.np⟩
  · by_cases hb : b = a
    · subst hb
      rw [upd_same] at e
      cases e
      exact ⟨hl, its, c, rv, o⟩
    · rw [ne b hb] at e
      exact (I.hok b w e).stay (fun _ _ _ q => q) (fun d q => sm d _ q) fun d xs q => sm d _ q
/-- sorted(.., key=f): A is the caller's -/
theorem sorted_keyed {A : Around} {E : Value → Shared → Prop} {Q : Value → Shared → Prop} {J : Hp → Prop} {l f : Addr} {ys : List V} {ks : List PyData} (I : Inv X pins σ H s) (J0 : J H)
    (hcol : ∀ (Q' : List Value → Shared → Prop), (∀ h' tk us, (∀ b o, s.heap.get? b = some o → h'.get? b = some o) → Vals ys us → Q' us { s with heap := h', toks := tk }) → wpAny (model X.prog X.w) A.in1 (collect (.ref l)) Q' E s)
    (hlen : ks.length = ys.length) (hZ : ys.length ≤ sizeLine) (hal : PySem.W.AllAlike ks) (hsk : PySem.W.Sortable ks) (hu : ∀ d, d ∈ ks → A.units + 2 + d.depth < cLine)
    (turn : ∀ (i : Nat) y u d, ys[i]? = some y → RelV y u → ks[i]? = some d → KeyTurn X pins σ J A.in1.in1 (.ref f) u d)
    (h : ∀ H' s' a zs, Inv X pins σ (upd H' a (.lst zs)) s' → J H' → H' a = none → (∀ ds, ds.length = ys.length → DzAll X.K H' ys ds → DzAll X.K H' zs (byKeys ds ks)) → Q (.ref a) s') :
    wpAny (model X.prog X.w) A (call (.builtin "sorted") [.ref l] [(Str.ofString "key", .ref f)]) Q E s := by
  refine call_function_entry_kw kind_sorted plain_sorted entry_sorted (ksk_s1 _ _) ?_
  unfold Builtin.«sorted»
  refine wpAny_bind (m := checkCount "sorted" 1 1 _) (wpAny_pure ?_)
  refine wpAny_bind (hcol _ fun h1 tk us k1 rv => ?_)
  have hul : us.length = ys.length := rv.length.symm
  refine wpAny_bind (wpAny_newList ?_ (by omega))
  have I1 : Inv X pins σ H { s with heap := h1, toks := tk } := I.kept k1
  have gD : (h1.push (seqObj "list" us.toArray 0)).get? h1.objs.size = some (seqObj "list" us.toArray 0) := Heap.get?_push_size _ rfl
  have I2 : Inv X pins σ H { s with heap := h1.push (seqObj "list" us.toArray 0), toks := tk } := I1.kept (fun b o e => Heap.get?_push_of_some _ e)
  have uD : Ours X pins h1.objs.size := Ours.fresh I1 (Nat.le_refl _)
  have nD : H h1.objs.size = none := I1.hok.fresh (Nat.le_refl _)
  refine wpAny_bind (wpAny_holding (wpAny_call_entry_kw slot_list_sort ⟨_, gD, rfl⟩ entry_list_sort ?_ (ksk_l1 _ _)))
  show wpAny (model X.prog X.w) A.in1.in1 (Builtin.«list.sort» ⟨[.ref h1.objs.size], [(Str.ofString "key", .ref f)]⟩) _ E { s with heap := h1.push (seqObj "list" us.toArray 0), toks := tk }
  rw [ksk_t1]
  unfold ksk_tree
  have sb := Heap.SameBut.update (h1.push (seqObj "list" us.toArray 0)) h1.objs.size (Obj.mapSeq fun _ => (#[] : Array Value))
  obtain ⟨e1, g1⟩ : ∃ e1, ((h1.push (seqObj "list" us.toArray 0)).update h1.objs.size (Obj.mapSeq fun _ => (#[] : Array Value))).get? h1.objs.size = some (seqObj "list" #[] e1) := ⟨_, get?_update_seq gD fun _ => #[]⟩
  refine wpAny_bind (listItems_at gD rfl ?_)
  refine wpAny_bind (listUpdate_at gD rfl ?_ (by rw [List.size_toArray]; omega) (Nat.zero_le _))
  refine wpAny_bind (seqEpoch_at g1 rfl ?_)
  refine wpAny_bind (wpAny_newTuple ?_ (by show us.length ≤ _; omega))
  refine wpAny_bind (wpAny_newList ?_ (Nat.zero_le _))
  refine wpAny_holding ?_
  have I3 := own_turn (h' := (h1.push (seqObj "list" us.toArray 0)).update h1.objs.size (Obj.mapSeq fun _ => (#[] : Array Value))) (t' := tk) I2 uD nD fun b o hb q => (sb.2 b hb).trans q
  generalize hh3 : (h1.push (seqObj "list" us.toArray 0)).update h1.objs.size (Obj.mapSeq fun _ => (#[] : Array Value)) = h3 at *
  have I4 : Inv X pins σ H { s with heap := h3.push (seqObj "tuple" us.toArray 0), toks := tk } := I3.kept (fun b o e => Heap.get?_push_of_some _ e)
  have I5 : Inv X pins σ H { s with heap := (h3.push (seqObj "tuple" us.toArray 0)).push (seqObj "list" #[] 0), toks := tk } := I4.kept (fun b o e => Heap.get?_push_of_some _ e)
  have uk : Ours X pins (h3.push (seqObj "tuple" us.toArray 0)).objs.size := Ours.fresh I4 (Nat.le_refl _)
  have nk : H (h3.push (seqObj "tuple" us.toArray 0)).objs.size = none := I4.hok.fresh (Nat.le_refl _)
  have gD5 : ((h3.push (seqObj "tuple" us.toArray 0)).push (seqObj "list" #[] 0)).get? h1.objs.size = some (seqObj "list" #[] e1) := Heap.get?_push_of_some _ (Heap.get?_push_of_some _ g1)
  have hlt : h1.objs.size < (h3.push (seqObj "tuple" us.toArray 0)).objs.size := Heap.lt_size (Heap.get?_push_of_some _ g1)
  refine key_loop (ks := ks) (kS := (h3.push (seqObj "tuple" us.toArray 0)).objs.size) (a := h1.objs.size) J0 I5 (Heap.get?_push_size _ rfl) gD5 uk uD nk nD (Nat.ne_of_gt hlt) (by omega) (by omega) hal hsk (fun d hd => hu d hd) (fun i u d hi hd => ?_) (fun H' s' out c I' j' n' g' ko => ?_)
  · have hlt2 : i < ys.length := by rw [← hul]; exact (List.getElem?_eq_some_iff.mp hi).1
    obtain ⟨w, e2, e3⟩ := rv.get (List.getElem?_eq_getElem hlt2)
    rw [hi] at e2
    cases e2
    exact turn i _ _ d (List.getElem?_eq_getElem hlt2) e3 hd
  · have ez : (ys.zip ks).map (·.2) = ks := List.map_snd_zip (by omega)
    have eo := PySem.W.keyedOut_each (R := fun u (b : V × PyData) => RelV b.1 u) (bs := ys.zip ks) (·.2) (by rw [ez]; exact ko) (each_zip rv hlen)
    have vo := each_vals eo
    have hol := vo.length
    rw [List.length_map, List.length_mergeSort, List.length_zip] at hol
    refine ⟨_, rfl, wpAny_pure ⟨_, rfl, h H' s' _ (((ys.zip ks).mergeSort (PySem.W.dataLe false (·.2))).map (·.1)) (track I' uD n' g' vo (by rw [List.length_map, List.length_mergeSort, List.length_zip]; omega)) j' n' fun ds hd hz => ?_⟩⟩
    have e1 := PySem.W.sort_maps (l := (ys.zip ds).zip ks) (r := PySem.W.dataLe false (·.2)) (s := PySem.W.dataLe false (·.2)) (fun x => (x.1.1, x.2)) (fun a _ b _ => rfl)
    have e2 := PySem.W.sort_maps (l := (ys.zip ds).zip ks) (r := PySem.W.dataLe false (·.2)) (s := PySem.W.dataLe false (·.2)) (fun x => (x.1.2, x.2)) (fun a _ b _ => rfl)
    rw [zip3_left hd] at e1
    rw [zip3_right hd] at e2
    unfold byKeys
    rw [← e1, ← e2, List.map_map, List.map_map]
    refine dz_maps fun x hx => ?_
    have hx := (List.mergeSort_perm _ _).mem_iff.mp hx
    exact dz_zip hz x.1 (List.of_mem_zip hx).1
end
end DL
end

/- EL47 -/
section
set_option maxHeartbeats 4000000
namespace DL
open PySem PySem.Spec PyProof.Rows L2 PySem.Calls

/-! ### sorted(.., key=lambda a: ..): the reading -/
open Classical in
noncomputable def keyAt (i : Nat) (mk : M Vl) (env : En) (d : PyData) : Option PyData := if h : ∃ y, mk (env.set i (some (.d d))) = .ok (.d y) (env.set i (some (.d d))) then some h.choose else none
theorem keyAt_some {i : Nat} {mk : M Vl} {env : En} {d y : PyData} (h : keyAt i mk env d = some y) : mk (env.set i (some (.d d))) = .ok (.d y) (env.set i (some (.d d))) := by
  unfold keyAt at h
  split at h
  · rename_i q
    cases h
    exact q.choose_spec
  · cases h
theorem keyAt_of {i : Nat} {mk : M Vl} {env : En} {d y : PyData} (h : mk (env.set i (some (.d d))) = .ok (.d y) (env.set i (some (.d d)))) : keyAt i mk env d = some y := by
  have q : ∃ y, mk (env.set i (some (.d d))) = .ok (.d y) (env.set i (some (.d d))) := ⟨y, h⟩
  unfold keyAt
  rw [dif_pos q]
  have e := h.symm.trans q.choose_spec
  injection e with e1 e2
  injection e1 with e3
  rw [← e3]
noncomputable def keysAt (i : Nat) (mk : M Vl) (env : En) : List PyData → Option (List PyData)
  | [] => some []
  | d :: ds => match keyAt i mk env d, keysAt i mk env ds with
    | some y, some ys => some (y :: ys)
    | _, _ => none
theorem keysAt_get {i : Nat} {mk : M Vl} {env : En} : ∀ {ds ks : List PyData}, keysAt i mk env ds = some ks → ks.length = ds.length ∧ ∀ (j : Nat) d k, ds[j]? = some d → ks[j]? = some k → keyAt i mk env d = some k
  | [], ks, h => by cases h; exact ⟨rfl, fun j d k h => by simp at h⟩
  | d :: ds, ks, h => by
    unfold keysAt at h
    cases e1 : keyAt i mk env d with
    | none => rw [e1] at h; cases h
    | some y =>
      cases e2 : keysAt i mk env ds with
      | none => rw [e1, e2] at h; cases h
      | some ys =>
        rw [e1, e2] at h
        cases h
        obtain ⟨h1, h2⟩ := keysAt_get e2
        refine ⟨by simp [h1], fun j d' k' hd hk => ?_⟩
        cases j with
        | zero => cases hd; cases hk; exact e1
        | succ j => exact h2 j d' k' (by simpa using hd) (by simpa using hk)
theorem keysAt_map {i : Nat} {mk : M Vl} {env : En} {g : PyData → PyData} : ∀ {ds : List PyData}, (∀ d ∈ ds, keyAt i mk env d = some (g d)) → keysAt i mk env ds = some (ds.map g)
  | [], _ => rfl
  | d :: ds, h => by
    unfold keysAt
    rw [h d (by simp), keysAt_map fun x hx => h x (by simp [hx])]
    rfl
noncomputable def mSortK (i : Nat) (mk : M Vl) (items : List PyData) : M (List PyData) := fun env => if noOwn [i] env = true then (match keysAt i mk (wipeE env [i]) items with
  | some ks => if sortOk ks = true then .ok (byKeys items ks) env else .stuck
  | none => .stuck) else .stuck
noncomputable def mSortRg (i : Nat) (m mk : M Vl) : M (List PyData) := M.bind m fun v => match v with
  | .d (.int j) => if 0 ≤ j ∧ j ≤ 16777216 then mSortK i mk ((List.range j.toNat).map fun k => .int (0 + (k : Nat))) else M.stuck
  | _ => M.stuck
/-- a context that knows one object more -/
def Ct.also (C : Ct) (c : Addr) (o : HO) : Ct := ⟨C.T, fun b => if b = c then some o else C.H0 b, C.bk, C.P⟩
theorem oor_ext {K : PySem.W.Frag} {H : Hp} {φ : Heap → Prop} {ds : OO} (h : OOR K H (.ext φ) ds) : False := by
  cases ds <;> exact h
section
variable {X : Cx} {pins : List (Addr × Obj)} {σ : L2.St} {H : Hp} {s : Shared} {C : Ct} {env : En} {T : List (Addr × Str)}
theorem Rel.also {c : Addr} {φ : Heap → Prop} (r : Rel X.K C H σ env) (hc : H c = some (.ext φ)) : Rel X.K (C.also c (.ext φ)) H σ env where
  len := r.len
  dat := r.dat
  own := fun i b ds e => by
    obtain ⟨a, ho, h1, h2, h3, h4, h5⟩ := r.own i b ds e
    refine ⟨a, ho, h1, h2, h3, ?_, h5⟩
    cases b with
    | true => exact h4
    | false =>
      have hne : a ≠ c := by
        rintro rfl
        rw [hc] at h2
        cases h2
        exact oor_ext h3
      intro o ho'
      have ho' : (if a = c then some (HO.ext φ) else C.H0 a) = some o := ho'
      rw [if_neg hne] at ho'
      exact h4 o ho'
  opq := r.opq
  bkd := r.bkd
  dis := r.dis
  keep := fun a o h1 h2 h3 => by
    have h1 : (if a = c then some (HO.ext φ) else C.H0 a) = some o := h1
    by_cases e : a = c
    · rw [if_pos e] at h1
      rw [e, hc]
      exact h1
    · rw [if_neg e] at h1
      exact r.keep a o h1 h2 h3
  prot := r.prot
  tab := r.tab
theorem Rel.code {c : Addr} {φ : Heap → Prop} (r : Rel X.K (C.also c (.ext φ)) H σ env) (nb : ∀ j, C.bk j ≠ some c) : H c = some (.ext φ) :=
  r.keep c _ (by show (if c = c then some (HO.ext φ) else C.H0 c) = _; rw [if_pos rfl]) nb (fun ps z => by cases z)
theorem Rel.less {c : Addr} {φ : Heap → Prop} {H0 : Hp} {env0 : En} {σ0 : L2.St} (r : Rel X.K (C.also c (.ext φ)) H σ env) (nb : ∀ j, C.bk j ≠ some c) (h0 : ∀ o, C.H0 c = some o → (∀ ps, o ≠ .tbl ps) → o = .ext φ) : Rel X.K C H σ env where
  len := r.len
  dat := r.dat
  own := fun i b ds e => by
    obtain ⟨a, ho, h1, h2, h3, h4, h5⟩ := r.own i b ds e
    refine ⟨a, ho, h1, h2, h3, ?_, h5⟩
    cases b with
    | true => exact h4
    | false =>
      have hne : a ≠ c := by
        rintro rfl
        rw [r.code nb] at h2
        cases h2
        exact oor_ext h3
      intro o ho'
      exact h4 o (by show (if a = c then some (HO.ext φ) else C.H0 a) = some o; rw [if_neg hne]; exact ho')
  opq := r.opq
  bkd := r.bkd
  dis := r.dis
  keep := fun a o h1 h2 h3 => by
    by_cases e : a = c
    · subst e
      rw [h0 o h1 h3]
      exact r.code nb
    · exact r.keep a o (by show (if a = c then some (HO.ext φ) else C.H0 a) = some o; rw [if_neg e]; exact h1) h2 h3
  prot := r.prot
  tab := r.tab
theorem wipe_set1 {σ : L2.St} {i : Nat} {v : V} : wipe ((wipe σ [i]).set i (some v)) [i] = wipe σ [i] := by
  show ((σ.set i none).set i (some v)).set i none = σ.set i none
  rw [List.set_set, List.set_set]
theorem wipeE_set1 {i : Nat} {v : EV} : wipeE ((wipeE env [i]).set i (some v)) [i] = wipeE env [i] := by
  show ((env.set i none).set i (some v)).set i none = env.set i none
  rw [List.set_set, List.set_set]
theorem noOwn_setd {env : En} {i : Nat} {d : PyData} : noOwn [i] (env.set i (some (.d d))) = true := by
  unfold noOwn
  rw [List.all_cons, List.all_nil, Bool.and_true]
  by_cases hlt : i < env.length
  · rw [List.getElem?_set_self hlt]
  · rw [List.getElem?_eq_none (by rw [List.length_set]; omega)]
theorem wipeE_notown {i : Nat} : ∀ ds, (wipeE env [i])[i]? ≠ some (some (.own true ds)) := fun ds z => by
  have z : (env.set i none)[i]? = _ := z
  by_cases h : i < env.length
  · rw [List.getElem?_set_self h] at z; cases z
  · rw [List.getElem?_eq_none (by rw [List.length_set]; omega)] at z; cases z
/-- the call: the source is at l, the lambda at f -/
theorem run_sortK {W : WX} {l f c' : Addr} {a : Str} {i k : Nat} {params : Arguments} {body : Expr} {scope : Scope} {pm ctv : Value} {mk : M Vl} {ys : List V} {items : List PyData} {Q : VK} {E : Value → Shared → Prop} {pins' : List (Addr × Obj)} (I : Inv X (pins' ++ pins) σ H s) (hC : C.T = T) (r : Rel X.K C H σ env)
    (hcol : ∀ (Q' : List Value → Shared → Prop), (∀ h' tk us, (∀ b o, s.heap.get? b = some o → h'.get? b = some o) → Vals ys us → Q' us { s with heap := h', toks := tk }) → wpAny (model X.prog X.w) X.A.in1 (collect (.ref l)) Q' E s)
    (hz : DzAll X.K H ys items) (hl : ys.length ≤ sizeLine) (hr : Room (k + 3) X.A) (L : LamP X.env.scope scope a)
    (hf : s.heap.get? f = some (PySem.W.kla_obj "<lambda>" (X.env.qual ++ "<lambda>") params body scope (cloFrom X.env.cells scope.names []) pm c' ctv)) (nf : H f = none) (fr : f ∉ frs X.stack) (hc : H c' = some (LamX.CodeO c' (X.env.qual ++ "<lambda>")))
    (hb : ∀ (q : Str) (cl : List (Str × Addr)) (pm cv ctv u : Value), bindArgs (PySem.W.kla_fn "<lambda>" q params body scope cl pm cv ctv) ⟨[u], []⟩ = pure [(a, u)])
    (hi : X.N[i]? = some a) (hnd : X.N.Nodup) (hbody : ∀ (A : Around) (outer : List Env) (s : Shared) (H : Hp) (E : XK) (f c' : Addr), Room k (A.deeper (LamX.lamEnv X scope s.heap.objs.size f c')) → DE (LamX.lamCx X A outer s H E scope f c') T (fun cls d _ H => E cls d H) body mk)
    (h : Lf X.K X.mg C W σ H (OR X.K C σ) (mSortK i mk items env) Q) :
    wpAny (model X.prog X.w) X.A (call (.builtin "sorted") [.ref l] [(Str.ofString "key", .ref f)]) (EP X pins σ Q) E s := by
  unfold mSortK at h
  by_cases hn : noOwn [i] env = true
  case neg => rw [if_neg hn] at h; exact h.elim
  rw [if_pos hn] at h
  cases hk : keysAt i mk (wipeE env [i]) items with
  | none => rw [hk] at h; exact h.elim
  | some ks =>
    rw [hk] at h
    dsimp only at h
    by_cases hok : sortOk ks = true
    case neg => rw [if_neg hok] at h; exact h.elim
    rw [if_pos hok] at h
    obtain ⟨kl, kg⟩ := keysAt_get hk
    have hzl := hz.length
    unfold sortOk at hok
    simp only [Bool.and_eq_true, decide_eq_true_eq] at hok
    obtain ⟨⟨⟨ok1, ok2⟩, ok3⟩, ok4⟩ := hok
    have nb : ∀ j, C.bk j ≠ some c' := fun j z => by
      obtain ⟨ds, e⟩ := r.bkd j c' z
      obtain ⟨a', ho, h1, h2, h3, h4, _⟩ := r.own j true ds e
      rw [if_pos rfl, z] at h4
      cases h4
      rw [hc] at h2
      cases h2
      exact oor_ext h3
    have h0 : ∀ o, C.H0 c' = some o → (∀ ps, o ≠ .tbl ps) → o = LamX.CodeO c' (X.env.qual ++ "<lambda>") := fun o e n => by
      have := r.keep c' o e nb n
      rw [hc] at this
      exact (Option.some.inj this).symm
    have nL : f ≠ X.env.locals := fun z => by
      obtain ⟨m, ⟨o, es, ep, e1, e2, _⟩, _⟩ := I.loc
      rw [← z, hf] at e1
      cases e1
      cases e2
    have nF : f ∉ X.fs := fun z => fr (by
      rcases I.ok.stk with e | ⟨e, _⟩
      · rw [e]; exact z
      · obtain ⟨en, h1, h2⟩ := List.mem_filterMap.mp z
        rw [e]
        exact List.mem_filterMap.mpr ⟨en, List.mem_cons_of_mem _ h1, h2⟩)
    have I1 : Inv X ((f, PySem.W.kla_obj "<lambda>" (X.env.qual ++ "<lambda>") params body scope (cloFrom X.env.cells scope.names []) pm c' ctv) :: (pins' ++ pins)) σ H s := I.pins_of fun p hp => by
      rcases List.mem_cons.mp hp with rfl | hp
      · exact ⟨hf, nf, nL, nF, fun v z => by cases z⟩
      · exact I.pin p (List.mem_append_right _ hp)
    have hsk : PySem.W.Sortable ks := by
      rw [Bool.or_eq_true] at ok2
      rcases ok2 with o | o
      · refine .inl fun d hd => ?_
        have q := List.all_eq_true.mp o d hd
        match d, q with
        | .tuple (x :: r), _ => exact ⟨x, r, rfl⟩
      · refine .inr fun d hd => ?_
        have q := List.all_eq_true.mp o d hd
        exact ⟨by (rintro rfl; cases q), by (rintro xs rfl; cases q)⟩
    have hun := hr.un
    refine sorted_keyed (J := fun H' => Rel X.K (C.also c' (LamX.CodeO c' (X.env.qual ++ "<lambda>"))) H' (wipe σ [i]) (wipeE env [i]) ∧ Le H H') (ks := ks) I1 ⟨Rel.also (r.wipe hn) hc, .refl H⟩ hcol (by omega) hl (alikeB_iff ok1) hsk (fun d hd => ?_) (fun j y u d hy ry hd => ?_) (fun H' s' A' zs I' j' n' hzs => ?_)
    · have := depthAll_le ok3 d hd
      omega
    · intro more H1 s1 J1 ⟨r1, le1⟩
      have hj : j < items.length := by
        have := (List.getElem?_eq_some_iff.mp hy).1
        omega
      have hit : items[j]? = some (items[j]'hj) := List.getElem?_eq_getElem hj
      have hkey := keyAt_some (kg j _ d hit hd)
      obtain ⟨y', hy', dz⟩ := hz.get hit
      rw [hy] at hy'
      cases hy'
      have r2 := r1.stoD (i := i) (DzAll.le le1 _ hz |>.get hit |> fun ⟨w, e1, e2⟩ => (by rw [hy] at e1; cases e1; exact e2 : Dz X.K H1 y (items[j]'hj))) wipeE_notown
      have hf1 := (J1.pin (f, PySem.W.kla_obj "<lambda>" (X.env.qual ++ "<lambda>") params body scope (cloFrom X.env.cells scope.names []) pm c' ctv) (by simp)).1
      refine wpAny_mono (lamP_call (k := k) (Q := fun z H2 => (Rel X.K (C.also c' (LamX.CodeO c' (X.env.qual ++ "<lambda>"))) H2 (wipe σ [i]) (wipeE env [i]) ∧ Le H H2) ∧ Le H1 H2 ∧ Dz X.K H2 z d) J1 L hf1 (r1.code nb) (hb _ _ _ _ _ _) I.ok.frames hr.in1.in1 ry hi hnd
        ((hbody X.A.in1.in1 X.stack s1 H1 C8.E0 f c' (hr.in1.in1.deeper _)).pe (C.also c' (LamX.CodeO c' (X.env.qual ++ "<lambda>"))) hC) ⟨_, r2, ?_⟩) (fun u2 s2 q => ?_) fun _ _ z => z
      · rw [hkey]
        intro z H2 r3 rz le3
        have r4 := r3.wipe (vs := [i]) noOwn_setd
        rw [wipe_set1, wipeE_set1] at r4
        exact ⟨⟨r4, le1.trans le3⟩, le3, rz⟩
      · obtain ⟨z, H2, J2, rz, q1, q2, q3⟩ := q
        exact ⟨H2, z, J2, q1, q2, rz, q3⟩
    · obtain ⟨r1, le1⟩ := j'
      have r2 : Rel X.K C H' (wipe σ [i]) (wipeE env [i]) := Rel.less (H0 := H) (env0 := env) (σ0 := σ) r1 nb h0
      have r3 := Rel.rest r2 r le1 hn
      rw [rest_wipe] at r3
      have dzs := hzs items (by omega) (DzAll.le le1 _ hz)
      have sm : Same H' (upd H' A' (.lst zs)) := Same.new n'
      have Id : Inv X pins σ (upd H' A' (.lst zs)) s' := I'.pins_of fun p hp => I'.pin p (List.mem_append_right _ (List.mem_cons_of_mem _ (List.mem_append_right _ hp)))
      exact ⟨.ref A', _, Id, rfl, h (.ref A') _ (r3.grow sm) (new_OR r3 n' dzs) (le1.trans (.same sm))⟩
end
end DL
end

/- EL48 -/
section
set_option maxHeartbeats 4000000
namespace DL
open PySem PySem.Spec PyProof.Rows L2 PySem.Calls

/-! ### sorted(range(e), key=lambda a: ..) -/
section
variable {X : Cx} {T : List (Addr × Str)} {W : WX} {e : Expr} {m mk : M Vl} {p p2 q pos lpos kpos : Pos} {params : Arguments} {body : Expr} {scope : Scope} {c P : Addr} {a : Str} {i k : Nat}
theorem boot_srt : bootBuiltins "sorted" = some (.builtin "sorted") := by decide +kernel
theorem do_sortRg (hc : X.calm = true) (hg : Gl X "sorted") (hm : X.mg "sorted" = none) (hg2 : Gl X "range") (hm2 : X.mg "range" = none) (he : DE X T W e m)
    (TB : LamX.TabB X.base X.mg c P) (hcode : X.env.code = .ref c) (hmT : (P, X.env.qual ++ "<lambda>") ∈ T) (hu : ∀ p ∈ T, p.1 = P → p.2 = X.env.qual ++ "<lambda>") (hr : Room (k + 3) X.A) (L : LamP X.env.scope scope a)
    (hi : X.N[i]? = some a) (hnd : X.N.Nodup)
    (hbody : ∀ (A : Around) (outer : List Env) (s : Shared) (H : Hp) (E : XK) (f c' : Addr), Room k (A.deeper (LamX.lamEnv X scope s.heap.objs.size f c')) → DE (LamX.lamCx X A outer s H E scope f c') T (fun cls d _ H => E cls d H) body mk)
    (hdef : defaultsOf params X.env = ([], []) := by rfl) (hb : ∀ (q : Str) (cl : List (Str × Addr)) (pm cv ctv u : Value), bindArgs (PySem.W.kla_fn "<lambda>" q params body scope cl pm cv ctv) ⟨[u], []⟩ = pure [(a, u)] := by intros; rfl)
    (na2 : starEach [e] X.env = (false, eval e X.env) :: starEach [] X.env := by rfl)
    (na : starEach [.Call (.Name "range" p2) [e] [] q] X.env = (false, eval (.Call (.Name "range" p2) [e] [] q) X.env) :: starEach [] X.env := by rfl) :
    DO X T W (.Call (.Name "sorted" p) [.Call (.Name "range" p2) [e] [] q] [⟨some "key", .Lambda params body scope lpos, kpos⟩] pos) (mSortRg i m mk) := by
  refine ⟨fun C hC => ⟨fun pins s σ H Q I h => ?_⟩⟩
  obtain ⟨env, r, h⟩ := h
  have hh : lift X.K X.mg C W m σ H fun u H1 => ∃ j env1, u = .int j ∧ 0 ≤ j ∧ j ≤ 16777216 ∧ Rel X.K C H1 σ env1 ∧ Lf X.K X.mg C W σ H1 (OR X.K C σ) (mSortK i mk ((List.range j.toNat).map fun k => .int (0 + (k : Nat))) env1) Q := by
    refine ⟨env, r, Lf.bind h fun u H1 v env1 r1 hv l1 h1 => ?_⟩
    match v, hv, h1 with
    | .d (.int j), hv, h1 =>
      cases (show Dz X.K H1 u (.int j) from hv)
      dsimp only at h1
      by_cases hj : 0 ≤ j ∧ j ≤ 16777216
      · rw [if_pos hj] at h1
        exact ⟨j, env1, rfl, hj.1, hj.2, r1, h1⟩
      · rw [if_neg hj] at h1
        exact h1.elim
  refine wpAny_Call_Name_kw (ld_blt I hg hm boot_srt ?_)
  refine PyProof.Rows.callWith_kw ?_
  refine args_cons ?_ na
  refine Call_ (ld_blt I hg2 hm2 boot_range (PyProof.Rows.callWith_type1 (one_arg (he.pe C hC) I hh (fun v s2 x H2 I2 rv q => ?_) na2) na2))
  obtain ⟨j, env1, rfl, j0, j1, r1, h1⟩ := q
  obtain ⟨t, rfl⟩ := rv
  refine call_range_1 (args_nil ?_)
  have hR := IsRange.new s2.heap 0 j 1 s2.toks t (s2.toks + 1)
  have I3 : Inv X pins σ H2 { s2 with heap := s2.heap.push { cls := .type "range", data := .fields #[.int 0 s2.toks, .int j t, .int 1 (s2.toks + 1)] }, toks := s2.toks + 1 + 1 } := I2.kept fun b o e => Heap.get?_push_of_some _ e
  have I4 := pin_add I3 (Ours.fresh I2 (Nat.le_refl _)) hR (I2.hok.fresh (Nat.le_refl _)) (fun v z => by cases z)
  show wpAny _ _ (evalAll [do let v ← eval (.Lambda params body scope lpos) X.env; standAt pos; pure v]) _ _ _
  refine wpAny_evalAll_cons (wpAny_bind (LamX.lam_make2 I4 TB hcode hmT hu (by rw [← hC]; exact r1.tab) hdef (L.has I4.ok) fun f c' pm ctv H5 s5 I5 eN T1 hf nf fr hco => ?_))
  refine wpAny_bind (wpAny_standAt (wpAny_pure (wpAny_evalAll_nil ?_)))
  have l0 : Le H2 H5 := .extN eN
  have r5 := r1.extN eN (by rw [hC]; exact T1)
  have h5 := h1.mono l0 fun _ _ z => z
  have hR5 := (I5.pin (s2.heap.objs.size, { cls := .type "range", dict := none, data := .fields #[.int 0 s2.toks, .int j t, .int 1 (s2.toks + 1)], slots := #[] }) (by simp)).1
  obtain ⟨b1, b2, b3, b4, b5⟩ := RgOk.of_le (Int.le_refl 0) j1 (by omega) j0
  have hz : DzAll X.K H5 (rgV 0 j) ((List.range j.toNat).map fun i => .int (0 + (i : Nat))) := by
    have := DzAll.of_ints (K := X.K) (H := H5) ((List.range j.toNat).map fun i => 0 + ((i : Nat) : Int))
    rw [List.map_map, List.map_map] at this
    unfold rgV
    rw [Int.sub_zero]
    exact this
  show wpAny (model X.prog X.w) X.A (call (.builtin "sorted") [.ref s2.heap.objs.size] [(Str.ofString "key", .ref f)]) _ _ _
  refine run_sortK (pins' := [(s2.heap.objs.size, { cls := .type "range", dict := none, data := .fields #[.int 0 s2.toks, .int j t, .int 1 (s2.toks + 1)], slots := #[] })]) I5 hC r5 (fun Q' hq => ?_) hz (by rw [rgV_length, sizeLine_eq]; omega) hr L hf nf fr hco hb hi hnd hbody h5
  exact collect_range (n := (j - 0).toNat) (I5.ok.hd hc) hR5 (small_one b1 b2 b3 b4) (rangeSize_nat 0 j) b5 fun h' tk acc hk hi => hq h' tk acc.toList hk (vals_rg hi)
end
end DL
end

/- EW9 -/
section
set_option maxHeartbeats 4000000
namespace DL
open PySem PySem.Spec PyProof.Rows L2

/-! ### min of data -/
theorem dle_trans {a b c : PyData} (h1 : dlt b a = false) (h2 : dlt c b = false) : dlt c a = false := by
  have := (show ∀ a b c, PySem.W.dataLe false id a b = true → PySem.W.dataLe false id b c = true → PySem.W.dataLe false id a c = true from fun a b c h1 h2 => (PySem.W.sortLe_total _ _ _).trans a b c h1 h2) a b c (by simpa [PySem.W.dataLe_eq] using h1) (by simpa [PySem.W.dataLe_eq] using h2)
  simpa [PySem.W.dataLe_eq] using this
theorem minD_spec : ∀ (xs : List PyData) (x : PyData), PySem.W.minD x xs ∈ x :: xs ∧ ∀ y ∈ x :: xs, dlt y (PySem.W.minD x xs) = false
  | [], x => ⟨by simp [PySem.W.minD], fun y hy => by rw [List.mem_singleton.mp hy]; exact dlt_irr x⟩
  | z :: xs, x => by
    have e : PySem.W.minD x (z :: xs) = PySem.W.minD (if PySem.W.dataLt z x then z else x) xs := rfl
    rw [e]
    obtain ⟨h1, h2⟩ := minD_spec xs (if PySem.W.dataLt z x then z else x)
    by_cases h : PySem.W.dataLt z x = true
    · rw [if_pos h] at h1 h2 ⊢
      refine ⟨List.mem_cons_of_mem _ h1, fun y hy => ?_⟩
      rcases List.mem_cons.mp hy with rfl | hy
      · cases q : dlt y (PySem.W.minD z xs) with
        | false => rfl
        | true =>
          have := dlt_trans h q
          rw [h2 z (by simp)] at this
          cases this
      · exact h2 y hy
    · rw [if_neg h] at h1 h2 ⊢
      refine ⟨?_, fun y hy => ?_⟩
      · rcases List.mem_cons.mp h1 with h1 | h1
        · rw [h1]; simp
        · simp [h1]
      · rcases List.mem_cons.mp hy with rfl | hy
        · exact h2 y (by simp)
        · rcases List.mem_cons.mp hy with rfl | hy
          · exact dle_trans (h2 x (by simp)) (by simpa using h)
          · exact h2 y (by simp [hy])
end DL
end

/- EW10 -/
section
set_option maxHeartbeats 4000000
namespace DL
open PySem PySem.Spec PyProof.Rows L2

/-! ### things told: pairs of a word and something -/
theorem notPair {d : PyData} (h : ¬ ∃ w x, d = .tuple [.str w, x]) : DL.isTup d = false ∨ (∃ xs, d = .tuple xs ∧ xs.length ≠ 2) ∨ (∃ a b, d = .tuple [a, b] ∧ DL.isStr a = false) := by
  cases d with
  | tuple xs =>
    right
    by_cases hl : xs.length = 2
    · match xs, hl with
      | [a, b], _ =>
        right
        refine ⟨a, b, rfl, ?_⟩
        cases a with
        | str w => exact absurd ⟨w, b, rfl⟩ h
        | _ => rfl
    · exact .inl ⟨xs, rfl, hl⟩
  | _ => exact .inl rfl
@[simp] theorem isTup_dic {b : List (PyData × PyData)} : DL.isTup (.dict b) = false := rfl
@[simp] theorem isStr_dic {b : List (PyData × PyData)} : DL.isStr (.dict b) = false := rfl
theorem isTup_elim {d : PyData} (h : DL.isTup d = true) : ∃ xs, d = .tuple xs := by
  cases d with
  | tuple xs => exact ⟨xs, rfl⟩
  | _ => cases h
theorem sized_not {d : PyData} {lo hi : Int} (h : DL.isTup d = false) : sizedD d lo hi = false := by
  cases d with
  | tuple xs => cases h
  | _ => rfl
theorem sized_elim {d : PyData} {lo hi : Int} (h : sizedD d lo hi = true) : ∃ xs, d = .tuple xs ∧ lo ≤ (xs.length : Int) ∧ (xs.length : Int) ≤ hi := by
  cases d with
  | tuple xs =>
    simp only [sizedD_tup, Bool.and_eq_true, decide_eq_true_eq] at h
    exact ⟨xs, rfl, h⟩
  | _ => cases h
theorem len2 {α : Type} {xs : List α} (h : xs.length = 2) : ∃ a b, xs = [a, b] := by
  match xs, h with
  | [a, b], _ => exact ⟨a, b, rfl⟩
end DL
end

/- EW11 -/
section
set_option maxHeartbeats 4000000
namespace DL
open PySem PySem.Spec PyProof.Rows L2

/-! ### the other hand: cells as they are -/
def cellB (n : Int) : Int := if n < 0 then -n else n
def handB : M Fl := (sSeq (sSetO 1 (mLc [2] (mItems (mSl (mVar 0) none (some (mC (.int 63))))) (gNm 2) mYes (mCall gAbs (mCons (mCall gInt (mCons (mVar 2) mNil)) mNil)))) (sRetO (mLst (mCons (mVar 1) (mCons (mC (.int 0)) (mCons (mC (.int 0)) (mCons (mBin gAddA (mC (.int 61)) (mBin gMulA (mC (.int 7)) (mCall gLen (mCons (mVar 1) mNil)))) (mCons (mC (.int 0)) mNil))))))))
theorem W_handB {ns : List Int} {env : En} {Q : RVl → En → Prop} {E : Er → En → Prop} (h : ns.length ≤ 63) (q : ∀ ds, HI ds → Q (.o (.l ds)) env) : W (fin 1 handB 3 [.d (.list (ns.map .int))] none) env Q E := by
  rw [W_fin]
  refine ⟨rfl, ?_⟩
  unfold handB
  simp [-List.map_map, startE]
  rw [cut63 (by simpa using h)]
  refine W_lc_map (fun n : Int => .int (cellB n)) (by simp) (by rw [sizeLine_eq]; omega) (fun n hn => ?_) ?_
  · simp [gInt, gAbs, cellB]
  · rw [show (ns.map fun n => PyData.int (cellB n)) = (ns.map cellB).map .int from by rw [List.map_map]; rfl]
    simp [-List.map_map, gMulA_int (.inl (show DL.small64 7 = true from rfl)), sizeLine_eq]
    have := HI.mk (cs := ns.map cellB) (at_ := 0) (r := 0) (sd := 61 + 7 * (ns.length : Int)) (ct := 0) (Int.le_refl 0) (Int.le_refl 0) fun c hc => by
      obtain ⟨n, _, rfl⟩ := List.mem_map.mp hc
      unfold cellB
      split <;> omega
    exact q _ this
/-! ### least and greatest of numbers -/
theorem foldl_min_spec : ∀ (ns : List Int) (n : Int), ns.foldl min n ∈ n :: ns ∧ ∀ x ∈ n :: ns, ns.foldl min n ≤ x
  | [], n => ⟨by simp, fun x hx => by rw [List.mem_singleton.mp hx]; exact Int.le_refl _⟩
  | m :: ns, n => by
    rw [List.foldl_cons]
    obtain ⟨h1, h2⟩ := foldl_min_spec ns (min n m)
    have h3 := h2 (min n m) (by simp)
    refine ⟨?_, fun x hx => ?_⟩
    · rcases List.mem_cons.mp h1 with e | h1
      · rw [e]
        by_cases h : n ≤ m
        · rw [Int.min_eq_left h]; simp
        · rw [Int.min_eq_right (by omega)]; simp
      · simp [h1]
    · rcases List.mem_cons.mp hx with rfl | hx
      · exact Int.le_trans h3 (Int.min_le_left _ _)
      · rcases List.mem_cons.mp hx with rfl | hx
        · exact Int.le_trans h3 (Int.min_le_right _ _)
        · exact h2 x (by simp [hx])
theorem foldl_max_spec : ∀ (ns : List Int) (n : Int), ns.foldl max n ∈ n :: ns ∧ ∀ x ∈ n :: ns, x ≤ ns.foldl max n
  | [], n => ⟨by simp, fun x hx => by rw [List.mem_singleton.mp hx]; exact Int.le_refl _⟩
  | m :: ns, n => by
    rw [List.foldl_cons]
    obtain ⟨h1, h2⟩ := foldl_max_spec ns (max n m)
    have h3 := h2 (max n m) (by simp)
    refine ⟨?_, fun x hx => ?_⟩
    · rcases List.mem_cons.mp h1 with e | h1
      · rw [e]
        by_cases h : n ≤ m
        · rw [Int.max_eq_right h]; simp
        · rw [Int.max_eq_left (by omega)]; simp
      · simp [h1]
    · rcases List.mem_cons.mp hx with rfl | hx
      · exact Int.le_trans (Int.le_max_left _ _) h3
      · rcases List.mem_cons.mp hx with rfl | hx
        · exact Int.le_trans (Int.le_max_right _ _) h3
        · exact h2 x (by simp [hx])
/-- min of numbers by what it is -/
theorem gMinB_is {ns : List Int} {m : Int} (hm : m ∈ ns) (h : ∀ x ∈ ns, m ≤ x) : gMinB [.list (ns.map .int)] = some (.int m) := by
  cases ns with
  | nil => cases hm
  | cons n ns =>
    obtain ⟨h1, h2⟩ := foldl_min_spec ns n
    rw [gMinB_int]
    have a := h _ h1
    have b := h2 m hm
    rw [show ns.foldl min n = m from by omega]
theorem gMaxB_is {ns : List Int} {m : Int} (hm : m ∈ ns) (h : ∀ x ∈ ns, x ≤ m) : gMaxB [.list (ns.map .int)] = some (.int m) := by
  cases ns with
  | nil => cases hm
  | cons n ns =>
    obtain ⟨h1, h2⟩ := foldl_max_spec ns n
    rw [gMaxB_int]
    have a := h _ h1
    have b := h2 m hm
    rw [show ns.foldl max n = m from by omega]
/-- the first place of a number -/
theorem gIndex_is {ns : List Int} {m : Int} {i : Nat} (h : ns[i]? = some m) (hf : ∀ (j : Nat) x, j < i → ns[j]? = some x → x ≠ m) : gIndex (.list (ns.map .int)) [.int m] = some (.int (i : Int)) := by
  unfold gIndex
  dsimp only
  rw [Lay.shaped (n := 0) lay_int (by decide), (lay_lints (n := 0) ns).shaped (by decide)]
  have e : (ns.map PyData.int).findIdx? (fun z => PyData.eqv z (.int m)) = some i := by
    rw [List.findIdx?_eq_some_iff_getElem]
    have hl := (List.getElem?_eq_some_iff.mp h).1
    have hv := (List.getElem?_eq_some_iff.mp h).2
    refine ⟨by rw [List.length_map]; exact hl, by rw [List.getElem_map, hv, eqv_int_int]; simp, fun j hj => ?_⟩
    have hj2 : j < ns.length := by omega
    rw [List.getElem_map, eqv_int_int]
    have := hf j (ns[j]'hj2) hj (List.getElem?_eq_getElem hj2)
    simpa using this
  simp [e]
end DL
end

/- EW12 -/
section
set_option maxHeartbeats 4000000
namespace DL
open PySem PySem.Spec PyProof.Rows L2

/-! ### sorted(.., key=..): the reading -/
section
variable {env : En} {E : Er → En → Prop} {i : Nat} {m mk : M Vl}
theorem byKeys_map {items : List PyData} {g : PyData → PyData} : byKeys items (items.map g) = items.mergeSort (PySem.W.dataLe false g) := by
  unfold byKeys
  have e0 : items.zip (items.map g) = items.map fun d => (d, g d) := by
    induction items with
    | nil => rfl
    | cons d ds ih => simp only [List.map_cons, List.zip_cons_cons, ih]
  have e1 := PySem.W.sort_maps (l := items) (r := PySem.W.dataLe false g) (s := PySem.W.dataLe false (fun x : PyData × PyData => x.2)) (fun d => (d, g d)) (fun a _ b _ => rfl)
  rw [e0, ← e1, List.map_map]
  exact List.map_id _
theorem W_sortK {items : List PyData} {Q : List PyData → En → Prop} (g : PyData → PyData) (hn : noOwn [i] env = true) (hk : ∀ d ∈ items, W mk ((wipeE env [i]).set i (some (.d d))) (fun v e => v = .d (g d) ∧ e = (wipeE env [i]).set i (some (.d d))) (fun _ _ => False)) (hok : sortOk (items.map g) = true)
    (q : Q (items.mergeSort (PySem.W.dataLe false g)) env) : W (mSortK i mk items) env Q E := by
  have hks : keysAt i mk (wipeE env [i]) items = some (items.map g) := keysAt_map fun d hd => by
    obtain ⟨v, e, h1, rfl, rfl⟩ := W_ok (hk d hd)
    exact keyAt_of h1
  refine W_of (v := byKeys items (items.map g)) (env' := env) ?_ (by rw [byKeys_map]; exact q)
  unfold mSortK
  rw [if_pos hn, hks]
  dsimp only
  rw [if_pos hok]
@[simp ↓] theorem W_mSortRg {Q : List PyData → En → Prop} : W (mSortRg i m mk) env Q E ↔ W m env (fun v e => match v with
  | .d (.int j) => (0 ≤ j ∧ j ≤ 16777216) ∧ W (mSortK i mk ((List.range j.toNat).map fun k => .int (0 + (k : Nat)))) e Q E
  | _ => False) E := by
  rw [W_eq]
  unfold mSortRg
  rw [wp_bind]
  unfold W
  apply iff_of_eq; congr 1; funext v e
  cases v with
  | d x => cases x with
    | int j =>
      dsimp only
      by_cases h : 0 ≤ j ∧ j ≤ 16777216
      · rw [if_pos h]
        simp [h]
      · rw [if_neg h]
        exact propext ⟨fun z => z.elim, fun z => h z.1⟩
    | _ => rfl
  | _ => rfl
end
/-- the order that comes of keys that are rows of numbers -/
theorem sorted_rows {items : List PyData} {g : PyData → List Int} : (items.mergeSort (PySem.W.dataLe false fun d => .tuple ((g d).map .int))).Perm items ∧ (items.mergeSort (PySem.W.dataLe false fun d => .tuple ((g d).map .int))).Pairwise fun a b => ¬ (g b < g a) := by
  refine ⟨List.mergeSort_perm _ _, ?_⟩
  have := List.pairwise_mergeSort (le := PySem.W.dataLe false fun d => PyData.tuple ((g d).map .int)) (fun a b c h1 h2 => (PySem.W.sortLe_total _ _ _).trans a b c h1 h2) (fun a b => Bool.or_eq_true_iff.mpr ((PySem.W.sortLe_total _ _ _).total a b)) items
  refine this.imp fun {a b} h => ?_
  rw [PySem.W.dataLe_eq] at h
  have h : PySem.W.dataLt (PyData.tuple ((g b).map .int)) (PyData.tuple ((g a).map .int)) = false := by simpa using h
  have e : PySem.W.dataLt (PyData.tuple ((g b).map .int)) (PyData.tuple ((g a).map .int)) = decide (g b < g a) := by
    rw [PySem.W.dataLt_tuple]
    exact PySem.W.dataLt_ints (g b) (g a)
  rw [e] at h
  simpa using h
theorem sortOk_rows {items : List PyData} {g : PyData → List Int} (hne : ∀ d ∈ items, g d ≠ []) (hl : items.length ≤ 1000000) : sortOk (items.map fun d => PyData.tuple ((g d).map .int)) = true := by
  unfold sortOk
  rw [Bool.and_eq_true, Bool.and_eq_true, Bool.and_eq_true]
  refine ⟨⟨⟨alikeB_of fun a ha b hb => ?_, ?_⟩, decide_eq_true (depthAll_of fun a ha => ?_)⟩, decide_eq_true (by rw [List.length_map, sizeLine_eq]; omega)⟩
  · obtain ⟨p, hp, rfl⟩ := List.mem_map.mp ha
    obtain ⟨q, hq, rfl⟩ := List.mem_map.mp hb
    rw [PySem.W.alike]
    exact alike_ints2 _ _
  · rw [Bool.or_eq_true]
    left
    rw [List.all_eq_true]
    intro a ha
    obtain ⟨p, hp, rfl⟩ := List.mem_map.mp ha
    have := hne p hp
    cases hg : g p with
    | nil => exact absurd hg this
    | cons _ _ => rfl
  · obtain ⟨p, hp, rfl⟩ := List.mem_map.mp ha
    exact (lay_ints (n := 59) _).2
end DL
end

/- P72a -/
section
set_option maxHeartbeats 4000000
namespace K72

/-! ### bottles for teams (no program in sight) -/
def at_ (l : List Int) (k : Nat) : Int := l.getD k 0
def cnt (l : List Int) (x : Int) : Nat := (l.filter fun y => decide (x ≤ y)).length
theorem map_at (l : List Int) : (List.range l.length).map (at_ l) = l := by
  apply List.ext_getElem
  · simp
  · intro i h1 h2
    rw [List.getElem_map, List.getElem_range]
    unfold at_
    rw [List.getD_eq_getElem?_getD, List.getElem?_eq_getElem h2]
    rfl
theorem cnt_range (l : List Int) (x : Int) : ((List.range l.length).filter fun k => decide (x ≤ at_ l k)).length = cnt l x := by
  unfold cnt
  conv => rhs; rw [← map_at l, List.filter_map, List.length_map]
  rfl
/-- a way: who gets which bottle -/
structure Way (nd bt : List Int) (row : List Int) : Prop where
  len : row.length = nd.length
  nodup : row.Nodup
  rng : ∀ j ∈ row, 0 ≤ j ∧ j < bt.length
  ok : ∀ k, k < nd.length → at_ nd k ≤ at_ bt (at_ row k).toNat
theorem nodup_filter {α : Type} {p : α → Bool} {l : List α} (h : l.Nodup) : (l.filter p).Nodup := List.Nodup.sublist List.filter_sublist h
theorem at_mem {l : List Int} {k : Nat} (h : k < l.length) : at_ l k ∈ l := by
  unfold at_
  rw [List.getD_eq_getElem?_getD, List.getElem?_eq_getElem h]
  exact List.getElem_mem _
theorem at_inj {l : List Int} (hn : l.Nodup) {i j : Nat} (hi : i < l.length) (hj : j < l.length) (e : at_ l i = at_ l j) : i = j := by
  unfold at_ at e
  rw [List.getD_eq_getElem?_getD, List.getD_eq_getElem?_getD, List.getElem?_eq_getElem hi, List.getElem?_eq_getElem hj] at e
  exact (List.getElem_inj hn).mp e
/-- a bar: no way -/
theorem bar_no {nd bt row : List Int} {x : Int} (h : cnt bt x < cnt nd x) : ¬ Way nd bt row := fun w => by
  have hI : ((List.range nd.length).filter fun k => decide (x ≤ at_ nd k)).Nodup := nodup_filter List.nodup_range
  have hm : (((List.range nd.length).filter fun k => decide (x ≤ at_ nd k)).map fun k => (at_ row k).toNat).Nodup := by
    rw [List.nodup_iff_pairwise_ne, List.pairwise_map]
    rw [List.nodup_iff_pairwise_ne] at hI
    refine hI.imp_of_mem fun {a b} ha hb hne e => hne ?_
    have ha := List.mem_range.mp (List.mem_filter.mp ha).1
    have hb := List.mem_range.mp (List.mem_filter.mp hb).1
    have h1 := w.rng _ (at_mem (l := row) (k := a) (by rw [w.len]; exact ha))
    have h2 := w.rng _ (at_mem (l := row) (k := b) (by rw [w.len]; exact hb))
    exact at_inj w.nodup (by rw [w.len]; exact ha) (by rw [w.len]; exact hb) (by omega)
  have := List.Nodup.length_le_of_subset hm (l₂ := (List.range bt.length).filter fun k => decide (x ≤ at_ bt k)) (fun y hy => by
    obtain ⟨k, hk, rfl⟩ := List.mem_map.mp hy
    obtain ⟨h1, h2⟩ := List.mem_filter.mp hk
    have h1 := List.mem_range.mp h1
    have h2 : x ≤ at_ nd k := by simpa using h2
    have h3 := w.rng _ (at_mem (l := row) (k := k) (by rw [w.len]; exact h1))
    have h4 := w.ok k h1
    refine List.mem_filter.mpr ⟨List.mem_range.mpr (by omega), ?_⟩
    rw [decide_eq_true_eq]
    omega)
  rw [List.length_map, cnt_range, cnt_range] at this
  omega
/-- an order of the numbers below many, values falling -/
structure Falls (l : List Int) (o : List Nat) : Prop where
  perm : o.Perm (List.range l.length)
  fall : o.Pairwise fun a b => at_ l b ≤ at_ l a
theorem Falls.len {l : List Int} {o : List Nat} (h : Falls l o) : o.length = l.length := by rw [h.perm.length_eq, List.length_range]
theorem Falls.nodup {l : List Int} {o : List Nat} (h : Falls l o) : o.Nodup := h.perm.nodup_iff.mpr List.nodup_range
theorem Falls.lt {l : List Int} {o : List Nat} (h : Falls l o) {k : Nat} (hk : k ∈ o) : k < l.length := List.mem_range.mp (h.perm.mem_iff.mp hk)
theorem Falls.mem {l : List Int} {o : List Nat} (h : Falls l o) {k : Nat} (hk : k < l.length) : k ∈ o := h.perm.mem_iff.mpr (List.mem_range.mpr hk)
theorem Falls.le {l : List Int} {o : List Nat} (h : Falls l o) {i j a b : Nat} (hij : i ≤ j) (ha : o[i]? = some a) (hb : o[j]? = some b) : at_ l b ≤ at_ l a := by
  rcases Nat.lt_or_eq_of_le hij with h1 | h1
  · obtain ⟨hi, rfl⟩ := List.getElem?_eq_some_iff.mp ha
    obtain ⟨hj, rfl⟩ := List.getElem?_eq_some_iff.mp hb
    exact List.pairwise_iff_getElem.mp h.fall i j hi hj h1
  · subst h1
    rw [ha] at hb
    cases hb
    exact Int.le_refl _
/-- where the giving stops, units that bar -/
theorem stop_bar {nd bt : List Int} {o fl : List Nat} {i k : Nat} (ho : Falls nd o) (hf : Falls bt fl) (hk : o[i]? = some k) (hs : fl.length ≤ i ∨ ∃ j, fl[i]? = some j ∧ at_ bt j < at_ nd k) : cnt bt (at_ nd k) < cnt nd (at_ nd k) := by
  have hil := (List.getElem?_eq_some_iff.mp hk).1
  have h1 : i + 1 ≤ cnt nd (at_ nd k) := by
    rw [← cnt_range]
    have := List.Nodup.length_le_of_subset (List.Nodup.sublist (List.take_sublist (i + 1) o) ho.nodup) (l₂ := (List.range nd.length).filter fun q => decide (at_ nd k ≤ at_ nd q)) (fun y hy => by
      obtain ⟨q, hq⟩ := List.mem_iff_getElem?.mp hy
      rw [List.getElem?_take] at hq
      split at hq
      · rename_i hlt
        refine List.mem_filter.mpr ⟨List.mem_range.mpr (ho.lt (List.mem_of_getElem? hq)), ?_⟩
        rw [decide_eq_true_eq]
        exact ho.le (by omega) hq hk
      · cases hq)
    rw [List.length_take] at this
    omega
  have h2 : cnt bt (at_ nd k) ≤ i := by
    rw [← cnt_range]
    have := List.Nodup.length_le_of_subset (nodup_filter (p := fun q => decide (at_ nd k ≤ at_ bt q)) (List.nodup_range (n := bt.length))) (l₂ := fl.take i) (fun y hy => by
      obtain ⟨m1, m2⟩ := List.mem_filter.mp hy
      have m1 := List.mem_range.mp m1
      have m2 : at_ nd k ≤ at_ bt y := by simpa using m2
      obtain ⟨q, hq⟩ := List.mem_iff_getElem?.mp (hf.mem m1)
      have hql := (List.getElem?_eq_some_iff.mp hq).1
      refine List.mem_iff_getElem?.mpr ⟨q, ?_⟩
      rw [List.getElem?_take, if_pos, hq]
      rcases hs with hs | ⟨j, hj, hlt⟩
      · omega
      · apply Classical.byContradiction
        intro hc
        have := hf.le (i := i) (j := q) (by omega) hj hq
        omega)
    rw [List.length_take] at this
    omega
  omega
/-- who got what, all served -/
def rowOf (o fl : List Nat) (m : Nat) : List Int := (List.range m).map fun k => ((fl.getD (o.findIdx (fun z => decide (z = k))) 0 : Nat) : Int)
theorem findIdx_at {o : List Nat} (hn : o.Nodup) {i k : Nat} (h : o[i]? = some k) : o.findIdx (fun z => decide (z = k)) = i := by
  obtain ⟨hi, rfl⟩ := List.getElem?_eq_some_iff.mp h
  rw [List.findIdx_eq hi]
  refine ⟨by simp, fun j hj => ?_⟩
  have : o[j]'(by omega) ≠ o[i] := fun e => by
    have := (List.getElem_inj hn).mp e
    omega
  simpa using this
theorem all_way {nd bt : List Int} {o fl : List Nat} (ho : Falls nd o) (hf : Falls bt fl) (hl : o.length ≤ fl.length) (hs : ∀ (i : Nat) k j, o[i]? = some k → fl[i]? = some j → at_ nd k ≤ at_ bt j) : Way nd bt (rowOf o fl nd.length) := by
  have key : ∀ k, k < nd.length → ∃ (i : Nat) (j : Nat), o[i]? = some k ∧ fl[i]? = some j ∧ at_ (rowOf o fl nd.length) k = (j : Int) := fun k hk => by
    obtain ⟨i, hi⟩ := List.mem_iff_getElem?.mp (ho.mem hk)
    have hil := (List.getElem?_eq_some_iff.mp hi).1
    have hj : fl[i]? = some (fl[i]'(by omega)) := List.getElem?_eq_getElem (by omega)
    refine ⟨i, _, hi, hj, ?_⟩
    unfold at_ rowOf
    rw [List.getD_eq_getElem?_getD, List.getElem?_map, List.getElem?_range hk]
    show ((fl.getD (o.findIdx fun z => decide (z = k)) 0 : Nat) : Int) = _
    rw [findIdx_at ho.nodup hi, List.getD_eq_getElem?_getD, hj]
    rfl
  have hlen : (rowOf o fl nd.length).length = nd.length := by simp [rowOf]
  refine ⟨hlen, ?_, fun j hj => ?_, fun k hk => ?_⟩
  · rw [List.nodup_iff_pairwise_ne, List.pairwise_iff_getElem]
    intro a b ha hb hab e
    have e1 : ∀ (q : Nat) (hq : q < (rowOf o fl nd.length).length), (rowOf o fl nd.length)[q] = at_ (rowOf o fl nd.length) q := fun q hq => by
      unfold at_
      rw [List.getD_eq_getElem?_getD, List.getElem?_eq_getElem hq]
      rfl
    rw [e1, e1] at e
    obtain ⟨i, j, h1, h2, h3⟩ := key a (by omega)
    obtain ⟨i', j', h1', h2', h3'⟩ := key b (by omega)
    rw [h3, h3'] at e
    have e : j = j' := by omega
    subst e
    obtain ⟨q1, q2⟩ := List.getElem?_eq_some_iff.mp h2
    obtain ⟨q3, q4⟩ := List.getElem?_eq_some_iff.mp h2'
    have := (List.getElem_inj hf.nodup).mp (q2.trans q4.symm)
    subst this
    rw [h1] at h1'
    cases h1'
    omega
  · obtain ⟨k, hk, rfl⟩ := List.mem_iff_getElem.mp hj
    obtain ⟨i, j, h1, h2, h3⟩ := key k (by omega)
    have e1 : (rowOf o fl nd.length)[k] = at_ (rowOf o fl nd.length) k := by
      unfold at_
      rw [List.getD_eq_getElem?_getD, List.getElem?_eq_getElem hk]
      rfl
    rw [e1, h3]
    have := hf.lt (List.mem_of_getElem? h2)
    omega
  · obtain ⟨i, j, h1, h2, h3⟩ := key k hk
    rw [h3, Int.toNat_natCast]
    exact hs i k j h1 h2
end K72
end

/- W72 -/
section
set_option maxHeartbeats 4000000
/-! Written by gen.py from the law's own text: readings of the defs, their derivations. -/
namespace K72
open PySem PySem.Spec PyProof.Rows L2 DL
def top (i : Nat) : Stmt := PySem.Challenge.pw_emberhall_k72_whole_bottles_given_or_bar.main.body.getD i (.Pass ⟨0, 0, 0, 0⟩)
def frL : List Str := ["isinstance", "int", "bool", "tuple", "len", "all", "zip", "sorted", "range", "enumerate", "str", "abs", "set", "min", "list", "ValueError"]
def isL : List (Str × Int) := [("MOST_UNITS", 300), ("MOST_USE", 20), ("MOST_WAY", 20), ("MOST_SPARE", 100), ("MOST_TEAMS", 8), ("MOST_STAY", 60), ("MOST_BOTTLES", 12)]
def ssL : List (Str × Str) := [("GIVEN_BOTTLES", "given"), ("BOTTLES_BAR", "bar")]
def xsL : List Str := ["EmberError", "NoGiven", "NoNeeds", "NoNumber", "NoTeams"]
def saidL_law_said : List (Str × PyData) := [("NoGiven", .str "given"), ("NoNeeds", .str "needs"), ("NoNumber", .str "number"), ("NoTeams", .str "teams")]
def said_law_said (y : Str) : Option PyData := saidL_law_said.lookup y
def clsL : List Str := ["NoGiven", "NoNeeds", "NoNumber", "NoTeams"]
def gloL : List Str := ["EmberError", "NoGiven", "NoNeeds", "NoNumber", "NoTeams"]
def pairL : List (Str × Str × Bool) := [("NoGiven", "NoGiven", true), ("NoGiven", "NoNeeds", false), ("NoGiven", "NoNumber", false), ("NoGiven", "NoTeams", false), ("NoNeeds", "NoGiven", false), ("NoNeeds", "NoNeeds", true), ("NoNeeds", "NoNumber", false), ("NoNeeds", "NoTeams", false), ("NoNumber", "NoGiven", false), ("NoNumber", "NoNeeds", false), ("NoNumber", "NoNumber", true), ("NoNumber", "NoTeams", false), ("NoTeams", "NoGiven", false), ("NoTeams", "NoNeeds", false), ("NoTeams", "NoNumber", false), ("NoTeams", "NoTeams", true)]
def exmL : List (Str × Str) := [("NoGiven", "EmberError"), ("NoNeeds", "EmberError"), ("NoNumber", "EmberError"), ("NoTeams", "EmberError")]
def sd_law_said_0 (a : Addr) : M Fl := (sSeq (sSet 2 (mFrz (mLst (mCons (mIsE 1 a true) (mCons (mIsE 1 a false) (mCons (mIsE 1 a false) mNil)))))) (sSeq (sSet 2 (mBin gAddA (mVar 2) (mFrz (mLst (mCons (mIsE 1 a false) mNil))))) (sSeq (sIf (mOr (mTB (mBin gNe (mMB isLst gCount (mVar 2) (mCons (mC (.bool true)) mNil)) (mC (.int 1)))) (mNot (mTst (mIsE 1 a true)))) (sRet (mC (.str "odd"))) sNext) (sRet (mBin gIx (mFrz (mLst (mCons (mC (.str "given")) (mCons (mC (.str "needs")) (mCons (mC (.str "number")) (mCons (mC (.str "teams")) mNil)))))) (mMB isLst gIndex (mVar 2) (mCons (mC (.bool true)) mNil)))))))
def sd_law_said_1 (a : Addr) : M Fl := (sSeq (sSet 2 (mFrz (mLst (mCons (mIsE 1 a false) (mCons (mIsE 1 a true) (mCons (mIsE 1 a false) mNil)))))) (sSeq (sSet 2 (mBin gAddA (mVar 2) (mFrz (mLst (mCons (mIsE 1 a false) mNil))))) (sSeq (sIf (mOr (mTB (mBin gNe (mMB isLst gCount (mVar 2) (mCons (mC (.bool true)) mNil)) (mC (.int 1)))) (mNot (mTst (mIsE 1 a true)))) (sRet (mC (.str "odd"))) sNext) (sRet (mBin gIx (mFrz (mLst (mCons (mC (.str "given")) (mCons (mC (.str "needs")) (mCons (mC (.str "number")) (mCons (mC (.str "teams")) mNil)))))) (mMB isLst gIndex (mVar 2) (mCons (mC (.bool true)) mNil)))))))
def sd_law_said_2 (a : Addr) : M Fl := (sSeq (sSet 2 (mFrz (mLst (mCons (mIsE 1 a false) (mCons (mIsE 1 a false) (mCons (mIsE 1 a true) mNil)))))) (sSeq (sSet 2 (mBin gAddA (mVar 2) (mFrz (mLst (mCons (mIsE 1 a false) mNil))))) (sSeq (sIf (mOr (mTB (mBin gNe (mMB isLst gCount (mVar 2) (mCons (mC (.bool true)) mNil)) (mC (.int 1)))) (mNot (mTst (mIsE 1 a true)))) (sRet (mC (.str "odd"))) sNext) (sRet (mBin gIx (mFrz (mLst (mCons (mC (.str "given")) (mCons (mC (.str "needs")) (mCons (mC (.str "number")) (mCons (mC (.str "teams")) mNil)))))) (mMB isLst gIndex (mVar 2) (mCons (mC (.bool true)) mNil)))))))
def sd_law_said_3 (a : Addr) : M Fl := (sSeq (sSet 2 (mFrz (mLst (mCons (mIsE 1 a false) (mCons (mIsE 1 a false) (mCons (mIsE 1 a false) mNil)))))) (sSeq (sSet 2 (mBin gAddA (mVar 2) (mFrz (mLst (mCons (mIsE 1 a true) mNil))))) (sSeq (sIf (mOr (mTB (mBin gNe (mMB isLst gCount (mVar 2) (mCons (mC (.bool true)) mNil)) (mC (.int 1)))) (mNot (mTst (mIsE 1 a true)))) (sRet (mC (.str "odd"))) sNext) (sRet (mBin gIx (mFrz (mLst (mCons (mC (.str "given")) (mCons (mC (.str "needs")) (mCons (mC (.str "number")) (mCons (mC (.str "teams")) mNil)))))) (mMB isLst gIndex (mVar 2) (mCons (mC (.bool true)) mNil)))))))
def sdL_law_said : List (Str × (Addr → M Fl)) := [("NoGiven", sd_law_said_0), ("NoNeeds", sd_law_said_1), ("NoNumber", sd_law_said_2), ("NoTeams", sd_law_said_3)]
def sd_law_said (a : Addr) (y : Str) : M Fl := match sdL_law_said.lookup y with
  | some m => m a
  | none => M.stuck
def bd_is_integer : M Fl := (sRet (mAndV (mIsi isInt (mVar 0)) (mNotV (mIsi isBool (mVar 0)))))
def bd_is_within : M Fl := (sRet (mAndV (asD (callR0 1 bd_is_integer 1 (mCons (mVar 0) mNil))) (mChn gLeA gLeA (mVar 1) (mVar 0) (mVar 2))))
def bd_is_sized : M Fl := (sRet (mAndV (mIsi isTup (mVar 0)) (mChn gLeA gLeA (mVar 1) (mCall gLen (mCons (mVar 0) mNil)) (mVar 2))))
def bd_is_team : M Fl := (sSeq (sIf (mOr (mNot (mTst (asD (callR0 3 bd_is_sized 3 (mCons (mVar 0) (mCons (mC (.int 3)) (mCons (mC (.int 3)) mNil))))))) (mOr (mNot (mTst (asD (callR0 3 bd_is_within 3 (mCons (mBin gIx (mVar 0) (mC (.int 0))) (mCons (mC (.int 1)) (mCons (mC (.int 300)) mNil))))))) (mNot (mTst (asD (callR0 3 bd_is_within 3 (mCons (mBin gIx (mVar 0) (mC (.int 1))) (mCons (mC (.int 1)) (mCons (mC (.int 20)) mNil))))))))) (sRet (mC (.bool false))) sNext) (sRet (asD (callR0 3 bd_is_within 3 (mCons (mBin gIx (mVar 0) (mC (.int 2))) (mCons (mC (.int 0)) (mCons (mC (.int 20)) mNil)))))))
def bd_check_spare : M Fl := (sIf (mNot (mTst (asD (callR0 3 bd_is_within 3 (mCons (mVar 0) (mCons (mC (.int 0)) (mCons (mC (.int 100)) mNil))))))) (sRaise ⟨"NoNumber", none⟩) sNext)
def bd_check_stays : M Fl := (sSeq (sIf (mOr (mNot (mTst (asD (callR0 3 bd_is_sized 3 (mCons (mVar 0) (mCons (mC (.int 1)) (mCons (mC (.int 8)) mNil))))))) (mNot (mTst (mCall gAllA (mCons (mFrz (mLc [4] (mItems (mVar 0)) (gNm 4) mYes (asD (callR0 1 bd_is_team 1 (mCons (mVar 4) mNil))))) mNil))))) (sRaise ⟨"NoTeams", none⟩) sNext) (sSeq (sIf (mOr (mNot (mTst (asD (callR0 3 bd_is_sized 3 (mCons (mVar 1) (mCons (mCall gLen (mCons (mVar 0) mNil)) (mCons (mCall gLen (mCons (mVar 0) mNil)) mNil))))))) (mNot (mTst (mCall gAllA (mCons (mFrz (mLc [5] (mItems (mVar 1)) (gNm 5) mYes (asD (callR0 3 bd_is_within 3 (mCons (mVar 5) (mCons (mC (.int 0)) (mCons (mC (.int 60)) mNil))))))) mNil))))) (sRaise ⟨"NoNeeds", none⟩) sNext) (sSeq (sDrop (asD (callR0 1 bd_check_spare 1 (mCons (mVar 2) mNil)))) (sIf (mOr (mNot (mTst (asD (callR0 3 bd_is_sized 3 (mCons (mVar 3) (mCons (mC (.int 0)) (mCons (mC (.int 12)) mNil))))))) (mNot (mTst (mCall gAllA (mCons (mFrz (mLc [6] (mItems (mVar 3)) (gNm 6) mYes (asD (callR0 3 bd_is_within 3 (mCons (mVar 6) (mCons (mC (.int 0)) (mCons (mC (.int 300)) mNil))))))) mNil))))) (sRaise ⟨"NoGiven", none⟩) sNext))))
def bd_bottle_needs : M Fl := (sRet (mFrz (mLc [3, 4] (mZip (mCons (mVar 0) (mCons (mVar 1) mNil))) (gTp 2 (gCons' (gNm 3) (gCons' (gNm 4) gNil'))) mYes (mBin gAddA (mBin gMulA (mBin gIx (mVar 3) (mC (.int 1))) (mBin gAddA (mBin gMulA (mC (.int 2)) (mBin gIx (mVar 3) (mC (.int 2)))) (mVar 4))) (mVar 2)))))
noncomputable def bd_bottles_told : M Fl := (sSeq (sDrop (asD (callR0 4 bd_check_stays 7 (mCons (mVar 0) (mCons (mVar 1) (mCons (mVar 2) (mCons (mVar 3) mNil))))))) (sSeq (sSet 4 (asD (callR0 3 bd_bottle_needs 5 (mCons (mVar 0) (mCons (mVar 1) (mCons (mVar 2) mNil)))))) (sSeq (sSet 5 (mFrz (mSortRg 9 (mCall gLen (mCons (mVar 0) mNil)) (mTup (mCons (mNeg (mBin gIx (mVar 4) (mVar 9))) (mCons (mVar 9) mNil)))))) (sSeq (sSet 6 (mFrz (mSortRg 9 (mCall gLen (mCons (mVar 3) mNil)) (mTup (mCons (mNeg (mBin gIx (mVar 3) (mVar 9))) (mCons (mVar 9) mNil)))))) (sSeq (sSetQ 7 mDict0) (sSeq (sFor (mEnum (mCons (mVar 5) mNil)) (gTp 2 (gCons' (gNm 8) (gCons' (gNm 9) gNil'))) (sSeq (sIf (mOr (mTB (mBin gGeA (mVar 8) (mCall gLen (mCons (mVar 6) mNil)))) (mTB (mBin gLtA (mBin gIx (mVar 3) (mBin gIx (mVar 6) (mVar 8))) (mBin gIx (mVar 4) (mVar 9))))) (sRet (mTup (mCons (mC (.str "bar")) (mCons (mBin gIx (mVar 4) (mVar 9)) mNil)))) sNext) (sDPut 7 (mVar 9) (mBin gIx (mVar 6) (mVar 8))))) (sRet (mTup (mCons (mC (.str "given")) (mCons (mCall gTup (mCons (mFrz (mLc [9] (mRange1 (mCons (mCall gLen (mCons (mVar 0) mNil)) mNil)) (gNm 9) mYes (mDGet 7 (mVar 9)))) mNil)) mNil))))))))))
def bd_is_bottles_told : M Fl := (sSeq (sDrop (asD (callR0 4 bd_check_stays 7 (mCons (mVar 0) (mCons (mVar 1) (mCons (mVar 2) (mCons (mVar 3) mNil))))))) (sSeq (sSet 5 (asD (callR0 3 bd_bottle_needs 5 (mCons (mVar 0) (mCons (mVar 1) (mCons (mVar 2) mNil)))))) (sSeq (sIf (mOr (mNot (mTst (asD (callR0 3 bd_is_sized 3 (mCons (mVar 4) (mCons (mC (.int 2)) (mCons (mC (.int 2)) mNil))))))) (mNot (mTst (mIsi isStr (mBin gIx (mVar 4) (mC (.int 0))))))) (sRet (mC (.bool false))) sNext) (sSeq (sIf (mTB (mBin gEq (mBin gIx (mVar 4) (mC (.int 0))) (mC (.str "bar")))) (sSeq (sIf (mOr (mNot (mTst (asD (callR0 1 bd_is_integer 1 (mCons (mBin gIx (mVar 4) (mC (.int 1))) mNil))))) (mTB (mBin gLtA (mBin gIx (mVar 4) (mC (.int 1))) (mC (.int 0))))) (sRet (mC (.bool false))) sNext) (sRet (mBin gGtA (mCall gLen (mCons (mFrz (mLc [7] (mItems (mVar 5)) (gNm 7) (mTB (mBin gGeA (mVar 7) (mBin gIx (mVar 4) (mC (.int 1))))) (mVar 7))) mNil)) (mCall gLen (mCons (mFrz (mLc [6] (mItems (mVar 3)) (gNm 6) (mTB (mBin gGeA (mVar 6) (mBin gIx (mVar 4) (mC (.int 1))))) (mVar 6))) mNil))))) sNext) (sSeq (sIf (mOr (mTB (mBin gNe (mBin gIx (mVar 4) (mC (.int 0))) (mC (.str "given")))) (mNot (mTst (asD (callR0 3 bd_is_sized 3 (mCons (mBin gIx (mVar 4) (mC (.int 1))) (mCons (mCall gLen (mCons (mVar 0) mNil)) (mCons (mCall gLen (mCons (mVar 0) mNil)) mNil)))))))) (sRet (mC (.bool false))) sNext) (sSeq (sIf (mNot (mTst (mCall gAllA (mCons (mFrz (mLc [6] (mItems (mBin gIx (mVar 4) (mC (.int 1)))) (gNm 6) mYes (asD (callR0 3 bd_is_within 3 (mCons (mVar 6) (mCons (mC (.int 0)) (mCons (mBin DL.gSub (mCall gLen (mCons (mVar 3) mNil)) (mC (.int 1))) mNil))))))) mNil)))) (sRet (mC (.bool false))) sNext) (sSeq (sIf (mTB (mBin gNe (mLenDc [6] (mItems (mBin gIx (mVar 4) (mC (.int 1)))) (gNm 6) mYes (mVar 6)) (mCall gLen (mCons (mVar 0) mNil)))) (sRet (mC (.bool false))) sNext) (sRet (mCall gAllA (mCons (mFrz (mLc [6, 7] (mZip (mCons (mBin gIx (mVar 4) (mC (.int 1))) (mCons (mVar 5) mNil))) (gTp 2 (gCons' (gNm 6) (gCons' (gNm 7) gNil'))) mYes (mBin gGeA (mBin gIx (mVar 3) (mVar 6)) (mVar 7)))) mNil))))))))))
def bd__law_hand : M Fl := (sSeq (sSetO 1 (mLc [2] (mItems (mSl (mVar 0) none (some (mC (.int 63))))) (gNm 2) mYes (mBin gMod (mCall gInt (mCons (mCall gAbs (mCons (mCall gInt (mCons (mVar 2) mNil)) mNil)) mNil)) (mBin gPow (mC (.int 10)) (mC (.int 36)))))) (sRetO (mLst (mCons (mVar 1) (mCons (mC (.int 0)) (mCons (mC (.int 0)) (mCons (mBin gAddA (mC (.int 463)) (mBin gMulA (mC (.int 347)) (mCall gLen (mCons (mVar 1) mNil)))) (mCons (mC (.int 0)) mNil))))))))
def bd__law_draw : M Fl := (sSeq (sIf (mAnd (mTB (mBin gEq (mBin gIx (mVar 0) (mC (.int 2))) (mC (.int 0)))) (mTB (mBin gLtA (mBin gIx (mVar 0) (mC (.int 1))) (mCall gLen (mCons (mBin gIx (mVar 0) (mC (.int 0))) mNil))))) (sSeq (sSet 2 (mBin gIx (mBin gIx (mVar 0) (mC (.int 0))) (mBin gIx (mVar 0) (mC (.int 1))))) (sSeq (sSetS 0 (mBin gAddA (mBin gIx (mVar 0) (mC (.int 1))) (mC (.int 1))) (mC (.int 1))) (sSeq (sSetS 0 (mBin gMod (mCall gInt (mCons (mBin gAddA (mBin gAddA (mBin gMulA (mBin gIx (mVar 0) (mC (.int 3))) (mC (.int 69621))) (mBin gMulA (mVar 2) (mC (.int 48271)))) (mC (.int 17))) mNil)) (mC (.int 2147483629))) (mC (.int 3))) (sIf (mTB (mBin gGeA (mVar 2) (mBin gPow (mC (.int 10)) (mC (.int 18))))) (sSetS 0 (mVar 2) (mC (.int 2))) sNext)))) sNext) (sSeq (sIf (mTB (mBin gGtA (mBin gIx (mVar 0) (mC (.int 2))) (mC (.int 0)))) (sSeq (sSet 3 (mBin gMod (mCall gInt (mCons (mBin gIx (mVar 0) (mC (.int 2))) mNil)) (mVar 1))) (sSeq (sSetS 0 (mBin DL.gDiv (mBin gIx (mVar 0) (mC (.int 2))) (mVar 1)) (mC (.int 2))) (sRet (mVar 3)))) sNext) (sSeq (sSetS 0 (mBin gAddA (mBin gIx (mVar 0) (mC (.int 4))) (mC (.int 1))) (mC (.int 4))) (sSeq (sSet 4 (mBin gMod (mCall gInt (mCons (mBin gMulA (mCall gInt (mCons (mBin gAddA (mBin gIx (mVar 0) (mC (.int 3))) (mBin gMulA (mC (.int 7919)) (mBin gIx (mVar 0) (mC (.int 4))))) mNil)) (mC (.int 40692))) mNil)) (mC (.int 2147483647)))) (sSeq (sSet 4 (mBin gMod (mCall gInt (mCons (mBin gMulA (mVar 4) (mBin gAddA (mBin DL.gDiv (mVar 4) (mC (.int 1009))) (mC (.int 69621)))) mNil)) (mC (.int 2147483647)))) (sSeq (sSet 4 (mBin gMod (mCall gInt (mCons (mBin gMulA (mVar 4) (mBin gAddA (mBin DL.gDiv (mVar 4) (mC (.int 2003))) (mC (.int 40014)))) mNil)) (mC (.int 2147483563)))) (sRet (mBin gMod (mCall gInt (mCons (mBin DL.gDiv (mVar 4) (mC (.int 16))) mNil)) (mVar 1)))))))))
def bd__law_any : M Fl := (sRet (mBin gIx (mVar 1) (asD (callR1 2 bd__law_draw 5 0 (mCons (mVar 0) (mCons (mCall gLen (mCons (mVar 1) mNil)) mNil))))))
def bd__law_team : M Fl := (sRet (mTup (mCons (mBin gAddA (mC (.int 1)) (asD (callR1 2 bd__law_draw 5 0 (mCons (mVar 0) (mCons (mC (.int 90)) mNil))))) (mCons (mBin gAddA (mC (.int 1)) (asD (callR1 2 bd__law_draw 5 0 (mCons (mVar 0) (mCons (mC (.int 6)) mNil))))) (mCons (asD (callR1 2 bd__law_draw 5 0 (mCons (mVar 0) (mCons (mC (.int 6)) mNil)))) mNil)))))
def bd__law_bad_teams : M Fl := (sSeq (sSet 1 (mFrz (mLst (mCons (mC .none) (mCons (mTup mNil) (mCons (mFrz (mLst (mCons (mTup (mCons (mC (.int 1)) (mCons (mC (.int 1)) (mCons (mC (.int 1)) mNil)))) mNil))) (mCons (mTup (mCons (mTup (mCons (mC (.int 0)) (mCons (mC (.int 1)) (mCons (mC (.int 1)) mNil)))) mNil)) (mCons (mTup (mCons (mTup (mCons (mC (.int 301)) (mCons (mC (.int 1)) (mCons (mC (.int 1)) mNil)))) mNil)) (mCons (mTup (mCons (mTup (mCons (mC (.int 1)) (mCons (mC (.int 0)) (mCons (mC (.int 1)) mNil)))) mNil)) (mCons (mTup (mCons (mTup (mCons (mC (.int 1)) (mCons (mC (.int 21)) (mCons (mC (.int 1)) mNil)))) mNil)) (mCons (mTup (mCons (mTup (mCons (mC (.int 1)) (mCons (mC (.int 1)) (mCons (mC (.int 21)) mNil)))) mNil)) (mCons (mTup (mCons (mTup (mCons (mC (.int 1)) (mCons (mC (.int 1)) mNil))) mNil)) mNil)))))))))))) (sRet (asD (callR1 2 bd__law_any 2 0 (mCons (mVar 0) (mCons (mBin gAddA (mVar 1) (mFrz (mLst (mCons (mTup (mCons (mTup (mCons (mC (.bool true)) (mCons (mC (.int 1)) (mCons (mC (.int 1)) mNil)))) mNil)) (mCons (mBin gMulB (mTup (mCons (mTup (mCons (mC (.int 5)) (mCons (mC (.int 5)) (mCons (mC (.int 5)) mNil)))) mNil)) (mC (.int 9))) (mCons (mC (.int 0)) (mCons (mTup (mCons (mC (.int 5)) (mCons (mC (.int 5)) (mCons (mC (.int 5)) mNil)))) mNil))))))) mNil))))))
def bd__law_bad_spare : M Fl := (sRet (asD (callR1 2 bd__law_any 2 0 (mCons (mVar 0) (mCons (mFrz (mLst (mCons (mNeg (mC (.int 1))) (mCons (mC (.int 101)) (mCons (mC .none) (mCons (mC (.bool true)) (mCons (mC (.str "5")) mNil))))))) mNil)))))
def bd__law_is_told : M Fl := (sSeq (sIf (mOr (mNot (mTst (mIsi isTup (mVar 2)))) (mOr (mTB (mBin gNe (mCall gLen (mCons (mVar 2) mNil)) (mC (.int 2)))) (mNot (mTst (mIsi isStr (mBin gIx (mVar 2) (mC (.int 0)))))))) (sRet (mC (.bool false))) sNext) (sSeq (sIf (mTB (mBin gEq (mBin gIx (mVar 2) (mC (.int 0))) (mC (.str "bar")))) (sSeq (sIf (mOr (mNot (mTst (mIsi isInt (mBin gIx (mVar 2) (mC (.int 1)))))) (mOr (mTst (mIsi isBool (mBin gIx (mVar 2) (mC (.int 1))))) (mTB (mBin gLtA (mBin gIx (mVar 2) (mC (.int 1))) (mC (.int 0)))))) (sRet (mC (.bool false))) sNext) (sSeq (sSet 3 (mCall gLen (mCons (mFrz (mLc [4] (mItems (mVar 0)) (gNm 4) (mTB (mBin gGeA (mVar 4) (mBin gIx (mVar 2) (mC (.int 1))))) (mVar 4))) mNil))) (sRet (mBin gGtA (mVar 3) (mCall gLen (mCons (mFrz (mLc [4] (mItems (mVar 1)) (gNm 4) (mTB (mBin gGeA (mVar 4) (mBin gIx (mVar 2) (mC (.int 1))))) (mVar 4))) mNil)))))) sNext) (sSeq (sIf (mOr (mTB (mBin gNe (mBin gIx (mVar 2) (mC (.int 0))) (mC (.str "given")))) (mOr (mNot (mTst (mIsi isTup (mBin gIx (mVar 2) (mC (.int 1)))))) (mTB (mBin gNe (mCall gLen (mCons (mBin gIx (mVar 2) (mC (.int 1))) mNil)) (mCall gLen (mCons (mVar 0) mNil)))))) (sRet (mC (.bool false))) sNext) (sSeq (sIf (mNot (mTst (mCall gAllA (mCons (mFrz (mLc [4] (mItems (mBin gIx (mVar 2) (mC (.int 1)))) (gNm 4) mYes (mAndV (mIsi isInt (mVar 4)) (mAndV (mNotV (mIsi isBool (mVar 4))) (mChn gLeA gLtA (mC (.int 0)) (mVar 4) (mCall gLen (mCons (mVar 1) mNil))))))) mNil)))) (sRet (mC (.bool false))) sNext) (sRet (mAndV (mBin gEq (mUn gLenSet (mBin gIx (mVar 2) (mC (.int 1)))) (mCall gLen (mCons (mVar 0) mNil))) (mCall gAllA (mCons (mFrz (mLc [5, 4] (mZip (mCons (mBin gIx (mVar 2) (mC (.int 1))) (mCons (mVar 0) mNil))) (gTp 2 (gCons' (gNm 5) (gCons' (gNm 4) gNil'))) mYes (mBin gGeA (mBin gIx (mVar 1) (mVar 5)) (mVar 4)))) mNil))))))))
def bd__law_ways : M Fl := (sSeq (sSet 2 (mFrz (mLst (mCons (mTup mNil) mNil)))) (sSeq (sFor (mItems (mVar 0)) (gNm 3) (sSeq (sSetO 5 (mLst mNil)) (sSeq (sFor (mItems (mVar 2)) (gNm 4) (sDrop (mMeth 5 fExtend (mCons (mFrz (mLc [6, 7] (mEnum (mCons (mVar 1) mNil)) (gTp 2 (gCons' (gNm 6) (gCons' (gNm 7) gNil'))) (mAnd (mTB (mBin gGeA (mVar 7) (mVar 3))) (mTB (mBin gNotIn (mVar 6) (mVar 4)))) (mBin gAddA (mVar 4) (mTup (mCons (mVar 6) mNil))))) mNil)))) (sSet 2 (mVar 5))))) (sRet (mVar 2))))
noncomputable def bd_law : M Fl := (sSeq (sSetO 1 (asO (callR0 1 bd__law_hand 3 (mCons (mVar 0) mNil)))) (sSeq (sFor (mRange1 (mCons (mC (.int 5)) mNil)) (gNm 2) (sSeq (sSet 19 (mCall gTup (mCons (mFrz (mLc [20] (mRange1 (mCons (mBin gAddA (mC (.int 1)) (asD (callR1 2 bd__law_draw 5 0 (mCons (mVar 1) (mCons (mC (.int 4)) mNil))))) mNil)) (gNm 20) mYes (asD (callR1 1 bd__law_team 1 0 (mCons (mVar 1) mNil))))) mNil))) (sSeq (sAsg (gTp 2 (gCons' (gNm 17) (gCons' (gNm 18) gNil'))) (mTup (mCons (mCall gTup (mCons (mFrz (mLc [20] (mItems (mVar 19)) (gNm 20) mYes (asD (callR1 2 bd__law_draw 5 0 (mCons (mVar 1) (mCons (mC (.int 10)) mNil)))))) mNil)) (mCons (asD (callR1 2 bd__law_draw 5 0 (mCons (mVar 1) (mCons (mC (.int 20)) mNil)))) mNil)))) (sSeq (sSetO 16 (mLc [20, 21] (mZip (mCons (mVar 19) (mCons (mVar 17) mNil))) (gTp 2 (gCons' (gNm 20) (gCons' (gNm 21) gNil'))) mYes (mBin gAddA (mBin gMulA (mBin gIx (mVar 20) (mC (.int 1))) (mBin gAddA (mBin gMulA (mC (.int 2)) (mBin gIx (mVar 20) (mC (.int 2)))) (mVar 21))) (mVar 18)))) (sSeq (sSetO 14 (mLst mNil)) (sSeq (sFor (mRange1 (mCons (asD (callR1 2 bd__law_draw 5 0 (mCons (mVar 1) (mCons (mC (.int 6)) mNil)))) mNil)) (gNm 15) (sDrop (mMeth 14 fAppend (mCons (mCall gMinB (mCons (mC (.int 300)) (mCons (mBin gAddA (asD (callR1 2 bd__law_any 2 0 (mCons (mVar 1) (mCons (mBin gAddA (mVar 16) (mFrz (mLst (mCons (asD (callR1 2 bd__law_draw 5 0 (mCons (mVar 1) (mCons (mC (.int 120)) mNil)))) mNil)))) mNil)))) (asD (callR1 2 bd__law_draw 5 0 (mCons (mVar 1) (mCons (mC (.int 3)) mNil))))) mNil))) mNil)))) (sSeq (sSet 14 (mCall gTup (mCons (mVar 14) mNil))) (sSeq (sSet 13 (asD (callR0 2 bd__law_ways 8 (mCons (mVar 16) (mCons (mVar 14) mNil))))) (sSeq (sSet 12 (asD (callR0 4 bd_bottles_told 10 (mCons (mVar 19) (mCons (mVar 17) (mCons (mVar 18) (mCons (mVar 14) mNil))))))) (sSeq (sIf (mOr (mTB (mBin gNe (mBin gEq (mBin gIx (mVar 12) (mC (.int 0))) (mC (.str "given"))) (mBin gNe (mVar 13) (mFrz (mLst mNil))))) (mNot (mTst (asD (callR0 3 bd__law_is_told 6 (mCons (mVar 16) (mCons (mVar 14) (mCons (mVar 12) mNil)))))))) (sRet (mC (.bool false))) sNext) (sSeq (sSet 11 (mFrz (mLst (mCons (mVar 12) (mCons (mFrz (mCallL gLst (mCons (mVar 12) mNil))) (mCons (mSl (mVar 12) none (some (mC (.int 1)))) (mCons (mC .none) (mCons (mTup (mCons (mC (.str "bar")) (mCons (mC (.int 0)) mNil))) (mCons (mTup (mCons (mC (.str "bar")) (mCons (mC (.bool true)) mNil))) (mCons (mTup (mCons (mC (.str "given")) (mCons (mBin gMulB (mTup (mCons (mC (.int 0)) mNil)) (mCall gLen (mCons (mVar 19) mNil))) mNil))) mNil)))))))))) (sSeq (sSet 11 (mBin gAddA (mVar 11) (mFrz (mLst (mCons (mTup (mCons (mC (.str "given")) (mCons (mTup mNil) mNil))) (mCons (mC (.int 0)) mNil)))))) (sSeq (sSet 11 (mBin gAddA (mBin gAddA (mBin gAddA (mVar 11) (mFrz (mLc [22] (mItems (mVar 16)) (gNm 22) mYes (mTup (mCons (mC (.str "bar")) (mCons (mVar 22) mNil)))))) (mFrz (mLc [22] (mItems (mVar 16)) (gNm 22) mYes (mTup (mCons (mC (.str "bar")) (mCons (mBin gAddA (mVar 22) (mC (.int 1))) mNil)))))) (mFrz (mLst (mCons (mTup (mCons (mC (.str "Bar")) (mCons (mBin gIx (mVar 12) (mC (.int 1))) mNil))) mNil))))) (sSeq (sFor (mItems (mSl (mVar 13) none (some (mC (.int 4))))) (gNm 10) (sSet 11 (mBin gAddA (mVar 11) (mFrz (mLst (mCons (mTup (mCons (mC (.str "given")) (mCons (mVar 10) mNil))) (mCons (mTup (mCons (mC (.str "given")) (mCons (mRev (mVar 10)) mNil))) (mCons (mTup (mCons (mC (.str "given")) (mCons (mBin gAddA (mVar 10) (mTup (mCons (mC (.int 0)) mNil))) mNil))) mNil)))))))) (sSeq (sFor (mItems (mVar 11)) (gNm 9) (sIf (mTB (mBin gNe (asD (callR0 5 bd_is_bottles_told 8 (mCons (mVar 19) (mCons (mVar 17) (mCons (mVar 18) (mCons (mVar 14) (mCons (mVar 9) mNil))))))) (asD (callR0 3 bd__law_is_told 6 (mCons (mVar 16) (mCons (mVar 14) (mCons (mVar 9) mNil))))))) (sRet (mC (.bool false))) sNext)) (sSeq (sIf (mAnd (mTB (mBin gEq (mBin gIx (mVar 12) (mC (.int 0))) (mC (.str "given")))) (mTB (mBin gNe (mBin gIx (asD (callR0 4 bd_bottles_told 10 (mCons (mVar 19) (mCons (mVar 17) (mCons (mVar 18) (mCons (mBin gAddA (mVar 14) (mTup (mCons (mC (.int 5)) mNil))) mNil)))))) (mC (.int 0))) (mC (.str "given"))))) (sRet (mC (.bool false))) sNext) (sSeq (sIf (mAnd (mTB (mBin gEq (mBin gIx (mVar 12) (mC (.int 0))) (mC (.str "bar")))) (mTB (mBin gNe (mBin gIx (asD (callR0 4 bd_bottles_told 10 (mCons (mVar 19) (mCons (mVar 17) (mCons (mBin gAddA (mVar 18) (mC (.int 1))) (mCons (mVar 14) mNil)))))) (mC (.int 0))) (mC (.str "bar"))))) (sRet (mC (.bool false))) sNext) (sSeq (sAsg (gTp 3 (gCons' (gNm 6) (gCons' (gNm 7) (gCons' (gNm 8) gNil')))) (mTup (mCons (asD (callR1 1 bd__law_bad_teams 2 0 (mCons (mVar 1) mNil))) (mCons (asD (callR1 1 bd__law_bad_spare 1 0 (mCons (mVar 1) mNil))) (mCons (mCall gLen (mCons (mVar 19) mNil)) mNil))))) (sSeq (sSet 5 (asD (callR1 2 bd__law_any 2 0 (mCons (mVar 1) (mCons (mFrz (mLst (mCons (mC .none) (mCons (mBin gAddA (mVar 17) (mTup (mCons (mC (.int 0)) mNil))) (mCons (mFrz (mCallL gLst (mCons (mVar 17) mNil))) (mCons (mBin gMulB (mTup (mCons (mC (.int 61)) mNil)) (mVar 8)) (mCons (mBin gMulB (mTup (mCons (mNeg (mC (.int 1))) mNil)) (mVar 8)) (mCons (mBin gMulB (mTup (mCons (mC (.bool true)) mNil)) (mVar 8)) (mCons (mC (.int 0)) mNil))))))))) mNil))))) (sSeq (sSet 4 (asD (callR1 2 bd__law_any 2 0 (mCons (mVar 1) (mCons (mFrz (mLst (mCons (mC .none) (mCons (mFrz (mLst (mCons (mC (.int 5)) mNil))) (mCons (mTup (mCons (mC (.int 301)) mNil)) (mCons (mTup (mCons (mNeg (mC (.int 1))) mNil)) (mCons (mBin gMulB (mTup (mCons (mC (.int 5)) mNil)) (mC (.int 13))) (mCons (mTup (mCons (mC (.bool true)) mNil)) (mCons (mC (.int 0)) mNil))))))))) mNil))))) (sSeq (sSetO 3 (mLst (mCons (mSaid said_law_said (asD (callR0 4 bd_bottles_told 10 (mCons (mVar 6) (mCons (mVar 5) (mCons (mVar 7) (mCons (mVar 4) mNil))))))) mNil))) (sSeq (sSetO 3 (mBinL gCat (mVar 3) (mFrz (mLst (mCons (mSaid said_law_said (asD (callR0 4 bd_bottles_told 10 (mCons (mVar 19) (mCons (mVar 5) (mCons (mVar 7) (mCons (mVar 4) mNil))))))) mNil))))) (sSeq (sSetO 3 (mBinL gCat (mVar 3) (mFrz (mLst (mCons (mSaid said_law_said (asD (callR0 4 bd_bottles_told 10 (mCons (mVar 19) (mCons (mVar 17) (mCons (mVar 7) (mCons (mVar 4) mNil))))))) mNil))))) (sSeq (sSetO 3 (mBinL gCat (mVar 3) (mFrz (mLst (mCons (mSaid said_law_said (asD (callR0 4 bd_bottles_told 10 (mCons (mVar 19) (mCons (mVar 17) (mCons (mVar 18) (mCons (mVar 4) mNil))))))) mNil))))) (sSeq (sDrop (mMeth 3 fAppend (mCons (mSaid said_law_said (asD (callR0 5 bd_is_bottles_told 8 (mCons (mVar 19) (mCons (mVar 17) (mCons (mVar 7) (mCons (mVar 4) (mCons (mC .none) mNil)))))))) mNil))) (sIf (mTB (mBin gNe (mVar 3) (mFrz (mLst (mCons (mC (.str "teams")) (mCons (mC (.str "needs")) (mCons (mC (.str "number")) (mCons (mC (.str "given")) (mCons (mC (.str "number")) mNil))))))))) (sRet (mC (.bool false))) sNext)))))))))))))))))))))))))) (sRet (mBin gEq (asD (callR0 4 bd_bottles_told 10 (mCons (mTup (mCons (mTup (mCons (mC (.int 100)) (mCons (mC (.int 5)) (mCons (mC (.int 4)) mNil)))) mNil)) (mCons (mTup (mCons (mC (.int 2)) mNil)) (mCons (mC (.int 10)) (mCons (mTup (mCons (mC (.int 60)) (mCons (mC (.int 59)) mNil))) mNil)))))) (mTup (mCons (mC (.str "given")) (mCons (mTup (mCons (mC (.int 0)) mNil)) mNil)))))))
section
variable {P : Program} {w : World} {K : PySem.W.Frag} {mg : Str → Option Value} {base : Heap} {T : List (Addr × Str)}
theorem sc_is_integer : FnScope ["thing"] ["thing"] (defScope (top 1)) := ⟨rfl, rfl, rfl, by decide +kernel, rfl, by decide +kernel, by decide +kernel⟩
theorem w_is_integer (L : Lw K mg frL isL ssL xsL)  (f : Addr) (cdv : Value) (A : Around) (outer : List Env) (s : Shared) (H : Hp) (E : XK) (hr : Room 0 (A.deeper (envOfC "is_integer" (defScope (top 1)) s.heap.objs.size f cdv))) : DSs (bodyCx P w K mg base ["thing"] "is_integer" (defScope (top 1)) f cdv A outer s H E) T (fun cls d _ H => E cls d H) (defBody (top 1)) bd_is_integer :=
  (dss_one (ds_ret (de_and (de_isi kit_int (de_var rfl (vis_b rfl)) rfl (L.fr 0 _ rfl) rfl (L.fr 1 _ rfl) rfl) (de_one (de_not (de_isi kit_bool (de_var rfl (vis_b rfl)) rfl (L.fr 0 _ rfl) rfl (L.fr 2 _ rfl) rfl))))))
theorem sc_is_within : FnScope ["thing", "low", "high"] ["thing", "low", "high"] (defScope (top 2)) := ⟨rfl, rfl, rfl, by decide +kernel, rfl, by decide +kernel, by decide +kernel⟩
theorem w_is_within (L : Lw K mg frL isL ssL xsL) (F_is_integer : FnD P w K mg base T 1 "is_integer" 1 ["thing"] bd_is_integer) (f : Addr) (cdv : Value) (A : Around) (outer : List Env) (s : Shared) (H : Hp) (E : XK) (hr : Room 1 (A.deeper (envOfC "is_within" (defScope (top 2)) s.heap.objs.size f cdv))) : DSs (bodyCx P w K mg base ["thing", "low", "high"] "is_within" (defScope (top 2)) f cdv A outer s H E) T (fun cls d _ H => E cls d H) (defBody (top 2)) bd_is_within :=
  (dss_one (ds_ret (de_and (de_v (dv_call0 (FnD.mono (k := 1) F_is_integer (by decide)) hr (takes_of rfl rfl rfl rfl) rfl (da_cons (de_var rfl (vis_b rfl)) da_nil))) (de_one (de_chn (o_leA (rm1 hr)) (o_leA (rm1 hr)) (de_var rfl (vis_b rfl)) (de_var rfl (vis_b rfl)) (de_var rfl (vis_b rfl)))))))
theorem sc_is_sized : FnScope ["thing", "low", "high"] ["thing", "low", "high"] (defScope (top 3)) := ⟨rfl, rfl, rfl, by decide +kernel, rfl, by decide +kernel, by decide +kernel⟩
theorem w_is_sized (L : Lw K mg frL isL ssL xsL)  (f : Addr) (cdv : Value) (A : Around) (outer : List Env) (s : Shared) (H : Hp) (E : XK) (hr : Room 0 (A.deeper (envOfC "is_sized" (defScope (top 3)) s.heap.objs.size f cdv))) : DSs (bodyCx P w K mg base ["thing", "low", "high"] "is_sized" (defScope (top 3)) f cdv A outer s H E) T (fun cls d _ H => E cls d H) (defBody (top 3)) bd_is_sized :=
  (dss_one (ds_ret (de_and (de_isi kit_tuple (de_var rfl (vis_b rfl)) rfl (L.fr 0 _ rfl) rfl (L.fr 3 _ rfl) rfl) (de_one (de_chn (o_leA (rm1 hr)) (o_leA (rm1 hr)) (de_var rfl (vis_b rfl)) (de_callB c_len rfl (L.fr 4 _ rfl) (by decide +kernel) (da_cons (de_var rfl (vis_b rfl)) da_nil)) (de_var rfl (vis_b rfl)))))))
theorem sc_is_team : FnScope ["thing"] ["thing"] (defScope (top 20)) := ⟨rfl, rfl, rfl, by decide +kernel, rfl, by decide +kernel, by decide +kernel⟩
theorem w_is_team (L : Lw K mg frL isL ssL xsL) (F_is_within : FnD P w K mg base T 2 "is_within" 3 ["thing", "low", "high"] bd_is_within) (F_is_sized : FnD P w K mg base T 1 "is_sized" 3 ["thing", "low", "high"] bd_is_sized) (f : Addr) (cdv : Value) (A : Around) (outer : List Env) (s : Shared) (H : Hp) (E : XK) (hr : Room 2 (A.deeper (envOfC "is_team" (defScope (top 20)) s.heap.objs.size f cdv))) : DSs (bodyCx P w K mg base ["thing"] "is_team" (defScope (top 20)) f cdv A outer s H E) T (fun cls d _ H => E cls d H) (defBody (top 20)) bd_is_team :=
  (dss_cons (ds_if (dt_w (dw_or (dt_not (dt_tru (de_v (dv_call0 (FnD.mono (k := 2) F_is_sized (by decide)) hr (takes_of rfl rfl rfl rfl) rfl (da_cons (de_var rfl (vis_b rfl)) (da_cons de_int (da_cons de_int da_nil))))))) (dw_or (dt_not (dt_tru (de_v (dv_call0 (FnD.mono (k := 2) F_is_within (by decide)) hr (takes_of rfl rfl rfl rfl) rfl (da_cons (de_ix (de_var rfl (vis_b rfl)) de_int) (da_cons de_int (da_cons (de_globI rfl (L.is 0 _ _ rfl)) da_nil))))))) (dw_or1 (dt_not (dt_tru (de_v (dv_call0 (FnD.mono (k := 2) F_is_within (by decide)) hr (takes_of rfl rfl rfl rfl) rfl (da_cons (de_ix (de_var rfl (vis_b rfl)) de_int) (da_cons de_int (da_cons (de_globI rfl (L.is 1 _ _ rfl)) da_nil))))))))))) (dss_one (ds_ret de_bl)) dss_nil) (dss_one (ds_ret (de_v (dv_call0 (FnD.mono (k := 2) F_is_within (by decide)) hr (takes_of rfl rfl rfl rfl) rfl (da_cons (de_ix (de_var rfl (vis_b rfl)) de_int) (da_cons de_int (da_cons (de_globI rfl (L.is 2 _ _ rfl)) da_nil))))))))
theorem sc_check_spare : FnScope ["spare"] ["spare"] (defScope (top 21)) := ⟨rfl, rfl, rfl, by decide +kernel, rfl, by decide +kernel, by decide +kernel⟩
theorem w_check_spare (L : Lw K mg frL isL ssL xsL) (F_is_within : FnD P w K mg base T 2 "is_within" 3 ["thing", "low", "high"] bd_is_within) (f : Addr) (cdv : Value) (A : Around) (outer : List Env) (s : Shared) (H : Hp) (E : XK) (hr : Room 2 (A.deeper (envOfC "check_spare" (defScope (top 21)) s.heap.objs.size f cdv))) : DSs (bodyCx P w K mg base ["spare"] "check_spare" (defScope (top 21)) f cdv A outer s H E) T (fun cls d _ H => E cls d H) (defBody (top 21)) bd_check_spare :=
  (dss_one (ds_if (dt_not (dt_tru (de_v (dv_call0 (FnD.mono (k := 2) F_is_within (by decide)) hr (takes_of rfl rfl rfl rfl) rfl (da_cons (de_var rfl (vis_b rfl)) (da_cons de_int (da_cons (de_globI rfl (L.is 3 _ _ rfl)) da_nil))))))) (dss_one (ds_raise0 (L.xs 3 _ rfl) rfl rfl (takes_of rfl rfl rfl rfl))) dss_nil))
theorem sc_check_stays : FnScope ["teams", "stays", "spare", "bottles", "team", "stay", "one"] ["teams", "stays", "spare", "bottles"] (defScope (top 22)) := ⟨rfl, rfl, rfl, by decide +kernel, rfl, by decide +kernel, by decide +kernel⟩
theorem w_check_stays (L : Lw K mg frL isL ssL xsL) (F_is_within : FnD P w K mg base T 2 "is_within" 3 ["thing", "low", "high"] bd_is_within) (F_is_sized : FnD P w K mg base T 1 "is_sized" 3 ["thing", "low", "high"] bd_is_sized) (F_is_team : FnD P w K mg base T 3 "is_team" 1 ["thing"] bd_is_team) (F_check_spare : FnD P w K mg base T 3 "check_spare" 1 ["spare"] bd_check_spare) (f : Addr) (cdv : Value) (A : Around) (outer : List Env) (s : Shared) (H : Hp) (E : XK) (hr : Room 3 (A.deeper (envOfC "check_stays" (defScope (top 22)) s.heap.objs.size f cdv))) : DSs (bodyCx P w K mg base ["teams", "stays", "spare", "bottles", "team", "stay", "one"] "check_stays" (defScope (top 22)) f cdv A outer s H E) T (fun cls d _ H => E cls d H) (defBody (top 22)) bd_check_stays :=
  (dss_cons (ds_if (dt_w (dw_or (dt_not (dt_tru (de_v (dv_call0 (FnD.mono (k := 3) F_is_sized (by decide)) hr (takes_of rfl rfl rfl rfl) rfl (da_cons (de_var rfl (vis_b rfl)) (da_cons de_int (da_cons (de_globI rfl (L.is 4 _ _ rfl)) da_nil))))))) (dw_or1 (dt_not (dt_tru (de_callB (c_allA rfl) rfl (L.fr 5 _ rfl) (by decide +kernel) (da_cons (de_frz (do_lc (own := [("team", 4)]) rfl sc_check_stays.nd (di_seq (de_var rfl (vis_b rfl))) (blkOk_by rfl) ⟨fun s H C cl fp => (dg_nm sc_check_stays.nd rfl (loc_b rfl) (by decide)), fun s H C cl fp => dts_nil, fun s H C cl fp => (de_v (dv_call0 (FnD.mono (k := 3) F_is_team (by decide)) hr LamX.takes0 rfl (da_cons (de_var rfl (vis_b rfl)) da_nil)))⟩ noj_items)) da_nil))))))) (dss_one (ds_raise0 (L.xs 4 _ rfl) rfl rfl (takes_of rfl rfl rfl rfl))) dss_nil) (dss_cons (ds_if (dt_w (dw_or (dt_not (dt_tru (de_v (dv_call0 (FnD.mono (k := 3) F_is_sized (by decide)) hr (takes_of rfl rfl rfl rfl) rfl (da_cons (de_var rfl (vis_b rfl)) (da_cons (de_callB c_len rfl (L.fr 4 _ rfl) (by decide +kernel) (da_cons (de_var rfl (vis_b rfl)) da_nil)) (da_cons (de_callB c_len rfl (L.fr 4 _ rfl) (by decide +kernel) (da_cons (de_var rfl (vis_b rfl)) da_nil)) da_nil))))))) (dw_or1 (dt_not (dt_tru (de_callB (c_allA rfl) rfl (L.fr 5 _ rfl) (by decide +kernel) (da_cons (de_frz (do_lc (own := [("stay", 5)]) rfl sc_check_stays.nd (di_seq (de_var rfl (vis_b rfl))) (blkOk_by rfl) ⟨fun s H C cl fp => (dg_nm sc_check_stays.nd rfl (loc_b rfl) (by decide)), fun s H C cl fp => dts_nil, fun s H C cl fp => (de_v (dv_call0 (FnD.mono (k := 3) F_is_within (by decide)) hr LamX.takes0 rfl (da_cons (de_var rfl (vis_b rfl)) (da_cons de_int (da_cons (de_globI rfl (L.is 5 _ _ rfl)) da_nil)))))⟩ noj_items)) da_nil))))))) (dss_one (ds_raise0 (L.xs 2 _ rfl) rfl rfl (takes_of rfl rfl rfl rfl))) dss_nil) (dss_cons (ds_drop (de_v (dv_call0 (FnD.mono (k := 3) F_check_spare (by decide)) hr (takes_of rfl rfl rfl rfl) rfl (da_cons (de_var rfl (vis_b rfl)) da_nil)))) (dss_one (ds_if (dt_w (dw_or (dt_not (dt_tru (de_v (dv_call0 (FnD.mono (k := 3) F_is_sized (by decide)) hr (takes_of rfl rfl rfl rfl) rfl (da_cons (de_var rfl (vis_b rfl)) (da_cons de_int (da_cons (de_globI rfl (L.is 6 _ _ rfl)) da_nil))))))) (dw_or1 (dt_not (dt_tru (de_callB (c_allA rfl) rfl (L.fr 5 _ rfl) (by decide +kernel) (da_cons (de_frz (do_lc (own := [("one", 6)]) rfl sc_check_stays.nd (di_seq (de_var rfl (vis_b rfl))) (blkOk_by rfl) ⟨fun s H C cl fp => (dg_nm sc_check_stays.nd rfl (loc_b rfl) (by decide)), fun s H C cl fp => dts_nil, fun s H C cl fp => (de_v (dv_call0 (FnD.mono (k := 3) F_is_within (by decide)) hr LamX.takes0 rfl (da_cons (de_var rfl (vis_b rfl)) (da_cons de_int (da_cons (de_globI rfl (L.is 0 _ _ rfl)) da_nil)))))⟩ noj_items)) da_nil))))))) (dss_one (ds_raise0 (L.xs 1 _ rfl) rfl rfl (takes_of rfl rfl rfl rfl))) dss_nil)))))
theorem sc_bottle_needs : FnScope ["teams", "stays", "spare", "team", "stay"] ["teams", "stays", "spare"] (defScope (top 23)) := ⟨rfl, rfl, rfl, by decide +kernel, rfl, by decide +kernel, by decide +kernel⟩
theorem w_bottle_needs (L : Lw K mg frL isL ssL xsL)  (f : Addr) (cdv : Value) (A : Around) (outer : List Env) (s : Shared) (H : Hp) (E : XK) (hr : Room 0 (A.deeper (envOfC "bottle_needs" (defScope (top 23)) s.heap.objs.size f cdv))) : DSs (bodyCx P w K mg base ["teams", "stays", "spare", "team", "stay"] "bottle_needs" (defScope (top 23)) f cdv A outer s H E) T (fun cls d _ H => E cls d H) (defBody (top 23)) bd_bottle_needs :=
  (dss_one (ds_ret (de_frz (do_lc (own := [("team", 3), ("stay", 4)]) rfl sc_bottle_needs.nd (di_zip rfl (L.fr 6 _ rfl) (da_cons (de_var rfl (vis_b rfl)) (da_cons (de_var rfl (vis_b rfl)) da_nil))) (blkOk_by rfl) ⟨fun s H C cl fp => (dg_tp rfl (dgs_cons (dg_nm sc_bottle_needs.nd rfl (loc_b rfl) (by decide)) (dgs_cons (dg_nm sc_bottle_needs.nd rfl (loc_b rfl) (by decide)) dgs_nil))), fun s H C cl fp => dts_nil, fun s H C cl fp => (de_binA o_add o_cat (de_binA o_mul o_rep (de_ix (de_var rfl (vis_b rfl)) de_int) (de_binA o_add o_cat (de_binA o_mul o_rep de_int (de_ix (de_var rfl (vis_b rfl)) de_int)) (de_var rfl (vis_b rfl)))) (de_var rfl (vis_b rfl)))⟩ noj_zip))))
theorem sc_bottles_told : FnScope ["teams", "stays", "spare", "bottles", "needs", "order", "full", "found", "at", "k"] ["teams", "stays", "spare", "bottles"] (defScope (top 24)) := ⟨rfl, rfl, rfl, by decide +kernel, rfl, by decide +kernel, by decide +kernel⟩
theorem w_bottles_told (L : Lw K mg frL isL ssL xsL) (F_check_stays : FnD P w K mg base T 4 "check_stays" 4 ["teams", "stays", "spare", "bottles", "team", "stay", "one"] bd_check_stays) (F_bottle_needs : FnD P w K mg base T 1 "bottle_needs" 3 ["teams", "stays", "spare", "team", "stay"] bd_bottle_needs) (f : Addr) (cdv : Value) (A : Around) (outer : List Env) (s : Shared) (H : Hp) (E : XK) (hr : Room 4 (A.deeper (envOfC "bottles_told" (defScope (top 24)) s.heap.objs.size f cdv))) {c Pt : Addr} (TB : LamX.TabB base mg c Pt) (hcode : cdv = .ref c) (hmT : (Pt, (bodyCx P w K mg base ["teams", "stays", "spare", "bottles", "needs", "order", "full", "found", "at", "k"] "bottles_told" (defScope (top 24)) f cdv A outer s H E).env.qual ++ "<lambda>") ∈ T) (hu : ∀ p ∈ T, p.1 = Pt → p.2 = (bodyCx P w K mg base ["teams", "stays", "spare", "bottles", "needs", "order", "full", "found", "at", "k"] "bottles_told" (defScope (top 24)) f cdv A outer s H E).env.qual ++ "<lambda>") : DSs (bodyCx P w K mg base ["teams", "stays", "spare", "bottles", "needs", "order", "full", "found", "at", "k"] "bottles_told" (defScope (top 24)) f cdv A outer s H E) T (fun cls d _ H => E cls d H) (defBody (top 24)) bd_bottles_told :=
  (dss_cons (ds_drop (de_v (dv_call0 (FnD.mono (k := 4) F_check_stays (by decide)) hr (takes_of rfl rfl rfl rfl) rfl (da_cons (de_var rfl (vis_b rfl)) (da_cons (de_var rfl (vis_b rfl)) (da_cons (de_var rfl (vis_b rfl)) (da_cons (de_var rfl (vis_b rfl)) da_nil))))))) (dss_cons (ds_set sc_bottles_told.nd rfl (loc_b rfl) (de_v (dv_call0 (FnD.mono (k := 4) F_bottle_needs (by decide)) hr (takes_of rfl rfl rfl rfl) rfl (da_cons (de_var rfl (vis_b rfl)) (da_cons (de_var rfl (vis_b rfl)) (da_cons (de_var rfl (vis_b rfl)) da_nil)))))) (dss_cons (ds_set sc_bottles_told.nd rfl (loc_b rfl) (de_frz (do_sortRg (k := 1) rfl rfl (L.fr 7 _ rfl) rfl (L.fr 8 _ rfl) (de_callB c_len rfl (L.fr 4 _ rfl) (by decide +kernel) (da_cons (de_var rfl (vis_b rfl)) da_nil)) TB hcode hmT hu (hr.mono (by decide)) (lamP_by rfl) rfl sc_bottles_told.nd (fun A outer s H E f c2 hr2 => (de_tup (da_cons (de_neg (de_ix (de_var rfl (vis_b rfl)) (de_var rfl (vis_b rfl)))) (da_cons (de_var rfl (vis_b rfl)) da_nil))))))) (dss_cons (ds_set sc_bottles_told.nd rfl (loc_b rfl) (de_frz (do_sortRg (k := 1) rfl rfl (L.fr 7 _ rfl) rfl (L.fr 8 _ rfl) (de_callB c_len rfl (L.fr 4 _ rfl) (by decide +kernel) (da_cons (de_var rfl (vis_b rfl)) da_nil)) TB hcode hmT hu (hr.mono (by decide)) (lamP_by rfl) rfl sc_bottles_told.nd (fun A outer s H E f c2 hr2 => (de_tup (da_cons (de_neg (de_ix (de_var rfl (vis_b rfl)) (de_var rfl (vis_b rfl)))) (da_cons (de_var rfl (vis_b rfl)) da_nil))))))) (dss_cons (ds_setQ sc_bottles_told.nd rfl (loc_b rfl) dq_dict0) (dss_cons (ds_for (vs := [8, 9]) (passes_of rfl) rfl (di_enum rfl (L.fr 9 _ rfl) (da_cons (de_var rfl (vis_b rfl)) da_nil)) (dg_tp rfl (dgs_cons (dg_nm sc_bottles_told.nd rfl (loc_b rfl) (by decide)) (dgs_cons (dg_nm sc_bottles_told.nd rfl (loc_b rfl) (by decide)) dgs_nil))) (dss_cons (ds_if (dt_w (dw_or (dt_cmp (o_geA (rm1 hr)) (de_var rfl (vis_b rfl)) (de_callB c_len rfl (L.fr 4 _ rfl) (by decide +kernel) (da_cons (de_var rfl (vis_b rfl)) da_nil)) (nomark _)) (dw_or1 (dt_cmp (o_ltA (rm1 hr)) (de_ix (de_var rfl (vis_b rfl)) (de_ix (de_var rfl (vis_b rfl)) (de_var rfl (vis_b rfl)))) (de_ix (de_var rfl (vis_b rfl)) (de_var rfl (vis_b rfl))) (nomark _))))) (dss_one (ds_ret (de_tup (da_cons (de_globS rfl (L.ss 1 _ _ rfl)) (da_cons (de_ix (de_var rfl (vis_b rfl)) (de_var rfl (vis_b rfl))) da_nil))))) dss_nil) (dss_one (ds_dput (rmo (rm1 hr)) rfl (vis_b rfl) (de_var rfl (vis_b rfl)) (de_ix (de_var rfl (vis_b rfl)) (de_var rfl (vis_b rfl))))))) (dss_one (ds_ret (de_tup (da_cons (de_globS rfl (L.ss 0 _ _ rfl)) (da_cons (de_callTy c_tup rfl (L.fr 3 _ rfl) (by decide +kernel) (da_cons (de_frz (do_lc (own := [("k", 9)]) rfl sc_bottles_told.nd (di_range1 rfl (L.fr 8 _ rfl) (da_cons (de_callB c_len rfl (L.fr 4 _ rfl) (by decide +kernel) (da_cons (de_var rfl (vis_b rfl)) da_nil)) da_nil)) (blkOk_by rfl) ⟨fun s H C cl fp => (dg_nm sc_bottles_told.nd rfl (loc_b rfl) (by decide)), fun s H C cl fp => dts_nil, fun s H C cl fp => (de_dget (rmo (rm1 hr)) rfl (vis_b rfl) (de_var rfl (vis_b rfl)) (fun _ _ => rfl))⟩ noj_range1)) da_nil)) da_nil)))))))))))
theorem sc_is_bottles_told : FnScope ["teams", "stays", "spare", "bottles", "thing", "needs", "one", "need"] ["teams", "stays", "spare", "bottles", "thing"] (defScope (top 25)) := ⟨rfl, rfl, rfl, by decide +kernel, rfl, by decide +kernel, by decide +kernel⟩
theorem w_is_bottles_told (L : Lw K mg frL isL ssL xsL) (F_is_integer : FnD P w K mg base T 1 "is_integer" 1 ["thing"] bd_is_integer) (F_is_within : FnD P w K mg base T 2 "is_within" 3 ["thing", "low", "high"] bd_is_within) (F_is_sized : FnD P w K mg base T 1 "is_sized" 3 ["thing", "low", "high"] bd_is_sized) (F_check_stays : FnD P w K mg base T 4 "check_stays" 4 ["teams", "stays", "spare", "bottles", "team", "stay", "one"] bd_check_stays) (F_bottle_needs : FnD P w K mg base T 1 "bottle_needs" 3 ["teams", "stays", "spare", "team", "stay"] bd_bottle_needs) (f : Addr) (cdv : Value) (A : Around) (outer : List Env) (s : Shared) (H : Hp) (E : XK) (hr : Room 4 (A.deeper (envOfC "is_bottles_told" (defScope (top 25)) s.heap.objs.size f cdv))) : DSs (bodyCx P w K mg base ["teams", "stays", "spare", "bottles", "thing", "needs", "one", "need"] "is_bottles_told" (defScope (top 25)) f cdv A outer s H E) T (fun cls d _ H => E cls d H) (defBody (top 25)) bd_is_bottles_told :=
  (dss_cons (ds_drop (de_v (dv_call0 (FnD.mono (k := 4) F_check_stays (by decide)) hr (takes_of rfl rfl rfl rfl) rfl (da_cons (de_var rfl (vis_b rfl)) (da_cons (de_var rfl (vis_b rfl)) (da_cons (de_var rfl (vis_b rfl)) (da_cons (de_var rfl (vis_b rfl)) da_nil))))))) (dss_cons (ds_set sc_is_bottles_told.nd rfl (loc_b rfl) (de_v (dv_call0 (FnD.mono (k := 4) F_bottle_needs (by decide)) hr (takes_of rfl rfl rfl rfl) rfl (da_cons (de_var rfl (vis_b rfl)) (da_cons (de_var rfl (vis_b rfl)) (da_cons (de_var rfl (vis_b rfl)) da_nil)))))) (dss_cons (ds_if (dt_w (dw_or (dt_not (dt_tru (de_v (dv_call0 (FnD.mono (k := 4) F_is_sized (by decide)) hr (takes_of rfl rfl rfl rfl) rfl (da_cons (de_var rfl (vis_b rfl)) (da_cons de_int (da_cons de_int da_nil))))))) (dw_or1 (dt_not (dt_tru (de_isi kit_str (de_ix (de_var rfl (vis_b rfl)) de_int) rfl (L.fr 0 _ rfl) rfl (L.fr 10 _ rfl) rfl)))))) (dss_one (ds_ret de_bl)) dss_nil) (dss_cons (ds_if (dt_cmp (o_eq (rm1 hr)) (de_ix (de_var rfl (vis_b rfl)) de_int) (de_globS rfl (L.ss 1 _ _ rfl)) (nomark _)) (dss_cons (ds_if (dt_w (dw_or (dt_not (dt_tru (de_v (dv_call0 (FnD.mono (k := 4) F_is_integer (by decide)) hr (takes_of rfl rfl rfl rfl) rfl (da_cons (de_ix (de_var rfl (vis_b rfl)) de_int) da_nil))))) (dw_or1 (dt_cmp (o_ltA (rm1 hr)) (de_ix (de_var rfl (vis_b rfl)) de_int) de_int (nomark _))))) (dss_one (ds_ret de_bl)) dss_nil) (dss_one (ds_ret (de_cmp (o_gtA (rm1 hr)) (de_callB c_len rfl (L.fr 4 _ rfl) (by decide +kernel) (da_cons (de_frz (do_lc (own := [("need", 7)]) rfl sc_is_bottles_told.nd (di_seq (de_var rfl (vis_b rfl))) (blkOk_by rfl) ⟨fun s H C cl fp => (dg_nm sc_is_bottles_told.nd rfl (loc_b rfl) (by decide)), fun s H C cl fp => (dts_one (dt_cmp (o_geA (rm1 hr)) (de_var rfl (vis_b rfl)) (de_ix (de_var rfl (vis_b rfl)) de_int) (nomark _))), fun s H C cl fp => (de_var rfl (vis_b rfl))⟩ noj_items)) da_nil)) (de_callB c_len rfl (L.fr 4 _ rfl) (by decide +kernel) (da_cons (de_frz (do_lc (own := [("one", 6)]) rfl sc_is_bottles_told.nd (di_seq (de_var rfl (vis_b rfl))) (blkOk_by rfl) ⟨fun s H C cl fp => (dg_nm sc_is_bottles_told.nd rfl (loc_b rfl) (by decide)), fun s H C cl fp => (dts_one (dt_cmp (o_geA (rm1 hr)) (de_var rfl (vis_b rfl)) (de_ix (de_var rfl (vis_b rfl)) de_int) (nomark _))), fun s H C cl fp => (de_var rfl (vis_b rfl))⟩ noj_items)) da_nil)) (nomark _))))) dss_nil) (dss_cons (ds_if (dt_w (dw_or (dt_cmp (o_ne (rm1 hr)) (de_ix (de_var rfl (vis_b rfl)) de_int) (de_globS rfl (L.ss 0 _ _ rfl)) (nomark _)) (dw_or1 (dt_not (dt_tru (de_v (dv_call0 (FnD.mono (k := 4) F_is_sized (by decide)) hr (takes_of rfl rfl rfl rfl) rfl (da_cons (de_ix (de_var rfl (vis_b rfl)) de_int) (da_cons (de_callB c_len rfl (L.fr 4 _ rfl) (by decide +kernel) (da_cons (de_var rfl (vis_b rfl)) da_nil)) (da_cons (de_callB c_len rfl (L.fr 4 _ rfl) (by decide +kernel) (da_cons (de_var rfl (vis_b rfl)) da_nil)) da_nil)))))))))) (dss_one (ds_ret de_bl)) dss_nil) (dss_cons (ds_if (dt_not (dt_tru (de_callB (c_allA rfl) rfl (L.fr 5 _ rfl) (by decide +kernel) (da_cons (de_frz (do_lc (own := [("one", 6)]) rfl sc_is_bottles_told.nd (di_seq (de_ix (de_var rfl (vis_b rfl)) de_int)) (blkOk_by rfl) ⟨fun s H C cl fp => (dg_nm sc_is_bottles_told.nd rfl (loc_b rfl) (by decide)), fun s H C cl fp => dts_nil, fun s H C cl fp => (de_v (dv_call0 (FnD.mono (k := 4) F_is_within (by decide)) hr LamX.takes0 rfl (da_cons (de_var rfl (vis_b rfl)) (da_cons de_int (da_cons (de_bin o_sub (de_callB c_len rfl (L.fr 4 _ rfl) (by decide +kernel) (da_cons (de_var rfl (vis_b rfl)) da_nil)) de_int) da_nil)))))⟩ noj_items)) da_nil)))) (dss_one (ds_ret de_bl)) dss_nil) (dss_cons (ds_if (dt_cmp (o_ne (rm1 hr)) (de_lenDc (own := [("one", 6)]) (cv := .bl true) rfl sc_is_bottles_told.nd rfl (L.fr 4 _ rfl) (di_seq (de_ix (de_var rfl (vis_b rfl)) de_int)) (blkOk_by rfl) ⟨fun s H C cl fp => (dg_nm sc_is_bottles_told.nd rfl (loc_b rfl) (by decide)), fun s H C cl fp => dts_nil, fun s H C cl fp => (de_var rfl (vis_b rfl))⟩ noj_items (fun s H C cl fp => pe_bl)) (de_callB c_len rfl (L.fr 4 _ rfl) (by decide +kernel) (da_cons (de_var rfl (vis_b rfl)) da_nil)) (nomark _)) (dss_one (ds_ret de_bl)) dss_nil) (dss_one (ds_ret (de_callB (c_allA rfl) rfl (L.fr 5 _ rfl) (by decide +kernel) (da_cons (de_frz (do_lc (own := [("one", 6), ("need", 7)]) rfl sc_is_bottles_told.nd (di_zip rfl (L.fr 6 _ rfl) (da_cons (de_ix (de_var rfl (vis_b rfl)) de_int) (da_cons (de_var rfl (vis_b rfl)) da_nil))) (blkOk_by rfl) ⟨fun s H C cl fp => (dg_tp rfl (dgs_cons (dg_nm sc_is_bottles_told.nd rfl (loc_b rfl) (by decide)) (dgs_cons (dg_nm sc_is_bottles_told.nd rfl (loc_b rfl) (by decide)) dgs_nil))), fun s H C cl fp => dts_nil, fun s H C cl fp => (de_cmp (o_geA (rm1 hr)) (de_ix (de_var rfl (vis_b rfl)) (de_var rfl (vis_b rfl))) (de_var rfl (vis_b rfl)) (nomark _))⟩ noj_zip)) da_nil)))))))))))
theorem sc__law_hand : FnScope ["script", "cells", "cell"] ["script"] (defScope (top 27)) := ⟨rfl, rfl, rfl, by decide +kernel, rfl, by decide +kernel, by decide +kernel⟩
theorem w__law_hand (L : Lw K mg frL isL ssL xsL)  (f : Addr) (cdv : Value) (A : Around) (outer : List Env) (s : Shared) (H : Hp) (E : XK) (hr : Room 0 (A.deeper (envOfC "_law_hand" (defScope (top 27)) s.heap.objs.size f cdv))) : DSs (bodyCx P w K mg base ["script", "cells", "cell"] "_law_hand" (defScope (top 27)) f cdv A outer s H E) T (fun cls d _ H => E cls d H) (defBody (top 27)) bd__law_hand :=
  (dss_cons (ds_setLcO (own := [("cell", 2)]) rfl sc__law_hand.nd rfl rfl (sw_true rfl rfl rfl rfl) (di_seq (de_sl (de_var rfl (vis_b rfl)) dp_none (dp_some de_int))) (blkOk_by rfl) ⟨fun s H C cl fp => (dg_nm sc__law_hand.nd rfl (loc_b rfl) (by decide)), fun s H C cl fp => dts_nil, fun s H C cl fp => (de_bin o_mod (de_callTy c_int rfl (L.fr 1 _ rfl) (by decide +kernel) (da_cons (de_callB c_abs rfl (L.fr 11 _ rfl) (by decide +kernel) (da_cons (de_callTy c_int rfl (L.fr 1 _ rfl) (by decide +kernel) (da_cons (de_var rfl (vis_b rfl)) da_nil)) da_nil)) da_nil)) (de_bin o_pow de_int de_int))⟩ noj_items) (dss_one (ds_retO (do_lst (da_cons (de_var rfl (vis_b rfl)) (da_cons de_int (da_cons de_int (da_cons (de_binA o_add o_cat de_int (de_binA o_mul o_rep de_int (de_callB c_len rfl (L.fr 4 _ rfl) (by decide +kernel) (da_cons (de_var rfl (vis_b rfl)) da_nil)))) (da_cons de_int da_nil)))))))))
theorem sc__law_draw : FnScope ["hand", "many", "cell", "digit", "number"] ["hand", "many"] (defScope (top 28)) := ⟨rfl, rfl, rfl, by decide +kernel, rfl, by decide +kernel, by decide +kernel⟩
theorem w__law_draw (L : Lw K mg frL isL ssL xsL)  (f : Addr) (cdv : Value) (A : Around) (outer : List Env) (s : Shared) (H : Hp) (E : XK) (hr : Room 0 (A.deeper (envOfC "_law_draw" (defScope (top 28)) s.heap.objs.size f cdv))) : DSs (bodyCx P w K mg base ["hand", "many", "cell", "digit", "number"] "_law_draw" (defScope (top 28)) f cdv A outer s H E) T (fun cls d _ H => E cls d H) (defBody (top 28)) bd__law_draw :=
  (dss_cons (ds_if (dt_w (dw_and (dt_cmp (o_eq (rm1 hr)) (de_ix (de_var rfl (vis_b rfl)) de_int) de_int (nomark _)) (dw_and1 (dt_cmp (o_ltA (rm1 hr)) (de_ix (de_var rfl (vis_b rfl)) de_int) (de_callB c_len rfl (L.fr 4 _ rfl) (by decide +kernel) (da_cons (de_ix (de_var rfl (vis_b rfl)) de_int) da_nil)) (nomark _))))) (dss_cons (ds_set sc__law_draw.nd rfl (loc_b rfl) (de_ix (de_ix (de_var rfl (vis_b rfl)) de_int) (de_ix (de_var rfl (vis_b rfl)) de_int))) (dss_cons (ds_setS rfl (vis_b rfl) (de_binA o_add o_cat (de_ix (de_var rfl (vis_b rfl)) de_int) de_int) de_int) (dss_cons (ds_setS rfl (vis_b rfl) (de_bin o_mod (de_callTy c_int rfl (L.fr 1 _ rfl) (by decide +kernel) (da_cons (de_binA o_add o_cat (de_binA o_add o_cat (de_binA o_mul o_rep (de_ix (de_var rfl (vis_b rfl)) de_int) de_int) (de_binA o_mul o_rep (de_var rfl (vis_b rfl)) de_int)) de_int) da_nil)) de_int) de_int) (dss_one (ds_if (dt_cmp (o_geA (rm1 hr)) (de_var rfl (vis_b rfl)) (de_bin o_pow de_int de_int) (nomark _)) (dss_one (ds_setS rfl (vis_b rfl) (de_var rfl (vis_b rfl)) de_int)) dss_nil))))) dss_nil) (dss_cons (ds_if (dt_cmp (o_gtA (rm1 hr)) (de_ix (de_var rfl (vis_b rfl)) de_int) de_int (nomark _)) (dss_cons (ds_set sc__law_draw.nd rfl (loc_b rfl) (de_bin o_mod (de_callTy c_int rfl (L.fr 1 _ rfl) (by decide +kernel) (da_cons (de_ix (de_var rfl (vis_b rfl)) de_int) da_nil)) (de_var rfl (vis_b rfl)))) (dss_cons (ds_setS rfl (vis_b rfl) (de_bin o_div (de_ix (de_var rfl (vis_b rfl)) de_int) (de_var rfl (vis_b rfl))) de_int) (dss_one (ds_ret (de_var rfl (vis_b rfl)))))) dss_nil) (dss_cons (ds_setS rfl (vis_b rfl) (de_binA o_add o_cat (de_ix (de_var rfl (vis_b rfl)) de_int) de_int) de_int) (dss_cons (ds_set sc__law_draw.nd rfl (loc_b rfl) (de_bin o_mod (de_callTy c_int rfl (L.fr 1 _ rfl) (by decide +kernel) (da_cons (de_binA o_mul o_rep (de_callTy c_int rfl (L.fr 1 _ rfl) (by decide +kernel) (da_cons (de_binA o_add o_cat (de_ix (de_var rfl (vis_b rfl)) de_int) (de_binA o_mul o_rep de_int (de_ix (de_var rfl (vis_b rfl)) de_int))) da_nil)) de_int) da_nil)) de_int)) (dss_cons (ds_set sc__law_draw.nd rfl (loc_b rfl) (de_bin o_mod (de_callTy c_int rfl (L.fr 1 _ rfl) (by decide +kernel) (da_cons (de_binA o_mul o_rep (de_var rfl (vis_b rfl)) (de_binA o_add o_cat (de_bin o_div (de_var rfl (vis_b rfl)) de_int) de_int)) da_nil)) de_int)) (dss_cons (ds_set sc__law_draw.nd rfl (loc_b rfl) (de_bin o_mod (de_callTy c_int rfl (L.fr 1 _ rfl) (by decide +kernel) (da_cons (de_binA o_mul o_rep (de_var rfl (vis_b rfl)) (de_binA o_add o_cat (de_bin o_div (de_var rfl (vis_b rfl)) de_int) de_int)) da_nil)) de_int)) (dss_one (ds_ret (de_bin o_mod (de_callTy c_int rfl (L.fr 1 _ rfl) (by decide +kernel) (da_cons (de_bin o_div (de_var rfl (vis_b rfl)) de_int) da_nil)) (de_var rfl (vis_b rfl)))))))))))
theorem sc__law_any : FnScope ["hand", "some"] ["hand", "some"] (defScope (top 29)) := ⟨rfl, rfl, rfl, by decide +kernel, rfl, by decide +kernel, by decide +kernel⟩
theorem w__law_any (L : Lw K mg frL isL ssL xsL) (F__law_draw : FnD P w K mg base T 1 "_law_draw" 2 ["hand", "many", "cell", "digit", "number"] bd__law_draw) (f : Addr) (cdv : Value) (A : Around) (outer : List Env) (s : Shared) (H : Hp) (E : XK) (hr : Room 1 (A.deeper (envOfC "_law_any" (defScope (top 29)) s.heap.objs.size f cdv))) : DSs (bodyCx P w K mg base ["hand", "some"] "_law_any" (defScope (top 29)) f cdv A outer s H E) T (fun cls d _ H => E cls d H) (defBody (top 29)) bd__law_any :=
  (dss_one (ds_ret (de_ix (de_var rfl (vis_b rfl)) (de_v (dv_call1 0 (FnD.mono (k := 1) F__law_draw (by decide)) hr (takes_of rfl rfl rfl rfl) rfl (da_cons (de_var rfl (vis_b rfl)) (da_cons (de_callB c_len rfl (L.fr 4 _ rfl) (by decide +kernel) (da_cons (de_var rfl (vis_b rfl)) da_nil)) da_nil)))))))
theorem sc__law_team : FnScope ["hand"] ["hand"] (defScope (top 30)) := ⟨rfl, rfl, rfl, by decide +kernel, rfl, by decide +kernel, by decide +kernel⟩
theorem w__law_team (L : Lw K mg frL isL ssL xsL) (F__law_draw : FnD P w K mg base T 1 "_law_draw" 2 ["hand", "many", "cell", "digit", "number"] bd__law_draw) (f : Addr) (cdv : Value) (A : Around) (outer : List Env) (s : Shared) (H : Hp) (E : XK) (hr : Room 1 (A.deeper (envOfC "_law_team" (defScope (top 30)) s.heap.objs.size f cdv))) : DSs (bodyCx P w K mg base ["hand"] "_law_team" (defScope (top 30)) f cdv A outer s H E) T (fun cls d _ H => E cls d H) (defBody (top 30)) bd__law_team :=
  (dss_one (ds_ret (de_tup (da_cons (de_binA o_add o_cat de_int (de_v (dv_call1 0 (FnD.mono (k := 1) F__law_draw (by decide)) hr (takes_of rfl rfl rfl rfl) rfl (da_cons (de_var rfl (vis_b rfl)) (da_cons de_int da_nil))))) (da_cons (de_binA o_add o_cat de_int (de_v (dv_call1 0 (FnD.mono (k := 1) F__law_draw (by decide)) hr (takes_of rfl rfl rfl rfl) rfl (da_cons (de_var rfl (vis_b rfl)) (da_cons de_int da_nil))))) (da_cons (de_v (dv_call1 0 (FnD.mono (k := 1) F__law_draw (by decide)) hr (takes_of rfl rfl rfl rfl) rfl (da_cons (de_var rfl (vis_b rfl)) (da_cons de_int da_nil)))) da_nil))))))
theorem sc__law_bad_teams : FnScope ["hand", "some"] ["hand"] (defScope (top 31)) := ⟨rfl, rfl, rfl, by decide +kernel, rfl, by decide +kernel, by decide +kernel⟩
theorem w__law_bad_teams (L : Lw K mg frL isL ssL xsL) (F__law_any : FnD P w K mg base T 2 "_law_any" 2 ["hand", "some"] bd__law_any) (f : Addr) (cdv : Value) (A : Around) (outer : List Env) (s : Shared) (H : Hp) (E : XK) (hr : Room 2 (A.deeper (envOfC "_law_bad_teams" (defScope (top 31)) s.heap.objs.size f cdv))) : DSs (bodyCx P w K mg base ["hand", "some"] "_law_bad_teams" (defScope (top 31)) f cdv A outer s H E) T (fun cls d _ H => E cls d H) (defBody (top 31)) bd__law_bad_teams :=
  (dss_cons (ds_set sc__law_bad_teams.nd rfl (loc_b rfl) (de_frz (do_lst (da_cons de_non (da_cons (de_tup da_nil) (da_cons (de_frz (do_lst (da_cons (de_tup (da_cons de_int (da_cons de_int (da_cons de_int da_nil)))) da_nil))) (da_cons (de_tup (da_cons (de_tup (da_cons de_int (da_cons de_int (da_cons de_int da_nil)))) da_nil)) (da_cons (de_tup (da_cons (de_tup (da_cons de_int (da_cons de_int (da_cons de_int da_nil)))) da_nil)) (da_cons (de_tup (da_cons (de_tup (da_cons de_int (da_cons de_int (da_cons de_int da_nil)))) da_nil)) (da_cons (de_tup (da_cons (de_tup (da_cons de_int (da_cons de_int (da_cons de_int da_nil)))) da_nil)) (da_cons (de_tup (da_cons (de_tup (da_cons de_int (da_cons de_int (da_cons de_int da_nil)))) da_nil)) (da_cons (de_tup (da_cons (de_tup (da_cons de_int (da_cons de_int da_nil))) da_nil)) da_nil)))))))))))) (dss_one (ds_ret (de_v (dv_call1 0 (FnD.mono (k := 2) F__law_any (by decide)) hr (takes_of rfl rfl rfl rfl) rfl (da_cons (de_var rfl (vis_b rfl)) (da_cons (de_binA o_add o_cat (de_var rfl (vis_b rfl)) (de_frz (do_lst (da_cons (de_tup (da_cons (de_tup (da_cons de_bl (da_cons de_int (da_cons de_int da_nil)))) da_nil)) (da_cons (de_binA o_mulB o_rep (de_tup (da_cons (de_tup (da_cons de_int (da_cons de_int (da_cons de_int da_nil)))) da_nil)) de_int) (da_cons de_int (da_cons (de_tup (da_cons de_int (da_cons de_int (da_cons de_int da_nil)))) da_nil))))))) da_nil)))))))
theorem sc__law_bad_spare : FnScope ["hand"] ["hand"] (defScope (top 32)) := ⟨rfl, rfl, rfl, by decide +kernel, rfl, by decide +kernel, by decide +kernel⟩
theorem w__law_bad_spare (L : Lw K mg frL isL ssL xsL) (F__law_any : FnD P w K mg base T 2 "_law_any" 2 ["hand", "some"] bd__law_any) (f : Addr) (cdv : Value) (A : Around) (outer : List Env) (s : Shared) (H : Hp) (E : XK) (hr : Room 2 (A.deeper (envOfC "_law_bad_spare" (defScope (top 32)) s.heap.objs.size f cdv))) : DSs (bodyCx P w K mg base ["hand"] "_law_bad_spare" (defScope (top 32)) f cdv A outer s H E) T (fun cls d _ H => E cls d H) (defBody (top 32)) bd__law_bad_spare :=
  (dss_one (ds_ret (de_v (dv_call1 0 (FnD.mono (k := 2) F__law_any (by decide)) hr (takes_of rfl rfl rfl rfl) rfl (da_cons (de_var rfl (vis_b rfl)) (da_cons (de_frz (do_lst (da_cons (de_neg de_int) (da_cons de_int (da_cons de_non (da_cons de_bl (da_cons de_str da_nil))))))) da_nil))))))
theorem sc__law_is_told : FnScope ["needed", "bottles", "thing", "many", "one", "at"] ["needed", "bottles", "thing"] (defScope (top 34)) := ⟨rfl, rfl, rfl, by decide +kernel, rfl, by decide +kernel, by decide +kernel⟩
theorem w__law_is_told (L : Lw K mg frL isL ssL xsL)  (f : Addr) (cdv : Value) (A : Around) (outer : List Env) (s : Shared) (H : Hp) (E : XK) (hr : Room 0 (A.deeper (envOfC "_law_is_told" (defScope (top 34)) s.heap.objs.size f cdv))) : DSs (bodyCx P w K mg base ["needed", "bottles", "thing", "many", "one", "at"] "_law_is_told" (defScope (top 34)) f cdv A outer s H E) T (fun cls d _ H => E cls d H) (defBody (top 34)) bd__law_is_told :=
  (dss_cons (ds_if (dt_w (dw_or (dt_not (dt_tru (de_isi kit_tuple (de_var rfl (vis_b rfl)) rfl (L.fr 0 _ rfl) rfl (L.fr 3 _ rfl) rfl))) (dw_or (dt_cmp (o_ne (rm1 hr)) (de_callB c_len rfl (L.fr 4 _ rfl) (by decide +kernel) (da_cons (de_var rfl (vis_b rfl)) da_nil)) de_int (nomark _)) (dw_or1 (dt_not (dt_tru (de_isi kit_str (de_ix (de_var rfl (vis_b rfl)) de_int) rfl (L.fr 0 _ rfl) rfl (L.fr 10 _ rfl) rfl))))))) (dss_one (ds_ret de_bl)) dss_nil) (dss_cons (ds_if (dt_cmp (o_eq (rm1 hr)) (de_ix (de_var rfl (vis_b rfl)) de_int) de_str (nomark _)) (dss_cons (ds_if (dt_w (dw_or (dt_not (dt_tru (de_isi kit_int (de_ix (de_var rfl (vis_b rfl)) de_int) rfl (L.fr 0 _ rfl) rfl (L.fr 1 _ rfl) rfl))) (dw_or (dt_tru (de_isi kit_bool (de_ix (de_var rfl (vis_b rfl)) de_int) rfl (L.fr 0 _ rfl) rfl (L.fr 2 _ rfl) rfl)) (dw_or1 (dt_cmp (o_ltA (rm1 hr)) (de_ix (de_var rfl (vis_b rfl)) de_int) de_int (nomark _)))))) (dss_one (ds_ret de_bl)) dss_nil) (dss_cons (ds_set sc__law_is_told.nd rfl (loc_b rfl) (de_callB c_len rfl (L.fr 4 _ rfl) (by decide +kernel) (da_cons (de_frz (do_lc (own := [("one", 4)]) rfl sc__law_is_told.nd (di_seq (de_var rfl (vis_b rfl))) (blkOk_by rfl) ⟨fun s H C cl fp => (dg_nm sc__law_is_told.nd rfl (loc_b rfl) (by decide)), fun s H C cl fp => (dts_one (dt_cmp (o_geA (rm1 hr)) (de_var rfl (vis_b rfl)) (de_ix (de_var rfl (vis_b rfl)) de_int) (nomark _))), fun s H C cl fp => (de_var rfl (vis_b rfl))⟩ noj_items)) da_nil))) (dss_one (ds_ret (de_cmp (o_gtA (rm1 hr)) (de_var rfl (vis_b rfl)) (de_callB c_len rfl (L.fr 4 _ rfl) (by decide +kernel) (da_cons (de_frz (do_lc (own := [("one", 4)]) rfl sc__law_is_told.nd (di_seq (de_var rfl (vis_b rfl))) (blkOk_by rfl) ⟨fun s H C cl fp => (dg_nm sc__law_is_told.nd rfl (loc_b rfl) (by decide)), fun s H C cl fp => (dts_one (dt_cmp (o_geA (rm1 hr)) (de_var rfl (vis_b rfl)) (de_ix (de_var rfl (vis_b rfl)) de_int) (nomark _))), fun s H C cl fp => (de_var rfl (vis_b rfl))⟩ noj_items)) da_nil)) (nomark _)))))) dss_nil) (dss_cons (ds_if (dt_w (dw_or (dt_cmp (o_ne (rm1 hr)) (de_ix (de_var rfl (vis_b rfl)) de_int) de_str (nomark _)) (dw_or (dt_not (dt_tru (de_isi kit_tuple (de_ix (de_var rfl (vis_b rfl)) de_int) rfl (L.fr 0 _ rfl) rfl (L.fr 3 _ rfl) rfl))) (dw_or1 (dt_cmp (o_ne (rm1 hr)) (de_callB c_len rfl (L.fr 4 _ rfl) (by decide +kernel) (da_cons (de_ix (de_var rfl (vis_b rfl)) de_int) da_nil)) (de_callB c_len rfl (L.fr 4 _ rfl) (by decide +kernel) (da_cons (de_var rfl (vis_b rfl)) da_nil)) (nomark _)))))) (dss_one (ds_ret de_bl)) dss_nil) (dss_cons (ds_if (dt_not (dt_tru (de_callB (c_allA rfl) rfl (L.fr 5 _ rfl) (by decide +kernel) (da_cons (de_frz (do_lc (own := [("one", 4)]) rfl sc__law_is_told.nd (di_seq (de_ix (de_var rfl (vis_b rfl)) de_int)) (blkOk_by rfl) ⟨fun s H C cl fp => (dg_nm sc__law_is_told.nd rfl (loc_b rfl) (by decide)), fun s H C cl fp => dts_nil, fun s H C cl fp => (de_and (de_isi kit_int (de_var rfl (vis_b rfl)) rfl (L.fr 0 _ rfl) rfl (L.fr 1 _ rfl) rfl) (de_and (de_not (de_isi kit_bool (de_var rfl (vis_b rfl)) rfl (L.fr 0 _ rfl) rfl (L.fr 2 _ rfl) rfl)) (de_one (de_chn (o_leA (rm1 hr)) (o_ltA (rm1 hr)) de_int (de_var rfl (vis_b rfl)) (de_callB c_len rfl (L.fr 4 _ rfl) (by decide +kernel) (da_cons (de_var rfl (vis_b rfl)) da_nil))))))⟩ noj_items)) da_nil)))) (dss_one (ds_ret de_bl)) dss_nil) (dss_one (ds_ret (de_and (de_cmp (o_eq (rm1 hr)) (de_lenSet rfl rfl (L.fr 4 _ rfl) rfl (L.fr 12 _ rfl) (de_ix (de_var rfl (vis_b rfl)) de_int)) (de_callB c_len rfl (L.fr 4 _ rfl) (by decide +kernel) (da_cons (de_var rfl (vis_b rfl)) da_nil)) (nomark _)) (de_one (de_callB (c_allA rfl) rfl (L.fr 5 _ rfl) (by decide +kernel) (da_cons (de_frz (do_lc (own := [("at", 5), ("one", 4)]) rfl sc__law_is_told.nd (di_zip rfl (L.fr 6 _ rfl) (da_cons (de_ix (de_var rfl (vis_b rfl)) de_int) (da_cons (de_var rfl (vis_b rfl)) da_nil))) (blkOk_by rfl) ⟨fun s H C cl fp => (dg_tp rfl (dgs_cons (dg_nm sc__law_is_told.nd rfl (loc_b rfl) (by decide)) (dgs_cons (dg_nm sc__law_is_told.nd rfl (loc_b rfl) (by decide)) dgs_nil))), fun s H C cl fp => dts_nil, fun s H C cl fp => (de_cmp (o_geA (rm1 hr)) (de_ix (de_var rfl (vis_b rfl)) (de_var rfl (vis_b rfl))) (de_var rfl (vis_b rfl)) (nomark _))⟩ noj_zip)) da_nil))))))))))
theorem sc__law_ways : FnScope ["needed", "bottles", "found", "one", "row", "longer", "at", "units"] ["needed", "bottles"] (defScope (top 35)) := ⟨rfl, rfl, rfl, by decide +kernel, rfl, by decide +kernel, by decide +kernel⟩
theorem w__law_ways (L : Lw K mg frL isL ssL xsL)  (f : Addr) (cdv : Value) (A : Around) (outer : List Env) (s : Shared) (H : Hp) (E : XK) (hr : Room 0 (A.deeper (envOfC "_law_ways" (defScope (top 35)) s.heap.objs.size f cdv))) : DSs (bodyCx P w K mg base ["needed", "bottles", "found", "one", "row", "longer", "at", "units"] "_law_ways" (defScope (top 35)) f cdv A outer s H E) T (fun cls d _ H => E cls d H) (defBody (top 35)) bd__law_ways :=
  (dss_cons (ds_set sc__law_ways.nd rfl (loc_b rfl) (de_frz (do_lst (da_cons (de_tup da_nil) da_nil)))) (dss_cons (ds_for (vs := [3]) (passes_of rfl) rfl (di_seq (de_var rfl (vis_b rfl))) (dg_nm sc__law_ways.nd rfl (loc_b rfl) (by decide)) (dss_cons (ds_setO sc__law_ways.nd rfl (loc_b rfl) (do_lst da_nil)) (dss_cons (ds_for (vs := [4]) (passes_of rfl) rfl (di_seq (de_var rfl (vis_b rfl))) (dg_nm sc__law_ways.nd rfl (loc_b rfl) (by decide)) (dss_one (ds_drop (de_meth F.slot_list_extend m_extend rfl (vis_b rfl) (da_cons (de_frz (do_lc (own := [("at", 6), ("units", 7)]) rfl sc__law_ways.nd (di_enum rfl (L.fr 9 _ rfl) (da_cons (de_var rfl (vis_b rfl)) da_nil)) (blkOk_by rfl) ⟨fun s H C cl fp => (dg_tp rfl (dgs_cons (dg_nm sc__law_ways.nd rfl (loc_b rfl) (by decide)) (dgs_cons (dg_nm sc__law_ways.nd rfl (loc_b rfl) (by decide)) dgs_nil))), fun s H C cl fp => (dts_one (dt_w (dw_and (dt_cmp (o_geA (rm1 hr)) (de_var rfl (vis_b rfl)) (de_var rfl (vis_b rfl)) (nomark _)) (dw_and1 (dt_cmp (o_notin (rm2 hr)) (de_var rfl (vis_b rfl)) (de_var rfl (vis_b rfl)) (by rfl)))))), fun s H C cl fp => (de_binA o_add o_cat (de_var rfl (vis_b rfl)) (de_tup (da_cons (de_var rfl (vis_b rfl)) da_nil)))⟩ noj_enum)) da_nil))))) (dss_one (ds_set sc__law_ways.nd rfl (loc_b rfl) (de_var rfl (vis_b rfl))))))) (dss_one (ds_ret (de_var rfl (vis_b rfl))))))
theorem sc_law : FnScope ["script", "hand", "turn", "said", "odd", "far", "none", "bad", "many", "thing", "row", "things", "told", "ways_here", "bottles", "bottle", "needed", "stays", "spare", "teams", "team", "stay", "one"] ["script"] (defScope (top 36)) := ⟨rfl, rfl, rfl, by decide +kernel, rfl, by decide +kernel, by decide +kernel⟩
theorem w_law (L : Lw K mg frL isL ssL xsL) (F_bottles_told : FnD P w K mg base T 5 "bottles_told" 4 ["teams", "stays", "spare", "bottles", "needs", "order", "full", "found", "at", "k"] bd_bottles_told) (F_is_bottles_told : FnD P w K mg base T 5 "is_bottles_told" 5 ["teams", "stays", "spare", "bottles", "thing", "needs", "one", "need"] bd_is_bottles_told) (F__law_hand : FnD P w K mg base T 1 "_law_hand" 1 ["script", "cells", "cell"] bd__law_hand) (F__law_draw : FnD P w K mg base T 1 "_law_draw" 2 ["hand", "many", "cell", "digit", "number"] bd__law_draw) (F__law_any : FnD P w K mg base T 2 "_law_any" 2 ["hand", "some"] bd__law_any) (F__law_team : FnD P w K mg base T 2 "_law_team" 1 ["hand"] bd__law_team) (F__law_bad_teams : FnD P w K mg base T 3 "_law_bad_teams" 1 ["hand", "some"] bd__law_bad_teams) (F__law_bad_spare : FnD P w K mg base T 3 "_law_bad_spare" 1 ["hand"] bd__law_bad_spare) (F__law_is_told : FnD P w K mg base T 1 "_law_is_told" 3 ["needed", "bottles", "thing", "many", "one", "at"] bd__law_is_told) (F__law_ways : FnD P w K mg base T 1 "_law_ways" 2 ["needed", "bottles", "found", "one", "row", "longer", "at", "units"] bd__law_ways) (f : Addr) (cdv : Value) (A : Around) (outer : List Env) (s : Shared) (H : Hp) (E : XK) (hr : Room 7 (A.deeper (envOfC "law" (defScope (top 36)) s.heap.objs.size f cdv))) (S_law_said : SaidD (bodyCx P w K mg base ["script", "hand", "turn", "said", "odd", "far", "none", "bad", "many", "thing", "row", "things", "told", "ways_here", "bottles", "bottle", "needed", "stays", "spare", "teams", "team", "stay", "one"] "law" (defScope (top 36)) f cdv A outer s H E) T 5 "_law_said" said_law_said) {c Pt : Addr} (TB : LamX.TabB base mg c Pt) (hcode : cdv = .ref c) (hmT : (Pt, (bodyCx P w K mg base ["script", "hand", "turn", "said", "odd", "far", "none", "bad", "many", "thing", "row", "things", "told", "ways_here", "bottles", "bottle", "needed", "stays", "spare", "teams", "team", "stay", "one"] "law" (defScope (top 36)) f cdv A outer s H E).env.qual ++ "<lambda>") ∈ T) (hu : ∀ p ∈ T, p.1 = Pt → p.2 = (bodyCx P w K mg base ["script", "hand", "turn", "said", "odd", "far", "none", "bad", "many", "thing", "row", "things", "told", "ways_here", "bottles", "bottle", "needed", "stays", "spare", "teams", "team", "stay", "one"] "law" (defScope (top 36)) f cdv A outer s H E).env.qual ++ "<lambda>") : DSs (bodyCx P w K mg base ["script", "hand", "turn", "said", "odd", "far", "none", "bad", "many", "thing", "row", "things", "told", "ways_here", "bottles", "bottle", "needed", "stays", "spare", "teams", "team", "stay", "one"] "law" (defScope (top 36)) f cdv A outer s H E) T (fun cls d _ H => E cls d H) (defBody (top 36)) bd_law :=
  (dss_cons (ds_setO sc_law.nd rfl (loc_b rfl) (do_v (dv_call0 (FnD.mono (k := 7) F__law_hand (by decide)) hr (takes_of rfl rfl rfl rfl) rfl (da_cons (de_var rfl (vis_b rfl)) da_nil)))) (dss_cons (ds_for (vs := [2]) (passes_of rfl) rfl (di_range1 rfl (L.fr 8 _ rfl) (da_cons de_int da_nil)) (dg_nm sc_law.nd rfl (loc_b rfl) (by decide)) (dss_cons (ds_set sc_law.nd rfl (loc_b rfl) (de_callTy c_tup rfl (L.fr 3 _ rfl) (by decide +kernel) (da_cons (de_frz (do_lc (own := [("team", 20)]) rfl sc_law.nd (di_range1 rfl (L.fr 8 _ rfl) (da_cons (de_binA o_add o_cat de_int (de_v (dv_call1 0 (FnD.mono (k := 7) F__law_draw (by decide)) hr (takes_of rfl rfl rfl rfl) rfl (da_cons (de_var rfl (vis_b rfl)) (da_cons de_int da_nil))))) da_nil)) (blkOk_by rfl) ⟨fun s H C cl fp => (dg_nm sc_law.nd rfl (loc_b rfl) (by decide)), fun s H C cl fp => dts_nil, fun s H C cl fp => (de_v (dv_call1 0 (FnD.mono (k := 7) F__law_team (by decide)) hr LamX.takes0 rfl (da_cons (de_var rfl (vis_b rfl)) da_nil)))⟩ noj_range1)) da_nil))) (dss_cons (ds_asg (vs := [17, 18]) (de_tup (da_cons (de_callTy c_tup rfl (L.fr 3 _ rfl) (by decide +kernel) (da_cons (de_frz (do_lc (own := [("team", 20)]) rfl sc_law.nd (di_seq (de_var rfl (vis_b rfl))) (blkOk_by rfl) ⟨fun s H C cl fp => (dg_nm sc_law.nd rfl (loc_b rfl) (by decide)), fun s H C cl fp => dts_nil, fun s H C cl fp => (de_v (dv_call1 0 (FnD.mono (k := 7) F__law_draw (by decide)) hr LamX.takes0 rfl (da_cons (de_var rfl (vis_b rfl)) (da_cons de_int da_nil))))⟩ noj_items)) da_nil)) (da_cons (de_v (dv_call1 0 (FnD.mono (k := 7) F__law_draw (by decide)) hr (takes_of rfl rfl rfl rfl) rfl (da_cons (de_var rfl (vis_b rfl)) (da_cons de_int da_nil)))) da_nil))) (dg_tp rfl (dgs_cons (dg_nm sc_law.nd rfl (loc_b rfl) (by decide)) (dgs_cons (dg_nm sc_law.nd rfl (loc_b rfl) (by decide)) dgs_nil)))) (dss_cons (ds_setLcO (own := [("team", 20), ("stay", 21)]) rfl sc_law.nd rfl rfl (sw_true rfl rfl rfl rfl) (di_zip rfl (L.fr 6 _ rfl) (da_cons (de_var rfl (vis_b rfl)) (da_cons (de_var rfl (vis_b rfl)) da_nil))) (blkOk_by rfl) ⟨fun s H C cl fp => (dg_tp rfl (dgs_cons (dg_nm sc_law.nd rfl (loc_b rfl) (by decide)) (dgs_cons (dg_nm sc_law.nd rfl (loc_b rfl) (by decide)) dgs_nil))), fun s H C cl fp => dts_nil, fun s H C cl fp => (de_binA o_add o_cat (de_binA o_mul o_rep (de_ix (de_var rfl (vis_b rfl)) de_int) (de_binA o_add o_cat (de_binA o_mul o_rep de_int (de_ix (de_var rfl (vis_b rfl)) de_int)) (de_var rfl (vis_b rfl)))) (de_var rfl (vis_b rfl)))⟩ noj_zip) (dss_cons (ds_setO sc_law.nd rfl (loc_b rfl) (do_lst da_nil)) (dss_cons (ds_for (vs := [15]) (passes_of rfl) rfl (di_range1 rfl (L.fr 8 _ rfl) (da_cons (de_v (dv_call1 0 (FnD.mono (k := 7) F__law_draw (by decide)) hr (takes_of rfl rfl rfl rfl) rfl (da_cons (de_var rfl (vis_b rfl)) (da_cons de_int da_nil)))) da_nil)) (dg_nm sc_law.nd rfl (loc_b rfl) (by decide)) (dss_one (ds_drop (de_meth F.slot_list_append m_append rfl (vis_b rfl) (da_cons (de_callB (c_minB rfl (rm2 hr)) rfl (L.fr 13 _ rfl) (by decide +kernel) (da_cons de_int (da_cons (de_binA o_add o_cat (de_v (dv_call1 0 (FnD.mono (k := 7) F__law_any (by decide)) hr (takes_of rfl rfl rfl rfl) rfl (da_cons (de_var rfl (vis_b rfl)) (da_cons (de_binA o_add o_cat (de_var rfl (vis_b rfl)) (de_frz (do_lst (da_cons (de_v (dv_call1 0 (FnD.mono (k := 7) F__law_draw (by decide)) hr (takes_of rfl rfl rfl rfl) rfl (da_cons (de_var rfl (vis_b rfl)) (da_cons de_int da_nil)))) da_nil)))) da_nil)))) (de_v (dv_call1 0 (FnD.mono (k := 7) F__law_draw (by decide)) hr (takes_of rfl rfl rfl rfl) rfl (da_cons (de_var rfl (vis_b rfl)) (da_cons de_int da_nil))))) da_nil))) da_nil))))) (dss_cons (ds_set sc_law.nd rfl (loc_b rfl) (de_callTy c_tup rfl (L.fr 3 _ rfl) (by decide +kernel) (da_cons (de_var rfl (vis_b rfl)) da_nil))) (dss_cons (ds_set sc_law.nd rfl (loc_b rfl) (de_v (dv_call0 (FnD.mono (k := 7) F__law_ways (by decide)) hr (takes_of rfl rfl rfl rfl) rfl (da_cons (de_var rfl (vis_b rfl)) (da_cons (de_var rfl (vis_b rfl)) da_nil))))) (dss_cons (ds_set sc_law.nd rfl (loc_b rfl) (de_v (dv_call0 (FnD.mono (k := 7) F_bottles_told (by decide)) hr (takes_of rfl rfl rfl rfl) rfl (da_cons (de_var rfl (vis_b rfl)) (da_cons (de_var rfl (vis_b rfl)) (da_cons (de_var rfl (vis_b rfl)) (da_cons (de_var rfl (vis_b rfl)) da_nil))))))) (dss_cons (ds_if (dt_w (dw_or (dt_cmp (o_ne (rm1 hr)) (de_cmp (o_eq (rm1 hr)) (de_ix (de_var rfl (vis_b rfl)) de_int) de_str (nomark _)) (de_cmp (o_ne (rm1 hr)) (de_var rfl (vis_b rfl)) (de_frz (do_lst da_nil)) (nomark _)) (nomark _)) (dw_or1 (dt_not (dt_tru (de_v (dv_call0 (FnD.mono (k := 7) F__law_is_told (by decide)) hr (takes_of rfl rfl rfl rfl) rfl (da_cons (de_var rfl (vis_b rfl)) (da_cons (de_var rfl (vis_b rfl)) (da_cons (de_var rfl (vis_b rfl)) da_nil)))))))))) (dss_one (ds_ret de_bl)) dss_nil) (dss_cons (ds_set sc_law.nd rfl (loc_b rfl) (de_frz (do_lst (da_cons (de_var rfl (vis_b rfl)) (da_cons (de_frz (do_callTy c_lst rfl (L.fr 14 _ rfl) (by decide +kernel) (da_cons (de_var rfl (vis_b rfl)) da_nil))) (da_cons (de_sl (de_var rfl (vis_b rfl)) dp_none (dp_some de_int)) (da_cons de_non (da_cons (de_tup (da_cons de_str (da_cons de_int da_nil))) (da_cons (de_tup (da_cons de_str (da_cons de_bl da_nil))) (da_cons (de_tup (da_cons de_str (da_cons (de_binA o_mulB o_rep (de_tup (da_cons de_int da_nil)) (de_callB c_len rfl (L.fr 4 _ rfl) (by decide +kernel) (da_cons (de_var rfl (vis_b rfl)) da_nil))) da_nil))) da_nil)))))))))) (dss_cons (ds_set sc_law.nd rfl (loc_b rfl) (de_binA o_add o_cat (de_var rfl (vis_b rfl)) (de_frz (do_lst (da_cons (de_tup (da_cons de_str (da_cons (de_tup da_nil) da_nil))) (da_cons de_int da_nil)))))) (dss_cons (ds_set sc_law.nd rfl (loc_b rfl) (de_binA o_add o_cat (de_binA o_add o_cat (de_binA o_add o_cat (de_var rfl (vis_b rfl)) (de_frz (do_lc (own := [("one", 22)]) rfl sc_law.nd (di_seq (de_var rfl (vis_b rfl))) (blkOk_by rfl) ⟨fun s H C cl fp => (dg_nm sc_law.nd rfl (loc_b rfl) (by decide)), fun s H C cl fp => dts_nil, fun s H C cl fp => (de_tup (da_cons de_str (da_cons (de_var rfl (vis_b rfl)) da_nil)))⟩ noj_items))) (de_frz (do_lc (own := [("one", 22)]) rfl sc_law.nd (di_seq (de_var rfl (vis_b rfl))) (blkOk_by rfl) ⟨fun s H C cl fp => (dg_nm sc_law.nd rfl (loc_b rfl) (by decide)), fun s H C cl fp => dts_nil, fun s H C cl fp => (de_tup (da_cons de_str (da_cons (de_binA o_add o_cat (de_var rfl (vis_b rfl)) de_int) da_nil)))⟩ noj_items))) (de_frz (do_lst (da_cons (de_tup (da_cons de_str (da_cons (de_ix (de_var rfl (vis_b rfl)) de_int) da_nil))) da_nil))))) (dss_cons (ds_for (vs := [10]) (passes_of rfl) rfl (di_seq (de_sl (de_var rfl (vis_b rfl)) dp_none (dp_some de_int))) (dg_nm sc_law.nd rfl (loc_b rfl) (by decide)) (dss_one (ds_set sc_law.nd rfl (loc_b rfl) (de_binA o_add o_cat (de_var rfl (vis_b rfl)) (de_frz (do_lst (da_cons (de_tup (da_cons de_str (da_cons (de_var rfl (vis_b rfl)) da_nil))) (da_cons (de_tup (da_cons de_str (da_cons (de_rev (de_var rfl (vis_b rfl))) da_nil))) (da_cons (de_tup (da_cons de_str (da_cons (de_binA o_add o_cat (de_var rfl (vis_b rfl)) (de_tup (da_cons de_int da_nil))) da_nil))) da_nil))))))))) (dss_cons (ds_for (vs := [9]) (passes_of rfl) rfl (di_seq (de_var rfl (vis_b rfl))) (dg_nm sc_law.nd rfl (loc_b rfl) (by decide)) (dss_one (ds_if (dt_cmp (o_ne (rm1 hr)) (de_v (dv_call0 (FnD.mono (k := 7) F_is_bottles_told (by decide)) hr (takes_of rfl rfl rfl rfl) rfl (da_cons (de_var rfl (vis_b rfl)) (da_cons (de_var rfl (vis_b rfl)) (da_cons (de_var rfl (vis_b rfl)) (da_cons (de_var rfl (vis_b rfl)) (da_cons (de_var rfl (vis_b rfl)) da_nil))))))) (de_v (dv_call0 (FnD.mono (k := 7) F__law_is_told (by decide)) hr (takes_of rfl rfl rfl rfl) rfl (da_cons (de_var rfl (vis_b rfl)) (da_cons (de_var rfl (vis_b rfl)) (da_cons (de_var rfl (vis_b rfl)) da_nil))))) (nomark _)) (dss_one (ds_ret de_bl)) dss_nil))) (dss_cons (ds_if (dt_w (dw_and (dt_cmp (o_eq (rm1 hr)) (de_ix (de_var rfl (vis_b rfl)) de_int) de_str (nomark _)) (dw_and1 (dt_cmp (o_ne (rm1 hr)) (de_ix (de_v (dv_call0 (FnD.mono (k := 7) F_bottles_told (by decide)) hr (takes_of rfl rfl rfl rfl) rfl (da_cons (de_var rfl (vis_b rfl)) (da_cons (de_var rfl (vis_b rfl)) (da_cons (de_var rfl (vis_b rfl)) (da_cons (de_binA o_add o_cat (de_var rfl (vis_b rfl)) (de_tup (da_cons de_int da_nil))) da_nil)))))) de_int) de_str (nomark _))))) (dss_one (ds_ret de_bl)) dss_nil) (dss_cons (ds_if (dt_w (dw_and (dt_cmp (o_eq (rm1 hr)) (de_ix (de_var rfl (vis_b rfl)) de_int) de_str (nomark _)) (dw_and1 (dt_cmp (o_ne (rm1 hr)) (de_ix (de_v (dv_call0 (FnD.mono (k := 7) F_bottles_told (by decide)) hr (takes_of rfl rfl rfl rfl) rfl (da_cons (de_var rfl (vis_b rfl)) (da_cons (de_var rfl (vis_b rfl)) (da_cons (de_binA o_add o_cat (de_var rfl (vis_b rfl)) de_int) (da_cons (de_var rfl (vis_b rfl)) da_nil)))))) de_int) de_str (nomark _))))) (dss_one (ds_ret de_bl)) dss_nil) (dss_cons (ds_asg (vs := [6, 7, 8]) (de_tup (da_cons (de_v (dv_call1 0 (FnD.mono (k := 7) F__law_bad_teams (by decide)) hr (takes_of rfl rfl rfl rfl) rfl (da_cons (de_var rfl (vis_b rfl)) da_nil))) (da_cons (de_v (dv_call1 0 (FnD.mono (k := 7) F__law_bad_spare (by decide)) hr (takes_of rfl rfl rfl rfl) rfl (da_cons (de_var rfl (vis_b rfl)) da_nil))) (da_cons (de_callB c_len rfl (L.fr 4 _ rfl) (by decide +kernel) (da_cons (de_var rfl (vis_b rfl)) da_nil)) da_nil)))) (dg_tp rfl (dgs_cons (dg_nm sc_law.nd rfl (loc_b rfl) (by decide)) (dgs_cons (dg_nm sc_law.nd rfl (loc_b rfl) (by decide)) (dgs_cons (dg_nm sc_law.nd rfl (loc_b rfl) (by decide)) dgs_nil))))) (dss_cons (ds_set sc_law.nd rfl (loc_b rfl) (de_v (dv_call1 0 (FnD.mono (k := 7) F__law_any (by decide)) hr (takes_of rfl rfl rfl rfl) rfl (da_cons (de_var rfl (vis_b rfl)) (da_cons (de_frz (do_lst (da_cons de_non (da_cons (de_binA o_add o_cat (de_var rfl (vis_b rfl)) (de_tup (da_cons de_int da_nil))) (da_cons (de_frz (do_callTy c_lst rfl (L.fr 14 _ rfl) (by decide +kernel) (da_cons (de_var rfl (vis_b rfl)) da_nil))) (da_cons (de_binA o_mulB o_rep (de_tup (da_cons de_int da_nil)) (de_var rfl (vis_b rfl))) (da_cons (de_binA o_mulB o_rep (de_tup (da_cons (de_neg de_int) da_nil)) (de_var rfl (vis_b rfl))) (da_cons (de_binA o_mulB o_rep (de_tup (da_cons de_bl da_nil)) (de_var rfl (vis_b rfl))) (da_cons de_int da_nil))))))))) da_nil))))) (dss_cons (ds_set sc_law.nd rfl (loc_b rfl) (de_v (dv_call1 0 (FnD.mono (k := 7) F__law_any (by decide)) hr (takes_of rfl rfl rfl rfl) rfl (da_cons (de_var rfl (vis_b rfl)) (da_cons (de_frz (do_lst (da_cons de_non (da_cons (de_frz (do_lst (da_cons de_int da_nil))) (da_cons (de_tup (da_cons de_int da_nil)) (da_cons (de_tup (da_cons (de_neg de_int) da_nil)) (da_cons (de_binA o_mulB o_rep (de_tup (da_cons de_int da_nil)) de_int) (da_cons (de_tup (da_cons de_bl da_nil)) (da_cons de_int da_nil))))))))) da_nil))))) (dss_cons (ds_setO sc_law.nd rfl (loc_b rfl) (do_lst (da_cons (de_said (k := 5) S_law_said rfl TB hcode hmT hu hr (LamX.lamS_by rfl) (fun A outer s H E f c2 hr2 => (de_v (dv_call0 (FnD.mono (k := 5) F_bottles_told (by decide)) hr2 (takes_of rfl rfl rfl rfl) rfl (da_cons (de_var rfl (vis_b rfl)) (da_cons (de_var rfl (vis_b rfl)) (da_cons (de_var rfl (vis_b rfl)) (da_cons (de_var rfl (vis_b rfl)) da_nil)))))))) da_nil))) (dss_cons (ds_setO sc_law.nd rfl (loc_b rfl) (do_bin o_cat (de_var rfl (vis_b rfl)) (de_frz (do_lst (da_cons (de_said (k := 5) S_law_said rfl TB hcode hmT hu hr (LamX.lamS_by rfl) (fun A outer s H E f c2 hr2 => (de_v (dv_call0 (FnD.mono (k := 5) F_bottles_told (by decide)) hr2 (takes_of rfl rfl rfl rfl) rfl (da_cons (de_var rfl (vis_b rfl)) (da_cons (de_var rfl (vis_b rfl)) (da_cons (de_var rfl (vis_b rfl)) (da_cons (de_var rfl (vis_b rfl)) da_nil)))))))) da_nil))))) (dss_cons (ds_setO sc_law.nd rfl (loc_b rfl) (do_bin o_cat (de_var rfl (vis_b rfl)) (de_frz (do_lst (da_cons (de_said (k := 5) S_law_said rfl TB hcode hmT hu hr (LamX.lamS_by rfl) (fun A outer s H E f c2 hr2 => (de_v (dv_call0 (FnD.mono (k := 5) F_bottles_told (by decide)) hr2 (takes_of rfl rfl rfl rfl) rfl (da_cons (de_var rfl (vis_b rfl)) (da_cons (de_var rfl (vis_b rfl)) (da_cons (de_var rfl (vis_b rfl)) (da_cons (de_var rfl (vis_b rfl)) da_nil)))))))) da_nil))))) (dss_cons (ds_setO sc_law.nd rfl (loc_b rfl) (do_bin o_cat (de_var rfl (vis_b rfl)) (de_frz (do_lst (da_cons (de_said (k := 5) S_law_said rfl TB hcode hmT hu hr (LamX.lamS_by rfl) (fun A outer s H E f c2 hr2 => (de_v (dv_call0 (FnD.mono (k := 5) F_bottles_told (by decide)) hr2 (takes_of rfl rfl rfl rfl) rfl (da_cons (de_var rfl (vis_b rfl)) (da_cons (de_var rfl (vis_b rfl)) (da_cons (de_var rfl (vis_b rfl)) (da_cons (de_var rfl (vis_b rfl)) da_nil)))))))) da_nil))))) (dss_cons (ds_drop (de_meth F.slot_list_append m_append rfl (vis_b rfl) (da_cons (de_said (k := 5) S_law_said rfl TB hcode hmT hu hr (LamX.lamS_by rfl) (fun A outer s H E f c2 hr2 => (de_v (dv_call0 (FnD.mono (k := 5) F_is_bottles_told (by decide)) hr2 (takes_of rfl rfl rfl rfl) rfl (da_cons (de_var rfl (vis_b rfl)) (da_cons (de_var rfl (vis_b rfl)) (da_cons (de_var rfl (vis_b rfl)) (da_cons (de_var rfl (vis_b rfl)) (da_cons de_non da_nil))))))))) da_nil))) (dss_one (ds_if (dt_cmp (o_ne (rm1 hr)) (de_var rfl (vis_b rfl)) (de_frz (do_lst (da_cons de_str (da_cons de_str (da_cons de_str (da_cons de_str (da_cons de_str da_nil))))))) (nomark _)) (dss_one (ds_ret de_bl)) dss_nil))))))))))))))))))))))))))) (dss_one (ds_ret (de_cmp (o_eq (rm1 hr)) (de_v (dv_call0 (FnD.mono (k := 7) F_bottles_told (by decide)) hr (takes_of rfl rfl rfl rfl) rfl (da_cons (de_tup (da_cons (de_tup (da_cons de_int (da_cons de_int (da_cons de_int da_nil)))) da_nil)) (da_cons (de_tup (da_cons de_int da_nil)) (da_cons de_int (da_cons (de_tup (da_cons de_int (da_cons de_int da_nil))) da_nil)))))) (de_tup (da_cons de_str (da_cons (de_tup (da_cons de_int da_nil)) da_nil))) (nomark _))))))
end
section
variable {X : Cx} {T : List (Addr × Str)}
theorem sc__law_said : FnScope ["call", "error", "some"] ["call"] (defScope (top 33)) := ⟨rfl, rfl, rfl, by decide +kernel, rfl, by decide +kernel, by decide +kernel⟩
theorem ws_law_said_0 (L : Lw X.K X.mg frL isL ssL xsL) (hx : exB clsL pairL X.K = true) (hgl : ∀ (i : Nat) x, gloL[i]? = some x → X.mg x = some (.ref (He.ga X.K x))) (hr : Room 1 X.A) (g : Addr) (cdg : Value) (s : Shared) (H : Hp) (a : Addr) (oe : Obj) (pn : List (Addr × Obj)) (hz : Zc (.ref (He.ga X.K "NoGiven")) none oe) (hf : ∃ vs, oe.data = .fields vs) (st : List Stmt) (hst : st = (match defBody (top 33) with
  | .Try _ [.ExceptHandler _ _ b _] _ _ _ :: _ => b
  | _ => [])) :
    DSs (Cx.suite (cxOf C8.CX0 X.prog X.w X.K X.mg X.base ["call", "error", "some"] "_law_said" (defScope (top 33)) g cdg X.A X.stack s H C8.E0).nox a ((a, oe) :: pn)) T Wno st (sd_law_said_0 a) := by
  subst hst
  have Ec := exB_cl hx 0 (x := "NoGiven") rfl
  exact (dss_cons (ds_set sc__law_said.nd rfl (loc_b rfl) (de_frz (do_lst (da_cons (de_isEo Ec.1 hz hf rfl (vis_b rfl) rfl (hgl 1 _ rfl) (exB_pair hx 0 rfl) rfl (L.fr 0 _ rfl)) (da_cons (de_isEo Ec.1 hz hf rfl (vis_b rfl) rfl (hgl 2 _ rfl) (exB_pair hx 1 rfl) rfl (L.fr 0 _ rfl)) (da_cons (de_isEo Ec.1 hz hf rfl (vis_b rfl) rfl (hgl 3 _ rfl) (exB_pair hx 2 rfl) rfl (L.fr 0 _ rfl)) da_nil)))))) (dss_cons (ds_set sc__law_said.nd rfl (loc_b rfl) (de_binA o_add o_cat (de_var rfl (vis_b rfl)) (de_frz (do_lst (da_cons (de_isEo Ec.1 hz hf rfl (vis_b rfl) rfl (hgl 4 _ rfl) (exB_pair hx 3 rfl) rfl (L.fr 0 _ rfl)) da_nil))))) (dss_cons (ds_if (dt_w (dw_or (dt_cmp (o_ne (rmS1 (env := envOfC "_law_said" (defScope (top 33)) s.heap.objs.size g cdg) hr)) (de_mb F.slot_list_count (m_count (rmS2 (env := envOfC "_law_said" (defScope (top 33)) s.heap.objs.size g cdg) hr)) ty_list (de_var rfl (vis_b rfl)) (da_cons de_bl da_nil) PySem.F.plainAttrs_list) de_int (nomark _)) (dw_or1 (dt_not (dt_tru (de_isEb Ec.1 hz hf rfl (vis_b rfl) rfl (L.fr 15 _ rfl) (by decide +kernel) Ec.2 rfl (L.fr 0 _ rfl))))))) (dss_one (ds_ret de_str)) dss_nil) (dss_one (ds_ret (de_ix (de_frz (do_lst (da_cons de_str (da_cons de_str (da_cons de_str (da_cons de_str da_nil)))))) (de_mb F.slot_list_index (m_index (rmS2 (env := envOfC "_law_said" (defScope (top 33)) s.heap.objs.size g cdg) hr)) ty_list (de_var rfl (vis_b rfl)) (da_cons de_bl da_nil) PySem.F.plainAttrs_list)))))))
theorem run_law_said_0 (a : Addr) : ∃ env', sd_law_said_0 a (envX 3 1 a) = .ok (.ret (.d (.str "given"))) env' := by
  have h : wp (sd_law_said_0 a) (envX 3 1 a) (fun fl _ => fl = .ret (.d (.str "given"))) (fun _ _ => False) := by
    unfold sd_law_said_0 envX
    simp [sizeLine_eq, gAddA, gOr, gAdd, gCat, gCount, gNe, gIndex, gIx, atI, ixN, truD, isLst, SeqAt.shaped, PyData.canLay0, PyData.canLayAll0, PyData.depth, PyData.depthAll, PyData.eqv, List.findIdx?_cons, List.countP_cons]
  obtain ⟨v, env', e, rfl⟩ := wp_ok h
  exact ⟨env', e⟩
theorem ws_law_said_1 (L : Lw X.K X.mg frL isL ssL xsL) (hx : exB clsL pairL X.K = true) (hgl : ∀ (i : Nat) x, gloL[i]? = some x → X.mg x = some (.ref (He.ga X.K x))) (hr : Room 1 X.A) (g : Addr) (cdg : Value) (s : Shared) (H : Hp) (a : Addr) (oe : Obj) (pn : List (Addr × Obj)) (hz : Zc (.ref (He.ga X.K "NoNeeds")) none oe) (hf : ∃ vs, oe.data = .fields vs) (st : List Stmt) (hst : st = (match defBody (top 33) with
  | .Try _ [.ExceptHandler _ _ b _] _ _ _ :: _ => b
  | _ => [])) :
    DSs (Cx.suite (cxOf C8.CX0 X.prog X.w X.K X.mg X.base ["call", "error", "some"] "_law_said" (defScope (top 33)) g cdg X.A X.stack s H C8.E0).nox a ((a, oe) :: pn)) T Wno st (sd_law_said_1 a) := by
  subst hst
  have Ec := exB_cl hx 1 (x := "NoNeeds") rfl
  exact (dss_cons (ds_set sc__law_said.nd rfl (loc_b rfl) (de_frz (do_lst (da_cons (de_isEo Ec.1 hz hf rfl (vis_b rfl) rfl (hgl 1 _ rfl) (exB_pair hx 4 rfl) rfl (L.fr 0 _ rfl)) (da_cons (de_isEo Ec.1 hz hf rfl (vis_b rfl) rfl (hgl 2 _ rfl) (exB_pair hx 5 rfl) rfl (L.fr 0 _ rfl)) (da_cons (de_isEo Ec.1 hz hf rfl (vis_b rfl) rfl (hgl 3 _ rfl) (exB_pair hx 6 rfl) rfl (L.fr 0 _ rfl)) da_nil)))))) (dss_cons (ds_set sc__law_said.nd rfl (loc_b rfl) (de_binA o_add o_cat (de_var rfl (vis_b rfl)) (de_frz (do_lst (da_cons (de_isEo Ec.1 hz hf rfl (vis_b rfl) rfl (hgl 4 _ rfl) (exB_pair hx 7 rfl) rfl (L.fr 0 _ rfl)) da_nil))))) (dss_cons (ds_if (dt_w (dw_or (dt_cmp (o_ne (rmS1 (env := envOfC "_law_said" (defScope (top 33)) s.heap.objs.size g cdg) hr)) (de_mb F.slot_list_count (m_count (rmS2 (env := envOfC "_law_said" (defScope (top 33)) s.heap.objs.size g cdg) hr)) ty_list (de_var rfl (vis_b rfl)) (da_cons de_bl da_nil) PySem.F.plainAttrs_list) de_int (nomark _)) (dw_or1 (dt_not (dt_tru (de_isEb Ec.1 hz hf rfl (vis_b rfl) rfl (L.fr 15 _ rfl) (by decide +kernel) Ec.2 rfl (L.fr 0 _ rfl))))))) (dss_one (ds_ret de_str)) dss_nil) (dss_one (ds_ret (de_ix (de_frz (do_lst (da_cons de_str (da_cons de_str (da_cons de_str (da_cons de_str da_nil)))))) (de_mb F.slot_list_index (m_index (rmS2 (env := envOfC "_law_said" (defScope (top 33)) s.heap.objs.size g cdg) hr)) ty_list (de_var rfl (vis_b rfl)) (da_cons de_bl da_nil) PySem.F.plainAttrs_list)))))))
theorem run_law_said_1 (a : Addr) : ∃ env', sd_law_said_1 a (envX 3 1 a) = .ok (.ret (.d (.str "needs"))) env' := by
  have h : wp (sd_law_said_1 a) (envX 3 1 a) (fun fl _ => fl = .ret (.d (.str "needs"))) (fun _ _ => False) := by
    unfold sd_law_said_1 envX
    simp [sizeLine_eq, gAddA, gOr, gAdd, gCat, gCount, gNe, gIndex, gIx, atI, ixN, truD, isLst, SeqAt.shaped, PyData.canLay0, PyData.canLayAll0, PyData.depth, PyData.depthAll, PyData.eqv, List.findIdx?_cons, List.countP_cons]
  obtain ⟨v, env', e, rfl⟩ := wp_ok h
  exact ⟨env', e⟩
theorem ws_law_said_2 (L : Lw X.K X.mg frL isL ssL xsL) (hx : exB clsL pairL X.K = true) (hgl : ∀ (i : Nat) x, gloL[i]? = some x → X.mg x = some (.ref (He.ga X.K x))) (hr : Room 1 X.A) (g : Addr) (cdg : Value) (s : Shared) (H : Hp) (a : Addr) (oe : Obj) (pn : List (Addr × Obj)) (hz : Zc (.ref (He.ga X.K "NoNumber")) none oe) (hf : ∃ vs, oe.data = .fields vs) (st : List Stmt) (hst : st = (match defBody (top 33) with
  | .Try _ [.ExceptHandler _ _ b _] _ _ _ :: _ => b
  | _ => [])) :
    DSs (Cx.suite (cxOf C8.CX0 X.prog X.w X.K X.mg X.base ["call", "error", "some"] "_law_said" (defScope (top 33)) g cdg X.A X.stack s H C8.E0).nox a ((a, oe) :: pn)) T Wno st (sd_law_said_2 a) := by
  subst hst
  have Ec := exB_cl hx 2 (x := "NoNumber") rfl
  exact (dss_cons (ds_set sc__law_said.nd rfl (loc_b rfl) (de_frz (do_lst (da_cons (de_isEo Ec.1 hz hf rfl (vis_b rfl) rfl (hgl 1 _ rfl) (exB_pair hx 8 rfl) rfl (L.fr 0 _ rfl)) (da_cons (de_isEo Ec.1 hz hf rfl (vis_b rfl) rfl (hgl 2 _ rfl) (exB_pair hx 9 rfl) rfl (L.fr 0 _ rfl)) (da_cons (de_isEo Ec.1 hz hf rfl (vis_b rfl) rfl (hgl 3 _ rfl) (exB_pair hx 10 rfl) rfl (L.fr 0 _ rfl)) da_nil)))))) (dss_cons (ds_set sc__law_said.nd rfl (loc_b rfl) (de_binA o_add o_cat (de_var rfl (vis_b rfl)) (de_frz (do_lst (da_cons (de_isEo Ec.1 hz hf rfl (vis_b rfl) rfl (hgl 4 _ rfl) (exB_pair hx 11 rfl) rfl (L.fr 0 _ rfl)) da_nil))))) (dss_cons (ds_if (dt_w (dw_or (dt_cmp (o_ne (rmS1 (env := envOfC "_law_said" (defScope (top 33)) s.heap.objs.size g cdg) hr)) (de_mb F.slot_list_count (m_count (rmS2 (env := envOfC "_law_said" (defScope (top 33)) s.heap.objs.size g cdg) hr)) ty_list (de_var rfl (vis_b rfl)) (da_cons de_bl da_nil) PySem.F.plainAttrs_list) de_int (nomark _)) (dw_or1 (dt_not (dt_tru (de_isEb Ec.1 hz hf rfl (vis_b rfl) rfl (L.fr 15 _ rfl) (by decide +kernel) Ec.2 rfl (L.fr 0 _ rfl))))))) (dss_one (ds_ret de_str)) dss_nil) (dss_one (ds_ret (de_ix (de_frz (do_lst (da_cons de_str (da_cons de_str (da_cons de_str (da_cons de_str da_nil)))))) (de_mb F.slot_list_index (m_index (rmS2 (env := envOfC "_law_said" (defScope (top 33)) s.heap.objs.size g cdg) hr)) ty_list (de_var rfl (vis_b rfl)) (da_cons de_bl da_nil) PySem.F.plainAttrs_list)))))))
theorem run_law_said_2 (a : Addr) : ∃ env', sd_law_said_2 a (envX 3 1 a) = .ok (.ret (.d (.str "number"))) env' := by
  have h : wp (sd_law_said_2 a) (envX 3 1 a) (fun fl _ => fl = .ret (.d (.str "number"))) (fun _ _ => False) := by
    unfold sd_law_said_2 envX
    simp [sizeLine_eq, gAddA, gOr, gAdd, gCat, gCount, gNe, gIndex, gIx, atI, ixN, truD, isLst, SeqAt.shaped, PyData.canLay0, PyData.canLayAll0, PyData.depth, PyData.depthAll, PyData.eqv, List.findIdx?_cons, List.countP_cons]
  obtain ⟨v, env', e, rfl⟩ := wp_ok h
  exact ⟨env', e⟩
theorem ws_law_said_3 (L : Lw X.K X.mg frL isL ssL xsL) (hx : exB clsL pairL X.K = true) (hgl : ∀ (i : Nat) x, gloL[i]? = some x → X.mg x = some (.ref (He.ga X.K x))) (hr : Room 1 X.A) (g : Addr) (cdg : Value) (s : Shared) (H : Hp) (a : Addr) (oe : Obj) (pn : List (Addr × Obj)) (hz : Zc (.ref (He.ga X.K "NoTeams")) none oe) (hf : ∃ vs, oe.data = .fields vs) (st : List Stmt) (hst : st = (match defBody (top 33) with
  | .Try _ [.ExceptHandler _ _ b _] _ _ _ :: _ => b
  | _ => [])) :
    DSs (Cx.suite (cxOf C8.CX0 X.prog X.w X.K X.mg X.base ["call", "error", "some"] "_law_said" (defScope (top 33)) g cdg X.A X.stack s H C8.E0).nox a ((a, oe) :: pn)) T Wno st (sd_law_said_3 a) := by
  subst hst
  have Ec := exB_cl hx 3 (x := "NoTeams") rfl
  exact (dss_cons (ds_set sc__law_said.nd rfl (loc_b rfl) (de_frz (do_lst (da_cons (de_isEo Ec.1 hz hf rfl (vis_b rfl) rfl (hgl 1 _ rfl) (exB_pair hx 12 rfl) rfl (L.fr 0 _ rfl)) (da_cons (de_isEo Ec.1 hz hf rfl (vis_b rfl) rfl (hgl 2 _ rfl) (exB_pair hx 13 rfl) rfl (L.fr 0 _ rfl)) (da_cons (de_isEo Ec.1 hz hf rfl (vis_b rfl) rfl (hgl 3 _ rfl) (exB_pair hx 14 rfl) rfl (L.fr 0 _ rfl)) da_nil)))))) (dss_cons (ds_set sc__law_said.nd rfl (loc_b rfl) (de_binA o_add o_cat (de_var rfl (vis_b rfl)) (de_frz (do_lst (da_cons (de_isEo Ec.1 hz hf rfl (vis_b rfl) rfl (hgl 4 _ rfl) (exB_pair hx 15 rfl) rfl (L.fr 0 _ rfl)) da_nil))))) (dss_cons (ds_if (dt_w (dw_or (dt_cmp (o_ne (rmS1 (env := envOfC "_law_said" (defScope (top 33)) s.heap.objs.size g cdg) hr)) (de_mb F.slot_list_count (m_count (rmS2 (env := envOfC "_law_said" (defScope (top 33)) s.heap.objs.size g cdg) hr)) ty_list (de_var rfl (vis_b rfl)) (da_cons de_bl da_nil) PySem.F.plainAttrs_list) de_int (nomark _)) (dw_or1 (dt_not (dt_tru (de_isEb Ec.1 hz hf rfl (vis_b rfl) rfl (L.fr 15 _ rfl) (by decide +kernel) Ec.2 rfl (L.fr 0 _ rfl))))))) (dss_one (ds_ret de_str)) dss_nil) (dss_one (ds_ret (de_ix (de_frz (do_lst (da_cons de_str (da_cons de_str (da_cons de_str (da_cons de_str da_nil)))))) (de_mb F.slot_list_index (m_index (rmS2 (env := envOfC "_law_said" (defScope (top 33)) s.heap.objs.size g cdg) hr)) ty_list (de_var rfl (vis_b rfl)) (da_cons de_bl da_nil) PySem.F.plainAttrs_list)))))))
theorem run_law_said_3 (a : Addr) : ∃ env', sd_law_said_3 a (envX 3 1 a) = .ok (.ret (.d (.str "teams"))) env' := by
  have h : wp (sd_law_said_3 a) (envX 3 1 a) (fun fl _ => fl = .ret (.d (.str "teams"))) (fun _ _ => False) := by
    unfold sd_law_said_3 envX
    simp [sizeLine_eq, gAddA, gOr, gAdd, gCat, gCount, gNe, gIndex, gIx, atI, ixN, truD, isLst, SeqAt.shaped, PyData.canLay0, PyData.canLayAll0, PyData.depth, PyData.depthAll, PyData.eqv, List.findIdx?_cons, List.countP_cons]
  obtain ⟨v, env', e, rfl⟩ := wp_ok h
  exact ⟨env', e⟩
end
end K72
end

/- M72a -/
section
set_option maxHeartbeats 4000000
namespace K72
open PySem PySem.Spec PyProof.Rows L2 DL

@[simp] theorem f_is_integer {d : PyData} : fin 1 bd_is_integer 1 [.d d] none = M.pure (.d (.bool (DL.intD d))) := by
  refine fin_ans ?_ rfl
  unfold bd_is_integer
  cases d <;> simp [DL.isInt, DL.isBool, DL.intD]
@[simp] theorem f_is_within {d : PyData} {lo hi : Int} : fin 3 bd_is_within 3 [.d d, .d (.int lo), .d (.int hi)] none = M.pure (.d (.bool (withinD d lo hi))) := by
  refine fin_ans ?_ rfl
  unfold bd_is_within
  cases d with
  | int i => by_cases h : lo ≤ i <;> simp [DL.intD, h]
  | _ => simp [DL.intD, withinD]
@[simp] theorem f_is_sized {d : PyData} {lo hi : Int} : fin 3 bd_is_sized 3 [.d d, .d (.int lo), .d (.int hi)] none = M.pure (.d (.bool (sizedD d lo hi))) := by
  refine fin_ans ?_ rfl
  unfold bd_is_sized
  cases d with
  | tuple xs => by_cases h : lo ≤ (xs.length : Int) <;> simp [h]
  | _ => simp [sizedD, DL.isTup]
def teamD (d : PyData) : Bool := match d with
  | .tuple [u, s, w] => withinD u 1 300 && withinD s 1 20 && withinD w 0 20
  | _ => false
theorem len3 {xs : List PyData} (h : sizedD (.tuple xs) 3 3 = true) : ∃ a b c, xs = [a, b, c] := by
  simp at h
  match xs, h with
  | [a, b, c], _ => exact ⟨a, b, c, rfl⟩
  | [], h => simp at h
  | [_], h => simp at h
  | [_, _], h => simp at h
  | _ :: _ :: _ :: _ :: _, h => simp at h; omega
@[simp] theorem f_is_team {d : PyData} : fin 1 bd_is_team 1 [.d d] none = M.pure (.d (.bool (teamD d))) := by
  refine fin_ans ?_ rfl
  unfold bd_is_team
  cases hs : sizedD d 3 3 with
  | false =>
    have : teamD d = false := by
      unfold teamD
      split
      · simp at hs
      · rfl
    simp [hs, this]
  | true =>
    cases d with
    | tuple xs =>
      obtain ⟨a, b, c, rfl⟩ := len3 hs
      cases ha : withinD a 1 300 <;> cases hb : withinD b 1 20 <;> simp [teamD, ha, hb]
    | _ => cases hs
@[simp] theorem f_check_spare {d : PyData} : fin 1 bd_check_spare 1 [.d d] none = M.chk (withinD d 0 100) "NoNumber" := by
  refine fin_chk ?_ rfl
  unfold bd_check_spare
  cases h : withinD d 0 100 <;> simp [h]
def tupLen : PyData → Nat
  | .tuple xs => xs.length
  | _ => 0
def tupAll (p : PyData → Bool) : PyData → Bool
  | .tuple xs => xs.all p
  | _ => false
def csErr (d e sp b : PyData) : Option Str :=
  if (sizedD d 1 8 && tupAll teamD d) = false then some "NoTeams"
  else if (sizedD e (tupLen d) (tupLen d) && tupAll (fun x => withinD x 0 60) e) = false then some "NoNeeds"
  else if withinD sp 0 100 = false then some "NoNumber"
  else if (sizedD b 0 12 && tupAll (fun x => withinD x 0 300) b) = false then some "NoGiven" else none
theorem s_check_stays {d e sp b : PyData} {Q : Fl → En → Prop} {E : Er → En → Prop} (h : match csErr d e sp b with | none => ∀ en, Q .next en | some x => ∀ en, E ⟨x, none⟩ en) : W bd_check_stays (startE 7 [.d d, .d e, .d sp, .d b]) Q E := by
  unfold bd_check_stays
  unfold csErr at h
  refine W_step fun K hK _ _ _ => ?_
  cases h1 : sizedD d 1 8 with
  | false =>
    simp [h1] at h
    simp [h1]
    exact h _
  | true =>
    obtain ⟨xs, rfl, h1a, h1b⟩ := sized_elim h1
    simp [h1, -sizedD_tup]
    refine W_lc_mapI (fun x => .bool (teamD x)) (by simp) (by rw [sizeLine_eq]; omega) (fun x hx => by simp) ?_
    simp [all_bools, -List.all_eq_true]
    cases h2 : xs.all teamD with
    | false =>
      simp [h1, tupAll, h2, -sizedD_tup] at h
      simp
      exact h _
    | true =>
      simp
      refine hK _ ?_
      refine W_step fun K hK _ _ _ => ?_
      cases h3 : sizedD e xs.length xs.length with
      | false =>
        simp [h1, tupAll, h2, tupLen, h3, -sizedD_tup] at h
        simp [h3, -sizedD_tup]
        exact h _
      | true =>
        obtain ⟨ys, rfl, h3a, h3b⟩ := sized_elim h3
        simp [h3, -sizedD_tup]
        refine W_lc_mapI (fun x => .bool (withinD x 0 60)) (by simp) (by rw [sizeLine_eq]; omega) (fun x hx => by simp) ?_
        simp [all_bools, -List.all_eq_true]
        cases h4 : ys.all fun x => withinD x 0 60 with
        | false =>
          simp [h1, tupAll, h2, tupLen, h3, h4, -sizedD_tup] at h
          simp
          exact h _
        | true =>
          simp
          refine hK _ ?_
          cases h5 : withinD sp 0 100 with
          | false =>
            simp [h1, tupAll, h2, tupLen, h3, h4, h5, -sizedD_tup] at h
            simp [h5]
            exact h _
          | true =>
            cases h6 : sizedD b 0 12 with
            | false =>
              simp [h1, tupAll, h2, tupLen, h3, h4, h5, h6, -sizedD_tup] at h
              simp [h5, h6, -sizedD_tup]
              exact h _
            | true =>
              obtain ⟨zs, rfl, h6a, h6b⟩ := sized_elim h6
              simp [h5, h6, -sizedD_tup]
              refine W_lc_mapI (fun x => .bool (withinD x 0 300)) (by simp) (by rw [sizeLine_eq]; omega) (fun x hx => by simp) ?_
              simp [all_bools, -List.all_eq_true]
              cases h7 : zs.all fun x => withinD x 0 300 with
              | false =>
                simp [h1, tupAll, h2, tupLen, h3, h4, h5, h6, h7, -sizedD_tup] at h
                simp
                exact h _
              | true =>
                simp [h1, tupAll, h2, tupLen, h3, h4, h5, h6, h7, -sizedD_tup] at h
                simp
                exact h _
theorem f_check_stays {d e sp b : PyData} (h : csErr d e sp b = none) : fin 4 bd_check_stays 7 [.d d, .d e, .d sp, .d b] none = M.pure (.d .none) := fin_don (s_check_stays (by rw [h]; simp)) rfl
theorem f_check_stays_err {d e sp b : PyData} {x : Str} (h : csErr d e sp b = some x) : fin 4 bd_check_stays 7 [.d d, .d e, .d sp, .d b] none = M.err ⟨x, none⟩ := fin_err (s_check_stays (by rw [h]; simp)) rfl
end K72
end

/- M72b -/
section
set_option maxHeartbeats 4000000
namespace K72
open PySem PySem.Spec PyProof.Rows L2 DL

structure Tm where
  u : Int
  s : Int
  w : Int
def Tm.d (t : Tm) : PyData := .tuple [.int t.u, .int t.s, .int t.w]
structure Tm.Ok (t : Tm) : Prop where
  u0 : 1 ≤ t.u
  u1 : t.u ≤ 300
  s0 : 1 ≤ t.s
  s1 : t.s ≤ 20
  w0 : 0 ≤ t.w
  w1 : t.w ≤ 20
theorem Tm.Ok.d {t : Tm} (h : t.Ok) : teamD t.d = true := by
  obtain ⟨a, b, c, d, e, f⟩ := h
  simp [teamD, Tm.d]
  omega
def rowD (row : List Int) : PyData := .tuple (row.map .int)
def tsD (ts : List Tm) : PyData := .tuple (ts.map Tm.d)
structure Inp (ts : List Tm) (st : List Int) (sp : Int) (bt : List Int) : Prop where
  ok : ∀ t ∈ ts, t.Ok
  l1 : 1 ≤ ts.length
  l8 : ts.length ≤ 8
  ls : st.length = ts.length
  s0 : ∀ x ∈ st, 0 ≤ x
  s1 : ∀ x ∈ st, x ≤ 60
  p0 : 0 ≤ sp
  p1 : sp ≤ 100
  lb : bt.length ≤ 12
  b0 : ∀ x ∈ bt, 0 ≤ x
  b1 : ∀ x ∈ bt, x ≤ 300
def needL (ts : List Tm) (st : List Int) (sp : Int) : List Int := (ts.zip st).map fun q => q.1.s * (2 * q.1.w + q.2) + sp
theorem teams_ok {ts : List Tm} (h : ∀ t ∈ ts, t.Ok) (l1 : 1 ≤ ts.length) (l8 : ts.length ≤ 8) : (sizedD (tsD ts) 1 8 && tupAll teamD (tsD ts)) = true := by
  simp only [tsD, sizedD_tup, tupAll, List.length_map, Bool.and_eq_true, decide_eq_true_eq, List.all_map, List.all_eq_true]
  exact ⟨by omega, fun t ht => (h t ht).d⟩
theorem stays_ok {ts : List Tm} {st : List Int} (ls : st.length = ts.length) (s0 : ∀ x ∈ st, 0 ≤ x) (s1 : ∀ x ∈ st, x ≤ 60) : (sizedD (rowD st) (tupLen (tsD ts)) (tupLen (tsD ts)) && tupAll (fun x => withinD x 0 60) (rowD st)) = true := by
  simp only [tsD, rowD, tupLen, sizedD_tup, tupAll, List.length_map, Bool.and_eq_true, decide_eq_true_eq, List.all_map, List.all_eq_true]
  refine ⟨by omega, fun x hx => ?_⟩
  simp only [Function.comp, withinD_int, Bool.and_eq_true, decide_eq_true_eq]
  exact ⟨s0 x hx, s1 x hx⟩
theorem bots_ok {bt : List Int} (lb : bt.length ≤ 12) (b0 : ∀ x ∈ bt, 0 ≤ x) (b1 : ∀ x ∈ bt, x ≤ 300) : (sizedD (rowD bt) 0 12 && tupAll (fun x => withinD x 0 300) (rowD bt)) = true := by
  simp only [rowD, sizedD_tup, tupAll, List.length_map, Bool.and_eq_true, decide_eq_true_eq, List.all_map, List.all_eq_true]
  refine ⟨by omega, fun x hx => ?_⟩
  simp only [Function.comp, withinD_int, Bool.and_eq_true, decide_eq_true_eq]
  exact ⟨b0 x hx, b1 x hx⟩
section
variable {ts : List Tm} {st : List Int} {sp : Int} {bt : List Int}
theorem Inp.cs (h : Inp ts st sp bt) : csErr (tsD ts) (rowD st) (.int sp) (rowD bt) = none := by
  have hp : withinD (.int sp) 0 100 = true := by simp; exact ⟨h.p0, h.p1⟩
  unfold csErr
  rw [teams_ok h.ok h.l1 h.l8, stays_ok h.ls h.s0 h.s1, hp, bots_ok h.lb h.b0 h.b1]
  simp
theorem needL_len (h : Inp ts st sp bt) : (needL ts st sp).length = ts.length := by
  have := h.ls
  simp [needL]
  omega
theorem zip_teams {f : Tm → PyData} {g : Int → PyData} (ts : List Tm) (st : List Int) : zipD (ts.map f) (st.map g) = (ts.zip st).map fun q => .tuple [f q.1, g q.2] := by
  unfold zipD
  induction ts generalizing st with
  | nil => rfl
  | cons t ts ih =>
    cases st with
    | nil => rfl
    | cons x st => simp only [List.map_cons, List.zipWith_cons_cons, List.zip_cons_cons, ih]
theorem zipS_teams : zipS [tsD ts, rowD st] = some (.fix ((ts.zip st).map fun q => .tuple [q.1.d, .int q.2])) := by
  rw [← zip_teams]
  rfl
theorem f_bottle_needs (h : Inp ts st sp bt) : fin 3 bd_bottle_needs 5 [.d (tsD ts), .d (rowD st), .d (.int sp)] none = M.pure (.d (.list ((needL ts st sp).map .int))) := by
  have hl8 := h.l8
  refine fin_ans ?_ rfl
  unfold bd_bottle_needs
  simp [zipS_teams]
  refine W_lc_map (fun q : Tm × Int => .int (q.1.s * (2 * q.1.w + q.2) + sp)) (by simp) (by rw [List.length_zip, sizeLine_eq]; omega) (fun q hq => ?_) ?_
  · have hm := List.of_mem_zip hq
    have ho := h.ok q.1 hm.1
    have e1 := small_of (i := q.1.s) (by have := ho.s0; omega) (by have := ho.s1; omega)
    simp [Tm.d, gMulA_int (.inl (show DL.small64 2 = true from rfl)), gMulA_int (.inl e1)]
  · simp [needL]
def barD (x : Int) : PyData := .tuple [.str "bar", .int x]
def givD (row : List Int) : PyData := .tuple [.str "given", rowD row]
def keyR (l : List Int) (d : PyData) : List Int := match d with
  | .int k => [-(at_ l k.toNat), k]
  | _ => [0]
theorem falls_of {l : List Int} {L : List PyData} (hp : L.Perm ((List.range l.length).map fun k : Nat => PyData.int (k : Int))) (hs : L.Pairwise fun a b => ¬ (keyR l b < keyR l a)) : ∃ o : List Nat, L = o.map (fun k : Nat => PyData.int (k : Int)) ∧ Falls l o := by
  have hm : ∀ d ∈ L, ∃ k : Nat, k < l.length ∧ d = .int (k : Int) := fun d hd => by
    obtain ⟨k, hk, rfl⟩ := List.mem_map.mp (hp.mem_iff.mp hd)
    exact ⟨k, List.mem_range.mp hk, rfl⟩
  let un : PyData → Nat := fun d => match d with
    | .int k => k.toNat
    | _ => 0
  refine ⟨L.map un, ?_, ?_, ?_⟩
  · rw [List.map_map]
    conv => lhs; rw [← List.map_id L]
    refine List.map_congr_left fun d hd => ?_
    obtain ⟨k, _, rfl⟩ := hm d hd
    show PyData.int (k : Int) = PyData.int (((k : Int).toNat : Nat) : Int)
    rw [Int.toNat_natCast]
  · have := hp.map un
    rw [List.map_map] at this
    refine this.trans (List.Perm.of_eq ?_)
    conv => rhs; rw [← List.map_id (List.range l.length)]
    refine List.map_congr_left fun k _ => ?_
    show ((k : Int)).toNat = k
    rw [Int.toNat_natCast]
  · rw [List.pairwise_map]
    refine hs.imp_of_mem fun {a b} ha hb h => ?_
    obtain ⟨i, _, rfl⟩ := hm a ha
    obtain ⟨j, _, rfl⟩ := hm b hb
    show at_ l ((j : Int)).toNat ≤ at_ l ((i : Int)).toNat
    apply Classical.byContradiction
    intro hc
    refine h (List.cons_lt_cons_iff.mpr (.inl ?_))
    omega
theorem gIx_l {l : List Int} {k : Nat} (hk : k < l.length) : gIx (.list (l.map .int)) (.int (k : Int)) = some (.int (at_ l k)) := by
  have e : l[k]? = some (l[k]'hk) := List.getElem?_eq_getElem hk
  have := gIx_mapL (xs := l) (f := PyData.int) (n := (k : Int)) (x := l[k]'hk) (by omega) (by simpa using e)
  unfold at_
  rw [List.getD_eq_getElem?_getD, e]
  exact this
theorem gIx_t {l : List Int} {k : Nat} (hk : k < l.length) : gIx (rowD l) (.int (k : Int)) = some (.int (at_ l k)) := by
  have e : l[k]? = some (l[k]'hk) := List.getElem?_eq_getElem hk
  have := gIx_map (xs := l) (f := PyData.int) (n := (k : Int)) (x := l[k]'hk) (by omega) (by simpa using e)
  unfold at_
  rw [List.getD_eq_getElem?_getD, e]
  exact this
theorem gIx_n {o : List Nat} {i k : Nat} (h : o[i]? = some k) : gIx (.list (o.map fun k : Nat => PyData.int (k : Int))) (.int (i : Int)) = some (.int (k : Int)) := gIx_mapL (by omega) (by simpa using h)
def kesP (fl : List Nat) (pre : List (Nat × Nat)) : List (Key × PyData) := pre.map fun q => (.inl (q.1 : Int), .int ((fl.getD q.2 0 : Nat) : Int))
theorem oPut_kesP {fl : List Nat} {pre : List (Nat × Nat)} {k i : Nat} (h : k ∉ pre.map (·.1)) : oPut (kesP fl pre) (.inl (k : Int)) (.int ((fl.getD i 0 : Nat) : Int)) = kesP fl (pre ++ [(k, i)]) := by
  unfold oPut
  rw [if_neg]
  · simp [kesP]
  · intro z
    obtain ⟨x, hx, e⟩ := List.any_eq_true.mp z
    have e := of_decide_eq_true e
    obtain ⟨q, hq, rfl⟩ := List.mem_map.mp hx
    have e : (Sum.inl (q.1 : Int) : Key) = Sum.inl (k : Int) := e
    have e := Sum.inl.inj e
    exact h (List.mem_map.mpr ⟨q, hq, by omega⟩)
theorem oAt_kesP {fl o : List Nat} (hn : o.Nodup) {i k : Nat} (h : o[i]? = some k) : oAt (kesP fl o.zipIdx) (.inl (k : Int)) = some (.int ((fl.getD i 0 : Nat) : Int)) := by
  have hm : (k, i) ∈ o.zipIdx := List.mem_zipIdx_iff_getElem?.mpr h
  unfold oAt kesP
  rw [List.find?_map]
  cases hf : o.zipIdx.find? ((fun kv : Key × PyData => decide (kv.1 = .inl (k : Int))) ∘ fun q : Nat × Nat => ((.inl (q.1 : Int) : Key), PyData.int ((fl.getD q.2 0 : Nat) : Int))) with
  | none =>
    have := List.find?_eq_none.mp hf (k, i) hm
    simp at this
  | some q =>
    have h1 := List.find?_some hf
    have h2 := List.mem_of_find?_eq_some hf
    obtain ⟨a, b⟩ := q
    have e : a = k := by simp at h1; omega
    subst e
    have h3 := List.mem_zipIdx_iff_getElem?.mp h2
    obtain ⟨q1, q2⟩ := List.getElem?_eq_some_iff.mp h
    obtain ⟨q3, q4⟩ := List.getElem?_eq_some_iff.mp h3
    have := (List.getElem_inj hn).mp (q2.trans q4.symm)
    subst this
    rfl
end
end K72
end

/- M72c -/
section
set_option maxHeartbeats 4000000
namespace K72
open PySem PySem.Spec PyProof.Rows L2 DL

theorem sort_keys {l : List Int} {items : List PyData} (hi : items = (List.range l.length).map fun k : Nat => PyData.int (k : Int)) (hl : l.length ≤ 1000) : ∃ o : List Nat, items.mergeSort (PySem.W.dataLe false fun d => .tuple ((keyR l d).map .int)) = o.map (fun k : Nat => PyData.int (k : Int)) ∧ Falls l o := by
  obtain ⟨h1, h2⟩ := sorted_rows (items := items) (g := keyR l)
  exact falls_of (hi ▸ h1) h2
theorem keys_ok {l : List Int} {items : List PyData} (hl : items.length ≤ 1000) : sortOk (items.map fun d => PyData.tuple ((keyR l d).map .int)) = true := sortOk_rows (fun d _ => by cases d <;> simp [keyR]) (by omega)
theorem enum_n (o : List Nat) : enumS 0 [.list (o.map fun k : Nat => PyData.int (k : Int))] = some (.fix (o.zipIdx.map fun q => .tuple [.int (q.2 : Int), .int (q.1 : Int)])) := by
  rw [enumS_mapL, List.mapIdx_eq_zipIdx_map]
section
variable {ts : List Tm} {st : List Int} {sp : Int} {bt : List Int} {env : En} {Q : RVl → En → Prop} {E : Er → En → Prop}
theorem s_bottles_told (h : Inp ts st sp bt) : W bd_bottles_told (startE 10 [.d (tsD ts), .d (rowD st), .d (.int sp), .d (rowD bt)])
    (fun fl _ => (∃ x, 0 ≤ x ∧ cnt bt x < cnt (needL ts st sp) x ∧ fl = .ret (.d (barD x))) ∨ ∃ row, Way (needL ts st sp) bt row ∧ fl = .ret (.d (givD row))) (fun _ _ => False) := by
  have hl8 := h.l8
  have hlb := h.lb
  have hnl := needL_len h
  have hn0 : ∀ k, k < (needL ts st sp).length → 0 ≤ at_ (needL ts st sp) k := fun k hk => by
    have := at_mem hk
    unfold needL at this
    obtain ⟨q, hq, e⟩ := List.mem_map.mp this
    have hm := List.of_mem_zip hq
    have ho := h.ok q.1 hm.1
    have h1 := h.s0 q.2 hm.2
    have h2 := h.p0
    have h3 : 0 ≤ q.1.s * (2 * q.1.w + q.2) := Int.mul_nonneg (by have := ho.s0; omega) (by have := ho.w0; omega)
    unfold needL
    rw [← e]
    omega
  unfold bd_bottles_told
  have hlen : (tsD ts) = .tuple (ts.map Tm.d) := rfl
  have gl : gLen [tsD ts] = some (.int ((needL ts st sp).length : Int)) := by rw [hlen, gLen_tup, List.length_map, hnl]
  have gb : gLen [rowD bt] = some (.int (bt.length : Int)) := by unfold rowD; rw [gLen_tup, List.length_map]
  generalize hnd : needL ts st sp = nd at *
  simp [f_check_stays h.cs, f_bottle_needs h, hnd, gl]
  refine ⟨by omega, ?_⟩
  refine W_sortK (fun d => .tuple ((keyR nd d).map .int)) (by simp) (fun d hd => ?_) (keys_ok (by simp; omega)) ?_
  · obtain ⟨k, hk, rfl⟩ := List.mem_map.mp hd
    have hk := List.mem_range.mp hk
    simp [gIx_l hk, sizeLine_eq, keyR]
  obtain ⟨o, ho1, ho2⟩ := sort_keys (l := nd) (items := (List.range nd.length).map fun k : Nat => PyData.int (k : Int)) rfl (by omega)
  rw [ho1]
  simp [gb]
  refine ⟨by omega, ?_⟩
  refine W_sortK (fun d => .tuple ((keyR bt d).map .int)) (by simp) (fun d hd => ?_) (keys_ok (by simp; omega)) ?_
  · obtain ⟨k, hk, rfl⟩ := List.mem_map.mp hd
    have hk := List.mem_range.mp hk
    simp [gIx_t hk, sizeLine_eq, keyR]
  obtain ⟨fl, hf1, hf2⟩ := sort_keys (l := bt) (items := (List.range bt.length).map fun k : Nat => PyData.int (k : Int)) rfl (by omega)
  rw [hf1]
  simp [enum_n]
  have hol := ho2.len
  have hfl := hf2.len
  refine W_forM (fun pre e => (∀ q ∈ pre, ∃ j, fl[q.2]? = some j ∧ at_ nd q.1 ≤ at_ bt j) ∧ pre.length ≤ fl.length ∧ ∃ x8 x9 : Option PyData, e = [some (.d (tsD ts)), some (.d (rowD st)), some (.d (.int sp)), some (.d (rowD bt)), some (.d (.list (nd.map .int))), some (.d (.list (o.map fun k : Nat => PyData.int (k : Int)))), some (.d (.list (fl.map fun k : Nat => PyData.int (k : Int)))), some (.own false (.k (kesP fl pre))), x8.map .d, x9.map .d]) ⟨by simp, by simp, none, none, rfl⟩ (fun pre q post e he hI => ?_) (fun e hI => ?_)
  · obtain ⟨hpre, hpl, x8, x9, rfl⟩ := hI
    have hqm : q ∈ o.zipIdx := by rw [he]; simp
    obtain ⟨k, i⟩ := q
    have hki : o[i]? = some k := List.mem_zipIdx_iff_getElem?.mp hqm
    have hk : k < nd.length := ho2.lt (List.mem_of_getElem? hki)
    have hil := (List.getElem?_eq_some_iff.mp hki).1
    have hpi : pre.length = i := by
      have e1 : o.zipIdx[pre.length]? = some (k, i) := by rw [he]; simp
      rw [List.getElem?_zipIdx] at e1
      cases e2 : o[pre.length]? with
      | none => rw [e2] at e1; cases e1
      | some z =>
        rw [e2] at e1
        simp at e1
        exact e1.2
    have hkn : k ∉ pre.map (·.1) := fun hm => by
      obtain ⟨⟨k', i'⟩, hq', e'⟩ := List.mem_map.mp hm
      have e' : k' = k := e'
      subst e'
      have h2 : o[i']? = some k' := List.mem_zipIdx_iff_getElem?.mp (show (k', i') ∈ o.zipIdx from by rw [he]; simp [hq'])
      obtain ⟨q1, q2⟩ := List.getElem?_eq_some_iff.mp hki
      obtain ⟨q3, q4⟩ := List.getElem?_eq_some_iff.mp h2
      have e3 := (List.getElem_inj ho2.nodup).mp (q2.trans q4.symm)
      subst e3
      obtain ⟨n, hn1, hn2⟩ := List.mem_iff_getElem.mp hq'
      have e4 : o.zipIdx[n]? = some (k', i) := by rw [he, List.getElem?_append_left hn1, List.getElem?_eq_getElem hn1, hn2]
      rw [List.getElem?_zipIdx] at e4
      cases e5 : o[n]? with
      | none => rw [e5] at e4; cases e4
      | some z =>
        rw [e5] at e4
        simp at e4
        omega
    by_cases hge : fl.length ≤ i
    · have := stop_bar ho2 hf2 hki (.inl hge)
      simp [gIx_l hk, sizeLine_eq, hge]
      exact .inl ⟨_, hn0 k hk, this, rfl⟩
    · have hji : fl[i]? = some (fl[i]'(by omega)) := List.getElem?_eq_getElem (by omega)
      generalize hjj : fl[i]'(by omega) = j at hji
      have hj : j < bt.length := hf2.lt (List.mem_of_getElem? hji)
      have hjd : fl.getD i 0 = j := by rw [List.getD_eq_getElem?_getD, hji]; rfl
      by_cases hlt : at_ bt j < at_ nd k
      · have := stop_bar ho2 hf2 hki (.inr ⟨j, hji, hlt⟩)
        simp [gIx_l hk, gIx_n hji, gIx_t hj, sizeLine_eq, hge, hlt]
        exact .inl ⟨_, hn0 k hk, this, rfl⟩
      · simp [gIx_l hk, gIx_n hji, gIx_t hj, sizeLine_eq, hge, hlt, keyD]
        have e9 := oPut_kesP (fl := fl) (pre := pre) (k := k) (i := i) hkn
        rw [hjd] at e9
        refine ⟨by simp [kesP]; omega, fun a b hm => ?_, by omega, ?_⟩
        · rcases hm with hm | ⟨rfl, rfl⟩
          · exact hpre (a, b) hm
          · exact ⟨j, hji, by omega⟩
        · exact ⟨e9, ⟨some _, rfl⟩, ⟨some _, rfl⟩⟩
  · obtain ⟨hpre, hpl, x8, x9, rfl⟩ := hI
    have hlen2 : o.length ≤ fl.length := by simpa using hpl
    have hway := all_way ho2 hf2 hlen2 (fun i k j h1 h2 => by
      obtain ⟨j', e1, e2⟩ := hpre (k, i) (List.mem_zipIdx_iff_getElem?.mpr h1)
      rw [h2] at e1
      cases e1
      exact e2)
    simp [gl]
    refine ⟨by omega, ?_⟩
    refine W_lc_map (fun k : Nat => .int (at_ (rowOf o fl nd.length) k)) (by simp) (by rw [List.length_range, sizeLine_eq]; omega) (fun k hk => ?_) ?_
    · have hk := List.mem_range.mp hk
      obtain ⟨i, hi⟩ := List.mem_iff_getElem?.mp (ho2.mem hk)
      have e1 := oAt_kesP (fl := fl) ho2.nodup hi
      have e2 : at_ (rowOf o fl nd.length) k = ((fl.getD i 0 : Nat) : Int) := by
        unfold at_ rowOf
        rw [List.getD_eq_getElem?_getD, List.getElem?_map, List.getElem?_range hk]
        show ((fl.getD (o.findIdx fun z => decide (z = k)) 0 : Nat) : Int) = _
        rw [findIdx_at ho2.nodup hi]
      simp [keyD, e1, e2]
    · have e3 : ((List.range nd.length).map fun k : Nat => PyData.int (at_ (rowOf o fl nd.length) k)) = (rowOf o fl nd.length).map .int := by
        have := map_at (rowOf o fl nd.length)
        rw [hway.len] at this
        conv => rhs; rw [← this, List.map_map]
        rfl
      rw [e3]
      simp [sizeLine_eq]
      exact .inr ⟨_, hway, rfl⟩
theorem W_told (h : Inp ts st sp bt) (q1 : ∀ x, 0 ≤ x → cnt bt x < cnt (needL ts st sp) x → Q (.d (barD x)) env) (q2 : ∀ row, Way (needL ts st sp) bt row → Q (.d (givD row)) env) :
    W (fin 4 bd_bottles_told 10 [.d (tsD ts), .d (rowD st), .d (.int sp), .d (rowD bt)] none) env Q E := by
  rw [W_fin]
  refine ⟨rfl, W_mono (s_bottles_told h) (fun fl e z => ?_) (fun _ _ z => z.elim)⟩
  rcases z with ⟨x, h1, h2, rfl⟩ | ⟨row, h1, rfl⟩
  · exact q1 x h1 h2
  · exact q2 row h1
end
theorem f_told_err {d e sp b : PyData} {x : Str} (h : csErr d e sp b = some x) : fin 4 bd_bottles_told 10 [.d d, .d e, .d sp, .d b] none = M.err ⟨x, none⟩ := by
  refine fin_err ?_ rfl
  unfold bd_bottles_told
  simp [f_check_stays_err h]
theorem f_is_told_err {d e sp b t : PyData} {x : Str} {n : Nat} (h : csErr d e sp b = some x) : fin 5 bd_is_bottles_told n [.d d, .d e, .d sp, .d b, .d t] none = M.err ⟨x, none⟩ := by
  refine fin_err ?_ rfl
  unfold bd_is_bottles_told
  simp [f_check_stays_err h]
end K72
end

/- M72d -/
section
set_option maxHeartbeats 4000000
namespace K72
open PySem PySem.Spec PyProof.Rows L2 DL

theorem ints_of {xs : List PyData} (h : ∀ x ∈ xs, DL.intD x = true) : ∃ ns : List Int, xs = ns.map .int := by
  induction xs with
  | nil => exact ⟨[], rfl⟩
  | cons x xs ih =>
    obtain ⟨ns, e⟩ := ih fun y hy => h y (by simp [hy])
    have := h x (by simp)
    cases x with
    | int i => exact ⟨i :: ns, by rw [e]; rfl⟩
    | _ => cases this
theorem within_int {x : PyData} {lo hi : Int} (h : withinD x lo hi = true) : DL.intD x = true := by
  cases x with
  | int i => rfl
  | _ => cases h
def rowB (nd bt row : List Int) : Bool := decide row.Nodup && (row.zip nd).all fun q => decide (q.2 ≤ at_ bt q.1.toNat)
def givB (nd bt : List Int) (d : PyData) : Bool := match d with
  | .tuple xs => decide (xs.length = nd.length) && (xs.all (fun x => withinD x 0 ((bt.length : Int) - 1)) && rowB nd bt ((toInts xs).getD []))
  | _ => false
def barB (nd bt : List Int) (d : PyData) : Bool := match d with
  | .int x => decide (0 ≤ x) && decide (cnt bt x < cnt nd x)
  | _ => false
def toldB (nd bt : List Int) (d : PyData) : Bool := match d with
  | .tuple [.str w, x] => if w = "bar" then barB nd bt x else if w = "given" then givB nd bt x else false
  | _ => false
def Good (d : PyData) : Prop := ∀ w x, d = .tuple [.str w, x] → PyData.strOk w = true
theorem toldB_no {nd bt : List Int} {d : PyData} (h : ¬ ∃ w x, d = .tuple [.str w, x]) : toldB nd bt d = false := by
  unfold toldB
  split
  · rename_i w x
    exact absurd ⟨w, x, rfl⟩ h
  · rfl
theorem w_ne : ("given" : Str) ≠ "bar" := by decide
section
variable {ts : List Tm} {st : List Int} {sp : Int} {nd bt row : List Int}
theorem cnt_filter {l : List Int} {x : Int} : ((l.filter fun y => decide (x ≤ y)).map PyData.int).length = cnt l x := by rw [List.length_map]; rfl
theorem zip_rows : zipS [rowD row, .list (nd.map .int)] = some (.fix ((row.zip nd).map fun q => .tuple [.int q.1, .int q.2])) := by
  show some (Src.fix (zipD (row.map .int) (nd.map .int))) = _
  congr 2
  unfold zipD
  induction row generalizing nd with
  | nil => rfl
  | cons t row ih =>
    cases nd with
    | nil => rfl
    | cons y nd => simp only [List.map_cons, List.zipWith_cons_cons, List.zip_cons_cons, ih]
theorem f_is_told (h : Inp ts st sp bt) {d : PyData} (g : Good d) : fin 5 bd_is_bottles_told 8 [.d (tsD ts), .d (rowD st), .d (.int sp), .d (rowD bt), .d d] none = M.pure (.d (.bool (toldB (needL ts st sp) bt d))) := by
  have hl8 := h.l8
  have hlb := h.lb
  have hnl := needL_len h
  refine fin_ans ?_ rfl
  unfold bd_is_bottles_told
  have gl : gLen [tsD ts] = some (.int ((needL ts st sp).length : Int)) := by unfold tsD; rw [gLen_tup, List.length_map, hnl]
  have gb : gLen [rowD bt] = some (.int (bt.length : Int)) := by unfold rowD; rw [gLen_tup, List.length_map]
  simp [f_check_stays h.cs, f_bottle_needs h]
  generalize needL ts st sp = nd at *
  by_cases hp : ∃ w x, d = .tuple [.str w, x]
  · obtain ⟨w, x, rfl⟩ := hp
    have hs := g w x rfl
    have e1 : gEq (.str w) (.str "bar") = some (.bool (w == "bar")) := gEq_str hs (str_okS _)
    have e2 : gNe (.str w) (.str "given") = some (.bool (!(w == "given"))) := gNe_str hs (str_okS _)
    by_cases w1 : w = "bar"
    · subst w1
      simp [e1]
      cases x with
      | int x =>
        by_cases hx : x < 0
        · have : ¬ 0 ≤ x := by omega
          simp [DL.intD, hx, toldB, barB, this]
        · have h0 : 0 ≤ x := by omega
          simp [DL.intD, hx]
          refine W_lc_fm (fun y : Int => decide (x ≤ y)) .int (by simp) (by rw [sizeLine_eq]; omega) (fun y hy => by simp) ?_
          simp [rowD]
          refine W_lc_fm (fun y : Int => decide (x ≤ y)) .int (by simp) (by rw [sizeLine_eq]; omega) (fun y hy => by simp) ?_
          simp [toldB, barB, h0, cnt]
          exact decide_eq_decide.mpr Iff.rfl
      | _ => simp [DL.intD, toldB, barB]
    · simp [e1, e2, w1]
      by_cases w2 : w = "given"
      · subst w2
        have eT : toldB nd bt (.tuple [.str "given", x]) = givB nd bt x := by simp [toldB, w_ne]
        rw [eT]
        simp [gl]
        cases hs2 : sizedD x nd.length nd.length with
        | false =>
          have : givB nd bt x = false := by
            cases x with
            | tuple xs => simp at hs2; simp [givB]; intro z; omega
            | _ => rfl
          simp [hs2, this, -sizedD_tup]
        | true =>
          obtain ⟨xs, rfl, h3, h4⟩ := sized_elim hs2
          have hxl : xs.length = nd.length := by omega
          simp [hs2, gb, -sizedD_tup]
          refine W_lc_mapI (fun x => .bool (withinD x 0 ((bt.length : Int) - 1))) (by simp) (by rw [sizeLine_eq]; omega) (fun x hx => by simp [gb]) ?_
          simp [all_bools, -List.all_eq_true]
          cases ha : xs.all fun x => withinD x 0 ((bt.length : Int) - 1) with
          | false => simp [givB, ha]
          | true =>
            obtain ⟨row, rfl⟩ := ints_of fun x hx => within_int (List.all_eq_true.mp ha x hx)
            have hrl : row.length = nd.length := by simpa using hxl
            have hrng : ∀ j ∈ row, 0 ≤ j ∧ j < bt.length := fun j hj => by
              have := List.all_eq_true.mp ha (.int j) (List.mem_map.mpr ⟨j, hj, rfl⟩)
              simp at this
              omega
            have eG : givB nd bt (.tuple (row.map .int)) = rowB nd bt row := by
              simp only [givB, ha, List.length_map, hrl, decide_true, Bool.true_and, toInts_map]
              rfl
            rw [eG]
            simp [gl]
            refine W_dc_map (fun j : Int => .inl j) (by simp) (by rw [sizeLine_eq]; omega) (fun j hj => by simp [keyD]) ?_
            have hd := foldl_addK_len_iff (f := fun j : Int => (Sum.inl j : Key)) (xs := row) (acc := []) List.nodup_nil
            have hd2 : ((row.map fun j : Int => (Sum.inl j : Key))).Nodup ↔ row.Nodup := by
              rw [List.nodup_iff_pairwise_ne, List.pairwise_map, List.nodup_iff_pairwise_ne]
              exact ⟨fun z => z.imp fun h e => h (by rw [e]), fun z => z.imp fun h e => h (Sum.inl.inj e)⟩
            rw [List.nil_append, hd2, List.length_nil, Nat.zero_add] at hd
            simp [gl]
            by_cases hn : row.Nodup
            · have hd := hd.mpr hn
              have hd3 : ((row.foldl (fun a x => addK a (Sum.inl x)) []).length : Int) = (nd.length : Int) := by rw [hd, hrl]
              simp [hd3]
              rw [show PyData.tuple (row.map .int) = rowD row from rfl]
              simp [zip_rows]
              refine W_lc_map (fun q : Int × Int => .bool (decide (q.2 ≤ at_ bt q.1.toNat))) (by simp) (by rw [List.length_zip, sizeLine_eq]; omega) (fun q hq => ?_) ?_
              · have hm := hrng q.1 (List.of_mem_zip hq).1
                have hx := gIx_t (l := bt) (k := q.1.toNat) (by omega)
                rw [show ((q.1.toNat : Nat) : Int) = q.1 from by omega] at hx
                simp [hx]
              · simp [all_bools, -List.all_eq_true, rowB, hn]
            · have hd3 : ¬ ((row.foldl (fun a x => addK a (Sum.inl x)) []).length : Int) = (nd.length : Int) := fun z => hn (hd.mp (by omega))
              simp [hd3, rowB, hn]
      · simp [w2, toldB, w1]
  · rw [toldB_no hp]
    rcases notPair hp with e | ⟨xs, rfl, e⟩ | ⟨a, b, rfl, e⟩
    · simp [sized_not e]
    · have : sizedD (.tuple xs) 2 2 = false := by simp; omega
      simp [this, -sizedD_tup]
    · simp [e]
theorem f_law_is_told (hl : nd.length ≤ 100) (hb : bt.length ≤ 100) {d : PyData} (g : Good d) : fin 3 bd__law_is_told 6 [.d (.list (nd.map .int)), .d (rowD bt), .d d] none = M.pure (.d (.bool (toldB nd bt d))) := by
  refine fin_ans ?_ rfl
  unfold bd__law_is_told
  have gb : gLen [rowD bt] = some (.int (bt.length : Int)) := by unfold rowD; rw [gLen_tup, List.length_map]
  by_cases hp : ∃ w x, d = .tuple [.str w, x]
  · obtain ⟨w, x, rfl⟩ := hp
    have hs := g w x rfl
    have e1 : gEq (.str w) (.str "bar") = some (.bool (w == "bar")) := gEq_str hs (str_okS _)
    have e2 : gNe (.str w) (.str "given") = some (.bool (!(w == "given"))) := gNe_str hs (str_okS _)
    by_cases w1 : w = "bar"
    · subst w1
      simp [e1]
      cases x with
      | int x =>
        by_cases hx : x < 0
        · have : ¬ 0 ≤ x := by omega
          simp [DL.isInt, DL.isBool, hx, toldB, barB, this]
        · have h0 : 0 ≤ x := by omega
          simp [DL.isInt, DL.isBool, hx]
          refine W_lc_fm (fun y : Int => decide (x ≤ y)) .int (by simp) (by rw [sizeLine_eq]; omega) (fun y hy => by simp) ?_
          simp [rowD]
          refine W_lc_fm (fun y : Int => decide (x ≤ y)) .int (by simp) (by rw [sizeLine_eq]; omega) (fun y hy => by simp) ?_
          simp [toldB, barB, h0, cnt]
          exact decide_eq_decide.mpr Iff.rfl
      | _ => simp [DL.isInt, DL.isBool, toldB, barB]
    · simp [e1, e2, w1]
      by_cases w2 : w = "given"
      · subst w2
        have eT : toldB nd bt (.tuple [.str "given", x]) = givB nd bt x := by simp [toldB, w_ne]
        rw [eT]
        simp
        cases hs2 : sizedD x nd.length nd.length with
        | false =>
          have : givB nd bt x = false := by
            cases x with
            | tuple xs => simp at hs2; simp [givB]; intro z; omega
            | _ => rfl
          rw [this]
          cases x with
          | tuple xs =>
            have hx : ¬ ((xs.length : Int) = nd.length) := by simp at hs2; omega
            simp [hx]
          | _ => simp
        | true =>
          obtain ⟨xs, rfl, h3, h4⟩ := sized_elim hs2
          have hxl : xs.length = nd.length := by omega
          simp [hxl]
          refine W_lc_mapI (fun x => .bool (withinD x 0 ((bt.length : Int) - 1))) (by simp) (by rw [sizeLine_eq]; omega) (fun x hx => ?_) ?_
          · cases x with
            | int x =>
              by_cases hx0 : 0 ≤ x
              · simp [DL.isInt, DL.isBool, hx0, gb]
                omega
              · simp [DL.isInt, DL.isBool, hx0, gb]
            | _ => simp [DL.isInt, DL.isBool]
          simp [all_bools, -List.all_eq_true]
          cases ha : xs.all fun x => withinD x 0 ((bt.length : Int) - 1) with
          | false => simp [givB, ha]
          | true =>
            obtain ⟨row, rfl⟩ := ints_of fun x hx => within_int (List.all_eq_true.mp ha x hx)
            have hrl : row.length = nd.length := by simpa using hxl
            have hrng : ∀ j ∈ row, 0 ≤ j ∧ j < bt.length := fun j hj => by
              have := List.all_eq_true.mp ha (.int j) (List.mem_map.mpr ⟨j, hj, rfl⟩)
              simp at this
              omega
            have eG : givB nd bt (.tuple (row.map .int)) = rowB nd bt row := by
              simp only [givB, ha, List.length_map, hrl, decide_true, Bool.true_and, toInts_map]
              rfl
            have hls : gLenSet (.tuple (row.map .int)) = some (.int (dedupI row).length) := by
              unfold gLenSet
              dsimp only
              rw [toInts_map]
              simp
              omega
            rw [eG]
            simp [hls]
            have hd := dedupI_len_iff (xs := row)
            by_cases hn : row.Nodup
            · have hd := hd.mpr hn
              have hd3 : ((dedupI row).length : Int) = (nd.length : Int) := by rw [hd, hrl]
              simp [hd3]
              rw [show PyData.tuple (row.map .int) = rowD row from rfl]
              simp [zip_rows]
              refine W_lc_map (fun q : Int × Int => .bool (decide (q.2 ≤ at_ bt q.1.toNat))) (by simp) (by rw [List.length_zip, sizeLine_eq]; omega) (fun q hq => ?_) ?_
              · have hm := hrng q.1 (List.of_mem_zip hq).1
                have hx := gIx_t (l := bt) (k := q.1.toNat) (by omega)
                rw [show ((q.1.toNat : Nat) : Int) = q.1 from by omega] at hx
                simp [hx]
              · simp [all_bools, -List.all_eq_true, rowB, hn]
            · have hd3 : ¬ ((dedupI row).length : Int) = (nd.length : Int) := fun z => hn (hd.mp (by omega))
              simp [hd3, rowB, hn]
      · simp [w2, toldB, w1]
  · rw [toldB_no hp]
    rcases notPair hp with e | ⟨xs, rfl, e⟩ | ⟨a, b, rfl, e⟩
    · simp [e]
    · have : ¬ ((xs.length : Int) = 2) := by omega
      simp [this]
    · simp [e]
end
end K72
end

/- M72e -/
section
set_option maxHeartbeats 4000000
namespace K72
open PySem PySem.Spec PyProof.Rows L2 DL

/-! ### all ways -/
def more1 (bt : List Int) (one : Int) (row : List Int) : List (List Int) := (bt.zipIdx.filter fun q => decide (one ≤ q.1) && !decide ((q.2 : Int) ∈ row)).map fun q => row ++ [(q.2 : Int)]
def step (bt : List Int) (fs : List (List Int)) (one : Int) : List (List Int) := fs.flatMap (more1 bt one)
def waysL (nd bt : List Int) : List (List Int) := nd.foldl (step bt) [[]]
theorem more1_len {bt : List Int} {one : Int} {row : List Int} : (more1 bt one row).length ≤ bt.length := by
  unfold more1
  rw [List.length_map]
  have := List.length_filter_le (fun q => decide (one ≤ q.1) && !decide ((q.2 : Int) ∈ row)) bt.zipIdx
  rwa [List.length_zipIdx] at this
theorem step_len {bt : List Int} {one : Int} : ∀ fs : List (List Int), (step bt fs one).length ≤ bt.length * fs.length
  | [] => by simp [step]
  | f :: fs => by
    have h1 := step_len (bt := bt) (one := one) fs
    have h2 := more1_len (bt := bt) (one := one) (row := f)
    unfold step at h1 ⊢
    rw [List.flatMap_cons, List.length_append, List.length_cons, Nat.mul_succ]
    omega
theorem mem_more1 {bt : List Int} {one : Int} {row r : List Int} : r ∈ more1 bt one row ↔ ∃ j : Nat, j < bt.length ∧ one ≤ at_ bt j ∧ (j : Int) ∉ row ∧ r = row ++ [(j : Int)] := by
  unfold more1
  rw [List.mem_map]
  constructor
  · rintro ⟨q, hq, rfl⟩
    obtain ⟨h1, h2⟩ := List.mem_filter.mp hq
    obtain ⟨x, j⟩ := q
    have h3 := List.mem_zipIdx_iff_getElem?.mp h1
    have h4 := (List.getElem?_eq_some_iff.mp h3).1
    simp only [Bool.and_eq_true, decide_eq_true_eq, Bool.not_eq_true', decide_eq_false_iff_not] at h2
    refine ⟨j, h4, ?_, h2.2, rfl⟩
    unfold at_
    rw [List.getD_eq_getElem?_getD, h3]
    exact h2.1
  · rintro ⟨j, h1, h2, h3, rfl⟩
    have e : bt[j]? = some (bt[j]'h1) := List.getElem?_eq_getElem h1
    refine ⟨(bt[j]'h1, j), List.mem_filter.mpr ⟨List.mem_zipIdx_iff_getElem?.mpr e, ?_⟩, rfl⟩
    simp only [Bool.and_eq_true, decide_eq_true_eq, Bool.not_eq_true', decide_eq_false_iff_not]
    refine ⟨?_, h3⟩
    unfold at_ at h2
    rw [List.getD_eq_getElem?_getD, e] at h2
    exact h2
/-- what is hung on -/
def Tail (bt : List Int) : List Int → List Int → List Int → Prop
  | _, [], [] => True
  | pre, one :: nd, j :: suf => 0 ≤ j ∧ j < bt.length ∧ one ≤ at_ bt j.toNat ∧ j ∉ pre ∧ Tail bt (pre ++ [j]) nd suf
  | _, _, _ => False
theorem mem_fold {bt : List Int} {r : List Int} : ∀ (nd : List Int) (fs : List (List Int)), r ∈ nd.foldl (step bt) fs ↔ ∃ pre ∈ fs, ∃ suf, r = pre ++ suf ∧ Tail bt pre nd suf
  | [], fs => by
    constructor
    · intro h
      exact ⟨r, h, [], by simp, trivial⟩
    · rintro ⟨pre, hp, suf, rfl, h⟩
      cases suf with
      | nil => simpa using hp
      | cons _ _ => exact h.elim
  | one :: nd, fs => by
    rw [List.foldl_cons, mem_fold nd]
    constructor
    · rintro ⟨pre, hp, suf, rfl, h⟩
      obtain ⟨pre0, h0, h1⟩ := List.mem_flatMap.mp hp
      obtain ⟨j, j1, j2, j3, rfl⟩ := mem_more1.mp h1
      exact ⟨pre0, h0, (j : Int) :: suf, by simp, by omega, by omega, by rw [Int.toNat_natCast]; exact j2, j3, h⟩
    · rintro ⟨pre, hp, suf, rfl, h⟩
      cases suf with
      | nil => exact h.elim
      | cons j suf =>
        obtain ⟨h1, h2, h3, h4, h5⟩ := h
        have e : ((j.toNat : Nat) : Int) = j := by omega
        refine ⟨pre ++ [j], List.mem_flatMap.mpr ⟨pre, hp, mem_more1.mpr ⟨j.toNat, by omega, h3, by rw [e]; exact h4, by rw [e]⟩⟩, suf, by simp, h5⟩
theorem tail_iff {bt : List Int} : ∀ {nd pre suf : List Int}, Tail bt pre nd suf ↔ suf.length = nd.length ∧ suf.Nodup ∧ (∀ j ∈ suf, 0 ≤ j ∧ j < bt.length ∧ j ∉ pre) ∧ ∀ k, k < nd.length → at_ nd k ≤ at_ bt (at_ suf k).toNat
  | [], pre, [] => by simp [Tail]
  | [], pre, _ :: _ => by simp [Tail]
  | _ :: _, pre, [] => by simp [Tail]
  | one :: nd, pre, j :: suf => by
    have ih := tail_iff (bt := bt) (nd := nd) (pre := pre ++ [j]) (suf := suf)
    simp only [Tail, ih, List.nodup_cons, List.length_cons]
    constructor
    · rintro ⟨h1, h2, h3, h4, h5, h6, h7, h8⟩
      refine ⟨by omega, ⟨fun hm => ?_, h6⟩, fun i hi => ?_, fun k hk => ?_⟩
      · exact (h7 j hm).2.2 (by simp)
      · rcases List.mem_cons.mp hi with rfl | hi
        · exact ⟨h1, h2, h4⟩
        · obtain ⟨q1, q2, q3⟩ := h7 i hi
          exact ⟨q1, q2, fun z => q3 (by simp [z])⟩
      · cases k with
        | zero => exact h3
        | succ k => exact h8 k (by omega)
    · rintro ⟨h1, ⟨h2, h3⟩, h4, h5⟩
      obtain ⟨q1, q2, q3⟩ := h4 j (by simp)
      refine ⟨q1, q2, h5 0 (by omega), q3, by omega, h3, fun i hi => ?_, fun k hk => h5 (k + 1) (by omega)⟩
      obtain ⟨p1, p2, p3⟩ := h4 i (by simp [hi])
      refine ⟨p1, p2, fun z => ?_⟩
      rcases List.mem_append.mp z with z | z
      · exact p3 z
      · rw [List.mem_singleton.mp z] at hi
        exact h2 hi
theorem mem_ways {nd bt row : List Int} : row ∈ waysL nd bt ↔ Way nd bt row := by
  unfold waysL
  rw [mem_fold]
  constructor
  · rintro ⟨pre, hp, suf, rfl, h⟩
    rw [List.mem_singleton.mp hp] at h ⊢
    obtain ⟨h1, h2, h3, h4⟩ := tail_iff.mp h
    exact ⟨h1, h2, fun j hj => ⟨(h3 j hj).1, (h3 j hj).2.1⟩, h4⟩
  · intro w
    exact ⟨[], by simp, row, rfl, tail_iff.mpr ⟨w.len, w.nodup, fun j hj => ⟨(w.rng j hj).1, (w.rng j hj).2, by simp⟩, w.ok⟩⟩
section
variable {nd bt row : List Int}
theorem enum_t (bt : List Int) : enumS 0 [rowD bt] = some (.fix (bt.zipIdx.map fun q => .tuple [.int (q.2 : Int), .int q.1])) := by
  unfold rowD
  rw [enumS_map, List.mapIdx_eq_zipIdx_map]
theorem fold_len {bt : List Int} (hb : bt.length ≤ 6) : ∀ (pre : List Int), pre.length ≤ 4 → (pre.foldl (step bt) [[]]).length ≤ 6 ^ pre.length := by
  have key : ∀ (pre : List Int) (fs : List (List Int)), (pre.foldl (step bt) fs).length ≤ 6 ^ pre.length * fs.length := by
    intro pre
    induction pre with
    | nil => intro fs; simp
    | cons x pre ih =>
      intro fs
      rw [List.foldl_cons, List.length_cons, Nat.pow_succ]
      have h1 := ih (step bt fs x)
      have h2 := step_len (bt := bt) (one := x) fs
      have h3 : bt.length * fs.length ≤ 6 * fs.length := Nat.mul_le_mul_right _ hb
      calc _ ≤ 6 ^ pre.length * (step bt fs x).length := h1
        _ ≤ 6 ^ pre.length * (6 * fs.length) := Nat.mul_le_mul_left _ (by omega)
        _ = _ := by rw [Nat.mul_assoc]
  intro pre _
  have := key pre [[]]
  simpa using this
theorem f_ways (hm : nd.length ≤ 4) (hb : bt.length ≤ 6) : fin 2 bd__law_ways 8 [.d (.list (nd.map .int)), .d (rowD bt)] none = M.pure (.d (.list ((waysL nd bt).map rowD))) := by
  refine fin_ans ?_ rfl
  unfold bd__law_ways
  simp [sizeLine_eq]
  refine W_forM (fun pre e => ∃ (x y : Option PyData) (o : Option EV), free (some o) ∧ e = [some (.d (.list (nd.map .int))), some (.d (rowD bt)), some (.d (.list ((pre.foldl (step bt) [[]]).map rowD))), x.map .d, y.map .d, o, none, none]) ⟨none, none, none, free_none, by simp [rowD]⟩ (fun pre one post e he hI => ?_) (fun e hI => ?_)
  · obtain ⟨x, y, o, ho, rfl⟩ := hI
    have hpl : pre.length < 4 := by
      have := congrArg List.length he
      simp at this
      omega
    have hfl := fold_len hb pre (by omega)
    have hp6 : 6 ^ pre.length ≤ 6 ^ 3 := Nat.pow_le_pow_right (by decide) (by omega)
    rw [List.foldl_append]
    show W _ _ _ _
    generalize hfs : pre.foldl (step bt) [[]] = fs at *
    simp [ho]
    refine W_forM (fun pr e => ∃ y : Option PyData, e = [some (.d (.list (nd.map .int))), some (.d (rowD bt)), some (.d (.list (fs.map rowD))), some (.d (.int one)), y.map .d, some (.own false (.l ((pr.flatMap (more1 bt one)).map rowD))), none, none]) ⟨y, rfl⟩ (fun pr row po e he2 hI => ?_) (fun e hI => ?_)
    · obtain ⟨y, rfl⟩ := hI
      have hrow : row.length = pre.length := by
        have hm : row ∈ waysL pre bt := by unfold waysL; rw [hfs, he2]; simp
        exact (mem_ways.mp hm).len
      simp [enum_t]
      refine W_lc_fm (fun q : Int × Nat => decide (one ≤ q.1) && !decide ((q.2 : Int) ∈ row)) (fun q => rowD (row ++ [(q.2 : Int)])) (by simp) (by rw [List.length_zipIdx, sizeLine_eq]; omega) (fun q hq => ?_) ?_
      · have hg : gNotIn (.int (q.2 : Int)) (rowD row) = some (.bool (!decide ((q.2 : Int) ∈ row))) := gNotIn_of (gIn_tints row (q.2 : Int))
        by_cases h1 : one ≤ q.1
        · simp [h1, hg, sizeLine_eq]
          intro hx
          unfold rowD
          rw [gAddA_tup (by simp; omega)]
          simp
        · simp [h1]
      · have hl1 := step_len (bt := bt) (one := one) fs
        have hl2 : bt.length * fs.length ≤ 6 * 216 := Nat.mul_le_mul hb (by omega)
        have hl3 : (step bt fs one).length = (pr.flatMap (more1 bt one)).length + ((more1 bt one row).length + (po.flatMap (more1 bt one)).length) := by
          unfold step
          rw [he2, List.flatMap_append, List.flatMap_cons, List.length_append, List.length_append]
        have e1 : ((bt.zipIdx.filter fun q => decide (one ≤ q.1) && !decide ((q.2 : Int) ∈ row)).map fun q => rowD (row ++ [(q.2 : Int)])) = (more1 bt one row).map rowD := by
          unfold more1
          rw [List.map_map]
          rfl
        rw [e1]
        simp [-List.length_flatMap, fExtend, sizeLine_eq]
        exact ⟨by omega, ⟨some _, rfl⟩⟩
    · obtain ⟨y, rfl⟩ := hI
      simp
      exact ⟨some _, y, some (.d _), free_d, rfl, rfl, rfl, rfl⟩
  · obtain ⟨x, y, o, ho, rfl⟩ := hI
    simp [waysL]
end
end K72
end

/- M72f -/
section
set_option maxHeartbeats 4000000
namespace K72
open PySem PySem.Spec PyProof.Rows L2 DL

theorem kk : DrK 48271 40692 := ⟨by decide, by decide⟩
section
variable {ds : List PyData} {many : Int} {env : En} {i : Nat} {b : Bool} {Q : RVl → En → Prop} {E : Er → En → Prop}
theorem draw_eq : bd__law_draw = drawM 48271 17 40692 := rfl
theorem any_eq : bd__law_any = anyM 48271 17 40692 := rfl
theorem hand_eq : bd__law_hand = handM := rfl
theorem W_dr (hi : HI ds) (he : env[i]? = some (some (.own b (.l ds)))) (h1 : 0 < many) (h2 : many < 1073741824) (q : ∀ r ds', HI ds' → 0 ≤ r → r < many → Q (.d (.int r)) (env.set i (some (.own b (.l ds'))))) : W (fin 2 bd__law_draw 5 [.own true (.l ds), .d (.int many)] (some (0, i))) env Q E := by
  rw [draw_eq]
  exact W_drawn kk hi he h1 h2 q
theorem W_an {xs : List PyData} (hi : HI ds) (he : env[i]? = some (some (.own b (.l ds)))) (h1 : 0 < xs.length) (h2 : xs.length ≤ 1000) (q : ∀ x ∈ xs, ∀ ds', HI ds' → Q (.d x) (env.set i (some (.own b (.l ds'))))) : W (fin 2 bd__law_any 2 [.own true (.l ds), .d (.list xs)] (some (0, i))) env Q E := by
  rw [any_eq]
  exact W_anyd kk hi he h1 h2 q
theorem W_hd {ns : List Int} (h : ns.length ≤ 63) (q : ∀ ds, HI ds → Q (.o (.l ds)) env) : W (fin 1 bd__law_hand 3 [.d (.list (ns.map .int))] none) env Q E := by
  rw [hand_eq]
  exact W_hand h q
structure Tm.Small (t : Tm) : Prop where
  ok : t.Ok
  s6 : t.s ≤ 6
  w5 : t.w ≤ 5
theorem W_team (hi : HI ds) (he : env[i]? = some (some (.own b (.l ds)))) (q : ∀ (t : Tm) ds', HI ds' → t.Small → Q (.d t.d) (env.set i (some (.own b (.l ds'))))) : W (fin 1 bd__law_team 1 [.own true (.l ds)] (some (0, i))) env Q E := by
  rw [W_fin]
  refine ⟨rfl, ?_⟩
  unfold bd__law_team
  simp
  refine W_dr hi rfl (by omega) (by omega) fun r1 d1 i1 a1 c1 => ?_
  simp
  refine W_dr i1 rfl (by omega) (by omega) fun r2 d2 i2 a2 c2 => ?_
  simp
  refine W_dr i2 rfl (by omega) (by omega) fun r3 d3 i3 a3 c3 => ?_
  simp [sizeLine_eq]
  rw [back_some (b := b) (es := d3) rfl he]
  exact q ⟨1 + r1, 1 + r2, r3⟩ d3 i3 ⟨⟨by show (1 : Int) ≤ 1 + r1; omega, by show 1 + r1 ≤ 300; omega, by show (1 : Int) ≤ 1 + r2; omega, by show 1 + r2 ≤ 20; omega, a3, by show r3 ≤ 20; omega⟩, by show 1 + r2 ≤ 6; omega, by show r3 ≤ 5; omega⟩
def tOk (d : PyData) : Bool := sizedD d 1 8 && tupAll teamD d
theorem W_badteams (hi : HI ds) (he : env[i]? = some (some (.own b (.l ds)))) (q : ∀ d ds', HI ds' → tOk d = false → Q (.d d) (env.set i (some (.own b (.l ds'))))) : W (fin 1 bd__law_bad_teams 2 [.own true (.l ds)] (some (0, i))) env Q E := by
  rw [W_fin]
  refine ⟨rfl, ?_⟩
  unfold bd__law_bad_teams
  have hg : ∀ x : PyData, gMulB (.tuple [x]) (.int 9) = some (.tuple [x, x, x, x, x, x, x, x, x]) := fun x => rfl
  simp [sizeLine_eq, hg, gAddA_lst]
  refine W_an hi rfl (by simp) (by simp) fun x hx d1 i1 => ?_
  simp
  rw [back_some (b := b) (es := d1) rfl he]
  refine q x d1 i1 ?_
  simp at hx
  rcases hx with rfl | rfl | rfl | rfl | rfl | rfl | rfl | rfl | rfl | rfl | rfl | rfl | rfl <;> rfl
theorem W_badspare (hi : HI ds) (he : env[i]? = some (some (.own b (.l ds)))) (q : ∀ d ds', HI ds' → withinD d 0 100 = false → Q (.d d) (env.set i (some (.own b (.l ds'))))) : W (fin 1 bd__law_bad_spare 1 [.own true (.l ds)] (some (0, i))) env Q E := by
  rw [W_fin]
  refine ⟨rfl, ?_⟩
  unfold bd__law_bad_spare
  simp [sizeLine_eq]
  refine W_an hi rfl (by simp) (by simp) fun x hx d1 i1 => ?_
  simp
  rw [back_some (b := b) (es := d1) rfl he]
  refine q x d1 i1 ?_
  simp at hx
  rcases hx with rfl | rfl | rfl | rfl | rfl <;> rfl
end
theorem said_teams : said_law_said "NoTeams" = some (.str "teams") := by rfl
theorem said_needs : said_law_said "NoNeeds" = some (.str "needs") := by rfl
theorem said_number : said_law_said "NoNumber" = some (.str "number") := by rfl
theorem said_given : said_law_said "NoGiven" = some (.str "given") := by rfl
/-! ### what the law asks of what is told -/
theorem toldB_bar {nd bt : List Int} {x : Int} (h0 : 0 ≤ x) (h : cnt bt x < cnt nd x) : toldB nd bt (barD x) = true := by simp [toldB, barD, barB, h0, h]
theorem toldB_giv {nd bt row : List Int} (w : Way nd bt row) : toldB nd bt (givD row) = true := by
  have e : toldB nd bt (givD row) = givB nd bt (rowD row) := by simp [toldB, givD, w_ne]
  rw [e]
  have h1 : (row.map PyData.int).all (fun x => withinD x 0 ((bt.length : Int) - 1)) = true := by
    rw [List.all_map, List.all_eq_true]
    intro j hj
    have := w.rng j hj
    simp only [Function.comp, withinD_int, Bool.and_eq_true, decide_eq_true_eq]
    omega
  simp only [givB, rowD, h1, List.length_map, w.len, decide_true, Bool.true_and, toInts_map]
  show rowB nd bt row = true
  unfold rowB
  rw [decide_eq_true w.nodup, Bool.true_and, List.all_eq_true]
  intro q hq
  obtain ⟨k, hk⟩ := List.mem_iff_getElem?.mp hq
  rw [List.getElem?_zip_eq_some] at hk
  obtain ⟨k1, k2⟩ := hk
  have hk2 := (List.getElem?_eq_some_iff.mp k2).1
  have := w.ok k hk2
  unfold at_ at this
  rw [List.getD_eq_getElem?_getD, List.getD_eq_getElem?_getD (l := row), k1, k2] at this
  rw [decide_eq_true_eq]
  exact this
theorem way_more {nd bt row : List Int} {x : Int} (w : Way nd bt row) : Way nd (bt ++ [x]) row where
  len := w.len
  nodup := w.nodup
  rng := fun j hj => by
    have := w.rng j hj
    rw [List.length_append]
    simp
    omega
  ok := fun k hk => by
    have h1 := w.ok k hk
    have h2 := w.rng _ (at_mem (l := row) (k := k) (by rw [w.len]; exact hk))
    have : at_ (bt ++ [x]) (at_ row k).toNat = at_ bt (at_ row k).toNat := by
      generalize at_ row k = j at *
      unfold at_
      rw [List.getD_eq_getElem?_getD, List.getD_eq_getElem?_getD, List.getElem?_append_left (by omega)]
    rw [this]
    exact h1
theorem needL_more {ts : List Tm} {st : List Int} {sp : Int} {k : Nat} (hk : k < (needL ts st sp).length) : at_ (needL ts st (sp + 1)) k = at_ (needL ts st sp) k + 1 := by
  have hl : k < (ts.zip st).length := by simpa [needL] using hk
  have e : (ts.zip st)[k]? = some ((ts.zip st)[k]'hl) := List.getElem?_eq_getElem hl
  unfold at_ needL
  rw [List.getD_eq_getElem?_getD, List.getD_eq_getElem?_getD, List.getElem?_map, List.getElem?_map, e]
  show _ + (sp + 1) = _ + sp + 1
  omega
theorem way_less {ts : List Tm} {st : List Int} {sp : Int} {bt row : List Int} (w : Way (needL ts st (sp + 1)) bt row) : Way (needL ts st sp) bt row where
  len := by rw [w.len]; simp [needL]
  nodup := w.nodup
  rng := w.rng
  ok := fun k hk => by
    have h1 := w.ok k (by simpa [needL] using hk)
    rw [needL_more hk] at h1
    omega
theorem good_pair {w : String} {x : PyData} : Good (.tuple [.str w, x]) := fun w' x' e => by cases e; exact str_okS _
theorem good_no {d : PyData} (h : ∀ a b, d ≠ .tuple [a, b]) : Good d := fun w x e => absurd e (h _ _)
/-- what is told -/
def TO (nd bt : List Int) (told : PyData) : Prop := (∃ x, 0 ≤ x ∧ cnt bt x < cnt nd x ∧ told = barD x) ∨ ∃ row, Way nd bt row ∧ told = givD row
theorem gNe_nil {xs : List PyData} (h : ∀ x ∈ xs, Lay 59 x) : gNe (.list xs) (.list []) = some (.bool (decide (xs ≠ []))) := by
  rw [gNe_lay (lay_list h) (lay_list (n := 59) (by simp))]
  cases xs <;> simp [PyData.eqv, PyData.eqvAll]
end K72
end

/- M72g -/
section
set_option maxHeartbeats 8000000
namespace K72
open PySem PySem.Spec PyProof.Rows L2 DL

structure Sl where
  ds : List PyData
  x2 : Option PyData
  o3 : Option OO
  x4 : Option PyData
  x5 : Option PyData
  x6 : Option PyData
  x7 : Option PyData
  x8 : Option PyData
  x9 : Option PyData
  x10 : Option PyData
  x11 : Option PyData
  x12 : Option PyData
  x13 : Option PyData
  o14 : Option EV
  x15 : Option PyData
  o16 : Option EV
  x17 : Option PyData
  x18 : Option PyData
  x19 : Option PyData
def EI (sc : PyData) (s : Sl) : En := [some (.d sc), some (.own false (.l s.ds)), s.x2.map .d, s.o3.map (.own false), s.x4.map .d, s.x5.map .d, s.x6.map .d, s.x7.map .d, s.x8.map .d, s.x9.map .d, s.x10.map .d, s.x11.map .d, s.x12.map .d, s.x13.map .d, s.o14, s.x15.map .d, s.o16, s.x17.map .d, s.x18.map .d, s.x19.map .d, none, none, none]
/-- the slots behind the drawing of a turn -/
def EJ (sc : PyData) (ds : List PyData) (d : PyData) (o3 : Option OO) (x4 x5 x6 x7 x8 x9 x10 x11 x12 x13 x15 : Option PyData) (ts : List Tm) (st : List Int) (sp : Int) (bt : List Int) : En :=
  EI sc ⟨ds, some d, o3, x4, x5, x6, x7, x8, x9, x10, x11, x12, x13, some (.d (rowD bt)), x15, some (.d (.list ((needL ts st sp).map .int))), some (rowD st), some (.int sp), some (tsD ts)⟩
def stBad (n : Nat) (x : PyData) : Prop := (sizedD x n n && tupAll (fun x => withinD x 0 60) x) = false
def btBad (x : PyData) : Prop := (sizedD x 0 12 && tupAll (fun x => withinD x 0 300) x) = false
theorem law_wp (ns : List Int) (h : ns.length ≤ 63) : W bd_law (startE 23 [.d (.list (ns.map .int))]) (fun fl _ => fl = .ret (.d (.bool true))) (fun _ _ => False) := by
  unfold bd_law
  generalize hsc : PyData.list (ns.map .int) = sc
  refine W_cut (fun e => ∃ ds', HI ds' ∧ e = EI sc ⟨ds', none, none, none, none, none, none, none, none, none, none, none, none, none, none, none, none, none, none⟩) ?_ ?_
  · simp
    subst hsc
    refine W_hd h fun ds hi => ?_
    simp
    exact ⟨ds, hi, rfl⟩
  clear hsc
  rintro _ ⟨ds0, hi0, rfl⟩
  refine W_cut (fun e => ∃ s', HI s'.ds ∧ free (some s'.o14) ∧ free (some s'.o16) ∧ e = EI sc s') ?_ ?_
  · simp
    refine W_for (fun i e => ∃ s', HI s'.ds ∧ free (some s'.o14) ∧ free (some s'.o16) ∧ e = EI sc s') ⟨_, hi0, free_none, free_none, rfl⟩ (fun i d e _ hI => ?_) (fun e hI => ⟨rfl, hI⟩)
    clear hi0 ds0
    obtain ⟨⟨ds, x2, o3, x4, x5, x6, x7, x8, x9, x10, x11, x12, x13, o14, x15, o16, x17, x18, x19⟩, hi, h14, h16, rfl⟩ := hI
    dsimp only at hi h14 h16
    rw [W_gNm, W_stoF]
    refine ⟨by simp [EI], ?_⟩
    show W _ (EI sc ⟨ds, some d, o3, x4, x5, x6, x7, x8, x9, x10, x11, x12, x13, o14, x15, o16, x17, x18, x19⟩) _ _
    -- teams
    refine W_cut (fun e => ∃ ds' ts, HI ds' ∧ (∀ t ∈ ts, Tm.Small t) ∧ 1 ≤ ts.length ∧ ts.length ≤ 4 ∧ e = EI sc ⟨ds', some d, o3, x4, x5, x6, x7, x8, x9, x10, x11, x12, x13, o14, x15, o16, x17, x18, some (tsD ts)⟩) ?_ ?_
    · simp [EI]
      refine W_dr hi rfl (by omega) (by omega) fun r ds' hi' a c => ?_
      simp
      refine ⟨by omega, ?_⟩
      refine W_lc (fun i acc e => ∃ ds' ts, HI ds' ∧ (∀ t ∈ ts, Tm.Small t) ∧ ts.length = i ∧ acc = ts.map Tm.d ∧ e = EI sc ⟨ds', some d, o3, x4, x5, x6, x7, x8, x9, x10, x11, x12, x13, o14, x15, o16, x17, x18, x19⟩) (by simp) ⟨ds', [], hi', by simp, rfl, rfl, by simp [EI]⟩ (fun j d2 acc e hj hI => ?_) (fun acc e hI => ?_)
      · obtain ⟨ds2, ts, hi2, h1, rfl, rfl, rfl⟩ := hI
        have hlt := (List.getElem?_eq_some_iff.mp hj).1
        simp at hlt
        simp [EI]
        refine W_team hi2 rfl fun t ds3 hi3 ht => ?_
        simp
        refine ⟨by rw [sizeLine_eq]; omega, ds3, hi3, ts ++ [t], ?_, by simp, by simp, rfl⟩
        intro u hu
        rcases List.mem_append.mp hu with hu | hu
        · exact h1 u hu
        · simp at hu; subst hu; exact ht
      · obtain ⟨ds2, ts, hi2, h1, h2, rfl, rfl⟩ := hI
        simp at h2
        simp [EI, restE, DL.gTup]
        exact ⟨ds2, hi2, ts, h1, by omega, by omega, rfl, rfl⟩
    clear hi ds
    rintro _ ⟨ds, ts, hi, hsm, hl1, hl4, rfl⟩
    have gl : gLen [tsD ts] = some (.int (ts.length : Int)) := by unfold tsD; rw [gLen_tup, List.length_map]
    -- stays, spare
    refine W_cut (fun e => ∃ ds' st sp, HI ds' ∧ st.length = ts.length ∧ (∀ x ∈ st, 0 ≤ x ∧ x < (10 : Int)) ∧ 0 ≤ sp ∧ sp < 20 ∧ e = EI sc ⟨ds', some d, o3, x4, x5, x6, x7, x8, x9, x10, x11, x12, x13, o14, x15, o16, some (rowD st), some (.int sp), some (tsD ts)⟩) ?_ ?_
    · simp [EI, tsD]
      refine W_lc (fun i acc e => ∃ ds' st, HI ds' ∧ st.length = i ∧ (∀ x ∈ st, 0 ≤ x ∧ x < (10 : Int)) ∧ acc = st.map PyData.int ∧ e = EI sc ⟨ds', some d, o3, x4, x5, x6, x7, x8, x9, x10, x11, x12, x13, o14, x15, o16, x17, x18, some (tsD ts)⟩) (by simp) ⟨ds, [], hi, rfl, by simp, rfl, by simp [EI, tsD]⟩ (fun j d2 acc e hj hI => ?_) (fun acc e hI => ?_)
      · obtain ⟨ds2, st, hi2, h1, h2, rfl, rfl⟩ := hI
        have hlt := (List.getElem?_eq_some_iff.mp hj).1
        simp at hlt
        simp [EI]
        refine W_dr hi2 rfl (by omega) (by omega) fun r ds3 hi3 a c => ?_
        simp
        refine ⟨by rw [sizeLine_eq]; omega, ds3, hi3, st ++ [r], by simp [h1], ?_, by simp, rfl⟩
        intro u hu
        rcases List.mem_append.mp hu with hu | hu
        · exact h2 u hu
        · simp at hu; subst hu; exact ⟨a, c⟩
      · obtain ⟨ds2, st, hi2, h1, h2, rfl, rfl⟩ := hI
        simp at h1
        simp [EI, restE, DL.gTup]
        refine W_dr hi2 rfl (by omega) (by omega) fun r ds3 hi3 a c => ?_
        simp [sizeLine_eq]
        exact ⟨ds3, hi3, st, h1, h2, r, a, c, rfl, rfl, rfl, rfl⟩
    clear hi ds
    rintro _ ⟨ds, st, sp, hi, hsl, hst, p0, p1, rfl⟩
    have hne : ∀ y ∈ needL ts st sp, 0 ≤ y ∧ y ≤ 1000 := fun y hy => by
      unfold needL at hy
      obtain ⟨q, hq, rfl⟩ := List.mem_map.mp hy
      have hm := List.of_mem_zip hq
      have h1 := hsm q.1 hm.1
      have h2 := hst q.2 hm.2
      have h3 : 0 ≤ q.1.s * (2 * q.1.w + q.2) := Int.mul_nonneg (by have := h1.ok.s0; omega) (by have := h1.ok.w0; omega)
      have h4 : q.1.s * (2 * q.1.w + q.2) ≤ 6 * 19 := Int.mul_le_mul h1.s6 (by have := h1.w5; omega) (by have := h1.ok.w0; omega) (by omega)
      omega
    have hnl : (needL ts st sp).length = ts.length := by simp [needL]; omega
    -- needed
    refine W_cut (fun e => e = EI sc ⟨ds, some d, o3, x4, x5, x6, x7, x8, x9, x10, x11, x12, x13, o14, x15, some (.own false (.l ((needL ts st sp).map .int))), some (rowD st), some (.int sp), some (tsD ts)⟩) ?_ ?_
    · simp [EI, zipS_teams]
      refine W_lc_map (fun q : Tm × Int => .int (q.1.s * (2 * q.1.w + q.2) + sp)) (by simp) (by rw [List.length_zip, sizeLine_eq]; omega) (fun q hq => ?_) ?_
      · have hm := List.of_mem_zip hq
        have ho := (hsm q.1 hm.1).ok
        have e1 := small_of (i := q.1.s) (by have := ho.s0; omega) (by have := ho.s1; omega)
        simp [Tm.d, gMulA_int (.inl (show DL.small64 2 = true from rfl)), gMulA_int (.inl e1)]
      · simp [needL, h16]
    rintro _ rfl
    generalize hnd : needL ts st sp = nd at *
    -- bottles
    refine W_cut (fun e => e = EI sc ⟨ds, some d, o3, x4, x5, x6, x7, x8, x9, x10, x11, x12, x13, some (.own false (.l [])), x15, some (.own false (.l (nd.map .int))), some (rowD st), some (.int sp), some (tsD ts)⟩) ?_ ?_
    · simp [EI, h14]
    rintro _ rfl
    clear h14 h16
    refine W_cut (fun e => ∃ (ds' : List PyData) (bt : List Int) (y15 : Option PyData), HI ds' ∧ bt.length ≤ 5 ∧ (∀ x ∈ bt, 0 ≤ x ∧ x ≤ (300 : Int)) ∧ e = EI sc ⟨ds', some d, o3, x4, x5, x6, x7, x8, x9, x10, x11, x12, x13, some (.own false (.l (bt.map .int))), y15, some (.own false (.l (nd.map .int))), some (rowD st), some (.int sp), some (tsD ts)⟩) ?_ ?_
    · simp [EI]
      refine W_dr hi rfl (by omega) (by omega) fun r ds' hi' a c => ?_
      simp
      refine ⟨by omega, ?_⟩
      refine W_for (fun i e => ∃ (ds' : List PyData) (bt : List Int) (y15 : Option PyData), HI ds' ∧ bt.length = i ∧ (∀ x ∈ bt, 0 ≤ x ∧ x ≤ (300 : Int)) ∧ e = EI sc ⟨ds', some d, o3, x4, x5, x6, x7, x8, x9, x10, x11, x12, x13, some (.own false (.l (bt.map .int))), y15, some (.own false (.l (nd.map .int))), some (rowD st), some (.int sp), some (tsD ts)⟩) ⟨ds', [], x15, hi', rfl, by simp, by simp [EI]⟩ (fun j d2 e hj hI => ?_) (fun e hI => ?_)
      · obtain ⟨ds2, bt, y15, hi2, h1, h2, rfl⟩ := hI
        have hlt := (List.getElem?_eq_some_iff.mp hj).1
        simp at hlt
        simp [EI]
        refine W_dr hi2 rfl (by omega) (by omega) fun r2 ds3 hi3 a3 c3 => ?_
        simp [sizeLine_eq]
        rw [gAddA_lst (by simp; omega)]
        simp
        refine W_an hi3 rfl (by simp) (by simp; omega) fun x hx ds4 hi4 => ?_
        obtain ⟨y, rfl, y0⟩ : ∃ y : Int, x = .int y ∧ 0 ≤ y := by
          rcases List.mem_append.mp hx with hx | hx
          · obtain ⟨y, hy, rfl⟩ := List.mem_map.mp hx
            exact ⟨y, rfl, (hne y hy).1⟩
          · exact ⟨r2, List.mem_singleton.mp hx, a3⟩
        simp
        refine W_dr hi4 rfl (by omega) (by omega) fun r3 ds5 hi5 a5 c5 => ?_
        simp [sizeLine_eq, fAppend]
        refine ⟨by omega, ds5, hi5, bt ++ [if y + r3 < 300 then y + r3 else 300], by simp [h1], fun z hz => ?_, by simp, by simp, ⟨some _, rfl⟩⟩
        rcases List.mem_append.mp hz with hz | hz
        · exact h2 z hz
        · rw [List.mem_singleton.mp hz]
          split <;> omega
      · obtain ⟨ds2, bt, y15, hi2, h1, h2, rfl⟩ := hI
        simp at h1
        exact ⟨rfl, ds2, bt, y15, hi2, by omega, h2, rfl⟩
    clear hi ds
    rintro _ ⟨ds, bt, y15, hi, hbl, hbt, rfl⟩
    -- the bottles as a tuple, all ways
    refine W_cut (fun e => e = EI sc ⟨ds, some d, o3, x4, x5, x6, x7, x8, x9, x10, x11, x12, x13, some (.d (rowD bt)), y15, some (.own false (.l (nd.map .int))), some (rowD st), some (.int sp), some (tsD ts)⟩) ?_ ?_
    · simp [EI, rowD]
    rintro _ rfl
    refine W_cut (fun e => e = EI sc ⟨ds, some d, o3, x4, x5, x6, x7, x8, x9, x10, x11, x12, some (.list ((waysL nd bt).map rowD)), some (.d (rowD bt)), y15, some (.d (.list (nd.map .int))), some (rowD st), some (.int sp), some (tsD ts)⟩) ?_ ?_
    · simp [EI, f_ways (nd := nd) (bt := bt) (by omega) (by omega)]
    rintro _ rfl
    have hin : Inp ts st sp bt := ⟨fun t ht => (hsm t ht).ok, hl1, by omega, hsl, fun x hx => (hst x hx).1, fun x hx => by have := hst x hx; omega, p0, by omega, by omega, fun x hx => (hbt x hx).1, fun x hx => (hbt x hx).2⟩
    have hlw : (waysL nd bt).length ≤ 1296 := by
      have := fold_len (bt := bt) (by omega) nd (by omega)
      have h6 : 6 ^ nd.length ≤ 6 ^ 4 := Nat.pow_le_pow_right (by decide) (by omega)
      unfold waysL
      omega
    -- told
    refine W_cut (fun e => ∃ told, TO nd bt told ∧ e = EI sc ⟨ds, some d, o3, x4, x5, x6, x7, x8, x9, x10, x11, some told, some (.list ((waysL nd bt).map rowD)), some (.d (rowD bt)), y15, some (.d (.list (nd.map .int))), some (rowD st), some (.int sp), some (tsD ts)⟩) ?_ ?_
    · simp [EI]
      refine W_told hin (fun x h0 hx => ?_) (fun row hw => ?_)
      · rw [hnd] at hx
        simp
        exact (show TO nd bt (barD x) from .inl ⟨x, h0, hx, rfl⟩)
      · rw [hnd] at hw
        simp
        exact (show TO nd bt (givD row) from .inr ⟨row, hw, rfl⟩)
    rintro _ ⟨told, hto, rfl⟩
    have hgood : Good told := by
      rcases hto with ⟨x, _, _, rfl⟩ | ⟨row, _, rfl⟩ <;> exact good_pair
    have htb : toldB nd bt told = true := by
      rcases hto with ⟨x, h0, hx, rfl⟩ | ⟨row, hw, rfl⟩
      · exact toldB_bar h0 hx
      · exact toldB_giv hw
    obtain ⟨w0, t1, ht01, ht2, ht3⟩ : ∃ (w0 : String) (t1 : PyData), told = .tuple [.str w0, t1] ∧ gEq (.str w0) (.str "given") = some (.bool (decide (waysL nd bt ≠ []))) ∧ gEq (.str w0) (.str "bar") = some (.bool (!decide (waysL nd bt ≠ []))) := by
      rcases hto with ⟨x, h0, hx, rfl⟩ | ⟨row, hw, rfl⟩
      · have : waysL nd bt = [] := by
          cases e : waysL nd bt with
          | nil => rfl
          | cons r rs => exact absurd (mem_ways.mp (show r ∈ waysL nd bt by rw [e]; simp)) (bar_no hx)
        refine ⟨"bar", _, rfl, ?_, ?_⟩
        · rw [this]; exact gEq_strC (by decide +kernel)
        · rw [this]; exact gEq_strC (by decide +kernel)
      · have : waysL nd bt ≠ [] := fun e => by
          have := mem_ways.mpr hw
          rw [e] at this
          simp at this
        refine ⟨"given", _, rfl, ?_, ?_⟩
        · rw [decide_eq_true this]; exact gEq_strC (by decide +kernel)
        · rw [decide_eq_true this]; exact gEq_strC (by decide +kernel)
    have hnil : gNe (.list ((waysL nd bt).map rowD)) (.list []) = some (.bool (decide (waysL nd bt ≠ []))) := by
      rw [gNe_nil (fun x hx => by obtain ⟨r, _, rfl⟩ := List.mem_map.mp hx; exact lay_ints (n := 58) r)]
      cases waysL nd bt <;> simp
    refine W_cut (fun e => e = EI sc ⟨ds, some d, o3, x4, x5, x6, x7, x8, x9, x10, x11, some told, some (.list ((waysL nd bt).map rowD)), some (.d (rowD bt)), y15, some (.d (.list (nd.map .int))), some (rowD st), some (.int sp), some (tsD ts)⟩) ?_ ?_
    · simp only [EI, Option.map_some]
      rw [ht01] at htb hgood ⊢
      generalize decide (waysL nd bt ≠ []) = bb at *
      simp [f_law_is_told (nd := nd) (bt := bt) (by omega) (by omega) hgood, htb, ht2, hnil, gNe_bool, sizeLine_eq]
    rintro _ rfl
    -- things
    refine W_cut (fun e => ∃ th : List PyData, (∀ d ∈ th, Good d) ∧ th.length ≤ 7 ∧ e = EI sc ⟨ds, some d, o3, x4, x5, x6, x7, x8, x9, x10, some (.list th), some told, some (.list ((waysL nd bt).map rowD)), some (.d (rowD bt)), y15, some (.d (.list (nd.map .int))), some (rowD st), some (.int sp), some (tsD ts)⟩) ?_ ?_
    · have e1 : gSl told none (some 1) = some (.tuple [.str w0]) := by
        rw [ht01]
        show some (PyData.tuple (DL.cutD [.str w0, t1] none (some ((1 : Nat) : Int)))) = _
        rw [cutD_to]
        rfl
      have e2 : DL.gLst [told] = some [.str w0, t1] := by rw [ht01]; rfl
      simp [EI, sizeLine_eq, e1, e2, gl, gMulB_fill (x := .int 0) (k := ts.length) hl1 (by omega)]
      exact ⟨hgood, good_no fun a b e => by (try cases e), good_no fun a b e => by (try cases e), good_no fun a b e => by (try cases e), good_pair, good_pair, good_pair⟩
    rintro _ ⟨th, hth, hl, rfl⟩
    refine W_cut (fun e => ∃ th : List PyData, (∀ d ∈ th, Good d) ∧ th.length ≤ 9 ∧ e = EI sc ⟨ds, some d, o3, x4, x5, x6, x7, x8, x9, x10, some (.list th), some told, some (.list ((waysL nd bt).map rowD)), some (.d (rowD bt)), y15, some (.d (.list (nd.map .int))), some (rowD st), some (.int sp), some (tsD ts)⟩) ?_ ?_
    · simp [EI, sizeLine_eq]
      rw [gAddA_lst (by simp; omega)]
      simp
      refine ⟨fun d hd => ?_, by omega⟩
      rcases hd with hd | rfl | rfl
      · exact hth d hd
      · exact good_pair
      · exact good_no fun a b e => by cases e
    clear hth hl
    rintro _ ⟨th, hth, hl, rfl⟩
    refine W_cut (fun e => ∃ th : List PyData, (∀ d ∈ th, Good d) ∧ th.length ≤ 18 ∧ e = EI sc ⟨ds, some d, o3, x4, x5, x6, x7, x8, x9, x10, some (.list th), some told, some (.list ((waysL nd bt).map rowD)), some (.d (rowD bt)), y15, some (.d (.list (nd.map .int))), some (rowD st), some (.int sp), some (tsD ts)⟩) ?_ ?_
    · have et : gIx told (.int 1) = some t1 := by rw [ht01]; simp
      simp [EI, sizeLine_eq]
      refine W_lc_map (fun y : Int => .tuple [.str "bar", .int y]) (by simp) (by rw [sizeLine_eq]; omega) (fun y hy => by simp [sizeLine_eq]) ?_
      simp
      rw [gAddA_lst (by simp; omega)]
      simp
      refine W_lc_map (fun y : Int => .tuple [.str "bar", .int (y + 1)]) (by simp) (by rw [sizeLine_eq]; omega) (fun y hy => by simp [sizeLine_eq]) ?_
      simp
      rw [gAddA_lst (by simp; omega)]
      simp [et, sizeLine_eq]
      rw [gAddA_lst (by simp; omega)]
      simp
      refine ⟨fun d hd => ?_, by omega⟩
      rcases hd with hd | ⟨y, hy, rfl⟩ | ⟨y, hy, rfl⟩ | rfl
      · exact hth d hd
      · exact good_pair
      · exact good_pair
      · exact good_pair
    clear hth hl
    rintro _ ⟨th, hth, hl, rfl⟩
    -- rows of ways
    refine W_cut (fun e => ∃ (th : List PyData) (y10 : Option PyData), (∀ d ∈ th, Good d) ∧ th.length ≤ 30 ∧ e = EI sc ⟨ds, some d, o3, x4, x5, x6, x7, x8, x9, y10, some (.list th), some told, some (.list ((waysL nd bt).map rowD)), some (.d (rowD bt)), y15, some (.d (.list (nd.map .int))), some (rowD st), some (.int sp), some (tsD ts)⟩) ?_ ?_
    · have ec : DL.cutD ((waysL nd bt).map rowD) none (some 4) = ((waysL nd bt).take 4).map rowD := by
        rw [show (some (4 : Int)) = some ((4 : Nat) : Int) from rfl, cutD_to, List.map_take]
      simp [EI, ec]
      rw [← List.map_take]
      refine W_forM (fun pre e => ∃ (th : List PyData) (y10 : Option PyData), (∀ d ∈ th, Good d) ∧ th.length ≤ 18 + 3 * pre.length ∧ e = EI sc ⟨ds, some d, o3, x4, x5, x6, x7, x8, x9, y10, some (.list th), some told, some (.list ((waysL nd bt).map rowD)), some (.d (rowD bt)), y15, some (.d (.list (nd.map .int))), some (rowD st), some (.int sp), some (tsD ts)⟩) ⟨th, x10, hth, by simp; omega, by simp [EI]⟩ (fun pre row post e he hI => ?_) (fun e hI => ?_)
      · obtain ⟨th, y10, hth, hl, rfl⟩ := hI
        have hrow : row ∈ waysL nd bt := List.mem_of_mem_take (i := 4) (by rw [he]; simp)
        have hw := mem_ways.mp hrow
        have hwl := hw.len
        have hpl : pre.length < 4 := by
          have := congrArg List.length he
          simp at this
          omega
        have er : ∀ xs : List PyData, gRev (.tuple xs) = some (.tuple xs.reverse) := fun _ => rfl
        simp [EI, sizeLine_eq, rowD]
        rw [gAddA_tup (by simp; omega)]
        simp
        rw [gAddA_lst (by simp; omega)]
        simp
        refine ⟨_, fun d hd => ?_, ?_, ⟨some _, rfl⟩, rfl⟩
        · simp at hd
          rcases hd with hd | rfl | rfl | rfl
          · exact hth d hd
          · exact good_pair
          · exact good_pair
          · exact good_pair
        · simp
          omega
      · obtain ⟨th, y10, hth, hl, rfl⟩ := hI
        refine ⟨rfl, th, y10, hth, ?_, rfl⟩
        simp at hl
        omega
    clear hth hl
    rintro _ ⟨th, y10, hth, hl, rfl⟩
    -- all things
    refine W_cut (fun e => ∃ y9, e = EI sc ⟨ds, some d, o3, x4, x5, x6, x7, x8, y9, y10, some (.list th), some told, some (.list ((waysL nd bt).map rowD)), some (.d (rowD bt)), y15, some (.d (.list (nd.map .int))), some (rowD st), some (.int sp), some (tsD ts)⟩) ?_ ?_
    · simp [EI]
      refine W_forI (fun pre e => ∃ y9, e = EI sc ⟨ds, some d, o3, x4, x5, x6, x7, x8, y9, y10, some (.list th), some told, some (.list ((waysL nd bt).map rowD)), some (.d (rowD bt)), y15, some (.d (.list (nd.map .int))), some (rowD st), some (.int sp), some (tsD ts)⟩) ⟨x9, rfl⟩ (fun pre z post e he hI => ?_) (fun e hI => ⟨rfl, hI⟩)
      obtain ⟨y9, rfl⟩ := hI
      have hz := hth z (by rw [he]; simp)
      have ft := f_is_told hin hz
      rw [hnd] at ft
      simp [EI, ft, f_law_is_told (nd := nd) (bt := bt) (by omega) (by omega) hz, gNe_bool]
      exact ⟨some _, rfl⟩
    rintro _ ⟨y9, rfl⟩
    -- a bottle more
    refine W_cut (fun e => e = EI sc ⟨ds, some d, o3, x4, x5, x6, x7, x8, y9, y10, some (.list th), some told, some (.list ((waysL nd bt).map rowD)), some (.d (rowD bt)), y15, some (.d (.list (nd.map .int))), some (rowD st), some (.int sp), some (tsD ts)⟩) ?_ ?_
    · have et : gIx told (.int 0) = some (.str w0) := by rw [ht01]; simp
      have eb : gAddA (rowD bt) (.tuple [.int 5]) = some (rowD (bt ++ [5])) := by
        unfold rowD
        rw [gAddA_tup (by simp; omega)]
        simp
      have hin5 : Inp ts st sp (bt ++ [5]) := ⟨hin.ok, hin.l1, hin.l8, hin.ls, hin.s0, hin.s1, hin.p0, hin.p1, by simp; omega, fun x hx => by
        rcases List.mem_append.mp hx with hx | hx
        · exact hin.b0 x hx
        · rw [List.mem_singleton.mp hx]; omega, fun x hx => by
        rcases List.mem_append.mp hx with hx | hx
        · exact hin.b1 x hx
        · rw [List.mem_singleton.mp hx]; omega⟩
      by_cases hwn : waysL nd bt ≠ []
      · obtain ⟨r0, hr0⟩ := List.exists_mem_of_ne_nil _ hwn
        simp [EI, et, ht2, hwn, eb, sizeLine_eq]
        refine W_told hin5 (fun x h0 hx => ?_) (fun row hw => ?_)
        · rw [hnd] at hx
          exact absurd (way_more (x := 5) (mem_ways.mp hr0)) (bar_no hx)
        · simp [givD, gNe_strC (a := "given") (b := "given") (c := true) (by decide +kernel)]
      · have hwn : waysL nd bt = [] := Classical.byContradiction hwn
        simp [EI, et, ht2, hwn]
    rintro _ rfl
    -- more to spare
    refine W_cut (fun e => e = EI sc ⟨ds, some d, o3, x4, x5, x6, x7, x8, y9, y10, some (.list th), some told, some (.list ((waysL nd bt).map rowD)), some (.d (rowD bt)), y15, some (.d (.list (nd.map .int))), some (rowD st), some (.int sp), some (tsD ts)⟩) ?_ ?_
    · have et : gIx told (.int 0) = some (.str w0) := by rw [ht01]; simp
      have hinS : Inp ts st (sp + 1) bt := ⟨hin.ok, hin.l1, hin.l8, hin.ls, hin.s0, hin.s1, by omega, by omega, hin.lb, hin.b0, hin.b1⟩
      by_cases hwn : waysL nd bt ≠ []
      · simp [EI, et, ht3, hwn]
      · have hwn : waysL nd bt = [] := Classical.byContradiction hwn
        simp [EI, et, ht3, hwn]
        refine W_told hinS (fun x h0 hx => ?_) (fun row hw => ?_)
        · simp [barD, hwn, gNe_strC (a := "bar") (b := "bar") (c := true) (by decide +kernel)]
        · have := way_less hw
          rw [hnd] at this
          have := mem_ways.mpr this
          rw [hwn] at this
          simp at this
    rintro _ rfl
    clear hto htb hgood ht2 ht3 hnil ht01
    generalize hways : (waysL nd bt).map rowD = ways at *
    have tok : tOk (tsD ts) = true := teams_ok hin.ok hin.l1 hin.l8
    have sok := stays_ok (ts := ts) hin.ls hin.s0 hin.s1
    have pok : withinD (.int sp) 0 100 = true := by simp; omega
    -- what is none
    refine W_cut (fun e => ∃ ds' bad none_, HI ds' ∧ tOk none_ = false ∧ withinD bad 0 100 = false ∧ e = EI sc ⟨ds', some d, o3, x4, x5, some none_, some bad, some (.int (ts.length : Int)), y9, y10, some (.list th), some told, some (.list ways), some (.d (rowD bt)), y15, some (.d (.list (nd.map .int))), some (rowD st), some (.int sp), some (tsD ts)⟩) ?_ ?_
    · simp [EI, sizeLine_eq]
      refine W_badteams hi rfl fun no d1 i1 hno => ?_
      simp
      refine W_badspare i1 rfl fun ba d2 i2 hba => ?_
      simp [gl, sizeLine_eq]
      exact ⟨d2, i2, ba, no, hno, hba, rfl, rfl, rfl⟩
    clear hi ds
    rintro _ ⟨ds, bad, none_, hi, hno, hbad, rfl⟩
    refine W_cut (fun e => ∃ ds' far, HI ds' ∧ stBad ts.length far ∧ e = EI sc ⟨ds', some d, o3, x4, some far, some none_, some bad, some (.int (ts.length : Int)), y9, y10, some (.list th), some told, some (.list ways), some (.d (rowD bt)), y15, some (.d (.list (nd.map .int))), some (rowD st), some (.int sp), some (tsD ts)⟩) ?_ ?_
    · have ea : gAddA (rowD st) (.tuple [.int 0]) = some (rowD (st ++ [0])) := by
        unfold rowD
        rw [gAddA_tup (by simp; omega)]
        simp
      have el : DL.gLst [rowD st] = some (st.map .int) := rfl
      have eg : ∀ x : PyData, gMulB (.tuple [x]) (.int (ts.length : Int)) = some (.tuple (List.replicate ts.length x)) := fun x => gMulB_fill hl1 (by omega)
      simp [EI, sizeLine_eq, ea, el, eg]
      refine W_an hi rfl (by simp) (by simp) fun x hx d1 i1 => ?_
      simp
      refine ⟨i1, ?_⟩
      unfold stBad
      obtain ⟨m, hm⟩ : ∃ m, ts.length = m + 1 := ⟨ts.length - 1, by omega⟩
      simp at hx
      rcases hx with rfl | rfl | rfl | rfl | rfl | rfl | rfl
      · rfl
      · simp [rowD, hsl]; omega
      · rfl
      · rw [hm]; simp [tupAll, List.replicate_succ]
      · rw [hm]; simp [tupAll, List.replicate_succ]
      · rw [hm]; simp [tupAll, List.replicate_succ]
      · rfl
    clear hi ds
    rintro _ ⟨ds, far, hi, hfar, rfl⟩
    refine W_cut (fun e => ∃ ds' odd, HI ds' ∧ btBad odd ∧ e = EI sc ⟨ds', some d, o3, some odd, some far, some none_, some bad, some (.int (ts.length : Int)), y9, y10, some (.list th), some told, some (.list ways), some (.d (rowD bt)), y15, some (.d (.list (nd.map .int))), some (rowD st), some (.int sp), some (tsD ts)⟩) ?_ ?_
    · have eg : gMulB (.tuple [.int 5]) (.int 13) = some (.tuple (List.replicate 13 (.int 5))) := gMulB_fill (k := 13) (by omega) (by omega)
      simp [EI, sizeLine_eq, eg]
      refine W_an hi rfl (by simp) (by simp) fun x hx d1 i1 => ?_
      simp
      refine ⟨i1, ?_⟩
      unfold btBad
      simp at hx
      rcases hx with rfl | rfl | rfl | rfl | rfl | rfl | rfl <;> rfl
    clear hi ds
    rintro _ ⟨ds, odd, hi, hodd, rfl⟩
    have etl : tupLen (tsD ts) = ts.length := by simp [tupLen, tsD]
    have hfar : (sizedD far (tupLen (tsD ts)) (tupLen (tsD ts)) && tupAll (fun x => withinD x 0 60) far) = false := by rw [etl]; exact hfar
    have hodd : (sizedD odd 0 12 && tupAll (fun x => withinD x 0 300) odd) = false := hodd
    have c1 : csErr none_ far bad odd = some (Str.ofString "NoTeams") := by unfold csErr; rw [if_pos (show (sizedD none_ 1 8 && tupAll teamD none_) = false from hno)]
    have c2 : csErr (tsD ts) far bad odd = some (Str.ofString "NoNeeds") := by
      unfold csErr
      rw [if_neg (by rw [show (sizedD (tsD ts) 1 8 && tupAll teamD (tsD ts)) = true from tok]; simp), if_pos hfar]
    have c3 : csErr (tsD ts) (rowD st) bad odd = some (Str.ofString "NoNumber") := by
      unfold csErr
      rw [if_neg (by rw [show (sizedD (tsD ts) 1 8 && tupAll teamD (tsD ts)) = true from tok]; simp), if_neg (by rw [sok]; simp), if_pos hbad]
    have c4 : csErr (tsD ts) (rowD st) (.int sp) odd = some (Str.ofString "NoGiven") := by
      unfold csErr
      rw [if_neg (by rw [show (sizedD (tsD ts) 1 8 && tupAll teamD (tsD ts)) = true from tok]; simp), if_neg (by rw [sok]; simp), if_neg (by rw [pok]; simp), if_pos hodd]
    simp [EI, f_told_err c1, f_told_err c2, f_told_err c3, f_told_err c4, f_is_told_err c3, said_teams, said_needs, said_number, said_given, sizeLine_eq, fAppend, gCat_lst]
    rw [gNe_selfL (show Lay (59 + 1) _ from by simp [str_okS])]
    simp
    exact ⟨⟨ds, some _, some (.l _), some _, some _, some _, some _, some _, y9, y10, some _, some _, some _, some (.d _), y15, some (.d _), some _, some _, some _⟩, hi, free_d, free_d, rfl, rfl, rfl, rfl, rfl, rfl, rfl, rfl, rfl, rfl, rfl, rfl, rfl, rfl, rfl, rfl, rfl, rfl, rfl⟩
  · rintro _ ⟨s', _, _, _, rfl⟩
    have e1 : PyData.tuple [.tuple [.int 100, .int 5, .int 4]] = tsD [⟨100, 5, 4⟩] := rfl
    have e2 : PyData.tuple [.int 2] = rowD [2] := rfl
    have e3 : PyData.tuple [.int 60, .int 59] = rowD [60, 59] := rfl
    have hin : Inp [⟨100, 5, 4⟩] [2] 10 [60, 59] := ⟨fun t ht => by rw [List.mem_singleton.mp ht]; exact ⟨by decide, by decide, by decide, by decide, by decide, by decide⟩, by simp, by simp, rfl, by simp, by simp, by omega, by omega, by simp, by simp, by simp⟩
    have hnd : needL [⟨100, 5, 4⟩] [2] 10 = [60] := by decide
    simp [EI, sizeLine_eq]
    rw [e1, e2, e3]
    refine W_told hin (fun x h0 hx => ?_) (fun row hw => ?_)
    · rw [hnd] at hx
      simp only [cnt, List.filter_cons, List.filter_nil] at hx
      by_cases h60 : x ≤ 60
      · rw [decide_eq_true h60] at hx
        simp at hx
      · rw [decide_eq_false h60] at hx
        simp at hx
    · rw [hnd] at hw
      have hl := hw.len
      have hr := hw.rng
      have ho := hw.ok 0 (by simp)
      match row, hl with
      | [j], _ =>
        have hj := hr j (by simp)
        simp at hj
        have : j = 0 := by
          apply Classical.byContradiction
          intro hc
          have : j = 1 := by omega
          subst this
          revert ho
          decide
        subst this
        simp [givD, rowD, sizeLine_eq]
        rw [gEq_selfL (show Lay (59 + 1) _ from by simp [str_okS])]
        simp
theorem law_true (ns : List Int) (h : ns.length ≤ 63) : ∃ env', bd_law (startE 23 [.d (.list (ns.map .int))]) = .ok (.ret (.d (.bool true))) env' := by
  obtain ⟨v, env', e, rfl⟩ := W_ok (law_wp ns h)
  exact ⟨env', e⟩
end K72
end

/- H72 -/
section
set_option maxHeartbeats 0
namespace K72
open PySem PySem.Spec PyProof.Rows L2 DL
def d_is_integer : He.DefD := ⟨("is_integer", none), "is_integer", "is_integer", defArgs (top 1), defBody (top 1), defScope (top 1), [], []⟩
def d_is_within : He.DefD := ⟨("is_within", none), "is_within", "is_within", defArgs (top 2), defBody (top 2), defScope (top 2), [], []⟩
def d_is_sized : He.DefD := ⟨("is_sized", none), "is_sized", "is_sized", defArgs (top 3), defBody (top 3), defScope (top 3), [], []⟩
def d_is_team : He.DefD := ⟨("is_team", none), "is_team", "is_team", defArgs (top 20), defBody (top 20), defScope (top 20), [], []⟩
def d_check_spare : He.DefD := ⟨("check_spare", none), "check_spare", "check_spare", defArgs (top 21), defBody (top 21), defScope (top 21), [], []⟩
def d_check_stays : He.DefD := ⟨("check_stays", none), "check_stays", "check_stays", defArgs (top 22), defBody (top 22), defScope (top 22), [], []⟩
def d_bottle_needs : He.DefD := ⟨("bottle_needs", none), "bottle_needs", "bottle_needs", defArgs (top 23), defBody (top 23), defScope (top 23), [], []⟩
def d_bottles_told : He.DefD := ⟨("bottles_told", none), "bottles_told", "bottles_told", defArgs (top 24), defBody (top 24), defScope (top 24), [], []⟩
def d_is_bottles_told : He.DefD := ⟨("is_bottles_told", none), "is_bottles_told", "is_bottles_told", defArgs (top 25), defBody (top 25), defScope (top 25), [], []⟩
def d__law_hand : He.DefD := ⟨("_law_hand", none), "_law_hand", "_law_hand", defArgs (top 27), defBody (top 27), defScope (top 27), [], []⟩
def d__law_draw : He.DefD := ⟨("_law_draw", none), "_law_draw", "_law_draw", defArgs (top 28), defBody (top 28), defScope (top 28), [], []⟩
def d__law_any : He.DefD := ⟨("_law_any", none), "_law_any", "_law_any", defArgs (top 29), defBody (top 29), defScope (top 29), [], []⟩
def d__law_team : He.DefD := ⟨("_law_team", none), "_law_team", "_law_team", defArgs (top 30), defBody (top 30), defScope (top 30), [], []⟩
def d__law_bad_teams : He.DefD := ⟨("_law_bad_teams", none), "_law_bad_teams", "_law_bad_teams", defArgs (top 31), defBody (top 31), defScope (top 31), [], []⟩
def d__law_bad_spare : He.DefD := ⟨("_law_bad_spare", none), "_law_bad_spare", "_law_bad_spare", defArgs (top 32), defBody (top 32), defScope (top 32), [], []⟩
def d__law_said : He.DefD := ⟨("_law_said", none), "_law_said", "_law_said", defArgs (top 33), defBody (top 33), defScope (top 33), [], []⟩
def d__law_is_told : He.DefD := ⟨("_law_is_told", none), "_law_is_told", "_law_is_told", defArgs (top 34), defBody (top 34), defScope (top 34), [], []⟩
def d__law_ways : He.DefD := ⟨("_law_ways", none), "_law_ways", "_law_ways", defArgs (top 35), defBody (top 35), defScope (top 35), [], []⟩
def d_law : He.DefD := ⟨("law", none), "law", "law", defArgs (top 36), defBody (top 36), defScope (top 36), [], []⟩
def fn : List He.DefD := [d_is_integer, d_is_within, d_is_sized, d_is_team, d_check_spare, d_check_stays, d_bottle_needs, d_bottles_told, d_is_bottles_told, d__law_hand, d__law_draw, d__law_any, d__law_team, d__law_bad_teams, d__law_bad_spare, d__law_said, d__law_is_told, d__law_ways, d_law]
def fnL0 : List Str := ["is_integer", "is_within", "is_sized", "is_team", "check_spare", "check_stays", "bottle_needs", "bottles_told", "is_bottles_told", "_law_hand", "_law_draw", "_law_any", "_law_team", "_law_bad_teams", "_law_bad_spare", "_law_said", "_law_is_told", "_law_ways", "law"]
def fnL : List Str := fnL0
def gsL : List Str := gloL ++ fnL
def fa : List He.Fa := faOf frL isL ssL xsL gsL exmL
def tf : List He.Defn := [("bottles_told", none), ("law", none)]
def kList : PySem.W.Frag → Bool := fun K => K.all fun q => match q.2 with
  | ⟨.type c, _, .seq _ _, sl⟩ => !decide (c = "list") || sl.isEmpty
  | _ => true
def ex : PySem.W.Frag → Bool := fun K => exB clsL pairL K && (kList K && (!decide ((He.cT K ("bottles_told", none)).2 = (He.cT K ("law", none)).2)))
abbrev Rw : PySem.W.OpenRow := PySem.W.OpenLaw.row PySem.Challenge.rw_emberhall_k72_whole_bottles_given_or_bar
abbrev hk : PySem.W.Hook := He.hookX 5 fa fn [] tf ex
def ob (s : PySem.W.SharedT) : He.AlX := He.obsX 5 fa fn [] tf ex (HandSHeadRun.getT s)
theorem ob_eq (s : PySem.W.SharedT) : ob s = hk.obs s.abs := He.obsX_eq (HandSHeadRun.getT_eq s)
def loose0 : List Str := ["__name__", "is_integer", "is_within", "is_sized", "EmberError", "NoGiven", "NoNeeds", "NoNumber", "NoTeams", "MOST_UNITS", "MOST_USE", "MOST_WAY", "MOST_SPARE", "MOST_TEAMS", "MOST_STAY", "MOST_BOTTLES", "GIVEN_BOTTLES", "BOTTLES_BAR", "is_team", "check_spare"]
def loose1 : List Str := ["check_stays", "bottle_needs", "bottles_told", "is_bottles_told", "_law_hand", "_law_draw", "_law_any", "_law_team", "_law_bad_teams", "_law_bad_spare", "_law_said", "_law_is_told", "_law_ways"]
def loose : List Str := loose0 ++ loose1
theorem run (w : World) : HandSHeadRun.RunEq Rw (PySem.W.view Rw.prog [36]) hk ob 4000 loose w := by
  intro os
  kernel_rfl
def LawTrue : Prop := ∀ ns : List Int, ns.length ≤ 63 → ∃ env', bd_law (startE 23 [.d (.list (ns.map .int))]) = .ok (.ret (.d (.bool true))) env'
section
variable {X : Cx} {T : List (Addr × Str)}
theorem saidD_law_said {k : Nat} {g : Addr} {fd : FuncData} (L : Lw X.K X.mg frL isL ssL xsL) (hx : exB clsL pairL X.K = true) (hgl : ∀ (i : Nat) x, gloL[i]? = some x → X.mg x = some (.ref (He.ga X.K x))) (hem : ∀ (i : Nat) x y, exmL[i]? = some (x, y) → PySem.W.exmOne X.K (.ref (He.ga X.K x)) (.ref (He.ga X.K y)) = some true) (hr : Room 1 X.A)
    (Fd : FunD X.K "_law_said" "_law_said" (defArgs (top 33)) (defBody (top 33)) (defScope (top 33)) [] [] g fd) (hmg : X.mg "_law_said" = some (.ref g)) : SaidD X T k "_law_said" said_law_said := by
  have hb := Fd.bindsN (ps := ["call"]) (fun _ _ _ _ _ _ us hl => match us, hl with | [_], _ => rfl)
  have kp := Fd.kp
  obtain ⟨oc, od, dV, kV, doc, pm, an, cdv, ct, osl, rfl, lk, hcd, _, _⟩ := Fd.ex
  refine ⟨g, oc, _, _, _, dV, kV, doc, pm, cdv, ct, an, od, osl, ["call", "error", "some"], "call", hmg, kp, lk, hcd, hb, sc__law_said, rfl, vis_b rfl, by decide, by decide, ?_⟩
  refine said_gives (sd := sd_law_said) (said := said_law_said) (i := 1) (e := "EmberError") (CS := He.ga X.K "EmberError") sc__law_said.nd rfl rfl rfl (hgl 0 _ rfl) (by decide) (fun f => rfl) (by decide) ?hexm ?hrun ?hsd
  case hexm =>
    intro y z D hs hm
    have hq := PySem.mem_of_lookup (show saidL_law_said.lookup y = some z from hs)
    simp only [saidL_law_said, List.mem_cons, Prod.mk.injEq, List.not_mem_nil, or_false] at hq
    rcases hq with ⟨rfl, rfl⟩ | ⟨rfl, rfl⟩ | ⟨rfl, rfl⟩ | ⟨rfl, rfl⟩
    · cases hm.symm.trans (hgl 1 _ rfl)
      exact hem 0 _ _ rfl
    · cases hm.symm.trans (hgl 2 _ rfl)
      exact hem 1 _ _ rfl
    · cases hm.symm.trans (hgl 3 _ rfl)
      exact hem 2 _ _ rfl
    · cases hm.symm.trans (hgl 4 _ rfl)
      exact hem 3 _ _ rfl
  case hrun =>
    intro a y z hs
    have hq := PySem.mem_of_lookup (show saidL_law_said.lookup y = some z from hs)
    simp only [saidL_law_said, List.mem_cons, Prod.mk.injEq, List.not_mem_nil, or_false] at hq
    rcases hq with ⟨rfl, rfl⟩ | ⟨rfl, rfl⟩ | ⟨rfl, rfl⟩ | ⟨rfl, rfl⟩
    · exact run_law_said_0 a
    · exact run_law_said_1 a
    · exact run_law_said_2 a
    · exact run_law_said_3 a
  case hsd =>
    intro s H a oe pn y z D hs hm hz hf
    have hq := PySem.mem_of_lookup (show saidL_law_said.lookup y = some z from hs)
    simp only [saidL_law_said, List.mem_cons, Prod.mk.injEq, List.not_mem_nil, or_false] at hq
    rcases hq with ⟨rfl, rfl⟩ | ⟨rfl, rfl⟩ | ⟨rfl, rfl⟩ | ⟨rfl, rfl⟩
    · cases hm.symm.trans (hgl 1 _ rfl)
      exact ws_law_said_0 L hx hgl hr g cdv s H a oe pn hz hf _ rfl
    · cases hm.symm.trans (hgl 2 _ rfl)
      exact ws_law_said_1 L hx hgl hr g cdv s H a oe pn hz hf _ rfl
    · cases hm.symm.trans (hgl 3 _ rfl)
      exact ws_law_said_2 L hx hgl hr g cdv s H a oe pn hz hf _ rfl
    · cases hm.symm.trans (hgl 4 _ rfl)
      exact ws_law_said_3 L hx hgl hr g cdv s H a oe pn hz hf _ rfl
end
abbrev Ql : PySem.W.OpenLaw := PySem.Challenge.rw_emberhall_k72_whole_bottles_given_or_bar
def qM0 : Str := (envOfC "bottles_told" (defScope (top 24)) 0 0 .none).qual ++ "<lambda>"
def qM1 : Str := (envOfC "law" (defScope (top 36)) 0 0 .none).qual ++ "<lambda>"
def tabL (K : PySem.W.Frag) : List (Addr × Str) := [((He.cT K ("bottles_told", none)).2, qM0), ((He.cT K ("law", none)).2, qM1)]
theorem facts {w : World} {K : PySem.W.Frag} {h : Heap} {mg : Str → Option Value} {f : Addr} (HT : LawTrue) (KX : K.In h) (G : h.Ns mainGlobals mg) (hfa : mg "law" = some (.ref f)) (c : He.SaysX fa fn [] tf ex w h K) : LamX.LawAtS Ql w K (L2.CX Ql.prog w) 8 63 "script" mg f h := by
  have cf : ∀ f ∈ faOf frL isL ssL xsL gsL exmL, f.ok K = true := fun f hf => c.t.d.facts hf
  have L : Lw K mg frL isL ssL xsL := lw_of KX G cf
  have hg : ∀ (i : Nat) x, gsL[i]? = some x → mg x = some (.ref (He.ga K x)) := fun i x e => glo_of KX G cf i e
  have hgl : ∀ (i : Nat) x, gloL[i]? = some x → mg x = some (.ref (He.ga K x)) := fun i x e => hg i x (by
    have := (List.getElem?_eq_some_iff.mp e).1
    unfold gsL
    rw [List.getElem?_append_left this]
    exact e)
  have hem : ∀ (i : Nat) x y, exmL[i]? = some (x, y) → PySem.W.exmOne K (.ref (He.ga K x)) (.ref (He.ga K y)) = some true := fun i x y e => exm_of cf i e
  have hx : exB clsL pairL K = true := (Bool.and_eq_true_iff.mp c.more).1
  have hkl : kList K = true := (Bool.and_eq_true_iff.mp (Bool.and_eq_true_iff.mp c.more).2).1
  have hdt := (Bool.and_eq_true_iff.mp (Bool.and_eq_true_iff.mp c.more).2).2
  simp only [Bool.and_eq_true, Bool.not_eq_true', decide_eq_false_iff_not] at hdt
  obtain ⟨fd_is_integer, FF_is_integer⟩ := c.t.d.def_ 0 (d := d_is_integer) rfl
  obtain ⟨fd_is_within, FF_is_within⟩ := c.t.d.def_ 1 (d := d_is_within) rfl
  obtain ⟨fd_is_sized, FF_is_sized⟩ := c.t.d.def_ 2 (d := d_is_sized) rfl
  obtain ⟨fd_is_team, FF_is_team⟩ := c.t.d.def_ 3 (d := d_is_team) rfl
  obtain ⟨fd_check_spare, FF_check_spare⟩ := c.t.d.def_ 4 (d := d_check_spare) rfl
  obtain ⟨fd_check_stays, FF_check_stays⟩ := c.t.d.def_ 5 (d := d_check_stays) rfl
  obtain ⟨fd_bottle_needs, FF_bottle_needs⟩ := c.t.d.def_ 6 (d := d_bottle_needs) rfl
  obtain ⟨fd_bottles_told, FF_bottles_told⟩ := c.t.d.def_ 7 (d := d_bottles_told) rfl
  obtain ⟨fd_is_bottles_told, FF_is_bottles_told⟩ := c.t.d.def_ 8 (d := d_is_bottles_told) rfl
  obtain ⟨fd__law_hand, FF__law_hand⟩ := c.t.d.def_ 9 (d := d__law_hand) rfl
  obtain ⟨fd__law_draw, FF__law_draw⟩ := c.t.d.def_ 10 (d := d__law_draw) rfl
  obtain ⟨fd__law_any, FF__law_any⟩ := c.t.d.def_ 11 (d := d__law_any) rfl
  obtain ⟨fd__law_team, FF__law_team⟩ := c.t.d.def_ 12 (d := d__law_team) rfl
  obtain ⟨fd__law_bad_teams, FF__law_bad_teams⟩ := c.t.d.def_ 13 (d := d__law_bad_teams) rfl
  obtain ⟨fd__law_bad_spare, FF__law_bad_spare⟩ := c.t.d.def_ 14 (d := d__law_bad_spare) rfl
  obtain ⟨fd__law_said, FF__law_said⟩ := c.t.d.def_ 15 (d := d__law_said) rfl
  obtain ⟨fd__law_is_told, FF__law_is_told⟩ := c.t.d.def_ 16 (d := d__law_is_told) rfl
  obtain ⟨fd__law_ways, FF__law_ways⟩ := c.t.d.def_ 17 (d := d__law_ways) rfl
  obtain ⟨fd_law, FF_law⟩ := c.t.d.def_ 18 (d := d_law) rfl
  have e := hfa.symm.trans (hg 23 "law" rfl)
  cases e
  refine ⟨fd_law, tf.map (He.cT K), spLaw (tabL K) K 63, ?_, ?_, ?_, ?_, ?_, ?_⟩
  · intro p hp
    obtain ⟨q, hq, rfl⟩ := List.mem_map.mp hp
    exact c.empty q hq
  · intro p hp
    obtain ⟨q, hq, rfl⟩ := List.mem_map.mp hp
    exact c.out q hq
  · intro p hp
    obtain ⟨q, hq, rfl⟩ := List.mem_map.mp hp
    exact PySem.W.codeHd_of_K KX (c.hd q hq)
  · exact fun s u => FF_law.bindsA (ps := ["script"]) (fun _ _ _ _ _ _ us hl => match us, hl with | [_], _ => rfl) s [u] rfl
  · intro H a ns hl _ ht hS
    refine ⟨a, ns, rfl, hl, hS, fun p hp => ?_, fun _ => rfl⟩
    simp only [tabL, List.mem_cons, List.not_mem_nil, or_false] at hp
    rcases hp with rfl | rfl
    · exact LamX.TabS.nil (ht (He.cT K ("bottles_told", none)) (List.mem_map.mpr ⟨("bottles_told", none), by simp [tf], rfl⟩))
    · exact LamX.TabS.nil (ht (He.cT K ("law", none)) (List.mem_map.mpr ⟨("law", none), by simp [tf], rfl⟩))
  · intro base KB GB TB
    have f_is_integer : FnD Ql.prog w K mg base (tabL K) 1 "is_integer" 1 ["thing"] bd_is_integer := fnD_of FF_is_integer sc_is_integer (hg 5 _ rfl) (FF_is_integer.bindsN (ps := ["thing"]) (fun _ _ _ _ _ _ us hl => match us, hl with | [_], _ => rfl)) (fun cdv A outer s H E hr => w_is_integer L  _ cdv A outer s H E hr)
    have f_is_within : FnD Ql.prog w K mg base (tabL K) 2 "is_within" 3 ["thing", "low", "high"] bd_is_within := fnD_of FF_is_within sc_is_within (hg 6 _ rfl) (FF_is_within.bindsN (ps := ["thing", "low", "high"]) (fun _ _ _ _ _ _ us hl => match us, hl with | [_, _, _], _ => rfl)) (fun cdv A outer s H E hr => w_is_within L f_is_integer _ cdv A outer s H E hr)
    have f_is_sized : FnD Ql.prog w K mg base (tabL K) 1 "is_sized" 3 ["thing", "low", "high"] bd_is_sized := fnD_of FF_is_sized sc_is_sized (hg 7 _ rfl) (FF_is_sized.bindsN (ps := ["thing", "low", "high"]) (fun _ _ _ _ _ _ us hl => match us, hl with | [_, _, _], _ => rfl)) (fun cdv A outer s H E hr => w_is_sized L  _ cdv A outer s H E hr)
    have f_is_team : FnD Ql.prog w K mg base (tabL K) 3 "is_team" 1 ["thing"] bd_is_team := fnD_of FF_is_team sc_is_team (hg 8 _ rfl) (FF_is_team.bindsN (ps := ["thing"]) (fun _ _ _ _ _ _ us hl => match us, hl with | [_], _ => rfl)) (fun cdv A outer s H E hr => w_is_team L f_is_within f_is_sized _ cdv A outer s H E hr)
    have f_check_spare : FnD Ql.prog w K mg base (tabL K) 3 "check_spare" 1 ["spare"] bd_check_spare := fnD_of FF_check_spare sc_check_spare (hg 9 _ rfl) (FF_check_spare.bindsN (ps := ["spare"]) (fun _ _ _ _ _ _ us hl => match us, hl with | [_], _ => rfl)) (fun cdv A outer s H E hr => w_check_spare L f_is_within _ cdv A outer s H E hr)
    have f_check_stays : FnD Ql.prog w K mg base (tabL K) 4 "check_stays" 4 ["teams", "stays", "spare", "bottles", "team", "stay", "one"] bd_check_stays := fnD_of FF_check_stays sc_check_stays (hg 10 _ rfl) (FF_check_stays.bindsN (ps := ["teams", "stays", "spare", "bottles"]) (fun _ _ _ _ _ _ us hl => match us, hl with | [_, _, _, _], _ => rfl)) (fun cdv A outer s H E hr => w_check_stays L f_is_within f_is_sized f_is_team f_check_spare _ cdv A outer s H E hr)
    have f_bottle_needs : FnD Ql.prog w K mg base (tabL K) 1 "bottle_needs" 3 ["teams", "stays", "spare", "team", "stay"] bd_bottle_needs := fnD_of FF_bottle_needs sc_bottle_needs (hg 11 _ rfl) (FF_bottle_needs.bindsN (ps := ["teams", "stays", "spare"]) (fun _ _ _ _ _ _ us hl => match us, hl with | [_, _, _], _ => rfl)) (fun cdv A outer s H E hr => w_bottle_needs L  _ cdv A outer s H E hr)
    have f_bottles_told : FnD Ql.prog w K mg base (tabL K) 5 "bottles_told" 4 ["teams", "stays", "spare", "bottles", "needs", "order", "full", "found", "at", "k"] bd_bottles_told := fnD_ofC (p := ("bottles_told", none)) FF_bottles_told sc_bottles_told (hg 12 _ rfl) (FF_bottles_told.bindsN (ps := ["teams", "stays", "spare", "bottles"]) (fun _ _ _ _ _ _ us hl => match us, hl with | [_, _, _, _], _ => rfl)) (fun cdv A outer s H E hc hr => w_bottles_told L f_check_stays f_bottle_needs _ cdv A outer s H E hr (TB (He.cT K ("bottles_told", none)) (List.mem_map.mpr ⟨("bottles_told", none), by simp [tf], rfl⟩)) hc (List.mem_cons.mpr (.inl rfl)) (fun p hp hpe => (fun hp => Or.elim (List.mem_cons.mp hp) (fun e => (by rw [e] <;> rfl)) (fun hp => Or.elim (List.mem_cons.mp hp) (fun e => (absurd (show (He.cT K ("law", none)).2 = (He.cT K ("bottles_told", none)).2 from by rw [e] at hpe; exact hpe) (fun z => hdt z.symm))) (fun hp => absurd hp (by simp)))) hp))
    have f_is_bottles_told : FnD Ql.prog w K mg base (tabL K) 5 "is_bottles_told" 5 ["teams", "stays", "spare", "bottles", "thing", "needs", "one", "need"] bd_is_bottles_told := fnD_of FF_is_bottles_told sc_is_bottles_told (hg 13 _ rfl) (FF_is_bottles_told.bindsN (ps := ["teams", "stays", "spare", "bottles", "thing"]) (fun _ _ _ _ _ _ us hl => match us, hl with | [_, _, _, _, _], _ => rfl)) (fun cdv A outer s H E hr => w_is_bottles_told L f_is_integer f_is_within f_is_sized f_check_stays f_bottle_needs _ cdv A outer s H E hr)
    have f__law_hand : FnD Ql.prog w K mg base (tabL K) 1 "_law_hand" 1 ["script", "cells", "cell"] bd__law_hand := fnD_of FF__law_hand sc__law_hand (hg 14 _ rfl) (FF__law_hand.bindsN (ps := ["script"]) (fun _ _ _ _ _ _ us hl => match us, hl with | [_], _ => rfl)) (fun cdv A outer s H E hr => w__law_hand L  _ cdv A outer s H E hr)
    have f__law_draw : FnD Ql.prog w K mg base (tabL K) 1 "_law_draw" 2 ["hand", "many", "cell", "digit", "number"] bd__law_draw := fnD_of FF__law_draw sc__law_draw (hg 15 _ rfl) (FF__law_draw.bindsN (ps := ["hand", "many"]) (fun _ _ _ _ _ _ us hl => match us, hl with | [_, _], _ => rfl)) (fun cdv A outer s H E hr => w__law_draw L  _ cdv A outer s H E hr)
    have f__law_any : FnD Ql.prog w K mg base (tabL K) 2 "_law_any" 2 ["hand", "some"] bd__law_any := fnD_of FF__law_any sc__law_any (hg 16 _ rfl) (FF__law_any.bindsN (ps := ["hand", "some"]) (fun _ _ _ _ _ _ us hl => match us, hl with | [_, _], _ => rfl)) (fun cdv A outer s H E hr => w__law_any L f__law_draw _ cdv A outer s H E hr)
    have f__law_team : FnD Ql.prog w K mg base (tabL K) 2 "_law_team" 1 ["hand"] bd__law_team := fnD_of FF__law_team sc__law_team (hg 17 _ rfl) (FF__law_team.bindsN (ps := ["hand"]) (fun _ _ _ _ _ _ us hl => match us, hl with | [_], _ => rfl)) (fun cdv A outer s H E hr => w__law_team L f__law_draw _ cdv A outer s H E hr)
    have f__law_bad_teams : FnD Ql.prog w K mg base (tabL K) 3 "_law_bad_teams" 1 ["hand", "some"] bd__law_bad_teams := fnD_of FF__law_bad_teams sc__law_bad_teams (hg 18 _ rfl) (FF__law_bad_teams.bindsN (ps := ["hand"]) (fun _ _ _ _ _ _ us hl => match us, hl with | [_], _ => rfl)) (fun cdv A outer s H E hr => w__law_bad_teams L f__law_any _ cdv A outer s H E hr)
    have f__law_bad_spare : FnD Ql.prog w K mg base (tabL K) 3 "_law_bad_spare" 1 ["hand"] bd__law_bad_spare := fnD_of FF__law_bad_spare sc__law_bad_spare (hg 19 _ rfl) (FF__law_bad_spare.bindsN (ps := ["hand"]) (fun _ _ _ _ _ _ us hl => match us, hl with | [_], _ => rfl)) (fun cdv A outer s H E hr => w__law_bad_spare L f__law_any _ cdv A outer s H E hr)
    have f__law_is_told : FnD Ql.prog w K mg base (tabL K) 1 "_law_is_told" 3 ["needed", "bottles", "thing", "many", "one", "at"] bd__law_is_told := fnD_of FF__law_is_told sc__law_is_told (hg 21 _ rfl) (FF__law_is_told.bindsN (ps := ["needed", "bottles", "thing"]) (fun _ _ _ _ _ _ us hl => match us, hl with | [_, _, _], _ => rfl)) (fun cdv A outer s H E hr => w__law_is_told L  _ cdv A outer s H E hr)
    have f__law_ways : FnD Ql.prog w K mg base (tabL K) 1 "_law_ways" 2 ["needed", "bottles", "found", "one", "row", "longer", "at", "units"] bd__law_ways := fnD_of FF__law_ways sc__law_ways (hg 22 _ rfl) (FF__law_ways.bindsN (ps := ["needed", "bottles"]) (fun _ _ _ _ _ _ us hl => match us, hl with | [_, _], _ => rfl)) (fun cdv A outer s H E hr => w__law_ways L  _ cdv A outer s H E hr)
    refine okC (p := ("law", none)) FF_law sc_law (fun vs H Q E q => ?_) (fun cdv A outer s H vs Q E hc hr q => ⟨_, pss_ghost (w_law (T := tabL K) L f_bottles_told f_is_bottles_told f__law_hand f__law_draw f__law_any f__law_team f__law_bad_teams f__law_bad_spare f__law_is_told f__law_ways _ cdv A outer s H E hr (saidD_law_said L hx hgl hem (hr.mono (by decide)) FF__law_said (hg 20 _ rfl)) (TB (He.cT K ("law", none)) (List.mem_map.mpr ⟨("law", none), by simp [tf], rfl⟩)) hc (List.mem_cons_of_mem _ (List.mem_cons.mpr (.inl rfl))) (fun p hp hpe => (fun hp => Or.elim (List.mem_cons.mp hp) (fun e => (absurd (show (He.cT K ("bottles_told", none)).2 = (He.cT K ("law", none)).2 from by rw [e] at hpe; exact hpe) hdt)) (fun hp => Or.elim (List.mem_cons.mp hp) (fun e => (by rw [e] <;> rfl)) (fun hp => absurd hp (by simp)))) hp)), ?_⟩)
    · obtain ⟨a, ns, rfl, _⟩ := q
      rfl
    · obtain ⟨a, ns, rfl, hl, hS, hT, hQ⟩ := q
      exact law_run (N := ["script", "hand", "turn", "said", "odd", "far", "none", "bad", "many", "thing", "row", "things", "told", "ways_here", "bottles", "bottle", "needed", "stays", "spare", "teams", "team", "stay", "one"]) (fun o its n e h1 h2 h3 => kList_ok hkl a o its n e h1 h2 h3) hS hT (HT ns hl) hQ
end K72
open PySem PySem.W PySem.Calls PyProof.Rows
theorem fin_K72 (HT : K72.LawTrue) : PySem.Challenge.rw_emberhall_k72_whole_bottles_given_or_bar.Holds := by
  w_on; o_law
  refine HandSHeadRun.head_any (r := OpenLaw.row PySem.Challenge.rw_emberhall_k72_whole_bottles_given_or_bar) (q := view (OpenLaw.row PySem.Challenge.rw_emberhall_k72_whole_bottles_given_or_bar).prog [36]) (H := K72.hk) (ob := K72.ob) (M := 4000) (loose := K72.loose) (d := HandSHeadRun.topDef (OpenLaw.row PySem.Challenge.rw_emberhall_k72_whole_bottles_given_or_bar).prog 36) (kwd := []) K72.ob_eq
    (by kernel_rfl) (fun s => by kernel_rfl) K72.run (by kernel_rfl) (by kernel_rfl) (by kernel_rfl) (by rfl) (by first | assumption | decide +kernel) (by decide +kernel) ⟨rfl, rfl, rfl, rfl, rfl, by decide +kernel⟩ ?hw ?hc
  case hw => w_witness2
  case hc =>
    refine LamX.walk_ofTsE (l := PySem.Challenge.rw_emberhall_k72_whole_bottles_given_or_bar) (n := 63) (k := 8) (x := "script") (CX := fun w => L2.CX PySem.Challenge.rw_emberhall_k72_whole_bottles_given_or_bar.prog w) rfl (by decide) (by kernel_rfl) ⟨rfl, by decide, by decide⟩ ?F (fun _ _ _ _ _ ⟨_, _, _, _, _, _, _, _, _, _, _, _, z⟩ => z)
    intro w mg fa h Y G hmg0
    obtain ⟨K, KX, c⟩ := Y
    have hmg : mg ("law" : PySem.Str) = some (.ref fa) := by
      have e : (HandSHeadRun.topDef (OpenLaw.row PySem.Challenge.rw_emberhall_k72_whole_bottles_given_or_bar).prog 36).name = ("law" : PySem.Str) := by kernel_rfl
      rw [← e]
      exact hmg0
    exact ⟨K, KX, K72.facts HT KX G hmg c⟩
end

theorem PySem.Challenge.cw_emberhall_k72_whole_bottles_given_or_bar_holds : PySem.Challenge.rw_emberhall_k72_whole_bottles_given_or_bar.Holds :=
  fin_K72 K72.law_true
