import PyProof.Rows.All
import HandS.ForMost
import HandS.ForExc
import HandS.Lambda
import HandS.ExcCtx
import HandS.IsInst
import HandS.TupAny
import HandS.TupMul
import HandS.TupLe
import HandS.Style
import HandS.Deep
import HandS.SortInts
import KE.GoesEnum
import KE.GoesMore
import HandS.SetFor
import HandS.HeadHook2
import HandS.HeadEnd
import HandS.Head2
import KE.SortKeyHeap
import KE.KDictPairs
import HandS.HeadHook4
import HandS.EndTab
import HandS.HeadWalk
import HandS.HotCalls
import HandS.ExcIs
import HandS.DictComp
import PySem.Challenge.RW_allwinters_k08_whole_who_may_still_come
set_option Elab.async false
set_option linter.all false
set_option maxRecDepth 100000
set_option maxHeartbeats 4000000
set_option exponentiation.threshold 4000
/-! ## DLa -/
/-! DLa: data, results, environments, what stands for what. -/
namespace DL
open PySem PySem.Spec PyProof.Rows L2

/-- data by value -/
inductive D where
  | non | bl (b : Bool) | int (i : Int) | str (x : Str)
  /-- a tuple; b: it is known to bear no attributes of its own -/
  | tup (b : Bool) (xs : List D)
  | lst (xs : List D)
  | dk (kvs : List (Int × Int)) | dt (kvs : List ((Int × Int) × Int))

mutual
/-- no list, no dict within -/
def D.flat : D → Bool
  | .non | .bl _ | .int _ | .str _ => true
  | .tup _ ds => flatL ds
  | _ => false
def flatL : List D → Bool
  | [] => true
  | d :: ds => d.flat && flatL ds
end
/-- what an own thing may be -/
def D.fl : D → Bool
  | .lst _ => true
  | .dk _ | .dt _ => true
  | _ => false
/-- an own thing that holds no list -/
def D.ff : D → Bool
  | .lst ds => flatL ds
  | .dk _ | .dt _ => true
  | _ => false

/-- stuck, an error of a class, a result -/
inductive R (α : Type) where
  | stk | err (c : Str) | ok (a : α)
namespace R
def bind {α β : Type} : R α → (α → R β) → R β
  | .stk, _ => .stk
  | .err c, _ => .err c
  | .ok a, f => f a
instance : Monad R where
  pure := R.ok
  bind := R.bind
@[simp] theorem bind_ok {α β : Type} (a : α) (f : α → R β) : (R.ok a).bind f = f a := rfl
@[simp] theorem bind_stk {α β : Type} (f : α → R β) : (R.stk : R α).bind f = .stk := rfl
@[simp] theorem bind_err {α β : Type} (c : Str) (f : α → R β) : (R.err c : R α).bind f = .err c := rfl
def of {α : Type} : Option α → R α
  | some a => .ok a
  | none => .stk
@[simp] theorem of_some {α : Type} (a : α) : R.of (some a) = .ok a := rfl
@[simp] theorem of_none {α : Type} : R.of (none : Option α) = .stk := rfl
/-- an error that cannot be told further -/
def hush {α : Type} : R α → R α
  | .err _ => .stk
  | r => r
@[simp] theorem hush_ok {α : Type} (a : α) : (R.ok a).hush = .ok a := rfl
end R

/-- a slot of the environment -/
inductive Sl where
  | no | val (d : D) | own (d : D)
abbrev En := List Sl

def kdV (p : Int × Int) : Key × V := (.inl p.1, .int p.2)
def tdV (p : (Int × Int) × Int) : List Key × V := ([.inl p.1.1, .inl p.1.2], .int p.2)

/-- a list of the written part -/
def KL (K : PySem.W.Frag) (a : Addr) (xs : List V) : Prop :=
  ∃ (o : Obj) (its : Array Value) (n : Nat), K.lookup a = some o ∧ o.cls = .type "list" ∧ o.dict = none ∧ o.data = .seq its n ∧ its.size ≤ sizeLine ∧ Vals xs its.toList
def FzL (K : PySem.W.Frag) (H : Hp) (a : Addr) (xs : List V) : Prop := (∃ o, H a = some (.frz o (.lst xs))) ∨ KL K a xs
theorem FzL.sq {K : PySem.W.Frag} {H : Hp} {a : Addr} {xs : List V} (h : FzL K H a xs) : SqL K H a xs := by
  rcases h with ⟨o, h⟩ | h
  · exact .inl (.inr ⟨o, h⟩)
  · exact .inr h

/-- a tuple at an address -/
def TupAt (b : Bool) (H : Hp) (a : Addr) (vs : List V) : Prop := match b with
  | false => H a = some (.tup vs)
  | true => ∃ o, H a = some (.frz o (.tup vs)) ∧ o.dict = none
theorem TupAt.sq {K : PySem.W.Frag} {b : Bool} {H : Hp} {a : Addr} {vs : List V} (h : TupAt b H a vs) : SqT K H a vs := by
  cases b with
  | false => exact SqT.of h
  | true => obtain ⟨o, h, _⟩ := h; exact .inl (.inr ⟨o, h⟩)
def tupO (b : Bool) (o : Obj) (vs : List V) : HO := match b with
  | false => .tup vs
  | true => .frz o (.tup vs)
theorem TupAt.new {b : Bool} {H : Hp} {a : Addr} {o : Obj} {vs : List V} (ho : o.dict = none) : TupAt b (upd H a (tupO b o vs)) a vs := by
  cases b with
  | false => exact upd_same
  | true => exact ⟨o, upd_same, ho⟩
mutual
def Rp (K : PySem.W.Frag) (H : Hp) : D → V → Prop
  | .non, v => v = .non
  | .bl b, v => v = .bl b
  | .int i, v => v = .int i
  | .str x, v => v = .str x
  | .tup b ds, v => ∃ a vs, v = .ref a ∧ TupAt b H a vs ∧ RpL K H ds vs
  | .lst ds, v => ∃ a vs, v = .ref a ∧ FzL K H a vs ∧ RpL K H ds vs
  | .dk kvs, v => ∃ a o, v = .ref a ∧ H a = some (.frz o (.dK (kvs.map kdV)))
  | .dt kvs, v => ∃ a o, v = .ref a ∧ H a = some (.frz o (.dT (kvs.map tdV)))
def RpL (K : PySem.W.Frag) (H : Hp) : List D → List V → Prop
  | [], vs => vs = []
  | d :: ds, vs => ∃ v r, vs = v :: r ∧ Rp K H d v ∧ RpL K H ds r
end
/-- what an own thing holds -/
def HOr (K : PySem.W.Frag) (H : Hp) : D → HO → Prop
  | .lst ds, .lst vs => RpL K H ds vs
  | .dk kvs, .dK kk => kk = kvs.map kdV
  | .dt kvs, .dT kk => kk = kvs.map tdV
  | _, _ => False
def ROwn (K : PySem.W.Frag) (H : Hp) (d : D) (a : Addr) : Prop := ∃ u, H a = some u ∧ HOr K H d u

/-- what never changes -/
def Frm : HO → Prop
  | .tup _ => True
  | .frz _ _ => True
  | .ext _ => True
  | _ => False
/-- no table of code objects -/
def NT : HO → Prop
  | .tbl _ => False
  | _ => True
/-- neither a table nor a code object -/
def NC : HO → Prop
  | .tbl _ => False
  | .ext _ => False
  | _ => True
theorem Frm.nt {u : HO} (h : Frm u) : NT u := by
  cases u <;> first
    | exact trivial
    | exact h.elim
def FExt (H H' : Hp) : Prop := ∀ b o, H b = some o → Frm o → H' b = some o
def Ext (H H' : Hp) : Prop := ∀ b o, H b = some o → H' b = some o
theorem Ext.refl (H : Hp) : Ext H H := fun _ _ h => h
theorem Ext.trans {H H1 H2 : Hp} (a : Ext H H1) (b : Ext H1 H2) : Ext H H2 := fun c o h => b c o (a c o h)
theorem Ext.fx {H H' : Hp} (a : Ext H H') : FExt H H' := fun c o h _ => a c o h
theorem Ext.new {H : Hp} {p : Addr} {o : HO} (h : H p = none) : Ext H (upd H p o) := fun a u e => by
  rw [upd_ne (ne_of_none e h)]; exact e
theorem FExt.refl (H : Hp) : FExt H H := fun _ _ h _ => h
theorem FExt.trans {H H1 H2 : Hp} (a : FExt H H1) (b : FExt H1 H2) : FExt H H2 := fun c o h f => b c o (a c o h f) f
theorem FzL.ext {K : PySem.W.Frag} {H H' : Hp} {a : Addr} {xs : List V} (e : FExt H H') (h : FzL K H a xs) : FzL K H' a xs := by
  rcases h with ⟨o, h⟩ | h
  · exact .inl ⟨o, e _ _ h trivial⟩
  · exact .inr h
theorem TupAt.ext {b : Bool} {H H' : Hp} {a : Addr} {vs : List V} (e : FExt H H') (h : TupAt b H a vs) : TupAt b H' a vs := by
  cases b with
  | false => exact e _ _ h trivial
  | true => obtain ⟨o, h, q⟩ := h; exact ⟨o, e _ _ h trivial, q⟩
mutual
theorem Rp.ext {K : PySem.W.Frag} {H H' : Hp} (e : FExt H H') : ∀ (d : D) (v : V), Rp K H d v → Rp K H' d v
  | .non, _, h => by simpa [Rp] using h
  | .bl _, _, h => by simpa [Rp] using h
  | .int _, _, h => by simpa [Rp] using h
  | .str _, _, h => by simpa [Rp] using h
  | .tup _ ds, v, h => by
    simp only [Rp] at h ⊢
    obtain ⟨a, vs, e1, e2, h⟩ := h
    exact ⟨a, vs, e1, e2.ext e, RpL.ext e ds vs h⟩
  | .lst ds, v, h => by
    simp only [Rp] at h ⊢
    obtain ⟨a, vs, e1, e2, h⟩ := h
    exact ⟨a, vs, e1, e2.ext e, RpL.ext e ds vs h⟩
  | .dk _, v, h => by
    simp only [Rp] at h ⊢
    obtain ⟨a, o, e1, e2⟩ := h
    exact ⟨a, o, e1, e _ _ e2 trivial⟩
  | .dt _, v, h => by
    simp only [Rp] at h ⊢
    obtain ⟨a, o, e1, e2⟩ := h
    exact ⟨a, o, e1, e _ _ e2 trivial⟩
theorem RpL.ext {K : PySem.W.Frag} {H H' : Hp} (e : FExt H H') : ∀ (ds : List D) (vs : List V), RpL K H ds vs → RpL K H' ds vs
  | [], _, h => by simpa [RpL] using h
  | d :: ds, vs, h => by
    simp only [RpL] at h ⊢
    obtain ⟨v, r, e1, h1, h2⟩ := h
    exact ⟨v, r, e1, Rp.ext e d v h1, RpL.ext e ds r h2⟩
end
theorem HOr.ext {K : PySem.W.Frag} {H H' : Hp} (e : FExt H H') {d : D} {u : HO} (h : HOr K H d u) : HOr K H' d u := by
  cases d <;> cases u <;> first
    | exact h
    | exact RpL.ext e _ _ h
theorem HOr.mut {K : PySem.W.Frag} {H : Hp} {d : D} {u : HO} (h : HOr K H d u) : Mut (some u) := by
  cases d <;> cases u <;> first
    | exact trivial
    | exact (show False from h).elim
theorem HOr.notFrm {K : PySem.W.Frag} {H : Hp} {d : D} {u : HO} (h : HOr K H d u) : ¬ Frm u := by
  cases d <;> cases u <;> first
    | exact fun z => z
    | exact (show False from h).elim

theorem HOr.nc {K : PySem.W.Frag} {H : Hp} {d : D} {u : HO} (h : HOr K H d u) : NC u := by
  cases d <;> cases u <;> first
    | exact trivial
    | exact (show False from h).elim
theorem HOr.nt {K : PySem.W.Frag} {H : Hp} {d : D} {u : HO} (h : HOr K H d u) : NT u := by
  cases d <;> cases u <;> first
    | exact trivial
    | exact (show False from h).elim
/-- a thing that is no table, no code object is otherwise -/
theorem tabs_upd {T : List (Addr × Str)} {H : Hp} {a : Addr} {u : HO} (t : LamX.Tabs T H) (nf : ∀ o, H a = some o → NC o) : LamX.Tabs T (upd H a u) := fun p hp => by
  obtain ⟨ps, h1, h2, h3⟩ := t p hp
  refine ⟨ps, by rw [upd_ne (fun z => by subst z; exact nf _ h1)]; exact h1, h2, fun pos cv hc => ?_⟩
  obtain ⟨c, e1, e2⟩ := h3 pos cv hc
  exact ⟨c, e1, by rw [upd_ne (fun z => by subst z; exact nf _ e2)]; exact e2⟩

/-! ### lists of things -/
section
variable {K : PySem.W.Frag} {H : Hp}
theorem RpL.length : ∀ {ds : List D} {vs : List V}, RpL K H ds vs → vs.length = ds.length
  | [], vs, h => by simp only [RpL] at h; rw [h]; rfl
  | d :: ds, vs, h => by
    simp only [RpL] at h
    obtain ⟨v, r, e1, _, h2⟩ := h
    rw [e1, List.length_cons, List.length_cons, RpL.length h2]
theorem RpL.nil : RpL K H [] [] := by simp [RpL]
theorem RpL.cons {d : D} {ds : List D} {v : V} {vs : List V} (h : Rp K H d v) (t : RpL K H ds vs) : RpL K H (d :: ds) (v :: vs) := by
  simp only [RpL]; exact ⟨v, vs, rfl, h, t⟩
theorem RpL.get : ∀ {ds : List D} {vs : List V} {i : Nat} {d : D}, RpL K H ds vs → ds[i]? = some d → ∃ v, vs[i]? = some v ∧ Rp K H d v
  | [], _, _, _, _, e => by simp at e
  | d :: ds, vs, i, d', h, e => by
    simp only [RpL] at h
    obtain ⟨v, r, e1, h1, h2⟩ := h
    subst e1
    cases i with
    | zero => simp at e; subst e; exact ⟨v, rfl, h1⟩
    | succ i =>
      simp at e
      obtain ⟨w, q1, q2⟩ := RpL.get h2 e
      exact ⟨w, by simpa using q1, q2⟩
theorem RpL.set {d : D} {v : V} (r : Rp K H d v) : ∀ {ds : List D} {vs : List V} (i : Nat), RpL K H ds vs → RpL K H (ds.set i d) (vs.set i v)
  | [], vs, i, h => by simp only [RpL] at h; subst h; exact RpL.nil
  | e :: ds, vs, i, h => by
    simp only [RpL] at h
    obtain ⟨w, q, e1, h1, h2⟩ := h
    subst e1
    cases i with
    | zero => exact RpL.cons r h2
    | succ i => exact RpL.cons h1 (RpL.set r i h2)
theorem RpL.append : ∀ {ds es : List D} {vs ws : List V}, RpL K H ds vs → RpL K H es ws → RpL K H (ds ++ es) (vs ++ ws)
  | [], es, vs, ws, h, t => by simp only [RpL] at h; subst h; exact t
  | d :: ds, es, vs, ws, h, t => by
    simp only [RpL] at h
    obtain ⟨w, q, e1, h1, h2⟩ := h
    subst e1
    exact RpL.cons h1 (RpL.append h2 t)
theorem RpL.take : ∀ (n : Nat) {ds : List D} {vs : List V}, RpL K H ds vs → RpL K H (ds.take n) (vs.take n)
  | 0, ds, vs, h => by simp [RpL]
  | n + 1, [], vs, h => by simp only [RpL] at h; subst h; exact RpL.nil
  | n + 1, d :: ds, vs, h => by
    simp only [RpL] at h
    obtain ⟨w, q, e1, h1, h2⟩ := h
    subst e1
    exact RpL.cons h1 (RpL.take n h2)
theorem RpL.drop : ∀ (n : Nat) {ds : List D} {vs : List V}, RpL K H ds vs → RpL K H (ds.drop n) (vs.drop n)
  | 0, ds, vs, h => h
  | n + 1, [], vs, h => by simp only [RpL] at h; subst h; exact RpL.nil
  | n + 1, d :: ds, vs, h => by
    simp only [RpL] at h
    obtain ⟨w, q, e1, h1, h2⟩ := h
    subst e1
    exact RpL.drop n h2
theorem RpL.reverse : ∀ {ds : List D} {vs : List V}, RpL K H ds vs → RpL K H ds.reverse vs.reverse
  | [], vs, h => by simp only [RpL] at h; subst h; exact RpL.nil
  | d :: ds, vs, h => by
    simp only [RpL] at h
    obtain ⟨w, q, e1, h1, h2⟩ := h
    subst e1
    rw [List.reverse_cons, List.reverse_cons]
    exact RpL.append (RpL.reverse h2) (RpL.cons h1 RpL.nil)
theorem RpL.rep {ds : List D} {vs : List V} (h : RpL K H ds vs) : ∀ k : Nat, RpL K H (List.replicate k ds).flatten (List.replicate k vs).flatten
  | 0 => RpL.nil
  | k + 1 => by
    rw [List.replicate_succ, List.replicate_succ, List.flatten_cons, List.flatten_cons]
    exact RpL.append h (RpL.rep h k)
/-- ints are known by their data -/
theorem RpL.ints : ∀ {ns : List Int} {vs : List V}, RpL K H (ns.map D.int) vs → vs = ns.map V.int
  | [], vs, h => by simpa [RpL] using h
  | n :: ns, vs, h => by
    simp only [List.map_cons, RpL, Rp] at h
    obtain ⟨w, q, e1, h1, h2⟩ := h
    rw [e1, h1, RpL.ints h2]; rfl
theorem RpL.bls : ∀ {bs : List Bool} {vs : List V}, RpL K H (bs.map D.bl) vs → vs = bs.map V.bl
  | [], vs, h => by simpa [RpL] using h
  | n :: ns, vs, h => by
    simp only [List.map_cons, RpL, Rp] at h
    obtain ⟨w, q, e1, h1, h2⟩ := h
    rw [e1, h1, RpL.bls h2]; rfl
theorem RpL.of_ints : ∀ (ns : List Int), RpL K H (ns.map D.int) (ns.map V.int)
  | [] => RpL.nil
  | n :: ns => RpL.cons (by simp [Rp]) (RpL.of_ints ns)
end

/-! ### flat things lean on tuples alone -/
def TExt (H H' : Hp) : Prop := (∀ b vs, H b = some (.tup vs) → H' b = some (.tup vs)) ∧ ∀ b o vs, H b = some (.frz o (.tup vs)) → H' b = some (.frz o (.tup vs))
theorem TupAt.text {b : Bool} {H H' : Hp} {a : Addr} {vs : List V} (e : TExt H H') (h : TupAt b H a vs) : TupAt b H' a vs := by
  cases b with
  | false => exact e.1 _ _ h
  | true => obtain ⟨o, h, q⟩ := h; exact ⟨o, e.2 _ _ _ h, q⟩
mutual
theorem Rp.flat {K : PySem.W.Frag} {H H' : Hp} (e : TExt H H') : ∀ (d : D) (v : V), d.flat = true → Rp K H d v → Rp K H' d v
  | .non, _, _, h => by simpa [Rp] using h
  | .bl _, _, _, h => by simpa [Rp] using h
  | .int _, _, _, h => by simpa [Rp] using h
  | .str _, _, _, h => by simpa [Rp] using h
  | .tup _ ds, v, f, h => by
    simp only [Rp] at h ⊢
    obtain ⟨a, vs, e1, e2, h⟩ := h
    exact ⟨a, vs, e1, e2.text e, RpL.flat e ds vs (by simpa [D.flat] using f) h⟩
  | .lst _, _, f, _ => by simp [D.flat] at f
  | .dk _, _, f, _ => by simp [D.flat] at f
  | .dt _, _, f, _ => by simp [D.flat] at f
theorem RpL.flat {K : PySem.W.Frag} {H H' : Hp} (e : TExt H H') : ∀ (ds : List D) (vs : List V), flatL ds = true → RpL K H ds vs → RpL K H' ds vs
  | [], _, _, h => by simpa [RpL] using h
  | d :: ds, vs, f, h => by
    simp only [RpL] at h ⊢
    simp only [flatL, Bool.and_eq_true] at f
    obtain ⟨v, r, e1, h1, h2⟩ := h
    exact ⟨v, r, e1, Rp.flat e d v f.1 h1, RpL.flat e ds r f.2 h2⟩
end
theorem HOr.flat {K : PySem.W.Frag} {H H' : Hp} (e : TExt H H') {d : D} {u : HO} (f : d.ff = true) (h : HOr K H d u) : HOr K H' d u := by
  cases d <;> cases u <;> first
    | exact h
    | exact RpL.flat e _ _ f h
/-! ### the environment stands in the slots -/
def OwnA (env : En) (σ : L2.St) (b : Addr) : Prop := ∃ (i : Nat) (d : D), env[i]? = some (.own d) ∧ σ[i]? = some (some (.ref b))
structure Rel (K : PySem.W.Frag) (T : List (Addr × Str)) (io : Option Addr) (env : En) (σ : L2.St) (H : Hp) : Prop where
  len : env.length = σ.length
  val : ∀ (i : Nat) (d : D), env[i]? = some (.val d) → ∃ v, σ[i]? = some (some v) ∧ Rp K H d v
  own : ∀ (i : Nat) (d : D), env[i]? = some (.own d) → ∃ a, σ[i]? = some (some (.ref a)) ∧ ROwn K H d a ∧ d.fl = true
  sep : ∀ (i j : Nat) (d e : D) (a : Addr), env[i]? = some (.own d) → env[j]? = some (.own e) → σ[i]? = some (some (.ref a)) → σ[j]? = some (some (.ref a)) → i = j
  io : ∀ a, io = some a → σ[0]? = some (some (.ref a)) ∧ ∃ d, env[0]? = some (.own d)
  tab : LamX.Tabs T H
/-- the same slots, own things perhaps changed -/
def Shp (env env' : En) : Prop := env'.length = env.length ∧ ∀ (i : Nat), (∀ d, env[i]? = some (.own d) → ∃ d', env'[i]? = some (.own d')) ∧ ((∀ d, env[i]? ≠ some (.own d)) → env'[i]? = env[i]?)
theorem Shp.refl (env : En) : Shp env env := ⟨rfl, fun i => ⟨fun d h => ⟨d, h⟩, fun _ => rfl⟩⟩
theorem Shp.back {env env' : En} (s : Shp env env') {i : Nat} {d : D} (h : env'[i]? = some (.own d)) : ∃ d0, env[i]? = some (.own d0) := by
  by_cases q : ∃ d0, env[i]? = some (.own d0)
  · exact q
  · have := (s.2 i).2 (fun d0 z => q ⟨d0, z⟩)
    rw [this] at h
    exact ⟨d, h⟩
theorem Shp.trans {e1 e2 e3 : En} (a : Shp e1 e2) (b : Shp e2 e3) : Shp e1 e3 := by
  refine ⟨b.1.trans a.1, fun i => ⟨fun d h => ?_, fun h => ?_⟩⟩
  · obtain ⟨d', h'⟩ := (a.2 i).1 d h
    exact (b.2 i).1 d' h'
  · have h2 := (a.2 i).2 h
    rw [← h2]
    exact (b.2 i).2 fun d z => by
      rw [h2] at z
      exact h d z
theorem Shp.ownA {env env' : En} (s : Shp env env') {σ : L2.St} {b : Addr} : OwnA env' σ b ↔ OwnA env σ b := by
  constructor
  · rintro ⟨i, d, h1, h2⟩
    obtain ⟨d0, h0⟩ := s.back h1
    exact ⟨i, d0, h0, h2⟩
  · rintro ⟨i, d, h1, h2⟩
    obtain ⟨d', h'⟩ := (s.2 i).1 d h1
    exact ⟨i, d', h', h2⟩
/-- what an expression may do -/
structure EvE (env : En) (σ : L2.St) (H : Hp) (env' : En) (H' : Hp) : Prop where
  shp : Shp env env'
  kp : ∀ b o, H b = some o → NT o → ¬ OwnA env σ b → H' b = some o
  dom : ∀ b o, H b = some o → ∃ o', H' b = some o'
theorem EvE.refl (env : En) (σ : L2.St) (H : Hp) : EvE env σ H env H := ⟨Shp.refl _, fun _ _ h _ _ => h, fun _ o h => ⟨o, h⟩⟩
theorem EvE.trans {e1 e2 e3 : En} {σ : L2.St} {H1 H2 H3 : Hp} (a : EvE e1 σ H1 e2 H2) (b : EvE e2 σ H2 e3 H3) : EvE e1 σ H1 e3 H3 :=
  ⟨a.shp.trans b.shp, fun c o h t n => b.kp c o (a.kp c o h t n) t fun z => n (a.shp.ownA.mp z), fun c o h => let ⟨o', h'⟩ := a.dom c o h; b.dom c o' h'⟩
theorem EvE.ext {env : En} {σ : L2.St} {H H' : Hp} (e : Ext H H') : EvE env σ H env H' := ⟨Shp.refl _, fun b o h _ _ => e b o h, fun b o h => ⟨o, e b o h⟩⟩
section
variable {K : PySem.W.Frag} {T : List (Addr × Str)} {io : Option Addr} {env env' : En} {σ σ' : L2.St} {H H' : Hp}
theorem Rel.notOwn (r : Rel K T io env σ H) {b : Addr} {o : HO} (h : H b = some o) (f : Frm o) : ¬ OwnA env σ b := by
  rintro ⟨i, d, h1, h2⟩
  obtain ⟨a, q1, ⟨u, q2, q3⟩, _⟩ := r.own i d h1
  rw [h2] at q1
  cases q1
  rw [h] at q2
  cases q2
  exact q3.notFrm f
theorem Rel.fx (r : Rel K T io env σ H) (e : EvE env σ H env' H') : FExt H H' := fun b o h f => e.kp b o h f.nt (r.notOwn h f)
theorem Rel.ext (r : Rel K T io env σ H) (e : Ext H H') : Rel K T io env σ H' where
  len := r.len
  val := fun i d h => let ⟨v, h1, h2⟩ := r.val i d h; ⟨v, h1, Rp.ext e.fx _ _ h2⟩
  own := fun i d h => let ⟨a, h1, ⟨u, h2, h3⟩, f⟩ := r.own i d h; ⟨a, h1, ⟨u, e _ _ h2, h3.ext e.fx⟩, f⟩
  sep := r.sep
  io := r.io
  tab := r.tab.ext e
end

/-- what a statement may do -/
structure Ev (env : En) (σ : L2.St) (H : Hp) (env' : En) (σ' : L2.St) (H' : Hp) : Prop where
  kp : ∀ b o, H b = some o → ¬ OwnA env σ b → (NT o → H' b = some o) ∧ ¬ OwnA env' σ' b
  dom : ∀ b o, H b = some o → ∃ o', H' b = some o'
theorem Ev.refl (env : En) (σ : L2.St) (H : Hp) : Ev env σ H env σ H := ⟨fun _ _ h n => ⟨fun _ => h, n⟩, fun _ o h => ⟨o, h⟩⟩
theorem Ev.trans {e1 e2 e3 : En} {s1 s2 s3 : L2.St} {H1 H2 H3 : Hp} (a : Ev e1 s1 H1 e2 s2 H2) (b : Ev e2 s2 H2 e3 s3 H3) : Ev e1 s1 H1 e3 s3 H3 :=
  ⟨fun c o h n => let ⟨x, y⟩ := a.kp c o h n; let ⟨o', h'⟩ := a.dom c o h; ⟨fun t => (b.kp c o (x t) y).1 t, (b.kp c o' h' y).2⟩, fun c o h => let ⟨o', h'⟩ := a.dom c o h; b.dom c o' h'⟩
theorem EvE.ev {env env' : En} {σ : L2.St} {H H' : Hp} (e : EvE env σ H env' H') : Ev env σ H env' σ H' :=
  ⟨fun b o h n => ⟨fun t => e.kp b o h t n, fun z => n (e.shp.ownA.mp z)⟩, e.dom⟩
theorem Rel.fxS {K : PySem.W.Frag} {T : List (Addr × Str)} {io : Option Addr} {env env' : En} {σ σ' : L2.St} {H H' : Hp} (r : Rel K T io env σ H) (e : Ev env σ H env' σ' H') : FExt H H' := fun b o h f => (e.kp b o h (r.notOwn h f)).1 f.nt
end DL

/-! ## DLb -/
/-! DLb: judgements: an expression, a test, a list of expressions is run by a Lean function; the plain rules. -/
namespace DL
open PySem PySem.Spec PyProof.Rows L2

/-- what is wanted of an error: its class's name, the heap -/
structure WD where
  T : List (Addr × Str)
  f : Str → Hp → Prop
def Wp {α β : Type} (K : PySem.W.Frag) (W : WD) (io : Option Addr) (env : En) (σ : L2.St) (H : Hp) (r : R (α × En)) (P : Hp → α → β → Prop) (Q : β → Hp → Prop) : Prop :=
  match r with
  | .stk => False
  | .err c => ∀ env' H', EvE env σ H env' H' → LamX.Tabs W.T H' → W.f c H'
  | .ok p => ∀ b H', EvE env σ H p.2 H' → Rel K W.T io p.2 σ H' → P H' p.1 b → Q b H'
section
variable {α β γ δ : Type} {K : PySem.W.Frag} {W : WD} {io : Option Addr} {env env1 : En} {σ : L2.St} {H H1 : Hp} {P : Hp → α → β → Prop} {Q : β → Hp → Prop}
theorem Wp.fwd {r : R (α × En)} (e : EvE env σ H env1 H1) (h : Wp K W io env σ H r P Q) : Wp K W io env1 σ H1 r P Q := by
  cases r with
  | stk => exact h
  | err c => exact fun env' H' e' t' => h env' H' (e.trans e') t'
  | ok p => exact fun b H' e' => h b H' (e.trans e')
theorem Wp.bind {P2 : Hp → γ → δ → Prop} {Q2 : δ → Hp → Prop} {r : R (α × En)} {k : α × En → R (γ × En)} (h : Wp K W io env σ H (r.bind k) P2 Q2)
    (go : ∀ p b H', r = .ok p → EvE env σ H p.2 H' → Rel K W.T io p.2 σ H' → P H' p.1 b → Wp K W io p.2 σ H' (k p) P2 Q2 → Q b H') : Wp K W io env σ H r P Q := by
  cases r with
  | stk => exact h
  | err c => exact h
  | ok p => exact fun b H' e' r' p' => go p b H' rfl e' r' p' (Wp.fwd e' h)
theorem Wp.imp {r : R (α × En)} {Q' : β → Hp → Prop} (h : Wp K W io env σ H r P Q) (k : ∀ b H', Q b H' → Q' b H') : Wp K W io env σ H r P Q' := by
  cases r with
  | stk => exact h
  | err c => exact h
  | ok p => exact fun b H' e' r' p' => k b H' (h b H' e' r' p')
theorem Wp.done {a : α} {b : β} (r : Rel K W.T io env σ H) (p : P H a b) (h : Wp K W io env σ H (.ok (a, env)) P Q) : Q b H := h b H (EvE.refl _ _ _) r p
end
abbrev Den := En → R (D × En)
abbrev DenT := En → R (Bool × En)
abbrev DenL := En → R (List D × En)
/-- the readings -/
def RdE (K : PySem.W.Frag) (W : WD) (f : Den) : TE := fun σ H Q => ∃ io env, Rel K W.T io env σ H ∧ Wp K W io env σ H (f env) (fun H' d v => Rp K H' d v) Q
/-- a new thing, not frozen -/
def RdF (K : PySem.W.Frag) (W : WD) (f : Den) : TE := fun σ H Q => ∃ io env, Rel K W.T io env σ H ∧ Wp K W io env σ H (f env) (fun H' d v => ∃ a, v = V.ref a ∧ H a = none ∧ ROwn K H' d a) Q
def RdT (K : PySem.W.Frag) (W : WD) (f : DenT) : TT := fun σ H Q => ∃ io env, Rel K W.T io env σ H ∧ Wp K W io env σ H (f env) (fun _ b b' => b = b') Q
def RdA (K : PySem.W.Frag) (W : WD) (f : DenL) : TA := fun σ H Q => ∃ io env, Rel K W.T io env σ H ∧ Wp K W io env σ H (f env) (fun H' ds vs => RpL K H' ds vs) Q
abbrev DE (X : Cx) (W : WD) (e : Expr) (f : Den) : Prop := PE X e (RdE X.K W f)
abbrev DF (X : Cx) (W : WD) (e : Expr) (f : Den) : Prop := PE X e (RdF X.K W f)
abbrev DT (X : Cx) (W : WD) (e : Expr) (f : DenT) : Prop := PT X e (RdT X.K W f)
abbrev DW (X : Cx) (W : WD) (e : Expr) (f : DenT) : Prop := PW X e (RdT X.K W f)
abbrev DA (X : Cx) (W : WD) (es : List Expr) (f : DenL) : Prop := PA X es (RdA X.K W f)
theorem pe_imp {X : Cx} {e : Expr} {t t' : TE} (h : PE X e t) (k : ∀ σ H Q, t' σ H Q → t σ H Q) : PE X e t' := ⟨fun pins s σ H Q I q => h.run pins s σ H Q I (k σ H Q q)⟩
theorem pt_imp {X : Cx} {e : Expr} {t t' : TT} (h : PT X e t) (k : ∀ σ H Q, t' σ H Q → t σ H Q) : PT X e t' := ⟨fun pins s σ H Q I q => h.run pins s σ H Q I (k σ H Q q)⟩
theorem pw_imp {X : Cx} {e : Expr} {t t' : TT} (h : PW X e t) (k : ∀ σ H Q, t' σ H Q → t σ H Q) : PW X e t' := ⟨fun wh pins s σ H Q I q => h.run wh pins s σ H Q I (k σ H Q q)⟩
theorem pa_imp {X : Cx} {es : List Expr} {t t' : TA} (h : PA X es t) (k : ∀ σ H Q, t' σ H Q → t σ H Q) : PA X es t' := ⟨fun pos pins s σ H Q I q => h.run pos pins s σ H Q I (k σ H Q q)⟩

/-! ### names, constants -/
def eVar (i : Nat) : Den := fun env => match env[i]? with
  | some (.val d) => .ok (d, env)
  | _ => .stk
def eC (d : D) : Den := fun env => .ok (d, env)
section
variable {X : Cx} {W : WD}
theorem de_var (i : Nat) {x : Str} {pos : Pos} (hN : X.N[i]? = some x := by rfl) (hv : Vis X.env.scope x := by first | exact Or.inl rfl | exact Or.inr (Or.inl rfl) | exact Or.inr (Or.inr rfl)) (hd : (x == ("__debug__" : Str)) = false := by decide)
    (hcd : (x == ("__classdict__" : Str)) = false := by decide) : DE X W (.Name x pos) (eVar i) := by
  refine pe_imp (pe_var hN hv hd hcd) fun σ H Q h => ?_
  obtain ⟨io, env, r, h⟩ := h
  unfold eVar at h
  split at h
  · rename_i d q
    obtain ⟨v, h1, h2⟩ := r.val i d q
    exact ⟨v, h1, h v H (EvE.refl _ _ _) r h2⟩
  · exact (show False from h).elim
theorem de_c {e : Expr} {v : V} {d : D} (h : PE X e (tC v)) (hd : ∀ H, Rp X.K H d v) : DE X W e (eC d) :=
  pe_imp h fun σ H Q ⟨io, env, r, q⟩ => q v H (EvE.refl _ _ _) r (hd H)
theorem de_int {i j pos} : DE X W (.Constant (.int i) j pos) (eC (.int i)) := de_c pe_int fun _ => by simp [Rp]
theorem de_bl {b j pos} : DE X W (.Constant (.bool b) j pos) (eC (.bl b)) := de_c pe_bl fun _ => by simp [Rp]
theorem de_non {j pos} : DE X W (.Constant .none j pos) (eC .non) := de_c pe_non fun _ => by simp [Rp]
theorem de_str {x j pos} : DE X W (.Constant (.str x) j pos) (eC (.str x)) := de_c pe_str fun _ => by simp [Rp]
/-- a module's whole number -/
theorem de_globI {x : Str} {i : Int} {u : Value} {pos : Pos} (hg : Gl X x) (hm : X.mg x = some u) (r : RelV (.int i) u) (hd : (x == ("__debug__" : Str)) = false := by decide) : DE X W (.Name x pos) (eC (.int i)) :=
  de_c (pe_glob hg hm r hd) fun _ => by simp [Rp]
end

/-! ### operations by values -/
def PrR2 (K : PySem.W.Frag) (r : R2) (p : D → D → Option D) : Prop :=
  ∀ (H : Hp) (x y : V) (a b d : D), Rp K H a x → Rp K H b y → p a b = some d → ∀ Q : VK, (∀ v H', Ext H H' → Rp K H' d v → Q v H') → r x y H Q
def PrF2 (K : PySem.W.Frag) (r : R2) (p : D → D → Option D) : Prop :=
  ∀ (H : Hp) (x y : V) (a b d : D), Rp K H a x → Rp K H b y → p a b = some d → ∀ Q : VK, (∀ l H', Ext H H' → H l = none → ROwn K H' d l → Q (.ref l) H') → r x y H Q
def PrR1 (K : PySem.W.Frag) (r : V → Hp → VK → Prop) (p : D → Option D) : Prop :=
  ∀ (H : Hp) (x : V) (a d : D), Rp K H a x → p a = some d → ∀ Q : VK, (∀ v H', Ext H H' → Rp K H' d v → Q v H') → r x H Q
def PrR (K : PySem.W.Frag) (r : List V → Hp → VK → Prop) (p : List D → Option D) : Prop :=
  ∀ (H : Hp) (vs : List V) (ds : List D) (d : D), RpL K H ds vs → p ds = some d → ∀ Q : VK, (∀ v H', Ext H H' → Rp K H' d v → Q v H') → r vs H Q
def PrF (K : PySem.W.Frag) (r : List V → Hp → VK → Prop) (p : List D → Option D) : Prop :=
  ∀ (H : Hp) (vs : List V) (ds : List D) (d : D), RpL K H ds vs → p ds = some d → ∀ Q : VK, (∀ l H', Ext H H' → H l = none → ROwn K H' d l → Q (.ref l) H') → r vs H Q
def e2 (p : D → D → Option D) (fa fb : Den) : Den := fun env => (fa env).bind fun x => (fb x.2).bind fun y => (R.of (p x.1 y.1)).bind fun d => .ok (d, y.2)
def e1 (p : D → Option D) (fa : Den) : Den := fun env => (fa env).bind fun x => (R.of (p x.1)).bind fun d => .ok (d, x.2)
def eN (p : List D → Option D) (F : DenL) : Den := fun env => (F env).bind fun x => (R.of (p x.1)).bind fun d => .ok (d, x.2)
def aNil : DenL := fun env => .ok ([], env)
def aCons (f : Den) (F : DenL) : DenL := fun env => (f env).bind fun x => (F x.2).bind fun y => .ok (x.1 :: y.1, y.2)
section
variable {K : PySem.W.Frag} {W : WD} {σ : L2.St} {H : Hp} {fa fb : Den} {F : DenL}
theorem rd_op {r : R2} {p : D → D → Option D} (hp : PrR2 K r p) {Q : VK} (h : RdE K W (e2 p fa fb) σ H Q) : tOp r (RdE K W fa) (RdE K W fb) σ H Q := by
  obtain ⟨io, env, hr, h⟩ := h
  refine ⟨io, env, hr, Wp.bind h fun x v H1 _ e1 r1 p1 h1 => ⟨io, x.2, r1, Wp.bind h1 fun y w H2 _ e2 r2 p2 h2 => ?_⟩⟩
  cases q : p x.1 y.1 with
  | none => rw [q] at h2; exact (show False from h2).elim
  | some d =>
    rw [q] at h2
    exact hp H2 v w x.1 y.1 d (Rp.ext (r1.fx e2) _ _ p1) p2 q Q fun z H3 e3 rz => h2 z H3 (EvE.ext e3) (r2.ext e3) rz
theorem rd_opF {r : R2} {p : D → D → Option D} (hp : PrF2 K r p) {Q : VK} (h : RdF K W (e2 p fa fb) σ H Q) : tOp r (RdE K W fa) (RdE K W fb) σ H Q := by
  obtain ⟨io, env, hr, h⟩ := h
  refine ⟨io, env, hr, Wp.bind h fun x v H1 _ e1 r1 p1 h1 => ⟨io, x.2, r1, Wp.bind h1 fun y w H2 _ e2 r2 p2 h2 => ?_⟩⟩
  cases q : p x.1 y.1 with
  | none => rw [q] at h2; exact (show False from h2).elim
  | some d =>
    rw [q] at h2
    refine hp H2 v w x.1 y.1 d (Rp.ext (r1.fx e2) _ _ p1) p2 q Q fun l H3 e3 hl rz => h2 (.ref l) H3 (EvE.ext e3) (r2.ext e3) ⟨l, rfl, ?_, rz⟩
    cases z : H l with
    | none => rfl
    | some o =>
      obtain ⟨o1, z1⟩ := e1.dom l o z
      obtain ⟨o2, z2⟩ := e2.dom l o1 z1
      rw [hl] at z2; cases z2
theorem rd_un {r : V → Hp → VK → Prop} {p : D → Option D} (hp : PrR1 K r p) {Q : VK} (h : RdE K W (e1 p fa) σ H Q) : tUn r (RdE K W fa) σ H Q := by
  obtain ⟨io, env, hr, h⟩ := h
  refine ⟨io, env, hr, Wp.bind h fun x v H1 _ e1 r1 p1 h1 => ?_⟩
  cases q : p x.1 with
  | none => rw [q] at h1; exact (show False from h1).elim
  | some d =>
    rw [q] at h1
    exact hp H1 v x.1 d p1 q Q fun z H3 e3 rz => h1 z H3 (EvE.ext e3) (r1.ext e3) rz
theorem rd_cb {r : List V → Hp → VK → Prop} {p : List D → Option D} (hp : PrR K r p) {Q : VK} (h : RdE K W (eN p F) σ H Q) : tCB r (RdA K W F) σ H Q := by
  obtain ⟨io, env, hr, h⟩ := h
  refine ⟨io, env, hr, Wp.bind h fun x vs H1 _ e1 r1 p1 h1 => ?_⟩
  cases q : p x.1 with
  | none => rw [q] at h1; exact (show False from h1).elim
  | some d =>
    rw [q] at h1
    exact hp H1 vs x.1 d p1 q Q fun z H3 e3 rz => h1 z H3 (EvE.ext e3) (r1.ext e3) rz
theorem rd_cbF {r : List V → Hp → VK → Prop} {p : List D → Option D} (hp : PrF K r p) {Q : VK} (h : RdF K W (eN p F) σ H Q) : tCB r (RdA K W F) σ H Q := by
  obtain ⟨io, env, hr, h⟩ := h
  refine ⟨io, env, hr, Wp.bind h fun x vs H1 _ e1 r1 p1 h1 => ?_⟩
  cases q : p x.1 with
  | none => rw [q] at h1; exact (show False from h1).elim
  | some d =>
    rw [q] at h1
    refine hp H1 vs x.1 d p1 q Q fun l H3 e3 hl rz => h1 (.ref l) H3 (EvE.ext e3) (r1.ext e3) ⟨l, rfl, ?_, rz⟩
    cases z : H l with
    | none => rfl
    | some o =>
      obtain ⟨o1, z1⟩ := e1.dom l o z
      rw [hl] at z1; cases z1
end
section
variable {X : Cx} {W : WD} {a b c e : Expr} {es : List Expr} {fa fb fc : Den} {F : DenL} {pos : Pos}
theorem da_nil : DA X W [] aNil := pa_imp pa_nil fun σ H Q ⟨io, env, r, h⟩ => h [] H (EvE.refl _ _ _) r RpL.nil
theorem da_cons (ha : DE X W e fa) (hr : DA X W es F) (hs : starEach (e :: es) X.env = (false, eval e X.env) :: starEach es X.env := by rfl) : DA X W (e :: es) (aCons fa F) := by
  refine pa_imp (pa_cons ha hr hs) fun σ H Q h => ?_
  obtain ⟨io, env, hr, h⟩ := h
  refine ⟨io, env, hr, Wp.bind h fun x v H1 _ e1 r1 p1 h1 => ⟨io, x.2, r1, Wp.bind h1 fun y w H2 _ e2 r2 p2 h2 => ?_⟩⟩
  exact h2 (v :: w) H2 (EvE.refl _ _ _) r2 (RpL.cons (Rp.ext (r1.fx e2) _ _ p1) p2)
theorem de_bin {op : Operator} {r : R2} {p : D → D → Option D} (hp : PrR2 X.K r p) (ho : OpR X (binaryOp op) r) (ha : DE X W a fa) (hb : DE X W b fb) : DE X W (.BinOp a op b pos) (e2 p fa fb) :=
  pe_imp (pe_op ho ha hb) fun σ H Q h => rd_op hp h
theorem df_bin {op : Operator} {r : R2} {p : D → D → Option D} (hp : PrF2 X.K r p) (ho : OpR X (binaryOp op) r) (ha : DE X W a fa) (hb : DE X W b fb) : DF X W (.BinOp a op b pos) (e2 p fa fb) :=
  pe_imp (pe_op ho ha hb) fun σ H Q h => rd_opF hp h
theorem de_cmp {op : CmpOp} {r : R2} {p : D → D → Option D} (hp : PrR2 X.K r p) (ho : OpR X (compareOp op) r) (ha : DE X W a fa) (hb : DE X W b fb) (hm : behindInMarks op b = false) : DE X W (.Compare a [op] [b] pos) (e2 p fa fb) :=
  pe_imp (pe_cmpR ho ha hb hm) fun σ H Q h => rd_op hp h
theorem de_un {op : UnaryOp} {r : V → Hp → VK → Prop} {p : D → Option D} (hp : PrR1 X.K r p) (ho : UnR X (unaryOp op) r) (ha : DE X W a fa) : DE X W (.UnaryOp op a pos) (e1 p fa) :=
  pe_imp (pe_un ho ha) fun σ H Q h => rd_un hp h
theorem de_ix {r : R2} {p : D → D → Option D} (hp : PrR2 X.K r p) (ho : IxR X r) (ha : DE X W a fa) (hb : DE X W b fb) (hs : PlainIx b := by exact fun _ _ => rfl) : DE X W (.Subscript a b pos) (e2 p fa fb) :=
  pe_imp (pe_ix ho ha hb hs) fun σ H Q h => rd_op hp h
theorem de_cb {x : Str} {id : String} {r : List V → Hp → VK → Prop} {p : List D → Option D} {q : Pos} (hp : PrR X.K r p) (hc : CallR X (.builtin id) r) (hg : Gl X x) (hm : X.mg x = none) (hv : bootBuiltins x = some (.builtin id)) (ha : DA X W (e :: es) F)
    (hn : x ≠ "__name__" := by decide) (hdb : (x == ("__debug__" : Str)) = false := by decide) (he : starEach (e :: es) X.env = (false, eval e X.env) :: starEach es X.env := by rfl) (hpl : (backTo pos (starEach es X.env)).any (·.1) = false := by rfl) :
    DE X W (.Call (.Name x q) (e :: es) [] pos) (eN p F) := pe_imp (pe_callB hc hg hm hv ha hn hdb he hpl) fun σ H Q h => rd_cb hp h
theorem df_cb {x : Str} {id : String} {r : List V → Hp → VK → Prop} {p : List D → Option D} {q : Pos} (hp : PrF X.K r p) (hc : CallR X (.builtin id) r) (hg : Gl X x) (hm : X.mg x = none) (hv : bootBuiltins x = some (.builtin id)) (ha : DA X W (e :: es) F)
    (hn : x ≠ "__name__" := by decide) (hdb : (x == ("__debug__" : Str)) = false := by decide) (he : starEach (e :: es) X.env = (false, eval e X.env) :: starEach es X.env := by rfl) (hpl : (backTo pos (starEach es X.env)).any (·.1) = false := by rfl) :
    DF X W (.Call (.Name x q) (e :: es) [] pos) (eN p F) := pe_imp (pe_callB hc hg hm hv ha hn hdb he hpl) fun σ H Q h => rd_cbF hp h
theorem de_ct {x : Str} {T : String} {r : List V → Hp → VK → Prop} {p : List D → Option D} {q : Pos} (hp : PrR X.K r p) (hc : CallR X (.type T) r) (hg : Gl X x) (hm : X.mg x = none) (hv : bootBuiltins x = some (.type T)) (ha : DA X W (e :: es) F)
    (hn : x ≠ "__name__" := by decide) (hdb : (x == ("__debug__" : Str)) = false := by decide) (he : starEach (e :: es) X.env = (false, eval e X.env) :: starEach es X.env := by rfl) (hpl : (backTo pos (starEach es X.env)).any (·.1) = false := by rfl) :
    DE X W (.Call (.Name x q) (e :: es) [] pos) (eN p F) := pe_imp (pe_callTy hc hg hm hv ha hn hdb he hpl) fun σ H Q h => rd_cb hp h
theorem df_ct {x : Str} {T : String} {r : List V → Hp → VK → Prop} {p : List D → Option D} {q : Pos} (hp : PrF X.K r p) (hc : CallR X (.type T) r) (hg : Gl X x) (hm : X.mg x = none) (hv : bootBuiltins x = some (.type T)) (ha : DA X W (e :: es) F)
    (hn : x ≠ "__name__" := by decide) (hdb : (x == ("__debug__" : Str)) = false := by decide) (he : starEach (e :: es) X.env = (false, eval e X.env) :: starEach es X.env := by rfl) (hpl : (backTo pos (starEach es X.env)).any (·.1) = false := by rfl) :
    DF X W (.Call (.Name x q) (e :: es) [] pos) (eN p F) := pe_imp (pe_callTy hc hg hm hv ha hn hdb he hpl) fun σ H Q h => rd_cbF hp h
end

/-! ### displays -/
def big : Nat := 1000000
theorem big_le {n : Nat} (h : n ≤ big) : n ≤ sizeLine := Nat.le_trans h (by decide)
theorem big_lt {n : Nat} (h : n < big) : n < sizeLine := Nat.lt_of_lt_of_le h (by decide)
def short (ds : List D) : Option (List D) := if ds.length ≤ big then some ds else none
def eTup (m : Bool) (F : DenL) : Den := eN (fun ds => (short ds).map (D.tup m)) F
def fLst (F : DenL) : Den := eN (fun ds => (short ds).map D.lst) F
theorem short_some {ds es : List D} (h : short ds = some es) : es = ds ∧ ds.length ≤ big := by
  unfold short at h
  split at h
  · cases h; exact ⟨rfl, by assumption⟩
  · cases h
section
variable {X : Cx} {W : WD} {es : List Expr} {F : DenL} {pos : Pos}
/-- a tuple display: a new tuple -/
def tTupB (m : Bool) (t : TA) : TE := fun σ H Q => t σ H fun xs H1 => xs.length ≤ sizeLine ∧ ∀ p o, H1 p = none → o.dict = none → Q (.ref p) (upd H1 p (tupO m o xs))
theorem pe_tupB (m : Bool) {k} {t : TA} (h : PA X es t) : PE X (.Tuple es k pos) (tTupB m t) := by
  cases m with
  | false =>
    refine ⟨fun pins s σ H Q I hq => ?_⟩
    refine wpAny_Tuple_spliced (thn (h.run pos pins s σ H _ I hq) fun us s1 ⟨xs, H1, I1, r, z, q⟩ => ⟨by rw [← r.length]; exact z, ?_⟩)
    have hf : H1 s1.heap.objs.size = none := I1.hok.fresh (Nat.le_refl _)
    refine ⟨.ref s1.heap.objs.size, upd H1 s1.heap.objs.size (.tup xs), I1.laid (t' := s1.toks) (fun b u e => Heap.get?_push_of_some _ e) (Nat.le_refl _) ?_, rfl, q _ { cls := .type "tuple", data := .seq us.toArray } hf rfl⟩
    exact ⟨z, us, r, ⟨_, Heap.get?_push_size _ rfl, rfl, _, rfl⟩⟩
  | true =>
    refine ⟨fun pins s σ H Q I hq => ?_⟩
    refine wpAny_Tuple_spliced (thn (h.run pos pins s σ H _ I hq) fun us s1 ⟨xs, H1, I1, r, z, q⟩ => ⟨by rw [← r.length]; exact z, ?_⟩)
    have hf : H1 s1.heap.objs.size = none := I1.hok.fresh (Nat.le_refl _)
    refine ⟨.ref s1.heap.objs.size, upd H1 s1.heap.objs.size (.frz { cls := .type "tuple", data := .seq us.toArray } (.tup xs)), I1.laid (t' := s1.toks) (fun b u e => Heap.get?_push_of_some _ e) (Nat.le_refl _) ?_, rfl, q _ { cls := .type "tuple", data := .seq us.toArray } hf rfl⟩
    exact ⟨Heap.get?_push_size _ rfl, z, us, r, ⟨_, Heap.get?_push_size _ rfl, rfl, _, rfl⟩⟩
theorem de_tup (m : Bool) {k} (h : DA X W es F) : DE X W (.Tuple es k pos) (eTup m F) := by
  refine pe_imp (pe_tupB m h) fun σ H Q hq => ?_
  obtain ⟨io, env, hr, hq⟩ := hq
  refine ⟨io, env, hr, Wp.bind hq fun x vs H1 _ e1 r1 p1 h1 => ?_⟩
  cases q : short x.1 with
  | none => dsimp only at h1; rw [q] at h1; exact (show False from h1).elim
  | some ds =>
    obtain ⟨rfl, hl⟩ := short_some q
    dsimp only at h1; rw [q] at h1
    refine ⟨by rw [p1.length]; exact big_le hl, fun p o np ho => ?_⟩
    refine h1 (.ref p) _ (EvE.ext (Ext.new np)) (r1.ext (Ext.new np)) ?_
    show Rp X.K (upd H1 p (tupO m o vs)) (.tup m x.1) (.ref p)
    simp only [Rp]
    exact ⟨p, vs, rfl, TupAt.new ho, RpL.ext (Ext.new np).fx _ _ p1⟩
theorem df_lst (h : DA X W es F) : DF X W (.List es pos) (fLst F) := by
  refine pe_imp (pe_lst h) fun σ H Q hq => ?_
  obtain ⟨io, env, hr, hq⟩ := hq
  refine ⟨io, env, hr, Wp.bind hq fun x vs H1 _ e1 r1 p1 h1 => ?_⟩
  cases q : short x.1 with
  | none => dsimp only at h1; rw [q] at h1; exact (show False from h1).elim
  | some ds =>
    obtain ⟨rfl, hl⟩ := short_some q
    dsimp only at h1; rw [q] at h1
    refine ⟨by rw [p1.length]; exact big_le hl, fun p np => ?_⟩
    refine h1 (.ref p) _ (EvE.ext (Ext.new np)) (r1.ext (Ext.new np)) ⟨p, rfl, ?_, .lst vs, upd_same, RpL.ext (Ext.new np).fx _ _ p1⟩
    cases z : H p with
    | none => rfl
    | some o =>
      obtain ⟨o1, z1⟩ := e1.dom p o z
      rw [np] at z1; cases z1
end

/-! ### a new thing is frozen; an own thing is lent -/
theorem Rel.upd_new {K : PySem.W.Frag} {T : List (Addr × Str)} {io : Option Addr} {env : En} {σ : L2.St} {H : Hp} {a : Addr} {u : HO} (r : Rel K T io env σ H) (nf : ∀ o, H a = some o → ¬ Frm o) (nt : ∀ o, H a = some o → NC o) (no : ¬ OwnA env σ a) : Rel K T io env σ (upd H a u) := by
  have fx : FExt H (upd H a u) := fun b o h f => by
    rw [upd_ne (fun z => by subst z; exact nf o h f)]; exact h
  refine ⟨r.len, fun i d h => ?_, fun i d h => ?_, r.sep, r.io, tabs_upd r.tab nt⟩
  · obtain ⟨v, h1, h2⟩ := r.val i d h
    exact ⟨v, h1, Rp.ext fx _ _ h2⟩
  · obtain ⟨b, h1, ⟨w, h2, h3⟩, fl⟩ := r.own i d h
    exact ⟨b, h1, ⟨w, by rw [upd_ne (fun z => no ⟨i, d, h, by rw [← z]; exact h1⟩)]; exact h2, h3.ext fx⟩, fl⟩
theorem Rp.of_frz {K : PySem.W.Frag} {H : Hp} {d : D} {a : Addr} {o : Obj} {u : HO} (h : HOr K H d u) (e : H a = some (.frz o u)) : Rp K H d (.ref a) := by
  cases d <;> cases u <;> first
    | exact (show False from h).elim
    | (rename_i ds vs; simp only [Rp]; exact ⟨a, vs, rfl, .inl ⟨o, e⟩, h⟩)
    | (simp only [Rp]; exact ⟨a, o, rfl, by rw [e, show _ = _ from h]⟩)
/-- the new thing is frozen -/
theorem DF.fz {X : Cx} {W : WD} {e : Expr} {f : Den} (h : DF X W e f) : DE X W e f := by
  refine ⟨fun pins s σ H Q I hq => ?_⟩
  obtain ⟨io, env, hr, hq⟩ := hq
  refine thn (h.run pins s σ H (fun v H1 => ∃ a u, v = .ref a ∧ H1 a = some u ∧ Mut (some u) ∧ ∀ od, Q v (upd H1 a (.frz od u))) I ⟨io, env, hr, ?_⟩) fun v s1 ⟨x, H1, I1, rx, a, u, ex, eu, mu, q⟩ => ?_
  · cases z : f env with
    | stk => rw [z] at hq; exact hq
    | err c => rw [z] at hq; exact hq
    | ok p =>
      rw [z] at hq
      intro v H1 e1 r1 p1
      obtain ⟨a, rfl, na, u, hu, ho⟩ := p1
      have no : ¬ OwnA p.2 σ a := fun y => by
        obtain ⟨i, d, y1, y2⟩ := e1.shp.ownA.mp y
        obtain ⟨b, y3, ⟨w, y4, _⟩, _⟩ := hr.own i d y1
        rw [y2] at y3; cases y3
        rw [na] at y4; cases y4
      have nf : ∀ o, H1 a = some o → ¬ Frm o := fun o ho' => by
        rw [hu] at ho'; cases ho'; exact ho.notFrm
      refine ⟨a, u, rfl, hu, ho.mut, fun od => ?_⟩
      have r2 : Rel X.K W.T io p.2 σ (upd H1 a (.frz od u)) := r1.upd_new nf (fun o z => by rw [hu] at z; cases z; exact ho.nc) no
      have fx : FExt H1 (upd H1 a (.frz od u)) := fun b o h f => by
        rw [upd_ne (fun z => by subst z; exact nf o h f)]; exact h
      refine hq (.ref a) _ ⟨e1.shp, fun b o hb ht hn => ?_, fun b o hb => ?_⟩ r2 (Rp.of_frz (ho.ext fx) upd_same)
      · rw [upd_ne (ne_of_none hb na)]; exact e1.kp b o hb ht hn
      · rw [upd_ne (ne_of_none hb na)]; exact e1.dom b o hb
  · obtain ⟨od, I2⟩ := I1.lock eu mu
    exact ⟨x, _, I2, rx, q od⟩
end DL

/-! ## DLc -/
/-! DLc: lending an own thing, tests, and, or, not, if-expressions, chains. -/
namespace DL
open PySem PySem.Spec PyProof.Rows L2

/-! ### lending -/
section
variable {K : PySem.W.Frag} {T : List (Addr × Str)} {io : Option Addr} {env env' : En} {σ : L2.St} {H H' : Hp} {i : Nat} {d : D} {a : Addr} {u : HO} {od : Obj}
theorem set_get {l : En} {j : Nat} {s : Sl} (h : i < l.length) : (l.set i s)[j]? = if i = j then some s else l[j]? := by
  rw [List.getElem?_set]
  by_cases e : i = j
  · subst e; simp [h]
  · simp [e]
theorem lt_of_get {l : En} {s : Sl} (h : l[i]? = some s) : i < l.length := (List.getElem?_eq_some_iff.mp h).1
theorem lend_notOwn (r : Rel K T io env σ H) (hi : env[i]? = some (.own d)) (ha : σ[i]? = some (some (.ref a))) : ¬ OwnA (env.set i (.val d)) σ a := by
  rintro ⟨j, e, h1, h2⟩
  rw [set_get (lt_of_get hi)] at h1
  by_cases z : i = j
  · subst z; simp at h1
  · rw [if_neg z] at h1
    exact z (r.sep i j d e a hi h1 ha h2)
theorem lend_sub (hi : env[i]? = some (.own d)) {b : Addr} (h : OwnA (env.set i (.val d)) σ b) : OwnA env σ b := by
  obtain ⟨j, e, h1, h2⟩ := h
  rw [set_get (lt_of_get hi)] at h1
  by_cases z : i = j
  · subst z; simp at h1
  · rw [if_neg z] at h1
    exact ⟨j, e, h1, h2⟩
theorem lend (r : Rel K T io env σ H) (hi : env[i]? = some (.own d)) (ha : σ[i]? = some (some (.ref a))) (hu : H a = some u) (ho : HOr K H d u) : Rel K T none (env.set i (.val d)) σ (upd H a (.frz od u)) := by
  have fx : FExt H (upd H a (.frz od u)) := fun b o h f => by
    rw [upd_ne (fun z => by subst z; rw [hu] at h; cases h; exact ho.notFrm f)]; exact h
  have hl := lt_of_get hi
  refine ⟨by rw [List.length_set]; exact r.len, fun j e h => ?_, fun j e h => ?_, fun j k e e' b h1 h2 => ?_, fun b h => (by cases h), tabs_upd r.tab fun o h => (by rw [hu] at h; cases h; exact ho.nc)⟩
  · rw [set_get hl] at h
    by_cases z : i = j
    · subst z
      rw [if_pos rfl] at h
      cases h
      exact ⟨_, ha, Rp.of_frz (ho.ext fx) upd_same⟩
    · rw [if_neg z] at h
      obtain ⟨v, h1, h2⟩ := r.val j e h
      exact ⟨v, h1, Rp.ext fx _ _ h2⟩
  · rw [set_get hl] at h
    by_cases z : i = j
    · subst z; simp at h
    · rw [if_neg z] at h
      obtain ⟨b, h1, ⟨w, h2, h3⟩, fl⟩ := r.own j e h
      exact ⟨b, h1, ⟨w, by rw [upd_ne (fun y => z (r.sep i j d e b hi h (by rw [y]; exact ha) h1))]; exact h2, h3.ext fx⟩, fl⟩
  · rw [set_get hl] at h1 h2
    by_cases z : i = j
    · subst z; simp at h1
    · by_cases z2 : i = k
      · subst z2; simp at h2
      · rw [if_neg z] at h1
        rw [if_neg z2] at h2
        exact r.sep j k e e' b h1 h2
/-- .. and given back -/
theorem lend_back (r : Rel K T io env σ H) (hi : env[i]? = some (.own d)) (ha : σ[i]? = some (some (.ref a))) (hu : H a = some u) (ho : HOr K H d u) (e : EvE (env.set i (.val d)) σ (upd H a (.frz od u)) env' H') (r' : Rel K T none env' σ H') (hff : ∀ (j : Nat) (y : D), env'[j]? = some (.own y) → y.ff = true) :
    H' a = some (.frz od u) ∧ EvE env σ H (env'.set i (.own d)) (upd H' a u) ∧ Rel K T io (env'.set i (.own d)) σ (upd H' a u) ∧ TExt H' (upd H' a u) := by
  have hl := lt_of_get hi
  have hz : H' a = some (.frz od u) := e.kp a _ upd_same trivial (lend_notOwn r hi ha)
  have len' : env'.length = env.length := by rw [e.shp.1, List.length_set]
  have hl' : i < env'.length := by rw [len']; exact hl
  have tx : TExt H' (upd H' a u) := ⟨fun b vs h => by
    rw [upd_ne (fun z => by subst z; rw [hz] at h; cases h)]; exact h, fun b o vs h => by
    rw [upd_ne (fun z => by subst z; rw [hz] at h; injection h with h; injection h with _ h; subst h; cases d <;> exact (show False from ho).elim)]; exact h⟩
  have other : ∀ b o, H b = some o → NT o → b ≠ a → ¬ OwnA (env.set i (.val d)) σ b → H' b = some o := fun b o h t n no => e.kp b o (by rw [upd_ne n]; exact h) t no
  have fx : FExt H (upd H' a u) := fun b o h f => by
    have n : b ≠ a := fun z => by subst z; rw [hu] at h; cases h; exact ho.notFrm f
    rw [upd_ne n]
    exact other b o h f.nt n fun z => r.notOwn h f (lend_sub hi z)
  have tb : LamX.Tabs T (upd H' a u) := tabs_upd r'.tab fun o h => by rw [hz] at h; cases h; exact trivial
  have keepV : ∀ (j : Nat), i ≠ j → ∀ (x : D), env'[j]? = some (Sl.val x) → env[j]? = some (Sl.val x) := fun j z x h => by
    by_cases q : ∃ y, (env.set i (.val d))[j]? = some (.own y)
    · obtain ⟨y, q⟩ := q
      obtain ⟨y', q'⟩ := (e.shp.2 j).1 y q
      rw [h] at q'; cases q'
    · have q2 := (e.shp.2 j).2 fun y z => q ⟨y, z⟩
      rw [q2, set_get hl, if_neg z] at h
      exact h
  have ownB : ∀ (j : Nat), i ≠ j → ∀ (y : D), env'[j]? = some (Sl.own y) → ∃ y0, env[j]? = some (Sl.own y0) := fun j z y h => by
    obtain ⟨y0, h0⟩ := e.shp.back h
    rw [set_get hl, if_neg z] at h0
    exact ⟨y0, h0⟩
  refine ⟨hz, ⟨⟨by rw [List.length_set]; exact len', fun j => ⟨fun y h => ?_, fun h => ?_⟩⟩, fun b o h t no => ?_, fun b o h => ?_⟩, ⟨by rw [List.length_set, len']; exact r.len, fun j x h => ?_, fun j y h => ?_, fun j k y y' b h1 h2 => ?_, fun b h => ?_, tb⟩, tx⟩
  · rw [set_get hl']
    by_cases z : i = j
    · exact ⟨d, by rw [if_pos z]⟩
    · rw [if_neg z]
      exact (e.shp.2 j).1 y (by rw [set_get hl, if_neg z]; exact h)
  · have z : i ≠ j := fun z => by subst z; exact h d hi
    rw [set_get hl', if_neg z]
    have q := (e.shp.2 j).2 fun y q => h y (by rw [set_get hl, if_neg z] at q; exact q)
    rw [q, set_get hl, if_neg z]
  · have n : b ≠ a := fun z => by subst z; exact no ⟨i, d, hi, ha⟩
    rw [upd_ne n]
    exact other b o h t n fun z => no (lend_sub hi z)
  · by_cases z : b = a
    · exact ⟨u, by rw [z]; exact upd_same⟩
    · obtain ⟨o', h'⟩ := e.dom b o (by rw [upd_ne z]; exact h)
      exact ⟨o', by rw [upd_ne z]; exact h'⟩
  · rw [set_get hl'] at h
    by_cases z : i = j
    · subst z; simp at h
    · rw [if_neg z] at h
      obtain ⟨v, h1, h2⟩ := r.val j x (keepV j z x h)
      exact ⟨v, h1, Rp.ext fx _ _ h2⟩
  · rw [set_get hl'] at h
    by_cases z : i = j
    · subst z
      rw [if_pos rfl] at h
      cases h
      obtain ⟨b, h1, _, fl⟩ := r.own i d hi
      rw [ha] at h1; cases h1
      exact ⟨a, ha, ⟨u, upd_same, ho.ext fx⟩, fl⟩
    · rw [if_neg z] at h
      obtain ⟨b, h1, ⟨w, h2, h3⟩, fl⟩ := r'.own j y h
      obtain ⟨y0, h0⟩ := ownB j z y h
      exact ⟨b, h1, ⟨w, by rw [upd_ne (fun q => z (r.sep i j d y0 b hi h0 (by rw [q]; exact ha) h1))]; exact h2, h3.flat tx (hff j y h)⟩, fl⟩
  · have back : ∀ (j : Nat) (y : D), (env'.set i (Sl.own d))[j]? = some (Sl.own y) → ∃ y0, env[j]? = some (Sl.own y0) := fun j y h => by
      rw [set_get hl'] at h
      by_cases z : i = j
      · subst z; exact ⟨d, hi⟩
      · rw [if_neg z] at h
        exact ownB j z y h
    intro q1 q2
    obtain ⟨y0, g1⟩ := back j y h1
    obtain ⟨y1, g2⟩ := back k y' h2
    exact r.sep j k y0 y1 b g1 g2 q1 q2
  · obtain ⟨h1, y, h2⟩ := r.io b h
    refine ⟨h1, ?_⟩
    rw [set_get hl']
    by_cases z : i = 0
    · exact ⟨d, by rw [if_pos z]⟩
    · rw [if_neg z]
      exact (e.shp.2 0).1 y (by rw [set_get hl, if_neg z]; exact h2)
end
/-- the own things hold no list -/
def offF (env : En) : Bool := env.all fun s => match s with
  | .own y => y.ff
  | _ => true
theorem offF_get {env : En} (h : offF env = true) (j : Nat) (y : D) (q : env[j]? = some (.own y)) : y.ff = true := by
  have := List.all_eq_true.mp h _ (List.mem_of_getElem? q)
  exact this
def eLock (i : Nat) (f : Den) : Den := fun env => match env[i]? with
  | some (.own d) => (f (env.set i (.val d))).bind fun p => if p.1.flat && offF p.2 then .ok (p.1, p.2.set i (.own d)) else .stk
  | _ => .stk
def fLock (i : Nat) (f : Den) : Den := fun env => match env[i]? with
  | some (.own d) => (f (env.set i (.val d))).bind fun p => if p.1.ff && offF p.2 then .ok (p.1, p.2.set i (.own d)) else .stk
  | _ => .stk
section
variable {X : Cx} {W : WD} {e : Expr} {f : Den}
theorem de_lock (i : Nat) (h : DE X W e f) : DE X W e (eLock i f) := by
  refine pe_imp (pe_lock h) fun σ H Q hq => ?_
  obtain ⟨io, env, hr, hq⟩ := hq
  unfold eLock at hq
  split at hq
  · rename_i d hi
    obtain ⟨a, ha, ⟨u, hu, ho⟩, fl⟩ := hr.own i d hi
    refine ⟨a, u, hu, ho.mut, fun od => ⟨none, env.set i (.val d), lend hr hi ha hu ho, ?_⟩⟩
    cases z : f (env.set i (.val d)) with
    | stk => rw [z] at hq; exact hq
    | err c =>
      rw [z] at hq
      intro env' H' e' t'
      have hz : H' a = some (.frz od u) := e'.kp a _ upd_same trivial (lend_notOwn hr hi ha)
      refine hq env H' ⟨Shp.refl _, fun b o h t no => ?_, fun b o h => ?_⟩ t'
      · have n : b ≠ a := fun z => by subst z; exact no ⟨i, d, hi, ha⟩
        exact e'.kp b o (by rw [upd_ne n]; exact h) t fun y => no (lend_sub hi y)
      · by_cases n : b = a
        · exact ⟨_, by rw [n]; exact hz⟩
        · exact e'.dom b o (by rw [upd_ne n]; exact h)
    | ok p =>
      rw [z] at hq
      intro v H' e' r' p'
      dsimp only [R.bind] at hq
      by_cases hf : (p.1.flat && offF p.2) = true
      · rw [if_pos hf] at hq
        have hf := Bool.and_eq_true_iff.mp hf
        obtain ⟨hz, ev, rr, tx⟩ := lend_back hr hi ha hu ho e' r' (offF_get hf.2)
        exact ⟨hz, hq v _ ev rr (Rp.flat tx _ _ hf.1 p')⟩
      · rw [if_neg hf] at hq
        exact (show False from hq).elim
  · exact (show False from hq).elim
theorem df_lock (i : Nat) (h : DF X W e f) : DF X W e (fLock i f) := by
  refine pe_imp (pe_lock h) fun σ H Q hq => ?_
  obtain ⟨io, env, hr, hq⟩ := hq
  unfold fLock at hq
  split at hq
  · rename_i d hi
    obtain ⟨a, ha, ⟨u, hu, ho⟩, fl⟩ := hr.own i d hi
    refine ⟨a, u, hu, ho.mut, fun od => ⟨none, env.set i (.val d), lend hr hi ha hu ho, ?_⟩⟩
    cases z : f (env.set i (.val d)) with
    | stk => rw [z] at hq; exact hq
    | err c =>
      rw [z] at hq
      intro env' H' e' t'
      have hz : H' a = some (.frz od u) := e'.kp a _ upd_same trivial (lend_notOwn hr hi ha)
      refine hq env H' ⟨Shp.refl _, fun b o h t no => ?_, fun b o h => ?_⟩ t'
      · have n : b ≠ a := fun z => by subst z; exact no ⟨i, d, hi, ha⟩
        exact e'.kp b o (by rw [upd_ne n]; exact h) t fun y => no (lend_sub hi y)
      · by_cases n : b = a
        · exact ⟨_, by rw [n]; exact hz⟩
        · exact e'.dom b o (by rw [upd_ne n]; exact h)
    | ok p =>
      rw [z] at hq
      intro v H' e' r' p'
      dsimp only [R.bind] at hq
      by_cases hf : (p.1.ff && offF p.2) = true
      · rw [if_pos hf] at hq
        have hf := Bool.and_eq_true_iff.mp hf
        obtain ⟨hz, ev, rr, tx⟩ := lend_back hr hi ha hu ho e' r' (offF_get hf.2)
        obtain ⟨l, rfl, nl, w, hw, how⟩ := p'
        have nla : l ≠ a := fun z => by subst z; rw [upd_same] at nl; cases nl
        refine ⟨hz, hq _ _ ev rr ⟨l, rfl, ?_, w, by rw [upd_ne nla]; exact hw, how.flat tx hf.1⟩⟩
        rw [upd_ne nla] at nl
        exact nl
      · rw [if_neg hf] at hq
        exact (show False from hq).elim
  · exact (show False from hq).elim
end

/-! ### tests -/
def tst (f : Den) : DenT := fun env => (f env).bind fun p => match p.1 with
  | .bl b => .ok (b, p.2)
  | _ => .stk
def tAndD (f g : DenT) : DenT := fun env => (f env).bind fun x => if x.1 then g x.2 else .ok (false, x.2)
def tOrD (f g : DenT) : DenT := fun env => (f env).bind fun x => if x.1 then .ok (true, x.2) else g x.2
def tNotD (f : DenT) : DenT := fun env => (f env).bind fun x => .ok (!x.1, x.2)
def eAnd (f g : Den) : Den := fun env => (f env).bind fun x => match x.1 with
  | .bl true => g x.2
  | .bl false => .ok (.bl false, x.2)
  | _ => .stk
def eOr (f g : Den) : Den := fun env => (f env).bind fun x => match x.1 with
  | .bl true => .ok (.bl true, x.2)
  | .bl false => g x.2
  | _ => .stk
def eNot (f : Den) : Den := fun env => (f env).bind fun x => match x.1 with
  | .bl b => .ok (.bl (!b), x.2)
  | _ => .stk
def eIf (t : DenT) (f g : Den) : Den := fun env => (t env).bind fun x => if x.1 then f x.2 else g x.2
def eChain (p q : D → D → Option D) (fa fb fc : Den) : Den := fun env => (fa env).bind fun x => (fb x.2).bind fun y => (R.of (p x.1 y.1)).bind fun d => match d with
  | .bl true => (fc y.2).bind fun z => (R.of (q y.1 z.1)).bind fun d => .ok (d, z.2)
  | .bl false => .ok (.bl false, y.2)
  | _ => .stk
section
variable {K : PySem.W.Frag} {W : WD} {σ : L2.St} {H : Hp} {f g fa fb fc : Den} {t u : DenT}
theorem rd_tst {Q : Bool → Hp → Prop} (h : RdT K W (tst f) σ H Q) : RdE K W f σ H fun x H' => ∃ k, x = .bl k ∧ Q k H' := by
  obtain ⟨io, env, hr, h⟩ := h
  refine ⟨io, env, hr, Wp.bind h fun p v H1 q0 e1 r1 p1 h1 => ?_⟩
  clear q0
  obtain ⟨pd, pe⟩ := p
  cases pd <;> first
    | exact (show False from h1).elim
    | (rename_i b; exact ⟨b, by simpa [Rp] using p1, h1 b H1 (EvE.refl _ _ _) r1 rfl⟩)
theorem rd_and {Q : Bool → Hp → Prop} (h : RdT K W (tAndD t u) σ H Q) : tAnd (RdT K W t) (RdT K W u) σ H Q := by
  obtain ⟨io, env, hr, h⟩ := h
  refine ⟨io, env, hr, Wp.bind h fun p v H1 q0 e1 r1 p1 h1 => ?_⟩
  clear q0
  obtain ⟨pd, pe⟩ := p
  subst p1
  cases pd with
  | true => exact iteT (⟨io, pe, r1, h1⟩)
  | false => exact iteF (h1 false H1 (EvE.refl _ _ _) r1 rfl)
theorem rd_or {Q : Bool → Hp → Prop} (h : RdT K W (tOrD t u) σ H Q) : tOr (RdT K W t) (RdT K W u) σ H Q := by
  obtain ⟨io, env, hr, h⟩ := h
  refine ⟨io, env, hr, Wp.bind h fun p v H1 q0 e1 r1 p1 h1 => ?_⟩
  clear q0
  obtain ⟨pd, pe⟩ := p
  subst p1
  cases pd with
  | true => exact iteT (h1 true H1 (EvE.refl _ _ _) r1 rfl)
  | false => exact iteF (⟨io, pe, r1, h1⟩)
theorem rd_not {Q : Bool → Hp → Prop} (h : RdT K W (tNotD t) σ H Q) : tNot (RdT K W t) σ H Q := by
  obtain ⟨io, env, hr, h⟩ := h
  refine ⟨io, env, hr, Wp.bind h fun p v H1 _ e1 r1 p1 h1 => ?_⟩
  subst p1
  exact h1 (!p.1) H1 (EvE.refl _ _ _) r1 rfl
theorem rd_andV {Q : VK} (h : RdE K W (eAnd f g) σ H Q) : tAndV (RdE K W f) (RdE K W g) σ H Q := by
  obtain ⟨io, env, hr, h⟩ := h
  refine ⟨io, env, hr, Wp.bind h fun p v H1 q0 e1 r1 p1 h1 => ?_⟩
  clear q0
  obtain ⟨pd, pe⟩ := p
  cases pd <;> first
    | exact (show False from h1).elim
    | (rename_i b
       refine ⟨b, by simpa [Rp] using p1, ?_⟩
       cases b with
       | true => exact iteT (⟨io, pe, r1, h1⟩)
       | false => exact iteF (h1 (.bl false) H1 (EvE.refl _ _ _) r1 (by simp [Rp])))
theorem rd_orV {Q : VK} (h : RdE K W (eOr f g) σ H Q) : tOrV (RdE K W f) (RdE K W g) σ H Q := by
  obtain ⟨io, env, hr, h⟩ := h
  refine ⟨io, env, hr, Wp.bind h fun p v H1 q0 e1 r1 p1 h1 => ?_⟩
  clear q0
  obtain ⟨pd, pe⟩ := p
  cases pd <;> first
    | exact (show False from h1).elim
    | (rename_i b
       refine ⟨b, by simpa [Rp] using p1, ?_⟩
       cases b with
       | true => exact iteT (h1 (.bl true) H1 (EvE.refl _ _ _) r1 (by simp [Rp]))
       | false => exact iteF (⟨io, pe, r1, h1⟩))
theorem rd_notV {Q : VK} (h : RdE K W (eNot f) σ H Q) : tNotV (RdE K W f) σ H Q := by
  obtain ⟨io, env, hr, h⟩ := h
  refine ⟨io, env, hr, Wp.bind h fun p v H1 q0 e1 r1 p1 h1 => ?_⟩
  clear q0
  obtain ⟨pd, pe⟩ := p
  cases pd <;> first
    | exact (show False from h1).elim
    | (rename_i b
       exact ⟨b, by simpa [Rp] using p1, h1 (.bl (!b)) H1 (EvE.refl _ _ _) r1 (by simp [Rp])⟩)
theorem rd_if {Q : VK} (h : RdE K W (eIf t f g) σ H Q) : tIf (RdT K W t) (RdE K W f) (RdE K W g) σ H Q := by
  obtain ⟨io, env, hr, h⟩ := h
  refine ⟨io, env, hr, Wp.bind h fun p v H1 q0 e1 r1 p1 h1 => ?_⟩
  clear q0
  obtain ⟨pd, pe⟩ := p
  subst p1
  cases pd with
  | true => exact iteT (⟨io, pe, r1, h1⟩)
  | false => exact iteF (⟨io, pe, r1, h1⟩)
theorem rd_chain {r r' : R2} {p q : D → D → Option D} (hp : PrR2 K r p) (hq : PrR2 K r' q) {Q : VK} (h : RdE K W (eChain p q fa fb fc) σ H Q) : tChain r r' (RdE K W fa) (RdE K W fb) (RdE K W fc) σ H Q := by
  obtain ⟨io, env, hr, h⟩ := h
  refine ⟨io, env, hr, Wp.bind h fun x v H1 _ e1 r1 p1 h1 => ⟨io, x.2, r1, Wp.bind h1 fun y w H2 _ e2 r2 p2 h2 => ?_⟩⟩
  cases z : p x.1 y.1 with
  | none => rw [z] at h2; exact (show False from h2).elim
  | some d =>
    rw [z] at h2
    refine hp H2 v w x.1 y.1 d (Rp.ext (r1.fx e2) _ _ p1) p2 z _ fun z' H3 e3 rz => ?_
    have r3 := r2.ext e3
    cases d <;> first
      | exact (show False from h2).elim
      | (rename_i b
         refine ⟨b, by simpa [Rp] using rz, ?_⟩
         have h3 := Wp.fwd (EvE.ext e3 : EvE y.2 σ H2 y.2 H3) h2
         cases b with
         | true =>
           rw [if_pos rfl]
           refine ⟨io, y.2, r3, Wp.bind h3 fun c w' H4 _ e4 r4 p4 h4 => ?_⟩
           cases zq : q y.1 c.1 with
           | none => rw [zq] at h4; exact (show False from h4).elim
           | some d' =>
             rw [zq] at h4
             exact hq H4 w w' y.1 c.1 d' (Rp.ext (e3.fx.trans (r3.fx e4)) _ _ p2) p4 zq Q fun k H5 e5 rk => h4 k H5 (EvE.ext e5) (r4.ext e5) rk
         | false =>
           rw [if_neg (by decide)]
           exact h3 (.bl false) H3 (EvE.refl _ _ _) r3 (by simp [Rp]))
end
section
variable {X : Cx} {W : WD} {a b c e : Expr} {rest : List Expr} {f g fa fb fc : Den} {t u : DenT} {pos : Pos}
theorem dt_cmp {op : CmpOp} {r : R2} {p : D → D → Option D} (hp : PrR2 X.K r p) (ho : OpR X (compareOp op) r) (ha : DE X W a fa) (hb : DE X W b fb) (hm : behindInMarks op b = false) : DT X W (.Compare a [op] [b] pos) (tst (e2 p fa fb)) :=
  pt_imp (pt_cmpR ho ha hb hm) fun σ H Q h => rd_op hp (rd_tst h)
theorem dt_chain {op op' : CmpOp} {r r' : R2} {p q : D → D → Option D} (hp : PrR2 X.K r p) (hq : PrR2 X.K r' q) (ho : OpR X (compareOp op) r) (ho' : OpR X (compareOp op') r') (ha : DE X W a fa) (hb : DE X W b fb) (hc : DE X W c fc)
    (hm : lastMarks [op, op'] [b, c] = false := by with_unfolding_all rfl) : DT X W (.Compare a [op, op'] [b, c] pos) (tst (eChain p q fa fb fc)) :=
  pt_imp (pt_chain ho ho' ha hb hc hm) fun σ H Q h => rd_chain hp hq (rd_tst h)
theorem de_chain {op op' : CmpOp} {r r' : R2} {p q : D → D → Option D} (hp : PrR2 X.K r p) (hq : PrR2 X.K r' q) (ho : OpR X (compareOp op) r) (ho' : OpR X (compareOp op') r') (ha : DE X W a fa) (hb : DE X W b fb) (hc : DE X W c fc)
    (hm : lastMarks [op, op'] [b, c] = false := by with_unfolding_all rfl) : DE X W (.Compare a [op, op'] [b, c] pos) (eChain p q fa fb fc) :=
  pe_imp (pe_chain ho ho' ha hb hc hm) fun σ H Q h => rd_chain hp hq h
theorem dt_val (h : DE X W e f) (he : ∀ whole, isTrue e X.env whole = (do let v ← whole; standAt e.pos; holding [v] (truthy v)) := by intro _; rfl) : DT X W e (tst f) := pt_imp (pt_val h he) fun σ H Q h => rd_tst h
theorem dt_not (h : DT X W a t) : DT X W (.UnaryOp .Not a pos) (tNotD t) := pt_imp (pt_not h) fun σ H Q h => rd_not h
theorem dw_and1 (h : DT X W a t) : DW X W (.BoolOp .And [a] pos) t := pw_and1 h
theorem dw_or1 (h : DT X W a t) : DW X W (.BoolOp .Or [a] pos) t := pw_or1 h
theorem dw_and (h : DT X W a t) (k : DW X W (.BoolOp .And (b :: rest) pos) u) : DW X W (.BoolOp .And (a :: b :: rest) pos) (tAndD t u) := pw_imp (pw_and h k) fun σ H Q h => rd_and h
theorem dw_or (h : DT X W a t) (k : DW X W (.BoolOp .Or (b :: rest) pos) u) : DW X W (.BoolOp .Or (a :: b :: rest) pos) (tOrD t u) := pw_imp (pw_or h k) fun σ H Q h => rd_or h
theorem de_one {op} (h : DE X W a f) : DE X W (.BoolOp op [a] pos) f := pe_one h
theorem de_and (h : DE X W a f) (k : DE X W (.BoolOp .And (b :: rest) pos) g) : DE X W (.BoolOp .And (a :: b :: rest) pos) (eAnd f g) := pe_imp (pe_and h k) fun σ H Q h => rd_andV h
theorem de_or (h : DE X W a f) (k : DE X W (.BoolOp .Or (b :: rest) pos) g) : DE X W (.BoolOp .Or (a :: b :: rest) pos) (eOr f g) := pe_imp (pe_or h k) fun σ H Q h => rd_orV h
theorem de_not (h : DE X W a f) : DE X W (.UnaryOp .Not a pos) (eNot f) := pe_imp (pe_not h) fun σ H Q h => rd_notV h
theorem de_if (h : DT X W c t) (ha : DE X W a f) (hb : DE X W b g) : DE X W (.IfExp c a b pos) (eIf t f g) := pe_imp (pe_ifExp h ha hb) fun σ H Q h => rd_if h
end
end DL

/-! ## DLd -/
/-! DLd: statements. -/
namespace DL
open PySem PySem.Spec PyProof.Rows L2

inductive Fl where
  | nx | brk | cnt | ret (d : D)
abbrev DenS := En → R (Fl × En)
/-- what is handed back: a thing, or (fr) one that is new since the entry, not frozen -/
def RetOk (K : PySem.W.Frag) (fr : Bool) (io : Option Addr) (env : En) (σ : L2.St) (H H' : Hp) (d : D) (v : V) : Prop :=
  if fr then ∃ a, v = V.ref a ∧ ROwn K H' d a ∧ (H a = none ∨ (OwnA env σ a ∧ io ≠ some a)) else Rp K H' d v
def WpS (K : PySem.W.Frag) (W : WD) (fr : Bool) (io : Option Addr) (env : En) (σ : L2.St) (H : Hp) (r : R (Fl × En)) (D : Ends) : Prop :=
  match r with
  | .stk => False
  | .err c => ∀ env' σ' H', Ev env σ H env' σ' H' → LamX.Tabs W.T H' → W.f c H'
  | .ok (.nx, env') => ∀ σ' H', Ev env σ H env' σ' H' → Rel K W.T io env' σ' H' → D.nx σ' H'
  | .ok (.brk, env') => ∀ σ' H', Ev env σ H env' σ' H' → Rel K W.T io env' σ' H' → D.bk σ' H'
  | .ok (.cnt, env') => ∀ σ' H', Ev env σ H env' σ' H' → Rel K W.T io env' σ' H' → D.ct σ' H'
  | .ok (.ret d, env') => ∀ v σ' H', Ev env σ H env' σ' H' → Rel K W.T io env' σ' H' → RetOk K fr io env σ H H' d v → D.rt v H'
def RdS (K : PySem.W.Frag) (W : WD) (fr : Bool) (f : DenS) : TS := fun D σ H => ∃ io env, Rel K W.T io env σ H ∧ WpS K W fr io env σ H (f env) D
abbrev DS (X : Cx) (W : WD) (fr : Bool) (st : Stmt) (f : DenS) : Prop := PS X st (RdS X.K W fr f)
abbrev DSs (X : Cx) (W : WD) (fr : Bool) (sts : List Stmt) (f : DenS) : Prop := PSs X sts (RdS X.K W fr f)
theorem ps_imp {X : Cx} {e : Stmt} {t t' : TS} (h : PS X e t) (k : ∀ D σ H, t' D σ H → t D σ H) : PS X e t' := ⟨fun pins s σ H Q I q => h.run pins s σ H Q I (k Q σ H q)⟩
theorem pss_imp {X : Cx} {e : List Stmt} {t t' : TS} (h : PSs X e t) (k : ∀ D σ H, t' D σ H → t D σ H) : PSs X e t' := ⟨fun pins s σ H Q I q => h.run pins s σ H Q I (k Q σ H q)⟩
section
variable {α β : Type} {K : PySem.W.Frag} {W : WD} {fr : Bool} {io : Option Addr} {env env1 : En} {σ σ1 : L2.St} {H H1 : Hp} {P : Hp → α → β → Prop} {Q : β → Hp → Prop} {Dn : Ends}
theorem RetOk.back (e : Ev env σ H env1 σ1 H1) {H' : Hp} {d : D} {v : V} (h : RetOk K fr io env1 σ1 H1 H' d v) : RetOk K fr io env σ H H' d v := by
  unfold RetOk at h ⊢
  cases fr with
  | false => exact h
  | true =>
    rw [if_pos rfl] at h ⊢
    obtain ⟨a, h1, h2, h3⟩ := h
    refine ⟨a, h1, h2, ?_⟩
    cases z : H a with
    | none => exact .inl rfl
    | some o =>
      rcases h3 with h3 | ⟨h3, h4⟩
      · obtain ⟨o', h'⟩ := e.dom a o z
        rw [h3] at h'; cases h'
      · by_cases q : OwnA env σ a
        · exact .inr ⟨q, h4⟩
        · exact absurd h3 (e.kp a o z q).2
theorem WpS.fwd {r : R (Fl × En)} (e : Ev env σ H env1 σ1 H1) (h : WpS K W fr io env σ H r Dn) : WpS K W fr io env1 σ1 H1 r Dn := by
  cases r with
  | stk => exact h
  | err c => exact fun env' σ' H' e' t' => h env' σ' H' (e.trans e') t'
  | ok p =>
    obtain ⟨f, env'⟩ := p
    cases f with
    | nx => exact fun σ' H' e' => h σ' H' (e.trans e')
    | brk => exact fun σ' H' e' => h σ' H' (e.trans e')
    | cnt => exact fun σ' H' e' => h σ' H' (e.trans e')
    | ret d => exact fun v σ' H' e' r' q => h v σ' H' (e.trans e') r' (q.back e)
theorem WpS.bindE {r : R (α × En)} {k : α × En → R (Fl × En)} (h : WpS K W fr io env σ H (r.bind k) Dn)
    (go : ∀ p b H', EvE env σ H p.2 H' → Rel K W.T io p.2 σ H' → P H' p.1 b → WpS K W fr io p.2 σ H' (k p) Dn → Q b H') : Wp K W io env σ H r P Q := by
  cases r with
  | stk => exact h
  | err c => exact fun env' H' e t' => h env' σ H' e.ev t'
  | ok p => exact fun b H' e' r' p' => go p b H' e' r' p' (WpS.fwd e'.ev h)
/-- one statement, then more -/
theorem WpS.seq {r : R (Fl × En)} {g : DenS} (h : WpS K W fr io env σ H (r.bind fun x => match x.1 with | .nx => g x.2 | o => .ok (o, x.2)) Dn) : WpS K W fr io env σ H r { Dn with nx := RdS K W fr g Dn } := by
  cases r with
  | stk => exact h
  | err c => exact h
  | ok p =>
    obtain ⟨f, env'⟩ := p
    cases f with
    | nx => exact fun σ' H' e r => ⟨io, env', r, WpS.fwd e h⟩
    | brk => exact h
    | cnt => exact h
    | ret d => exact h
end

def sNx : DenS := fun env => .ok (.nx, env)
def sBrk : DenS := fun env => .ok (.brk, env)
def sCnt : DenS := fun env => .ok (.cnt, env)
def sSeq (f g : DenS) : DenS := fun env => (f env).bind fun x => match x.1 with
  | .nx => g x.2
  | o => .ok (o, x.2)
def notMy (env : En) (i : Nat) : Bool := match env[i]? with
  | some (.own _) => false
  | some _ => true
  | none => false
/-- the slot gets a thing -/
def putV (i : Nat) (d : D) (env : En) : Option En := if notMy env i then some (env.set i (.val d)) else none
def sSet (i : Nat) (f : Den) : DenS := fun env => (f env).bind fun x => (R.of (putV i x.1 x.2)).bind fun e => .ok (.nx, e)
/-- the slot gets an own thing -/
def putO (i : Nat) (d : D) (env : En) : Option En := if d.fl && decide (i < env.length) then some (env.set i (.own d)) else none
def sOwn (i : Nat) (f : Den) : DenS := fun env => (f env).bind fun x => (R.of (putO i x.1 x.2)).bind fun e => .ok (.nx, e)
theorem putV_some {i : Nat} {d : D} {env e : En} (h : putV i d env = some e) : notMy env i = true ∧ e = env.set i (.val d) := by
  unfold putV at h
  split at h
  · cases h; exact ⟨by assumption, rfl⟩
  · cases h
theorem putO_some {i : Nat} {d : D} {env e : En} (h : putO i d env = some e) : d.fl = true ∧ i < env.length ∧ e = env.set i (.own d) := by
  unfold putO at h
  split at h
  · rename_i hc
    simp only [Bool.and_eq_true, decide_eq_true_eq] at hc
    cases h; exact ⟨hc.1, hc.2, rfl⟩
  · cases h
def sExp (f : Den) : DenS := fun env => (f env).bind fun x => .ok (.nx, x.2)
def sRet (f : Den) : DenS := fun env => (f env).bind fun x => .ok (.ret x.1, x.2)
def sRetN : DenS := fun env => .ok (.ret .non, env)
/-- an own thing of the def's handed back -/
def sRetO (i : Nat) : DenS := fun env => match env[i]? with
  | some (.own d) => .ok (.ret d, env)
  | _ => .stk
def sIf (t : DenT) (f g : DenS) : DenS := fun env => (t env).bind fun x => if x.1 then f x.2 else g x.2

/-! ### storing -/
section
variable {K : PySem.W.Frag} {T : List (Addr × Str)} {io : Option Addr} {env : En} {σ : L2.St} {H : Hp} {i : Nat} {d : D} {v : V}
theorem notMy_lt (h : notMy env i = true) : i < env.length ∧ ∀ d, env[i]? ≠ some (.own d) := by
  unfold notMy at h
  split at h
  · cases h
  · rename_i s hs q
    exact ⟨lt_of_get q, fun d z => hs d (by rw [q] at z; exact Option.some.inj z)⟩
  · cases h
theorem Rel.setV (r : Rel K T io env σ H) (h : notMy env i = true) (p : Rp K H d v) : Rel K T io (env.set i (.val d)) (σ.set i (some v)) H ∧ Ev env σ H (env.set i (.val d)) (σ.set i (some v)) H := by
  obtain ⟨hl, hn⟩ := notMy_lt h
  have hσ : i < σ.length := by rw [← r.len]; exact hl
  have gσ : ∀ j, (σ.set i (some v))[j]? = if i = j then some (some v) else σ[j]? := fun j => by
    rw [List.getElem?_set]
    by_cases e : i = j
    · subst e; simp [hσ]
    · simp [e]
  have back : ∀ (j : Nat) (y : D), (env.set i (.val d))[j]? = some (.own y) → i ≠ j ∧ env[j]? = some (.own y) := fun j y q => by
    rw [set_get hl] at q
    by_cases z : i = j
    · subst z; simp at q
    · rw [if_neg z] at q; exact ⟨z, q⟩
  refine ⟨⟨by rw [List.length_set, List.length_set]; exact r.len, fun j x q => ?_, fun j x q => ?_, fun j k x y b q1 q2 s1 s2 => ?_, fun b q => ?_, r.tab⟩, ⟨fun b o q n => ⟨fun _ => q, ?_⟩, fun b o q => ⟨o, q⟩⟩⟩
  · rw [set_get hl] at q
    rw [gσ]
    by_cases z : i = j
    · subst z
      rw [if_pos rfl] at q ⊢
      cases q
      exact ⟨v, rfl, p⟩
    · rw [if_neg z] at q ⊢
      exact r.val j x q
  · obtain ⟨z, q⟩ := back j x q
    rw [gσ, if_neg z]
    exact r.own j x q
  · obtain ⟨z1, q1⟩ := back j x q1
    obtain ⟨z2, q2⟩ := back k y q2
    rw [gσ, if_neg z1] at s1
    rw [gσ, if_neg z2] at s2
    exact r.sep j k x y b q1 q2 s1 s2
  · obtain ⟨q1, y, q2⟩ := r.io b q
    have z : i ≠ 0 := fun z => by subst z; exact hn y q2
    rw [gσ, set_get hl, if_neg z, if_neg z]
    exact ⟨q1, y, q2⟩
  · rintro ⟨j, x, q1, q2⟩
    obtain ⟨z, q1⟩ := back j x q1
    rw [gσ, if_neg z] at q2
    exact n ⟨j, x, q1, q2⟩
theorem Rel.setO (r : Rel K T io env σ H) (hl : i < env.length) (h0 : i ≠ 0) {a : Addr} (fl : d.fl = true) (p : ROwn K H d a) (na : ∀ (j : Nat) (y : D), env[j]? = some (Sl.own y) → σ[j]? ≠ some (some (.ref a))) : Rel K T io (env.set i (.own d)) (σ.set i (some (.ref a))) H := by
  have hσ : i < σ.length := by rw [← r.len]; exact hl
  have gσ : ∀ j, (σ.set i (some (V.ref a)))[j]? = if i = j then some (some (.ref a)) else σ[j]? := fun j => by
    rw [List.getElem?_set]
    by_cases e : i = j
    · subst e; simp [hσ]
    · simp [e]
  refine ⟨by rw [List.length_set, List.length_set]; exact r.len, fun j x q => ?_, fun j x q => ?_, fun j k x y b q1 q2 s1 s2 => ?_, fun b q => ?_, r.tab⟩
  · rw [set_get hl] at q
    rw [gσ]
    by_cases z : i = j
    · subst z; simp at q
    · rw [if_neg z] at q ⊢
      exact r.val j x q
  · rw [set_get hl] at q
    rw [gσ]
    by_cases z : i = j
    · rw [if_pos z] at q ⊢
      cases q
      exact ⟨a, rfl, p, fl⟩
    · rw [if_neg z] at q ⊢
      exact r.own j x q
  · rw [set_get hl] at q1 q2
    rw [gσ] at s1 s2
    by_cases z1 : i = j
    · by_cases z2 : i = k
      · exact z1.symm.trans z2
      · rw [if_pos z1] at s1
        rw [if_neg z2] at s2 q2
        cases s1
        exact absurd s2 (na k y q2)
    · rw [if_neg z1] at q1 s1
      by_cases z2 : i = k
      · rw [if_pos z2] at s2
        cases s2
        exact absurd s1 (na j x q1)
      · rw [if_neg z2] at q2 s2
        exact r.sep j k x y b q1 q2 s1 s2
  · obtain ⟨q1, y, q2⟩ := r.io b q
    rw [gσ, set_get hl, if_neg h0, if_neg h0]
    exact ⟨q1, y, q2⟩
theorem own_set_sub {a b : Addr} (hl : i < env.length) (len : env.length = σ.length) (h : OwnA (env.set i (.own d)) (σ.set i (some (.ref a))) b) : b = a ∨ OwnA env σ b := by
  obtain ⟨j, x, q1, q2⟩ := h
  rw [set_get hl] at q1
  rw [List.getElem?_set] at q2
  by_cases z : i = j
  · subst z
    simp [show i < σ.length by rw [← len]; exact hl] at q2
    exact .inl q2.symm
  · rw [if_neg z] at q1 q2
    exact .inr ⟨j, x, q1, q2⟩
end

section
variable {X : Cx} {W : WD} {fr : Bool} {e : Expr} {st : Stmt} {sts a b : List Stmt} {f g : Den} {F G : DenS} {t : DenT} {pos pos' : Pos} {x : Str} {i : Nat}
theorem dss_nil : DSs X W fr [] sNx := pss_imp pss_nil fun D σ H ⟨io, env, r, h⟩ => h σ H (Ev.refl _ _ _) r
theorem dss_cons (h : DS X W fr st F) (k : DSs X W fr sts G) : DSs X W fr (st :: sts) (sSeq F G) := pss_imp (pss_cons h k) fun D σ H ⟨io, env, r, q⟩ => ⟨io, env, r, WpS.seq q⟩
theorem dss_one (h : DS X W fr st F) : DSs X W fr [st] F := pss_one h
theorem ds_pass : DS X W fr (.Pass pos) sNx := ps_imp ps_pass fun D σ H ⟨io, env, r, h⟩ => h σ H (Ev.refl _ _ _) r
theorem ds_break : DS X W fr (.Break pos) sBrk := ps_imp ps_break fun D σ H ⟨io, env, r, h⟩ => h σ H (Ev.refl _ _ _) r
theorem ds_continue : DS X W fr (.Continue pos) sCnt := ps_imp ps_continue fun D σ H ⟨io, env, r, h⟩ => h σ H (Ev.refl _ _ _) r
theorem ds_doc {z j} : DS X W fr (.Expr (.Constant (.str z) j pos) pos') sNx := ps_imp ps_doc fun D σ H ⟨io, env, r, h⟩ => h σ H (Ev.refl _ _ _) r
theorem ds_expr (h : DE X W e f) (hs : swapsWith e none pos.line X.env = pure false := by rfl) : DS X W fr (.Expr e pos) (sExp f) :=
  ps_imp (ps_expr h hs) fun D σ H ⟨io, env, r, q⟩ => ⟨io, env, r, WpS.bindE q fun p b H' _ r' _ h' => h' σ H' (Ev.refl _ _ _) r'⟩
theorem ds_ret (h : DE X W e f) : DS X W false (.Return (some e) pos) (sRet f) :=
  ps_imp (ps_ret h) fun D σ H ⟨io, env, r, q⟩ => ⟨io, env, r, WpS.bindE q fun p v H' _ r' p' h' => h' v σ H' (Ev.refl _ _ _) r' p'⟩
theorem ds_retN : DS X W false (.Return none pos) sRetN :=
  ps_imp ps_retN fun D σ H ⟨io, env, r, q⟩ => q .non σ H (Ev.refl _ _ _) r (by unfold RetOk; simp [Rp])
theorem ds_retF (h : DF X W e f) : DS X W true (.Return (some e) pos) (sRet f) := by
  refine ps_imp (ps_ret h) fun D σ H ⟨io, env, r, q⟩ => ⟨io, env, r, ?_⟩
  cases z : f env with
  | stk => rw [show sRet f env = (f env).bind _ from rfl, z] at q; exact q
  | err c =>
    rw [show sRet f env = (f env).bind _ from rfl, z] at q
    exact fun env' H' ev t' => q env' σ H' ev.ev t'
  | ok p =>
    rw [show sRet f env = (f env).bind _ from rfl, z] at q
    intro v H' ev r' p'
    obtain ⟨l, rfl, nl, ow⟩ := p'
    exact q _ σ H' ev.ev r' (by unfold RetOk; rw [if_pos rfl]; exact ⟨l, rfl, ow, .inl nl⟩)
theorem ds_retO (i : Nat) (h0 : i ≠ 0 := by decide) (hN : X.N[i]? = some x := by rfl) (hv : Vis X.env.scope x := by first | exact Or.inl rfl | exact Or.inr (Or.inl rfl) | exact Or.inr (Or.inr rfl)) (hd : (x == ("__debug__" : Str)) = false := by decide)
    (hcd : (x == ("__classdict__" : Str)) = false := by decide) : DS X W true (.Return (some (.Name x pos)) pos') (sRetO i) := by
  refine ps_imp (ps_ret (pe_var hN hv hd hcd)) fun D σ H ⟨io, env, r, q⟩ => ?_
  unfold sRetO at q
  split at q
  · rename_i d hi
    obtain ⟨l, h1, h2, fl⟩ := r.own i d hi
    refine ⟨.ref l, h1, q _ σ H (Ev.refl _ _ _) r ?_⟩
    unfold RetOk
    rw [if_pos rfl]
    refine ⟨l, rfl, h2, .inr ⟨⟨i, d, hi, h1⟩, fun z => ?_⟩⟩
    obtain ⟨q1, y, q2⟩ := r.io l z
    exact h0 (r.sep i 0 d y l hi q2 h1 q1)
  · exact (show False from q).elim
theorem ds_if {c : Expr} (hc : DT X W c t) (ha : DSs X W fr a F) (hb : DSs X W fr b G) : DS X W fr (.If c a b pos) (sIf t F G) := by
  refine ps_imp (ps_if hc ha hb) fun D σ H ⟨io, env, r, q⟩ => ⟨io, env, r, WpS.bindE q fun p v H' _ r' p' h' => ?_⟩
  obtain ⟨pd, pe⟩ := p
  subst p'
  cases pd with
  | true => exact iteT ⟨io, pe, r', h'⟩
  | false => exact iteF ⟨io, pe, r', h'⟩
theorem rd_set {D : Ends} {σ : L2.St} {H : Hp} (h : RdS X.K W fr (sSet i f) D σ H) : tAsg (RdE X.K W f) (gName i) D σ H := by
  obtain ⟨io, env, r, q⟩ := h
  refine ⟨io, env, r, WpS.bindE q fun p v H' _ r' p' h' => ?_⟩
  cases zz : putV i p.1 p.2 with
  | none => rw [zz] at h'; exact (show False from h').elim
  | some e =>
    rw [zz] at h'
    obtain ⟨hn, rfl⟩ := putV_some zz
    obtain ⟨q1, q2⟩ := r'.setV hn p'
    exact h' _ H' q2 q1
theorem rd_own {D : Ends} {σ : L2.St} {H : Hp} (h0 : i ≠ 0) (h : RdS X.K W fr (sOwn i f) D σ H) : tAsg (RdF X.K W f) (gName i) D σ H := by
  obtain ⟨io, env, r, q⟩ := h
  refine ⟨io, env, r, ?_⟩
  cases z : f env with
  | stk => rw [show sOwn i f env = (f env).bind _ from rfl, z] at q; exact q
  | err c =>
    rw [show sOwn i f env = (f env).bind _ from rfl, z] at q
    exact fun env' H' ev t' => q env' σ H' ev.ev t'
  | ok p =>
    rw [show sOwn i f env = (f env).bind _ from rfl, z] at q
    intro v H' ev r' p'
    obtain ⟨l, rfl, nl, ow⟩ := p'
    rw [R.bind_ok] at q
    cases zz : putO i p.1 p.2 with
    | none => rw [zz] at q; exact (show False from q).elim
    | some e =>
      rw [zz] at q
      obtain ⟨hc1, hc2, rfl⟩ := putO_some zz
      have hc : p.1.fl = true ∧ i < p.2.length := ⟨hc1, hc2⟩
      have na : ∀ (j : Nat) (y : DL.D), p.2[j]? = some (Sl.own y) → σ[j]? ≠ some (some (.ref l)) := fun j y h1 h2 => by
        obtain ⟨y0, h0⟩ := ev.shp.back h1
        obtain ⟨b, g1, ⟨u, g2, _⟩, _⟩ := r.own j y0 h0
        rw [h2] at g1; cases g1
        rw [nl] at g2; cases g2
      have r2 := r'.setO hc.2 h0 hc.1 ow na
      refine q _ H' ⟨fun b o hb hn => ⟨fun t => ev.kp b o hb t hn, fun y => ?_⟩, ev.dom⟩ r2
      rcases own_set_sub hc.2 r'.len y with rfl | y
      · rw [nl] at hb; cases hb
      · exact hn (ev.shp.ownA.mp y)
theorem ds_set (i : Nat) (hN : X.N.Nodup) (h : DE X W e f) (hi : X.N[i]? = some x := by rfl) (hx : Loc X.env.scope x := by first | exact Or.inl rfl | exact Or.inr rfl) (hs : swapsWith e (some (.Name x pos')) pos.line X.env = pure false := by rfl) (hf : X.fn x = true ∨ X.env.scope.names.lookup x = some .local := by first | exact .inl rfl | exact .inr rfl) :
    DS X W fr (.Assign [.Name x pos'] e pos) (sSet i f) := ps_imp (ps_set hN hi hx h hs hf) fun D σ H q => rd_set q
theorem ds_own (i : Nat) (hN : X.N.Nodup) (h : DF X W e f) (h0 : i ≠ 0 := by decide) (hi : X.N[i]? = some x := by rfl) (hx : Loc X.env.scope x := by first | exact Or.inl rfl | exact Or.inr rfl) (hs : swapsWith e (some (.Name x pos')) pos.line X.env = pure false := by rfl) (hf : X.fn x = true ∨ X.env.scope.names.lookup x = some .local := by first | exact .inl rfl | exact .inr rfl) :
    DS X W fr (.Assign [.Name x pos'] e pos) (sOwn i f) := ps_imp (ps_set hN hi hx h hs hf) fun D σ H q => rd_own h0 q
/-- the slot's new thing is frozen behind the store -/
theorem ds_setFz (h : ∀ t, (∀ D σ H, t D σ H → tAsg (RdF X.K W f) (gName i) D σ H) → PS X st t) : DS X W fr st (sSet i f) := by
  refine ⟨fun pins s σ H D I q => ?_⟩
  let D' : Ends := { nx := fun σ' H' => ∃ l u, H' l = some u ∧ Mut (some u) ∧ ∀ od, D.nx σ' (upd H' l (.frz od u)), rt := D.rt, bk := D.bk, ct := D.ct }
  refine thn ((h (fun D2 σ2 H2 => tAsg (RdF X.K W f) (gName i) D2 σ2 H2) (fun _ _ _ z => z)).run pins s σ H D' I ?_) fun fl s1 hs => ?_
  · obtain ⟨io, env, r, q⟩ := q
    refine ⟨io, env, r, ?_⟩
    cases z : f env with
    | stk => rw [show sSet i f env = (f env).bind _ from rfl, z] at q; exact q
    | err c =>
      rw [show sSet i f env = (f env).bind _ from rfl, z] at q
      exact fun (env' : En) (H' : Hp) (ev : EvE env σ H env' H') t' => q env' σ H' ev.ev t'
    | ok p =>
      rw [show sSet i f env = (f env).bind _ from rfl, z] at q
      intro v H' ev r' p'
      obtain ⟨l, rfl, nl, u, hu, how⟩ := p'
      refine ⟨l, u, hu, how.mut, fun od => ?_⟩
      have no : ¬ OwnA p.2 σ l := fun y => by
        obtain ⟨j, d, y1, y2⟩ := ev.shp.ownA.mp y
        obtain ⟨b, y3, ⟨w, y4, _⟩, _⟩ := r.own j d y1
        rw [y2] at y3; cases y3
        rw [nl] at y4; cases y4
      have nf : ∀ o, H' l = some o → ¬ Frm o := fun o ho' => by
        rw [hu] at ho'; cases ho'; exact how.notFrm
      have r2 : Rel X.K W.T io p.2 σ (upd H' l (.frz od u)) := r'.upd_new nf (fun o z => by rw [hu] at z; cases z; exact how.nc) no
      have fx : FExt H' (upd H' l (.frz od u)) := fun b o h f => by
        rw [upd_ne (fun z => by subst z; exact nf o h f)]; exact h
      rw [R.bind_ok] at q
      cases zz : putV i p.1 p.2 with
      | none => rw [zz] at q; exact (show False from q).elim
      | some e =>
        rw [zz] at q
        obtain ⟨hn, rfl⟩ := putV_some zz
        obtain ⟨q1, q2⟩ := r2.setV hn (Rp.of_frz (how.ext fx) upd_same)
        refine q _ _ (Ev.trans (e2 := p.2) (s2 := σ) (H2 := upd H' l (.frz od u)) ⟨fun b o hb hn => ⟨fun t => ?_, fun y => hn (ev.shp.ownA.mp y)⟩, fun b o hb => ?_⟩ q2) q1
        · rw [upd_ne (ne_of_none hb nl)]; exact ev.kp b o hb t hn
        · rw [upd_ne (ne_of_none hb nl)]; exact ev.dom b o hb
  · cases fl with
    | next =>
      obtain ⟨σ', H', I2, l, u, eu, mu, q2⟩ := hs
      obtain ⟨od, I3⟩ := I2.lock eu mu
      exact ⟨σ', _, I3, q2 od⟩
    | brk => exact hs
    | cont => exact hs
    | ret v => exact hs
end
end DL

/-! ## DLe -/
/-! DLe: targets, what is walked, for, while, list comprehensions. -/
namespace DL
open PySem PySem.Spec PyProof.Rows L2

/-- a target: a slot, or a tuple of targets -/
inductive Pt where
  | nm (i : Nat) | tu (ps : List Pt)
mutual
def Pt.asg : Pt → D → En → Option En
  | .nm i, d, env => putV i d env
  | .tu ps, .tup _ ds, env => asgL ps ds env
  | .tu _, _, _ => none
def asgL : List Pt → List D → En → Option En
  | [], [], env => some env
  | p :: ps, d :: ds, env => (p.asg d env).bind fun e => asgL ps ds e
  | _, _, _ => none
end
mutual
def Pt.slots : Pt → List Nat
  | .nm i => [i]
  | .tu ps => slotsL ps
def slotsL : List Pt → List Nat
  | [] => []
  | p :: ps => p.slots ++ slotsL ps
end
def OffS (vs : List Nat) (σ σ' : L2.St) : Prop := σ'.length = σ.length ∧ ∀ j, j ∉ vs → σ'[j]? = σ[j]?
theorem OffS.refl (vs : List Nat) (σ : L2.St) : OffS vs σ σ := ⟨rfl, fun _ _ => rfl⟩
def RdG (K : PySem.W.Frag) (p : Pt) : TG := fun v σ H Q => ∃ T io env d env', Rel K T io env σ H ∧ Rp K H d v ∧ p.asg d env = some env' ∧ ∀ σ', Rel K T io env' σ' H → Ev env σ H env' σ' H → OffS p.slots σ σ' → Q σ' H
def RdGs (K : PySem.W.Frag) (ps : List Pt) : TGs := fun vs σ H Q => ∃ T io env ds env', Rel K T io env σ H ∧ RpL K H ds vs ∧ asgL ps ds env = some env' ∧ ∀ σ', Rel K T io env' σ' H → Ev env σ H env' σ' H → OffS (slotsL ps) σ σ' → Q σ' H
abbrev DG (X : Cx) (e : Expr) (p : Pt) : Prop := PG X e (RdG X.K p)
abbrev DGs (X : Cx) (es : List Expr) (ps : List Pt) : Prop := PGs X es (RdGs X.K ps)
theorem pg_imp {X : Cx} {e : Expr} {t t' : TG} (h : PG X e t) (k : ∀ v σ H Q, t' v σ H Q → t v σ H Q) : PG X e t' := ⟨fun pins s σ H v u Q I r q => h.run pins s σ H v u Q I r (k v σ H Q q)⟩
theorem pgs_imp {X : Cx} {e : List Expr} {t t' : TGs} (h : PGs X e t) (k : ∀ v σ H Q, t' v σ H Q → t v σ H Q) : PGs X e t' := ⟨fun pins s σ H v u Q I r q => h.run pins s σ H v u Q I r (k v σ H Q q)⟩
section
variable {X : Cx} {x : Str} {pos : Pos} {e : Expr} {es : List Expr} {p : Pt} {ps : List Pt} {i : Nat}
theorem dg_nm (i : Nat) (hN : X.N.Nodup) (hi : X.N[i]? = some x := by rfl) (hx : Loc X.env.scope x := by first | exact Or.inl rfl | exact Or.inr rfl) (hf : X.fn x = true ∨ X.env.scope.names.lookup x = some .local := by first | exact .inl rfl | exact .inr rfl) : DG X (.Name x pos) (.nm i) := by
  refine pg_imp (pg_name hN hi hx hf) fun v σ H Q h => ?_
  obtain ⟨T, io, env, d, env', r, rp, ha, q⟩ := h
  obtain ⟨hn, rfl⟩ := putV_some (show putV i d env = some env' from ha)
  obtain ⟨q1, q2⟩ := r.setV hn rp
  refine q _ q1 q2 ⟨by rw [List.length_set], fun j hj => ?_⟩
  rw [List.getElem?_set_ne (fun z => hj (by subst z; exact List.mem_singleton.mpr rfl))]
theorem dgs_nil : DGs X [] [] := by
  refine pgs_imp pgs_nil fun v σ H Q h => ?_
  obtain ⟨T, io, env, ds, env', r, rp, ha, q⟩ := h
  cases ds with
  | nil =>
    simp only [RpL] at rp
    simp only [asgL, Option.some.injEq] at ha
    subst ha
    exact ⟨rp, q σ r (Ev.refl _ _ _) (OffS.refl _ _)⟩
  | cons d ds => simp [asgL] at ha
theorem dgs_cons (h : DG X e p) (k : DGs X es ps) (hs : (assignEach (e :: es) X.env).map (·.2) = assign e X.env :: (assignEach es X.env).map (·.2) := by rfl) : DGs X (e :: es) (p :: ps) := by
  refine pgs_imp (pgs_cons h k hs) fun v σ H Q h => ?_
  obtain ⟨T, io, env, ds, env', r, rp, ha, q⟩ := h
  cases ds with
  | nil => simp [asgL] at ha
  | cons d ds =>
    simp only [RpL] at rp
    obtain ⟨w, rest, e1, rp1, rp2⟩ := rp
    simp only [asgL] at ha
    cases z : p.asg d env with
    | none => rw [z] at ha; cases ha
    | some env1 =>
      rw [z] at ha
      refine ⟨w, rest, e1, T, io, env, d, env1, r, rp1, z, fun σ1 r1 ev1 o1 => ⟨T, io, env1, ds, env', r1, rp2, ha, fun σ2 r2 ev2 o2 => ?_⟩⟩
      refine q σ2 r2 (ev1.trans ev2) ⟨o2.1.trans o1.1, fun j hj => ?_⟩
      have hj : j ∉ p.slots ++ slotsL ps := hj
      rw [o2.2 j fun z => hj (List.mem_append_right _ z), o1.2 j fun z => hj (List.mem_append_left _ z)]
theorem dg_tu {k} (hc : X.calm = true) (h : DGs X es ps) (hl : ps.length = es.length := by rfl) (hn : (assignEach es X.env).length = es.length := by rfl) (hst : (assignEach es X.env).findIdx? (·.1) = none := by rfl) : DG X (.Tuple es k pos) (.tu ps) := by
  refine pg_imp (pg_tup hc h hn hst) fun v σ H Q h => ?_
  obtain ⟨T, io, env, d, env', r, rp, ha, q⟩ := h
  cases d with
  | tup tb ds =>
    simp only [Rp] at rp
    obtain ⟨a, vs, e1, e2, rp⟩ := rp
    have lens : ∀ (ps : List Pt) (ds : List D) (env env' : En), asgL ps ds env = some env' → ds.length = ps.length := by
      intro ps
      induction ps with
      | nil => intro ds env env' h; cases ds with
        | nil => rfl
        | cons _ _ => simp [asgL] at h
      | cons p ps ih => intro ds env env' h; cases ds with
        | nil => simp [asgL] at h
        | cons d ds =>
          simp only [asgL] at h
          cases z : p.asg d env with
          | none => rw [z] at h; cases h
          | some e => rw [z] at h; rw [List.length_cons, List.length_cons, ih _ _ _ h]
    refine ⟨a, vs, e1, e2.sq, ?_, T, io, env, ds, env', r, rp, ha, q⟩
    rw [rp.length, lens _ _ _ _ ha, hl]
  | _ => simp [Pt.asg] at ha
end

/-! ### what is walked -/
def Wk (K : PySem.W.Frag) (J : It) (xs : List D) (H : Hp) : Prop :=
  ∀ Ha, FExt H Ha → (∀ i, i < xs.length → J.go i Ha) ∧ J.stop xs.length Ha ∧ ∀ i d x Hb, xs[i]? = some d → J.yld i Ha x Hb → Ext Ha Hb ∧ Rp K Hb d x
def RdI (K : PySem.W.Frag) (W : WD) (f : DenL) : TI := fun σ H Rr => ∃ io env, Rel K W.T io env σ H ∧ Wp K W io env σ H (f env) (fun H' xs J => Wk K J xs H') Rr
abbrev DI (X : Cx) (W : WD) (tg e : Expr) (f : DenL) : Prop := PI X tg e (RdI X.K W f)
theorem pi_imp {X : Cx} {tg e : Expr} {t t' : TI} (h : PI X tg e t) (k : ∀ σ H Q, t' σ H Q → t σ H Q) : PI X tg e t' := ⟨fun pins s σ H Q I q => h.run pins s σ H Q I (k σ H Q q)⟩
/-- the things of a list, of a tuple -/
def itL (f : Den) : DenL := fun env => (f env).bind fun x => match x.1 with
  | .lst ds => .ok (ds, x.2)
  | _ => .stk
def rgI (lo : Int) (n : Nat) : List D := (List.range n).map fun (i : Nat) => D.int (lo + (i : Int))
def small (i : Int) : Bool := decide (-1000000 ≤ i ∧ i ≤ 1000000)
def itR1 (F : DenL) : DenL := fun env => (F env).bind fun x => match x.1 with
  | [.int j] => if small j then .ok (rgI 0 j.toNat, x.2) else .stk
  | _ => .stk
def itR2 (F : DenL) : DenL := fun env => (F env).bind fun x => match x.1 with
  | [.int i, .int j] => if small i && small j then .ok (rgI i (j - i).toNat, x.2) else .stk
  | _ => .stk
theorem small_le {i : Int} (h : small i = true) : -(2 ^ 62) ≤ i ∧ i < 2 ^ 62 := by
  unfold small at h
  have := of_decide_eq_true h
  omega
section
variable {X : Cx} {W : WD} {tg e a b : Expr} {f : Den} {F : DenL} {p pos : Pos}
theorem wk_list {K : PySem.W.Frag} {H : Hp} {l : Addr} {ds : List D} {vs : List V} (h : FzL K H l vs) (hr : RpL K H ds vs) : Wk K (Itl K l) ds H := fun Ha e => by
  have hs := (h.ext e).sq
  have hl := hr.length
  refine ⟨fun i hi => ⟨vs, vs[i]'(by omega), hs, by simp⟩, ⟨vs, hs, by omega⟩, fun i d x Hb hd y => ?_⟩
  obtain ⟨rfl, y⟩ := y
  obtain ⟨v, h1, h2⟩ := hr.get hd
  have := (y vs hs).symm.trans h1
  cases this
  exact ⟨Ext.refl _, Rp.ext e _ _ h2⟩
theorem di_list (h : DE X W e f) : DI X W tg e (itL f) := by
  refine pi_imp (pi_list h) fun σ H Q hq => ?_
  obtain ⟨io, env, hr, hq⟩ := hq
  refine ⟨io, env, hr, Wp.bind hq fun x v H1 q0 e1 r1 p1 h1 => ?_⟩
  clear q0
  obtain ⟨pd, pe⟩ := x
  cases pd with
  | lst ds =>
    simp only [Rp] at p1
    obtain ⟨l, vs, rfl, hz, p1⟩ := p1
    exact ⟨l, rfl, ⟨vs, hz.sq⟩, h1 _ H1 (EvE.refl _ _ _) r1 (wk_list hz p1)⟩
  | _ => exact (show False from h1).elim
theorem wk_ints {K : PySem.W.Frag} {H : Hp} {lo : Int} {n : Nat} : Wk K (Itr lo n) (rgI lo n) H := fun Ha e => by
  have hl : (rgI lo n).length = n := by unfold rgI; rw [List.length_map, List.length_range]
  refine ⟨fun i hi => (by rw [hl] at hi; exact hi), by rw [hl]; exact Nat.le_refl _, fun i d x Hb hd y => ?_⟩
  obtain ⟨rfl, rfl⟩ := y
  refine ⟨Ext.refl _, ?_⟩
  unfold rgI at hd
  rw [List.getElem?_map] at hd
  cases q : (List.range n)[i]? with
  | none => rw [q] at hd; cases hd
  | some j =>
    rw [q] at hd
    obtain ⟨h1, h2⟩ := List.getElem?_eq_some_iff.mp q
    rw [List.getElem_range] at h2
    subst h2
    cases hd
    simp [Rp]
theorem di_range1 (hg : Gl X "range") (hm : X.mg "range" = none) (ha : DA X W [a] F) (hs : starEach [a] X.env = [(false, eval a X.env)] := by rfl) : DI X W tg (.Call (.Name "range" p) [a] [] pos) (itR1 F) := by
  refine pi_imp (pi_range1 hg hm ha hs) fun σ H Q hq => ?_
  obtain ⟨io, env, hr, hq⟩ := hq
  refine ⟨io, env, hr, Wp.bind hq fun x vs H1 q0 e1 r1 p1 h1 => ?_⟩
  clear q0
  obtain ⟨pd, pe⟩ := x
  dsimp only at h1 p1
  split at h1
  · rename_i j
    split at h1
    · rename_i hj
      obtain ⟨s1, s2⟩ := small_le hj
      have e : vs = [.int j] := RpL.ints (ns := [j]) p1
      exact ⟨j, e, s1, s2, h1 _ H1 (EvE.refl _ _ _) r1 wk_ints⟩
    · exact (show False from h1).elim
  · exact (show False from h1).elim
theorem di_range2 (hg : Gl X "range") (hm : X.mg "range" = none) (ha : DA X W [a, b] F) (hs : starEach [a, b] X.env = [(false, eval a X.env), (false, eval b X.env)] := by rfl) (hs2 : starEach [b] X.env = [(false, eval b X.env)] := by rfl) :
    DI X W tg (.Call (.Name "range" p) [a, b] [] pos) (itR2 F) := by
  refine pi_imp (pi_range2 hg hm ha hs hs2) fun σ H Q hq => ?_
  obtain ⟨io, env, hr, hq⟩ := hq
  refine ⟨io, env, hr, Wp.bind hq fun x vs H1 q0 e1 r1 p1 h1 => ?_⟩
  clear q0
  obtain ⟨pd, pe⟩ := x
  dsimp only at h1 p1
  split at h1
  · rename_i i j
    split at h1
    · rename_i hj
      rw [Bool.and_eq_true] at hj
      obtain ⟨s1, s2⟩ := small_le hj.1
      obtain ⟨s3, s4⟩ := small_le hj.2
      have e : vs = [.int i, .int j] := RpL.ints (ns := [i, j]) p1
      exact ⟨i, j, e, ⟨s1, s2, s3, s4⟩, h1 _ H1 (EvE.refl _ _ _) r1 wk_ints⟩
    · exact (show False from h1).elim
  · exact (show False from h1).elim
end

/-! ### for -/
def sLoop (p : Pt) (body : DenS) : List D → DenS
  | [], env => .ok (.nx, env)
  | x :: xs, env => (R.of (p.asg x env)).bind fun e1 => (body e1).bind fun o => match o.1 with
    | .nx => sLoop p body xs o.2
    | .cnt => sLoop p body xs o.2
    | .brk => .ok (.nx, o.2)
    | .ret d => .ok (.ret d, o.2)
def sFor (it : DenL) (p : Pt) (body : DenS) : DenS := fun env => (it env).bind fun x => sLoop p body x.1 x.2
theorem drop_cons {α : Type} {xs : List α} {i : Nat} (h : i < xs.length) : xs.drop i = xs[i] :: xs.drop (i + 1) := List.drop_eq_getElem_cons h
theorem rd_for {K : PySem.W.Frag} {W : WD} {fr : Bool} {it : DenL} {p : Pt} {body : DenS} {Dn : Ends} {σ : L2.St} {H : Hp} (h : RdS K W fr (sFor it p body) Dn σ H) : tFor (RdI K W it) (RdG K p) (RdS K W fr body) Dn σ H := by
  obtain ⟨io, env, hr, h⟩ := h
  refine ⟨io, env, hr, WpS.bindE h fun x J H1 e1 r1 wk h1 => ?_⟩
  obtain ⟨xs, env1⟩ := x
  dsimp only at e1 r1 wk h1
  refine ⟨fun i m σ2 H2 => m = xs.length - i ∧ i ≤ xs.length ∧ FExt H1 H2 ∧ ∃ env2, Rel K W.T io env2 σ2 H2 ∧ WpS K W fr io env2 σ2 H2 (sLoop p body (xs.drop i) env2) Dn, ⟨_, rfl, Nat.zero_le _, FExt.refl _, env1, r1, h1⟩, ?_⟩
  rintro i m σ2 H2 ⟨rfl, hi, fx, env2, r2, h2⟩
  obtain ⟨w1, w2, w3⟩ := wk H2 fx
  by_cases hl : i < xs.length
  · rw [drop_cons hl] at h2
    refine .inr ⟨w1 i hl, fun σ' H' => FExt H1 H' ∧ ∃ env', Rel K W.T io env' σ' H' ∧ WpS K W fr io env' σ' H' (sLoop p body (xs.drop (i + 1)) env') Dn, fun σ' H' ⟨g1, env', g2, g3⟩ => ⟨xs.length - (i + 1), by omega, rfl, hl, g1, env', g2, g3⟩, fun v H' y => ?_⟩
    obtain ⟨x1, rp⟩ := w3 i xs[i] v H' (by simp [hl]) y
    have r3 := r2.ext x1
    have h3 := WpS.fwd (EvE.ext x1 : EvE env2 σ2 H2 env2 H').ev h2
    unfold sLoop at h3
    cases z : p.asg xs[i] env2 with
    | none => rw [z] at h3; exact (show False from h3).elim
    | some env3 =>
      rw [z] at h3
      refine ⟨W.T, io, env2, _, env3, r3, rp, z, fun σ3 r4 ev4 _ => ⟨io, env3, r4, ?_⟩⟩
      have h4 := WpS.fwd ev4 h3
      have fx4 : FExt H1 H' := fx.trans x1.fx
      rw [R.of_some, R.bind_ok] at h4
      cases zb : body env3 with
      | stk => rw [zb] at h4; exact h4
      | err c => rw [zb] at h4; exact h4
      | ok o =>
        rw [zb] at h4
        obtain ⟨fl, env4⟩ := o
        cases fl with
        | nx => exact fun σ5 H5 ev5 r5 => ⟨fx4.trans (r4.fxS ev5), env4, r5, WpS.fwd ev5 h4⟩
        | cnt => exact fun σ5 H5 ev5 r5 => ⟨fx4.trans (r4.fxS ev5), env4, r5, WpS.fwd ev5 h4⟩
        | brk => exact h4
        | ret d => exact h4
  · have e : i = xs.length := by omega
    subst e
    rw [List.drop_length] at h2
    exact .inl ⟨w2, h2 σ2 H2 (Ev.refl _ _ _) r2⟩
section
variable {X : Cx} {W : WD} {fr : Bool} {tg iter c : Expr} {body : List Stmt} {it : DenL} {p : Pt} {F : DenS} {t : DenT} {pos : Pos}
theorem ds_for (hp : PassesOwn (model X.prog X.w) X.A X.env X.xe) (hc : X.calm = true) (hi : DI X W tg iter it) (hg : DG X tg p) (hb : DSs X W fr body F) (hs : ∀ x, foldedSetIterable iter X.env x = pure x := by intro _; rfl) : DS X W fr (.For tg iter body [] pos) (sFor it p F) :=
  ps_imp (ps_for hp hc hi hg hb hs) fun D σ H h => rd_for h
end

/-! ### while -/
def sWhile (t : DenT) (body : DenS) : Nat → DenS
  | 0, _ => .stk
  | n + 1, env => (t env).bind fun x => if x.1 then (body x.2).bind fun o => (match o.1 with
    | .nx => sWhile t body n o.2
    | .cnt => sWhile t body n o.2
    | .brk => .ok (.nx, o.2)
    | .ret d => .ok (.ret d, o.2)) else .ok (.nx, x.2)
theorem rd_while {K : PySem.W.Frag} {W : WD} {fr : Bool} {t : DenT} {body : DenS} {n : Nat} {Dn : Ends} {σ : L2.St} {H : Hp} (h : RdS K W fr (sWhile t body n) Dn σ H) : tWhile (RdT K W t) (RdS K W fr body) Dn σ H := by
  refine ⟨fun m σ2 H2 => RdS K W fr (sWhile t body m) Dn σ2 H2, ⟨n, h⟩, fun m σ2 H2 h2 => ?_⟩
  obtain ⟨io, env, hr, h⟩ := h2
  cases m with
  | zero => exact (show False from h).elim
  | succ m =>
    refine ⟨io, env, hr, WpS.bindE h fun x b H1 e1 r1 p1 h1 => ?_⟩
    obtain ⟨xb, env1⟩ := x
    subst p1
    cases xb with
    | false => exact iteF (h1 σ2 H1 (Ev.refl _ _ _) r1)
    | true =>
      refine iteT ⟨fun σ' H' => RdS K W fr (sWhile t body m) Dn σ' H', fun σ' H' q => ⟨m, Nat.lt_succ_self m, q⟩, io, env1, r1, ?_⟩
      dsimp only at h1
      rw [if_pos rfl] at h1
      cases zb : body env1 with
      | stk => rw [zb] at h1; exact h1
      | err c => rw [zb] at h1; exact h1
      | ok o =>
        rw [zb] at h1
        obtain ⟨fl, env4⟩ := o
        cases fl with
        | nx => exact fun σ5 H5 ev5 r5 => ⟨io, env4, r5, WpS.fwd ev5 h1⟩
        | cnt => exact fun σ5 H5 ev5 r5 => ⟨io, env4, r5, WpS.fwd ev5 h1⟩
        | brk => exact h1
        | ret d => exact h1
theorem ds_while {X : Cx} {W : WD} {fr : Bool} {c : Expr} {body : List Stmt} {F : DenS} {t : DenT} {pos : Pos} (n : Nat) (hp : PassesOwn (model X.prog X.w) X.A X.env X.xe) (hc : DT X W c t) (hb : DSs X W fr body F) : DS X W fr (.While c body [] pos) (sWhile t F n) :=
  ps_imp (ps_while hp hc hb) fun D σ H h => rd_while h
end DL

/-! ## DLf -/
/-! DLf: list comprehensions. -/
namespace DL
open PySem PySem.Spec PyProof.Rows L2

def WF (T : List (Addr × Str)) : WD := ⟨T, fun _ _ => False⟩
/-- the slots are forgotten -/
def wipeE : En → List Nat → En
  | env, [] => env
  | env, i :: vs => wipeE (env.set i .no) vs
def hasOwn (env : En) (vs : List Nat) : Bool := vs.any fun i => match env[i]? with
  | some (.own _) => true
  | _ => false
/-- behind a turn: the block's own slots as they were, the others as they are -/
def cp1 (i : Nat) (env e : En) : En := match env[i]? with
  | some s => e.set i s
  | none => e
def backE : List Nat → En → En → En
  | [], _, e => e
  | i :: vs, env, e => backE vs env (cp1 i env e)
def cTurn (p : Pt) (vs : List Nat) (cond : DenT) (elt : Den) (x : D) (acc : List D) (env : En) : R (List D × En) :=
  if hasOwn env vs then .stk else
  (R.of (p.asg x (wipeE env vs))).bind fun e1 => (cond e1).hush.bind fun c => if c.1 then (elt c.2).hush.bind fun y => .ok (acc ++ [y.1], backE vs env y.2) else .ok (acc, backE vs env c.2)
def cLoop (p : Pt) (vs : List Nat) (cond : DenT) (elt : Den) : List D → List D → En → R (List D × En)
  | [], acc, env => .ok (acc, env)
  | x :: xs, acc, env => (cTurn p vs cond elt x acc env).bind fun q => cLoop p vs cond elt xs q.1 q.2
def fComp (it : DenL) (p : Pt) (vs : List Nat) (cond : DenT) (elt : Den) : Den := fun env => (it env).bind fun x => if x.1.length ≤ big then (cLoop p vs cond elt x.1 [] x.2).bind fun q => R.ok (D.lst q.1, q.2) else .stk
def tT : DenT := fun env => .ok (true, env)

theorem wipeE_len : ∀ (vs : List Nat) (env : En), (wipeE env vs).length = env.length
  | [], env => rfl
  | i :: vs, env => by
    show (wipeE (env.set i .no) vs).length = _
    rw [wipeE_len vs, List.length_set]
theorem wipeE_out {j : Nat} : ∀ (vs : List Nat) (env : En), j ∉ vs → (wipeE env vs)[j]? = env[j]?
  | [], env, _ => rfl
  | i :: vs, env, h => by
    show (wipeE (env.set i .no) vs)[j]? = _
    rw [wipeE_out vs _ (fun z => h (List.mem_cons_of_mem _ z)), List.getElem?_set_ne (fun z => h (by rw [← z]; exact List.mem_cons_self))]
theorem wipeE_in {j : Nat} : ∀ (vs : List Nat) (env : En), j ∈ vs → j < env.length → (wipeE env vs)[j]? = some .no
  | [], env, h, _ => by cases h
  | i :: vs, env, h, hl => by
    show (wipeE (env.set i .no) vs)[j]? = _
    by_cases q : j ∈ vs
    · exact wipeE_in vs _ q (by rw [List.length_set]; exact hl)
    · rw [wipeE_out vs _ q]
      rcases List.mem_cons.mp h with e | e
      · subst e; simp [hl]
      · exact absurd e q
theorem cp1_len (i : Nat) (env e : En) : (cp1 i env e).length = e.length := by
  unfold cp1
  split
  · exact List.length_set
  · rfl
theorem cp1_ne {i j : Nat} (h : i ≠ j) (env e : En) : (cp1 i env e)[j]? = e[j]? := by
  unfold cp1
  split
  · exact List.getElem?_set_ne h
  · rfl
theorem cp1_eq {i : Nat} {env e : En} (hl : e.length = env.length) : (cp1 i env e)[i]? = env[i]? := by
  unfold cp1
  split
  · rename_i s q
    have := lt_of_get q
    rw [List.getElem?_set_self (by omega), q]
  · rename_i q
    have := List.getElem?_eq_none_iff.mp q
    rw [q]
    exact List.getElem?_eq_none_iff.mpr (by omega)
theorem backE_len (env : En) : ∀ (vs : List Nat) (e : En), (backE vs env e).length = e.length
  | [], e => rfl
  | i :: vs, e => by
    show (backE vs env (cp1 i env e)).length = _
    rw [backE_len env vs, cp1_len]
theorem backE_out {j : Nat} (env : En) : ∀ (vs : List Nat) (e : En), j ∉ vs → (backE vs env e)[j]? = e[j]?
  | [], e, _ => rfl
  | i :: vs, e, h => by
    show (backE vs env (cp1 i env e))[j]? = _
    rw [backE_out env vs _ (fun z => h (List.mem_cons_of_mem _ z))]
    exact cp1_ne (fun z => h (by rw [← z]; exact List.mem_cons_self)) _ _
theorem backE_in {j : Nat} (env : En) : ∀ (vs : List Nat) (e : En), j ∈ vs → e.length = env.length → (backE vs env e)[j]? = env[j]?
  | [], e, h, _ => by cases h
  | i :: vs, e, h, hl => by
    show (backE vs env (cp1 i env e))[j]? = _
    by_cases q : j ∈ vs
    · exact backE_in env vs _ q (by rw [cp1_len]; exact hl)
    · rw [backE_out env vs _ q]
      rcases List.mem_cons.mp h with e' | e'
      · subst e'; exact cp1_eq hl
      · exact absurd e' q
theorem hasOwn_not {env : En} {vs : List Nat} (h : ¬ hasOwn env vs = true) {i : Nat} (hi : i ∈ vs) (d : D) : env[i]? ≠ some (.own d) := fun z => h (by
  unfold hasOwn
  rw [List.any_eq_true]
  exact ⟨i, hi, by rw [z]⟩)
section
variable {K : PySem.W.Frag} {T : List (Addr × Str)} {io : Option Addr} {env env' : En} {σ σ' : L2.St} {H H' : Hp} {vs : List Nat}
theorem wipeE_own (hn : ¬ hasOwn env vs = true) {j : Nat} {d : D} : (wipeE env vs)[j]? = some (.own d) ↔ (env[j]? = some (.own d) ∧ j ∉ vs) := by
  constructor
  · intro h
    by_cases q : j ∈ vs
    · have hl : j < env.length := by rw [← wipeE_len vs env]; exact lt_of_get h
      rw [wipeE_in vs env q hl] at h; cases h
    · rw [wipeE_out vs env q] at h; exact ⟨h, q⟩
  · rintro ⟨h, q⟩
    rw [wipeE_out vs env q]; exact h
theorem Rel.wiped (r : Rel K T io env σ H) (hn : ¬ hasOwn env vs = true) : Rel K T io (wipeE env vs) (wipe σ vs) H := by
  refine ⟨by rw [wipeE_len, wipe_length]; exact r.len, fun j d h => ?_, fun j d h => ?_, fun j k d e a h1 h2 s1 s2 => ?_, fun a h => ?_, r.tab⟩
  · by_cases q : j ∈ vs
    · have hl : j < env.length := by rw [← wipeE_len vs env]; exact lt_of_get h
      rw [wipeE_in vs env q hl] at h; cases h
    · rw [wipeE_out vs env q] at h
      rw [wipe_out q]
      exact r.val j d h
  · obtain ⟨h1, q⟩ := (wipeE_own hn).mp h
    rw [wipe_out q]
    exact r.own j d h1
  · obtain ⟨g1, q1⟩ := (wipeE_own hn).mp h1
    obtain ⟨g2, q2⟩ := (wipeE_own hn).mp h2
    rw [wipe_out q1] at s1
    rw [wipe_out q2] at s2
    exact r.sep j k d e a g1 g2 s1 s2
  · obtain ⟨h1, y, h2⟩ := r.io a h
    have q : (0 : Nat) ∉ vs := fun q => hasOwn_not hn q y h2
    exact ⟨by rw [wipe_out q]; exact h1, y, by rw [wipeE_out vs env q]; exact h2⟩
theorem ownA_wiped (hn : ¬ hasOwn env vs = true) {b : Addr} : OwnA (wipeE env vs) (wipe σ vs) b ↔ OwnA env σ b := by
  constructor
  · rintro ⟨j, d, h1, h2⟩
    obtain ⟨g1, q⟩ := (wipeE_own hn).mp h1
    rw [wipe_out q] at h2
    exact ⟨j, d, g1, h2⟩
  · rintro ⟨j, d, h1, h2⟩
    have q : j ∉ vs := fun q => hasOwn_not hn q d h1
    exact ⟨j, d, (wipeE_own hn).mpr ⟨h1, q⟩, by rw [wipe_out q]; exact h2⟩
end
/-- behind a turn's targets: as ahead, but for the block's slots -/
structure Blk (vs : List Nat) (env : En) (σ : L2.St) (env' : En) (σ' : L2.St) : Prop where
  len : env'.length = env.length
  off : OffS vs (wipe σ vs) σ'
  own : ∀ (j : Nat) (d : D), env'[j]? = some (.own d) → j ∉ vs
  shp : ∀ (j : Nat), j ∉ vs → env'[j]? = env[j]?
mutual
theorem asg_out : ∀ (p : Pt) (d : D) (env env' : En), p.asg d env = some env' → env'.length = env.length ∧ (∀ (j : Nat) (y : D), env'[j]? = some (.own y) → env[j]? = some (.own y)) ∧ ∀ j, j ∉ p.slots → env'[j]? = env[j]?
  | .nm i, d, env, env', h => by
    obtain ⟨hn, rfl⟩ := putV_some (show putV i d env = some env' from h)
    obtain ⟨hl, _⟩ := notMy_lt hn
    refine ⟨List.length_set, fun j y q => ?_, fun j hj => List.getElem?_set_ne (fun z => hj (by subst z; exact List.mem_singleton.mpr rfl))⟩
    rw [set_get hl] at q
    by_cases z : i = j
    · subst z; simp at q
    · rw [if_neg z] at q; exact q
  | .tu ps, d, env, env', h => by
    cases d with
    | tup tb ds => exact asgL_out ps ds env env' (by simpa [Pt.asg] using h)
    | _ => simp [Pt.asg] at h
theorem asgL_out : ∀ (ps : List Pt) (ds : List D) (env env' : En), asgL ps ds env = some env' → env'.length = env.length ∧ (∀ (j : Nat) (y : D), env'[j]? = some (.own y) → env[j]? = some (.own y)) ∧ ∀ j, j ∉ slotsL ps → env'[j]? = env[j]?
  | [], [], env, env', h => by
    simp only [asgL, Option.some.injEq] at h
    subst h
    exact ⟨rfl, fun _ _ q => q, fun _ _ => rfl⟩
  | [], _ :: _, _, _, h => by simp [asgL] at h
  | _ :: _, [], _, _, h => by simp [asgL] at h
  | p :: ps, d :: ds, env, env', h => by
    simp only [asgL] at h
    cases z : p.asg d env with
    | none => rw [z] at h; cases h
    | some e =>
      rw [z] at h
      obtain ⟨a1, a2, a3⟩ := asg_out p d env e z
      obtain ⟨b1, b2, b3⟩ := asgL_out ps ds e env' h
      refine ⟨b1.trans a1, fun j y q => a2 j y (b2 j y q), fun j hj => ?_⟩
      have hj : j ∉ p.slots ++ slotsL ps := hj
      rw [b3 j fun q => hj (List.mem_append_right _ q), a3 j fun q => hj (List.mem_append_left _ q)]
end
theorem rd_lc {K : PySem.W.Frag} {W : WD} {it : DenL} {p : Pt} {vs : List Nat} {cond : DenT} {elt : Den} {σ : L2.St} {H : Hp} {Q : VK} (hps : ∀ j ∈ p.slots, j ∈ vs) (h : RdF K W (fComp it p vs cond elt) σ H Q) :
    tLc (RdI K W it) (RdG K p) (RdT K (WF W.T) cond) (RdE K (WF W.T) elt) vs σ H Q := by
  obtain ⟨io, env, hr, h⟩ := h
  refine ⟨io, env, hr, Wp.bind h fun x J H1 q0 e1 r1 wk h1 => ?_⟩
  clear q0
  obtain ⟨xs, env1⟩ := x
  dsimp only at e1 r1 wk h1
  by_cases hbig : xs.length ≤ big
  · rw [if_pos hbig] at h1
    intro L hL
    have x0 : Ext H1 (upd H1 L (.lst [])) := Ext.new hL
    let PQ : Hp → D → V → Prop := fun H' d v => ∃ a, v = V.ref a ∧ H a = none ∧ ROwn K H' d a
    have hLH : H L = none := by
      cases z : H L with
      | none => rfl
      | some o =>
        obtain ⟨o', h'⟩ := e1.dom L o z
        rw [hL] at h'; cases h'
    refine ⟨fun i m H2 => m = xs.length - i ∧ i ≤ xs.length ∧ FExt H1 H2 ∧ ∃ env2 acc vacc, Rel K W.T io env2 σ H2 ∧ EvE env1 σ H1 env2 H2 ∧ H2 L = some (.lst vacc) ∧ RpL K H2 acc vacc ∧ acc.length ≤ i ∧
      Wp K W io env1 σ H1 ((cLoop p vs cond elt (xs.drop i) acc env2).bind fun q => R.ok (D.lst q.1, q.2)) PQ Q, ⟨_, rfl, Nat.zero_le _, x0.fx, env1, [], [], r1.ext x0, EvE.ext x0, upd_same, RpL.nil, Nat.le_refl _, h1⟩, ?_⟩
    rintro i m H2 ⟨rfl, hi, fx, env2, acc, vacc, r2, ev2, hz, ra, hla, h2⟩
    obtain ⟨w1, w2, w3⟩ := wk H2 fx
    by_cases hl : i < xs.length
    · rw [drop_cons hl] at h2
      unfold cLoop cTurn at h2
      by_cases hn : hasOwn env2 vs = true
      · rw [if_pos hn] at h2; exact (show False from h2).elim
      rw [if_neg hn] at h2
      -- what the next turn asks
      let NX : Hp → Prop := fun H' => FExt H1 H' ∧ ∃ env2 acc vacc, Rel K W.T io env2 σ H' ∧ EvE env1 σ H1 env2 H' ∧ H' L = some (.lst vacc) ∧ RpL K H' acc vacc ∧ acc.length ≤ i + 1 ∧
        Wp K W io env1 σ H1 ((cLoop p vs cond elt (xs.drop (i + 1)) acc env2).bind fun q => R.ok (D.lst q.1, q.2)) PQ Q
      refine .inr ⟨w1 i hl, NX, fun H' ⟨g1, env', acc', vacc', g2, g3, g4, g5, g6, g7⟩ => ⟨xs.length - (i + 1), by omega, rfl, hl, g1, env', acc', vacc', g2, g3, g4, g5, g6, g7⟩, fun v H3 y => ?_⟩
      obtain ⟨x3, rp⟩ := w3 i xs[i] v H3 (by simp [hl]) y
      have r3 := r2.ext x3
      have rw3 := r3.wiped hn
      cases za : p.asg xs[i] (wipeE env2 vs) with
      | none => rw [za] at h2; exact (show False from h2).elim
      | some envA =>
        rw [za, R.of_some, R.bind_ok] at h2
        obtain ⟨la, oa, sa⟩ := asg_out _ _ _ _ za
        refine ⟨W.T, io, _, _, envA, rw3, rp, za, fun σA rA evA offA => ?_⟩
        -- the slots of the block alone are others
        have offs : ∀ j, j ∉ vs → σA[j]? = σ[j]? := fun j hj => by
          rw [offA.2 j fun z => hj (hps j z), wipe_out hj]
        have wipes : wipe σA vs = wipe σ vs := by
          apply List.ext_getElem?
          intro j
          by_cases hj : j ∈ vs
          · have hlen : (wipe σA vs).length = (wipe σ vs).length := by rw [wipe_length, offA.1]
            by_cases hjl : j < (wipe σ vs).length
            · have n1 : ∀ s : L2.St, j < (wipe s vs).length → (wipe s vs)[j]? = some none := fun s hs => by
                cases q : (wipe s vs)[j]? with
                | none => exact absurd (List.getElem?_eq_none_iff.mp q) (by omega)
                | some o =>
                  cases o with
                  | none => rfl
                  | some w => exact absurd hj (wipe_some q).2
              rw [n1 σ hjl, n1 σA (by omega)]
            · rw [List.getElem?_eq_none_iff.mpr (by omega), List.getElem?_eq_none_iff.mpr (by omega)]
          · rw [wipe_out hj, wipe_out hj, offs j hj]
        refine ⟨wipes, io, envA, rA, ?_⟩
        -- the state behind the block's part
        have lenA : envA.length = env2.length := by rw [la, wipeE_len]
        have toOwn : ∀ (e : En), Shp envA e → ∀ b, OwnA e σA b → OwnA env2 σ b := fun e s b ⟨j, y, q1, q2⟩ => by
          obtain ⟨y0, h0⟩ := s.back q1
          obtain ⟨g1, g2⟩ := (wipeE_own hn).mp (oa j y0 h0)
          exact ⟨j, y0, g1, by rw [← offs j g2]; exact q2⟩
        have Lno : ¬ OwnA env2 σ L := fun z => by
          obtain ⟨j, y, q1, q2⟩ := ev2.shp.ownA.mp z
          obtain ⟨b, g1, ⟨u, g2, _⟩, _⟩ := r1.own j y q1
          rw [q2] at g1; cases g1
          rw [hL] at g2; cases g2
        -- from any end of the block's part: back to the walk; E3: what the part did
        have finish : ∀ (e : En) (H5 H6 : Hp) (acc' : List D) (vacc' : List V), EvE envA σA H3 e H5 → Rel K W.T io e σA H5 → H6 = upd H5 L (.lst vacc') → RpL K H5 acc' vacc' → acc'.length ≤ i + 1 →
            Wp K W io env1 σ H1 ((cLoop p vs cond elt (xs.drop (i + 1)) acc' (backE vs env2 e)).bind fun q => R.ok (D.lst q.1, q.2)) PQ Q → NX H6 := by
          intro e H5 H6 acc' vacc' ee re e6 rac hlen hw
          have kp : ∀ b o, H3 b = some o → NT o → ¬ OwnA env2 σ b → H5 b = some o := fun b o q t no => ee.kp b o q t fun z => no (toOwn envA (Shp.refl _) b z)
          have L5 : H5 L = some (.lst vacc) := kp L _ (x3 _ _ hz) trivial Lno
          have tf : ∀ o, H5 L = some o → ¬ Frm o := fun o q f => by rw [L5] at q; cases q; exact f
          have fx56 : FExt H5 H6 := fun b o q f => by
            rw [e6, upd_ne (fun z => by subst z; exact tf o q f)]; exact q
          have se := ee.shp
          have lenE : e.length = env2.length := se.1.trans lenA
          have ea : ∀ j, j ∉ vs → envA[j]? = env2[j]? := fun j hj => by rw [sa j fun z => hj (hps j z), wipeE_out vs env2 hj]
          have shpB : Shp env2 (backE vs env2 e) := by
            refine ⟨by rw [backE_len]; exact lenE, fun j => ⟨fun y q => ?_, fun q => ?_⟩⟩
            · have hj : j ∉ vs := fun z => hasOwn_not hn z y q
              rw [backE_out env2 vs e hj]
              exact (se.2 j).1 y (by rw [ea j hj]; exact q)
            · by_cases hj : j ∈ vs
              · rw [backE_in env2 vs e hj lenE]
              · rw [backE_out env2 vs e hj, ← ea j hj]
                exact (se.2 j).2 fun y z => q y (by rw [← ea j hj]; exact z)
          have fx26 : FExt H2 H6 := fun b o q f => fx56 b o (kp b o (x3 b o q) f.nt (r2.notOwn q f)) f
          have neL : ∀ b o, H1 b = some o → b ≠ L := fun b o q z => by rw [z, hL] at q; cases q
          have ev16 : EvE env1 σ H1 (backE vs env2 e) H6 := by
            refine ⟨ev2.shp.trans shpB, fun b o q t no => ?_, fun b o q => ?_⟩
            · rw [e6, upd_ne (neL b o q)]
              exact kp b o (x3 b o (ev2.kp b o q t no)) t fun z => no (ev2.shp.ownA.mp z)
            · obtain ⟨o2, q2⟩ := ev2.dom b o q
              obtain ⟨o5, q5⟩ := ee.dom b o2 (x3 b o2 q2)
              exact ⟨o5, by rw [e6, upd_ne (neL b o q)]; exact q5⟩
          have r6 : Rel K W.T io (backE vs env2 e) σ H6 := by
            refine ⟨by rw [backE_len, lenE]; exact r2.len, fun j d q => ?_, fun j d q => ?_, fun j k d d' a q1 q2 => ?_, fun a q => ?_, by rw [e6]; exact tabs_upd re.tab fun o z => by rw [L5] at z; cases z; exact trivial⟩
            · by_cases hj : j ∈ vs
              · rw [backE_in env2 vs e hj lenE] at q
                obtain ⟨w, g1, g2⟩ := r2.val j d q
                exact ⟨w, g1, Rp.ext fx26 _ _ g2⟩
              · rw [backE_out env2 vs e hj] at q
                obtain ⟨w, g1, g2⟩ := re.val j d q
                exact ⟨w, by rw [← offs j hj]; exact g1, Rp.ext fx56 _ _ g2⟩
            · obtain ⟨d0, q0⟩ := shpB.back q
              have hj : j ∉ vs := fun z => hasOwn_not hn z d0 q0
              rw [backE_out env2 vs e hj] at q
              obtain ⟨a, g1, ⟨u, g2, g3⟩, g4⟩ := re.own j d q
              have g1' : σ[j]? = some (some (.ref a)) := by rw [← offs j hj]; exact g1
              refine ⟨a, g1', ⟨u, ?_, g3.ext fx56⟩, g4⟩
              rw [e6, upd_ne (fun z => Lno ⟨j, d0, q0, by rw [← z]; exact g1'⟩)]
              exact g2
            · obtain ⟨d0, q01⟩ := shpB.back q1
              obtain ⟨d1, q02⟩ := shpB.back q2
              exact r2.sep j k d0 d1 a q01 q02
            · obtain ⟨g1, y, g2⟩ := r2.io a q
              exact ⟨g1, (shpB.2 0).1 y g2⟩
          exact ⟨fx.trans fx26, backE vs env2 e, acc', vacc', r6, ev16, by rw [e6]; exact upd_same, RpL.ext fx56 _ _ rac, hlen, hw⟩
        cases zc : cond envA with
        | stk => rw [zc] at h2; exact (show False from h2).elim
        | err c => rw [zc] at h2; exact (show False from h2).elim
        | ok c =>
          obtain ⟨cb, envC⟩ := c
          rw [zc, R.hush_ok, R.bind_ok] at h2
          intro b H4 e4 r4 p4
          subst p4
          dsimp only at e4 r4 h2
          have L4 : H4 L = some (.lst vacc) := e4.kp L _ (x3 _ _ hz) trivial fun z => Lno (toOwn envA (Shp.refl _) L z)
          cases cb with
          | false =>
            rw [if_neg (by decide)] at h2
            refine iteF (finish envC H4 H4 acc vacc e4 r4 ?_ (RpL.ext (x3.fx.trans (rA.fx e4)) _ _ ra) (by omega) h2)
            funext b
            by_cases z : b = L
            · subst z; rw [L4, upd_same]
            · rw [upd_ne z]
          | true =>
            rw [if_pos rfl] at h2
            refine iteT ⟨io, envC, r4, ?_⟩
            cases ze : elt envC with
            | stk => rw [ze] at h2; exact (show False from h2).elim
            | err c => rw [ze] at h2; exact (show False from h2).elim
            | ok q =>
              obtain ⟨qd, envQ⟩ := q
              rw [ze, R.hush_ok, R.bind_ok] at h2
              intro w H5 e5 r5 p5
              dsimp only at e5 r5 p5 h2
              have e35 := e4.trans e5
              have L5 : H5 L = some (.lst vacc) := e35.kp L _ (x3 _ _ hz) trivial fun z => Lno (toOwn envA (Shp.refl _) L z)
              have ra5 : RpL K H5 acc vacc := RpL.ext (x3.fx.trans (rA.fx e35)) _ _ ra
              refine ⟨vacc, L5, ?_, finish envQ H5 _ (acc ++ [qd]) (vacc ++ [w]) e35 r5 rfl (RpL.append ra5 (RpL.cons p5 RpL.nil)) (by rw [List.length_append]; show acc.length + 1 ≤ i + 1; omega) h2⟩
              have := ra5.length
              exact big_lt (by omega)
    · have e : i = xs.length := by omega
      subst e
      rw [List.drop_length] at h2
      exact .inl ⟨w2, h2 (.ref L) H2 ev2 r2 ⟨L, rfl, hLH, .lst vacc, hz, ra⟩⟩
  · rw [if_neg hbig] at h1; exact (show False from h1).elim
section
variable {X : Cx} {W : WD} {fr : Bool} {elt tg iter : Expr} {ifs : List Expr} {scope : Scope} {own : List (Str × Nat)} {it : DenL} {p : Pt} {cond : DenT} {fe : Den} {pos spos py : Pos} {y : Str} {i : Nat}
abbrev DTs (X : Cx) (W : WD) (ifs : List Expr) (f : DenT) : Prop := PTs X ifs (RdT X.K W f)
theorem dts_nil : DTs X W [] tT := ⟨fun pins s σ H Q I ⟨io, env, r, h⟩ => pts_nil.run pins s σ H Q I (h true H (EvE.refl _ _ _) r rfl)⟩
theorem dts_one {c : Expr} (h : DT X W c cond) : DTs X W [c] cond := pts_one h
abbrev Bl (X : Cx) (scope : Scope) (Y : Cx → Prop) : Prop := ∀ (s : Shared) (H : Hp) (C : Addr) (cl : List (Str × Addr)) (fp : List Addr), Y (X.blk s H scope (compEnvC scope cl C X.env) fp)
theorem df_comp (hN : X.N.Nodup) (hi : DI X W tg iter it) (ok : BlkOk X.N X.env.scope scope own) (hg : Bl X scope fun Y => DG Y tg p) (ht : Bl X scope fun Y => DTs Y (WF W.T) ifs cond) (he : Bl X scope fun Y => DE Y (WF W.T) elt fe)
    (hps : ∀ j ∈ p.slots, j ∈ own.map (·.2)) (hc : X.calm = true := by rfl) (hs : ∀ x, foldedSetIterable iter X.env x = pure x := by intro _; rfl) : DF X W (.ListComp elt [⟨tg, iter, ifs, 0⟩] scope pos) (fComp it p (own.map (·.2)) cond fe) :=
  pe_imp (pe_lc hc hN hi ok hg ht he hs) fun σ H Q h => rd_lc hps h
theorem ds_setLc (i : Nat) (hN : X.N.Nodup) (hi : DI X W tg iter it) (ok : BlkOk X.N X.env.scope scope own) (hg : Bl X scope fun Y => DG Y tg p) (ht : Bl X scope fun Y => DTs Y (WF W.T) ifs cond) (he : Bl X scope fun Y => DE Y (WF W.T) elt fe)
    (hps : ∀ j ∈ p.slots, j ∈ own.map (·.2)) (hsw : swapsWith (.ListComp elt [⟨tg, iter, ifs, 0⟩] scope pos) (some (.Name y py)) spos.line X.env = pure true) (hy : X.N[i]? = some y := by rfl) (hyl : X.env.scope.names.lookup y = some .local := by rfl)
    (hc : X.calm = true := by rfl) (hs : ∀ x, foldedSetIterable iter X.env x = pure x := by intro _; rfl) :
    DS X W fr (.Assign [.Name y py] (.ListComp elt [⟨tg, iter, ifs, 0⟩] scope pos) spos) (sSet i (fComp it p (own.map (·.2)) cond fe)) :=
  ds_setFz fun t ht' => ps_imp (ps_setLc hc hN hy hyl hsw hi ok hg ht he hs) fun D σ H h => rd_lc hps (ht' D σ H h)
theorem ds_ownLc (i : Nat) (hN : X.N.Nodup) (hi : DI X W tg iter it) (ok : BlkOk X.N X.env.scope scope own) (hg : Bl X scope fun Y => DG Y tg p) (ht : Bl X scope fun Y => DTs Y (WF W.T) ifs cond) (he : Bl X scope fun Y => DE Y (WF W.T) elt fe)
    (hps : ∀ j ∈ p.slots, j ∈ own.map (·.2)) (hsw : swapsWith (.ListComp elt [⟨tg, iter, ifs, 0⟩] scope pos) (some (.Name y py)) spos.line X.env = pure true) (h0 : i ≠ 0 := by decide) (hy : X.N[i]? = some y := by rfl) (hyl : X.env.scope.names.lookup y = some .local := by rfl)
    (hc : X.calm = true := by rfl) (hs : ∀ x, foldedSetIterable iter X.env x = pure x := by intro _; rfl) :
    DS X W fr (.Assign [.Name y py] (.ListComp elt [⟨tg, iter, ifs, 0⟩] scope pos) spos) (sOwn i (fComp it p (own.map (·.2)) cond fe)) :=
  ps_imp (ps_setLc hc hN hy hyl hsw hi ok hg ht he hs) fun D σ H h => rd_lc hps (rd_own h0 h)
end
end DL

/-! ## DLg -/
/-! DLg: defs and calls, raise. -/
namespace DL
open PySem PySem.Spec PyProof.Rows L2

abbrev DenF := List D → R (D × D)
def ArgsOk (K : PySem.W.Frag) (H : Hp) : Bool → List D → List V → Prop
  | false, ds, vs => RpL K H ds vs
  | true, d :: ds, v :: vs => (∃ a, v = .ref a ∧ ROwn K H d a ∧ d.fl = true) ∧ RpL K H ds vs
  | true, _, _ => False
/-- all but the tables stays -/
def XN (H H' : Hp) : Prop := ∀ b o, H b = some o → NT o → H' b = some o
theorem XN.fx {H H' : Hp} (e : XN H H') : FExt H H' := fun b o h f => e b o h f.nt
theorem Ext.xn {H H' : Hp} (e : Ext H H') : XN H H' := fun b o h _ => e b o h
theorem XN.trans {H H1 H2 : Hp} (a : XN H H1) (b : XN H1 H2) : XN H H2 := fun c o h t => b c o (a c o h t) t
theorem Rel.extN {K : PySem.W.Frag} {T : List (Addr × Str)} {io : Option Addr} {env : En} {σ : L2.St} {H H' : Hp} (r : Rel K T io env σ H) (e : XN H H') (t : LamX.Tabs T H') : Rel K T io env σ H' where
  len := r.len
  val := fun i d h => let ⟨v, h1, h2⟩ := r.val i d h; ⟨v, h1, Rp.ext e.fx _ _ h2⟩
  own := fun i d h => let ⟨a, h1, ⟨u, h2, h3⟩, f⟩ := r.own i d h; ⟨a, h1, ⟨u, e _ _ h2 h3.nt, h3.ext e.fx⟩, f⟩
  sep := r.sep
  io := r.io
  tab := t
theorem EvE.extN {env : En} {σ : L2.St} {H H' : Hp} (e : XN H H') (dm : ∀ b o, H b = some o → ∃ o', H' b = some o') : EvE env σ H env H' := ⟨Shp.refl _, fun b o h t _ => e b o h t, dm⟩
def EvC (io : Bool) (vs : List V) (H H' : Hp) : Prop := (∀ b o, H b = some o → NT o → (io = true → vs[0]? ≠ some (.ref b)) → H' b = some o) ∧ ∀ b o, H b = some o → ∃ o', H' b = some o'
def OutOk (K : PySem.W.Frag) (io : Bool) (vs : List V) (H' : Hp) (d : D) : Prop := io = true → ∃ a, vs[0]? = some (.ref a) ∧ ROwn K H' d a ∧ d.fl = true
/-- what a def promises whose result is F of the arguments; io: its first argument is an own thing that it may change; fr: it hands back a new thing -/
def spD (K : PySem.W.Frag) (T : List (Addr × Str)) (mg : Str → Option Value) (io fr : Bool) (n : Nat) (F : DenF) : Sp := fun vs H Q E => vs.length = n ∧ LamX.Tabs T H ∧ ∃ ds, ArgsOk K H io ds vs ∧
  match F ds with
  | .stk => False
  | .err c => ∀ C H', mg c = some (.ref C) → EvC io vs H H' → LamX.Tabs T H' → E (.ref C) none H'
  | .ok p => ∀ v H', EvC io vs H H' → LamX.Tabs T H' → OutOk K io vs H' p.2 → (if fr then ∃ a, v = V.ref a ∧ H a = none ∧ ROwn K H' p.1 a else Rp K H' p.1 v) → Q v H'
def WE (T : List (Addr × Str)) (mg : Str → Option Value) (E : XK) : WD := ⟨T, fun c H => ∀ C, mg c = some (.ref C) → E (.ref C) none H⟩
def WT (mg : Str → Option Value) (W : WD) : WX := fun cls d _ H => ∃ c C, cls = .ref C ∧ d = none ∧ mg c = some (.ref C) ∧ LamX.Tabs W.T H ∧ W.f c H
theorem tk_def {X : Cx} {T : List (Addr × Str)} {E : XK} (h : L2N.Takes X (fun cls d _ H => E cls d H)) : L2N.Takes X (WT X.mg (WE T X.mg E)) := h.imp fun cls d σ H ⟨c, C, e1, e2, e3, _, w⟩ => by
  subst e1; subst e2; exact w C e3
theorem takesN0 {X : Cx} : L2N.Takes X (fun _ _ _ _ => False) := fun _ _ x => by
  obtain ⟨_, _, _, _, _, _, _, _, _, _, _, _, _, _, _, _, z⟩ := x
  exact z.elim
theorem tk_blk {X : Cx} {T : List (Addr × Str)} : L2N.Takes X (WT X.mg (WF T)) := takesN0.imp fun cls d σ H ⟨c, C, e1, e2, e3, _, w⟩ => w

def startE : Bool → List D → Nat → En
  | true, d :: ds, k => .own d :: (ds.map Sl.val ++ List.replicate k .no)
  | _, ds, k => ds.map Sl.val ++ List.replicate k .no
def outE (io : Bool) (env : En) : D := match env[0]? with
  | some (Sl.own d) => if io then d else .non
  | _ => .non
def runF (io fr : Bool) (k : Nat) (body : DenS) : DenF := fun ds => (body (startE io ds k)).bind fun o => match o.1 with
  | .ret d => .ok (d, outE io o.2)
  | .nx => if fr then .stk else .ok (.non, outE io o.2)
  | _ => .stk

section
variable {K : PySem.W.Frag} {T : List (Addr × Str)} {H : Hp}
theorem rel_vals {ds : List D} {vs : List V} (k : Nat) (h : RpL K H ds vs) : (∀ (i : Nat) (d : D), (ds.map Sl.val ++ List.replicate k Sl.no)[i]? = some (.val d) → ∃ v, (vs.map some ++ List.replicate k none)[i]? = some (some v) ∧ Rp K H d v) ∧ ∀ (i : Nat) (d : D), (ds.map Sl.val ++ List.replicate k Sl.no)[i]? ≠ some (.own d) := by
  have hl := h.length
  refine ⟨fun i d q => ?_, fun i d q => ?_⟩
  · by_cases hi : i < ds.length
    · rw [List.getElem?_append_left (by simpa using hi), List.getElem?_map] at q
      cases z : ds[i]? with
      | none => rw [z] at q; cases q
      | some e =>
        rw [z] at q
        cases q
        obtain ⟨v, h1, h2⟩ := h.get z
        exact ⟨v, by rw [List.getElem?_append_left (by simp; omega), List.getElem?_map, h1]; rfl, h2⟩
    · rw [List.getElem?_append_right (by simp; omega), List.getElem?_replicate] at q
      split at q <;> cases q
  · by_cases hi : i < ds.length
    · rw [List.getElem?_append_left (by simpa using hi), List.getElem?_map] at q
      cases z : ds[i]? with
      | none => rw [z] at q; cases q
      | some e => rw [z] at q; cases q
    · rw [List.getElem?_append_right (by simp; omega), List.getElem?_replicate] at q
      split at q <;> cases q
theorem rel_start {io : Bool} {ds : List D} {vs : List V} {N : List Str} {n : Nat} (hv : vs.length = n) (hn : n ≤ N.length) (hT : LamX.Tabs T H) (h : ArgsOk K H io ds vs) :
    ∃ ia : Option Addr, Rel K T ia (startE io ds (N.length - n)) (L2.start N vs) H ∧ (∀ b, OwnA (startE io ds (N.length - n)) (L2.start N vs) b → io = true ∧ vs[0]? = some (.ref b)) ∧
      (io = true → ∃ a, ia = some a ∧ vs[0]? = some (.ref a)) := by
  subst hv
  cases io with
  | false =>
    have h' : RpL K H ds vs := h
    obtain ⟨r1, r2⟩ := rel_vals (N.length - vs.length) h'
    have hl := h'.length
    refine ⟨none, ⟨?_, r1, fun i d q => absurd q (r2 i d), fun i j d e a q => absurd q (r2 i d), (fun a q => by cases q), hT⟩, fun b ⟨i, d, q, _⟩ => absurd q (r2 i d), fun q => by cases q⟩
    show (ds.map Sl.val ++ List.replicate (N.length - vs.length) Sl.no).length = (vs.map some ++ List.replicate (N.length - vs.length) none).length
    simp [hl]
  | true =>
    cases ds with
    | nil => exact (show False from h).elim
    | cons d ds =>
      cases vs with
      | nil => exact (show False from h).elim
      | cons v vs =>
        obtain ⟨⟨a, rfl, ho, fl⟩, h'⟩ : (∃ a, v = .ref a ∧ ROwn K H d a ∧ d.fl = true) ∧ RpL K H ds vs := h
        obtain ⟨r1, r2⟩ := rel_vals (N.length - (vs.length + 1)) h'
        have hl := h'.length
        have eE : startE true (d :: ds) (N.length - (V.ref a :: vs).length) = Sl.own d :: (ds.map Sl.val ++ List.replicate (N.length - (vs.length + 1)) Sl.no) := rfl
        have eS : L2.start N (V.ref a :: vs) = some (V.ref a) :: (vs.map some ++ List.replicate (N.length - (vs.length + 1)) none) := rfl
        rw [eE, eS]
        refine ⟨some a, ⟨by simp [hl], fun i x q => ?_, fun i x q => ?_, fun i j x y b q1 q2 s1 s2 => ?_, fun b q => ?_, hT⟩, fun b q => ?_, fun _ => ⟨a, rfl, rfl⟩⟩
        · cases i with
          | zero => simp at q
          | succ i => exact r1 i x (by simpa using q)
        · cases i with
          | zero =>
            simp at q
            subst q
            exact ⟨a, rfl, ho, fl⟩
          | succ i => exact absurd (by simpa using q) (r2 i x)
        · cases i with
          | zero => cases j with
            | zero => rfl
            | succ j => exact absurd (by simpa using q2) (r2 j y)
          | succ i => exact absurd (by simpa using q1) (r2 i x)
        · cases q
          exact ⟨rfl, d, rfl⟩
        · obtain ⟨i, x, q1, q2⟩ := q
          cases i with
          | zero =>
            refine ⟨rfl, ?_⟩
            simp at q2
            rw [q2]; rfl
          | succ i => exact absurd (by simpa using q1) (r2 i x)
end
section
variable {P : Program} {w : World} {K : PySem.W.Frag} {T : List (Addr × Str)} {mg : Str → Option Value} {base : Heap}
end

theorem free_back {H0 H1 : Hp} {a : Addr} (dm : ∀ b o, H0 b = some o → ∃ o', H1 b = some o') (e : H1 a = none) : H0 a = none := by
  cases z : H0 a with
  | none => rfl
  | some o =>
    obtain ⟨o', h'⟩ := dm a o z
    rw [e] at h'; cases h'
/-! ### calls -/
def eCall (n : Nat) (F : DenF) (Fa : DenL) : Den := fun env => (Fa env).bind fun x => if x.1.length = n then (F x.1).bind fun r => .ok (r.1, x.2) else .stk
/-- the first argument is the own thing of slot i -/
def eCallO (i : Nat) (n : Nat) (F : DenF) (Fa : DenL) : Den := fun env => match env[i]? with
  | some (.own _) => (Fa env).bind fun x => (match x.2[i]? with
    | some (.own d) => if x.1.length + 1 = n then (F (d :: x.1)).bind fun r => .ok (r.1, x.2.set i (.own r.2)) else .stk
    | _ => .stk)
  | _ => .stk
section
variable {K : PySem.W.Frag} {mg : Str → Option Value} {W : WD} {σ : L2.St} {H : Hp} {n : Nat} {F : DenF} {Fa : DenL}
theorem rd_call {fr : Bool} {P0 : Hp → Hp → D → V → Prop} (hP : ∀ (H0 H1 H' : Hp) (d : D) (v : V), (∀ b o, H0 b = some o → ∃ o', H1 b = some o') → (if fr then ∃ a, v = V.ref a ∧ H1 a = none ∧ ROwn K H' d a else Rp K H' d v) → P0 H0 H' d v) {Q : VK}
    (h : ∃ io env, Rel K W.T io env σ H ∧ Wp K W io env σ H (eCall n F Fa env) (P0 H) Q) : tCallS (spD K W.T mg false fr n F) (fun σ => L2.WE (WT mg W) σ) (RdA K W Fa) σ H Q := by
  obtain ⟨io, env, hr, h⟩ := h
  refine ⟨io, env, hr, Wp.bind h fun x vs H1 q0 e1 r1 p1 h1 => ?_⟩
  clear q0
  by_cases hl : x.1.length = n
  · rw [if_pos hl] at h1
    refine ⟨by rw [p1.length, hl], r1.tab, x.1, p1, ?_⟩
    cases z : F x.1 with
    | stk => rw [z] at h1; exact h1
    | err c =>
      rw [z] at h1
      exact fun C H' hC ev t' => ⟨c, C, rfl, rfl, hC, t', h1 x.2 H' ⟨Shp.refl _, fun b o hb ht _ => ev.1 b o hb ht (fun q => by cases q), ev.2⟩ t'⟩
    | ok r =>
      rw [z] at h1
      intro v H' ev t' _ p'
      have x1 : XN H1 H' := fun b o hb ht => ev.1 b o hb ht (fun q => by cases q)
      exact h1 v H' (EvE.extN x1 ev.2) (r1.extN x1 t') (hP H H1 H' _ _ e1.dom p')
  · rw [if_neg hl] at h1; exact (show False from h1).elim
theorem rd_callO {i : Nat} {fr : Bool} {P0 : Hp → Hp → D → V → Prop} (hP : ∀ (H0 H1 H' : Hp) (d : D) (v : V), (∀ b o, H0 b = some o → ∃ o', H1 b = some o') → (if fr then ∃ a, v = V.ref a ∧ H1 a = none ∧ ROwn K H' d a else Rp K H' d v) → P0 H0 H' d v) {Q : VK}
    (h : ∃ io env, Rel K W.T io env σ H ∧ Wp K W io env σ H (eCallO i n F Fa env) (P0 H) Q) : tCallS (spD K W.T mg true fr n F) (fun σ => L2.WE (WT mg W) σ) (tCons (tVar i) (RdA K W Fa)) σ H Q := by
  obtain ⟨io, env, hr, h⟩ := h
  unfold eCallO at h
  split at h
  · rename_i d0 q
    obtain ⟨a, s1, _, _⟩ := hr.own i d0 q
    refine ⟨.ref a, s1, io, env, hr, Wp.bind h fun x vs H1 q0 e1 r1 p1 h1 => ?_⟩
    clear q0
    obtain ⟨d1, q1⟩ := (e1.shp.2 i).1 d0 q
    rw [q1] at h1
    dsimp only at h1
    obtain ⟨a', s1', ho, fl⟩ := r1.own i d1 q1
    rw [s1] at s1'; cases s1'
    have hlt := lt_of_get q1
    by_cases hl : x.1.length + 1 = n
    · rw [if_pos hl] at h1
      refine ⟨by rw [List.length_cons, p1.length, hl], r1.tab, d1 :: x.1, ⟨⟨a, rfl, ho, fl⟩, p1⟩, ?_⟩
      have keep : ∀ {H' : Hp}, EvC true (V.ref a :: vs) H1 H' → ∀ b o, H1 b = some o → NT o → ¬ OwnA x.2 σ b → H' b = some o := fun ev b o hb ht no => ev.1 b o hb ht fun _ z => no ⟨i, d1, q1, by
        have z' : some (V.ref a) = some (V.ref b) := z
        cases z'; exact s1⟩
      cases z : F (d1 :: x.1) with
      | stk => rw [z] at h1; exact h1
      | err c =>
        rw [z] at h1
        exact fun C H' hC ev t' => ⟨c, C, rfl, rfl, hC, t', h1 x.2 H' ⟨Shp.refl _, keep ev, ev.2⟩ t'⟩
      | ok r =>
        rw [z] at h1
        intro v H' ev t' oo p'
        obtain ⟨a2, z2, ho2, fl2⟩ := oo rfl
        have z2' : some (V.ref a) = some (V.ref a2) := z2
        cases z2'
        have fx : FExt H1 H' := fun b o hb f => keep ev b o hb f.nt (r1.notOwn hb f)
        have shp : Shp x.2 (x.2.set i (.own r.2)) := by
          refine ⟨List.length_set, fun j => ⟨fun y g => ?_, fun g => ?_⟩⟩
          · rw [set_get hlt]
            by_cases e : i = j
            · exact ⟨r.2, by rw [if_pos e]⟩
            · exact ⟨y, by rw [if_neg e]; exact g⟩
          · rw [set_get hlt, if_neg (fun e => by subst e; exact g d1 q1)]
        refine h1 v H' ⟨shp, keep ev, ev.2⟩ ⟨by rw [List.length_set]; exact r1.len, fun j y g => ?_, fun j y g => ?_, fun j k y y' b g1 g2 => ?_, fun b g => ?_, t'⟩ (hP H H1 H' _ _ e1.dom p')
        · rw [set_get hlt] at g
          by_cases e : i = j
          · rw [if_pos e] at g; cases g
          · rw [if_neg e] at g
            obtain ⟨w, g1, g2⟩ := r1.val j y g
            exact ⟨w, g1, Rp.ext fx _ _ g2⟩
        · rw [set_get hlt] at g
          by_cases e : i = j
          · rw [if_pos e] at g
            cases g
            subst e
            exact ⟨a, s1, ho2, fl2⟩
          · rw [if_neg e] at g
            obtain ⟨b, g1, ⟨u, g2, g3⟩, g4⟩ := r1.own j y g
            refine ⟨b, g1, ⟨u, ev.1 b u g2 g3.nt fun _ z => e ?_, g3.ext fx⟩, g4⟩
            have z' : some (V.ref a) = some (V.ref b) := z
            cases z'
            exact r1.sep i j d1 y a q1 g s1 g1
        · obtain ⟨y0, g10⟩ := shp.back g1
          obtain ⟨y1, g20⟩ := shp.back g2
          exact r1.sep j k y0 y1 b g10 g20
        · obtain ⟨g1, y, g2⟩ := r1.io b g
          exact ⟨g1, (shp.2 0).1 y g2⟩
    · rw [if_neg hl] at h1; exact (show False from h1).elim
  · exact (show False from h).elim
end
section
variable {X : Cx} {W : WD} {k n : Nat} {f : Addr} {fd : FuncData} {ps : List Str} {F : DenF} {Fa : DenL} {x y : Str} {p pos pos' : Pos} {e : Expr} {es : List Expr}
abbrev FnD (X : Cx) (T : List (Addr × Str)) (k : Nat) (f : Addr) (fd : FuncData) (ps : List Str) (io fr : Bool) (n : Nat) (F : DenF) : Prop := FnOk X.prog X.w X.K X.mg X.base (L2N.CX X.prog X.w) k f fd ps (spD X.K T X.mg io fr n F)
theorem de_call (G : FnD X W.T k f fd ps false false n F) (hr : Room k X.A) (tk : L2N.Takes X (WT X.mg W)) (hg : Gl X x) (hm : X.mg x = some (.ref f)) (hk : PySem.W.keepIn X.K (.ref f) = true) (hb : Binds X.K fd ps []) (ha : DA X W (e :: es) Fa)
    (hdb : (x == ("__debug__" : Str)) = false := by decide) (he : starEach (e :: es) X.env = (false, eval e X.env) :: starEach es X.env := by rfl) (hpl : (backTo pos (starEach es X.env)).any (·.1) = false := by rfl) : DE X W (.Call (.Name x p) (e :: es) [] pos) (eCall n F Fa) :=
  pe_imp (pe_callS (E := fun σ => L2.WE (WT X.mg W) σ) G hr hg hm hk hb (L2N.passAt tk) ha hdb he hpl) fun σ H Q h => rd_call (fr := false) (P0 := fun _ H' d v => Rp X.K H' d v) (fun _ _ _ _ _ _ q => q) h
theorem df_call (G : FnD X W.T k f fd ps false true n F) (hr : Room k X.A) (tk : L2N.Takes X (WT X.mg W)) (hg : Gl X x) (hm : X.mg x = some (.ref f)) (hk : PySem.W.keepIn X.K (.ref f) = true) (hb : Binds X.K fd ps []) (ha : DA X W (e :: es) Fa)
    (hdb : (x == ("__debug__" : Str)) = false := by decide) (he : starEach (e :: es) X.env = (false, eval e X.env) :: starEach es X.env := by rfl) (hpl : (backTo pos (starEach es X.env)).any (·.1) = false := by rfl) : DF X W (.Call (.Name x p) (e :: es) [] pos) (eCall n F Fa) :=
  pe_imp (pe_callS (E := fun σ => L2.WE (WT X.mg W) σ) G hr hg hm hk hb (L2N.passAt tk) ha hdb he hpl) fun σ H Q h => rd_call (fr := true) (P0 := fun H0 H' d v => ∃ a, v = V.ref a ∧ H0 a = none ∧ ROwn X.K H' d a) (fun H0 H1 H' d v dm ⟨a, e1, e2, e3⟩ => ⟨a, e1, free_back dm e2, e3⟩) h
theorem pa_own (i : Nat) (ha : DA X W es Fa) (hN : X.N[i]? = some y) (hv : Vis X.env.scope y) (hd : (y == ("__debug__" : Str)) = false) (hcd : (y == ("__classdict__" : Str)) = false) (hs : starEach (.Name y pos' :: es) X.env = (false, eval (.Name y pos') X.env) :: starEach es X.env) :
    PA X (.Name y pos' :: es) (tCons (tVar i) (RdA X.K W Fa)) := pa_cons (pe_var hN hv hd hcd) ha hs
theorem de_callO (i : Nat) (G : FnD X W.T k f fd ps true false n F) (hr : Room k X.A) (tk : L2N.Takes X (WT X.mg W)) (hg : Gl X x) (hm : X.mg x = some (.ref f)) (hk : PySem.W.keepIn X.K (.ref f) = true) (hb : Binds X.K fd ps []) (ha : DA X W es Fa)
    (hN : X.N[i]? = some y := by rfl) (hv : Vis X.env.scope y := by first | exact Or.inl rfl | exact Or.inr (Or.inl rfl) | exact Or.inr (Or.inr rfl)) (hd : (y == ("__debug__" : Str)) = false := by decide) (hcd : (y == ("__classdict__" : Str)) = false := by decide)
    (hdb : (x == ("__debug__" : Str)) = false := by decide) (he : starEach (.Name y pos' :: es) X.env = (false, eval (.Name y pos') X.env) :: starEach es X.env := by rfl) (hpl : (backTo pos (starEach es X.env)).any (·.1) = false := by rfl) : DE X W (.Call (.Name x p) (.Name y pos' :: es) [] pos) (eCallO i n F Fa) :=
  pe_imp (pe_callS (E := fun σ => L2.WE (WT X.mg W) σ) G hr hg hm hk hb (L2N.passAt tk) (pa_own i ha hN hv hd hcd he) hdb he hpl) fun σ H Q h => rd_callO (fr := false) (P0 := fun _ H' d v => Rp X.K H' d v) (fun _ _ _ _ _ _ q => q) h
theorem df_callO (i : Nat) (G : FnD X W.T k f fd ps true true n F) (hr : Room k X.A) (tk : L2N.Takes X (WT X.mg W)) (hg : Gl X x) (hm : X.mg x = some (.ref f)) (hk : PySem.W.keepIn X.K (.ref f) = true) (hb : Binds X.K fd ps []) (ha : DA X W es Fa)
    (hN : X.N[i]? = some y := by rfl) (hv : Vis X.env.scope y := by first | exact Or.inl rfl | exact Or.inr (Or.inl rfl) | exact Or.inr (Or.inr rfl)) (hd : (y == ("__debug__" : Str)) = false := by decide) (hcd : (y == ("__classdict__" : Str)) = false := by decide)
    (hdb : (x == ("__debug__" : Str)) = false := by decide) (he : starEach (.Name y pos' :: es) X.env = (false, eval (.Name y pos') X.env) :: starEach es X.env := by rfl) (hpl : (backTo pos (starEach es X.env)).any (·.1) = false := by rfl) : DF X W (.Call (.Name x p) (.Name y pos' :: es) [] pos) (eCallO i n F Fa) :=
  pe_imp (pe_callS (E := fun σ => L2.WE (WT X.mg W) σ) G hr hg hm hk hb (L2N.passAt tk) (pa_own i ha hN hv hd hcd he) hdb he hpl) fun σ H Q h => rd_callO (fr := true) (P0 := fun H0 H' d v => ∃ a, v = V.ref a ∧ H0 a = none ∧ ROwn X.K H' d a) (fun H0 H1 H' d v dm ⟨a, e1, e2, e3⟩ => ⟨a, e1, free_back dm e2, e3⟩) h
end

/-! ### raise -/
def sErr (c : Str) : DenS := fun _ => .err c
def sStk : DenS := fun _ => .stk
section
variable {X : Cx} {W : WD} {fr : Bool} {C : Addr} {bmB : List Value} {B newId initId : String} {x m : Str} {j : Nat} {p p2 pos pos' : Pos} {st : Stmt}
theorem ds_raise (hc : X.calm = true) (tk : L2N.Takes X (WT X.mg W)) (F : ExcBaseFacts B newId initId bmB) (q : PySem.W.excIn X.K C bmB newId = true) (gC : X.mg x = some (.ref C)) (kC : PySem.W.keepIn X.K (.ref C) = true) (r : Raises X (.ref C)) (hg : Gl X x)
    (hdb : (x == ("__debug__" : Str)) = false := by decide) : DS X W fr (.Raise (some (.Call (.Name x p) [.Constant (.str m) j p2] [] pos)) none pos') (sErr x) :=
  ps_imp (L2N.ps_raise hc tk (L2N.pmk_own F q gC kC r hg hdb)) fun D σ H ⟨io, env, rr, h⟩ => ⟨x, C, rfl, rfl, gC, rr.tab, h env σ H (Ev.refl _ _ _) rr.tab⟩
/-- a statement that is never come to -/
theorem ds_never : DS X W fr st sStk := ps_imp ps_never fun D σ H ⟨io, env, rr, h⟩ => h
end
end DL

/-! ## DLh -/
/-! DLh: own things are changed: append, x[i] = e, x[i] op= e, x op= e; several targets. -/
namespace DL
open PySem PySem.Spec PyProof.Rows L2

section
variable {K : PySem.W.Frag} {T : List (Addr × Str)} {io : Option Addr} {env : En} {σ : L2.St} {H : Hp} {i : Nat} {d d' : D} {a : Addr} {u' : HO}
theorem Rel.updO (r : Rel K T io env σ H) (hi : env[i]? = some (.own d)) (ha : σ[i]? = some (some (.ref a))) (fl : d'.fl = true) (ho : ∀ H', FExt H H' → HOr K H' d' u') :
    Rel K T io (env.set i (.own d')) σ (upd H a u') ∧ EvE env σ H (env.set i (.own d')) (upd H a u') := by
  have hl := lt_of_get hi
  obtain ⟨a0, s0, ⟨u, hu, hou⟩, _⟩ := r.own i d hi
  rw [ha] at s0; cases s0
  have fx : FExt H (upd H a u') := fun b o h f => by
    rw [upd_ne (fun z => by subst z; rw [hu] at h; cases h; exact hou.notFrm f)]; exact h
  have shp : Shp env (env.set i (.own d')) := by
    refine ⟨List.length_set, fun j => ⟨fun y g => ?_, fun g => ?_⟩⟩
    · rw [set_get hl]
      by_cases e : i = j
      · exact ⟨d', by rw [if_pos e]⟩
      · exact ⟨y, by rw [if_neg e]; exact g⟩
    · rw [set_get hl, if_neg (fun e => by subst e; exact g d hi)]
  refine ⟨⟨by rw [List.length_set]; exact r.len, fun j y g => ?_, fun j y g => ?_, fun j k y y' b g1 g2 => ?_, fun b g => ?_, tabs_upd r.tab fun o h => (by rw [hu] at h; cases h; exact hou.nc)⟩, ⟨shp, fun b o h _ no => ?_, fun b o h => ?_⟩⟩
  · rw [set_get hl] at g
    by_cases e : i = j
    · rw [if_pos e] at g; cases g
    · rw [if_neg e] at g
      obtain ⟨w, g1, g2⟩ := r.val j y g
      exact ⟨w, g1, Rp.ext fx _ _ g2⟩
  · rw [set_get hl] at g
    by_cases e : i = j
    · rw [if_pos e] at g
      cases g
      subst e
      exact ⟨a, ha, ⟨u', upd_same, ho _ fx⟩, fl⟩
    · rw [if_neg e] at g
      obtain ⟨b, g1, ⟨w, g2, g3⟩, g4⟩ := r.own j y g
      exact ⟨b, g1, ⟨w, by rw [upd_ne (fun z => e (r.sep i j d y b hi g (by rw [z]; exact ha) g1))]; exact g2, g3.ext fx⟩, g4⟩
  · obtain ⟨y0, q1⟩ := shp.back g1
    obtain ⟨y1, q2⟩ := shp.back g2
    exact r.sep j k y0 y1 b q1 q2
  · obtain ⟨g1, y, g2⟩ := r.io b g
    exact ⟨g1, (shp.2 0).1 y g2⟩
  · rw [upd_ne (fun z => by subst z; exact no ⟨i, d, hi, ha⟩)]; exact h
  · by_cases z : b = a
    · exact ⟨u', by rw [z]; exact upd_same⟩
    · exact ⟨o, by rw [upd_ne z]; exact h⟩
end
theorem flatL_append : ∀ (xs ys : List D), flatL (xs ++ ys) = (flatL xs && flatL ys)
  | [], ys => by simp [flatL]
  | x :: xs, ys => by
    show (x.flat && flatL (xs ++ ys)) = ((x.flat && flatL xs) && flatL ys)
    rw [flatL_append xs ys, Bool.and_assoc]
theorem flatL_set : ∀ (xs : List D) (i : Nat) (y : D), flatL xs = true → y.flat = true → flatL (xs.set i y) = true
  | [], _, _, h, _ => h
  | x :: xs, 0, y, h, hy => by
    simp only [flatL, Bool.and_eq_true] at h
    simp only [List.set, flatL, Bool.and_eq_true]
    exact ⟨hy, h.2⟩
  | x :: xs, i + 1, y, h, hy => by
    simp only [flatL, Bool.and_eq_true] at h
    simp only [List.set, flatL, Bool.and_eq_true]
    exact ⟨h.1, flatL_set xs i y h.2 hy⟩

/-! ### append -/
/-- the own list at slot i, changed -/
def chL (i : Nat) (g : List D → Option (List D)) (env : En) : Option En := match env[i]? with
  | some (.own (.lst ds)) => (g ds).map fun es => env.set i (.own (.lst es))
  | _ => none
def isOwn (env : En) (i : Nat) : Bool := match env[i]? with
  | some (.own (.lst _)) => true
  | _ => false
def sApp (i : Nat) (f : Den) : DenS := fun env => if isOwn env i then (f env).bind fun x => (R.of (chL i (fun ds => if decide (ds.length < big) then some (ds ++ [x.1]) else none) x.2)).bind fun e => .ok (.nx, e) else .stk
theorem isOwn_get {env : En} {i : Nat} (h : isOwn env i = true) : ∃ ds, env[i]? = some (.own (.lst ds)) := by
  unfold isOwn at h
  split at h
  · rename_i ds q; exact ⟨ds, q⟩
  · cases h
theorem chL_some {i : Nat} {g : List D → Option (List D)} {env e : En} (h : chL i g env = some e) : ∃ ds es, env[i]? = some (.own (.lst ds)) ∧ g ds = some es ∧ e = env.set i (.own (.lst es)) := by
  unfold chL at h
  split at h
  · rename_i ds q
    cases z : g ds with
    | none => rw [z] at h; cases h
    | some es => rw [z] at h; cases h; exact ⟨ds, es, q, z, rfl⟩
  · cases h
section
variable {X : Cx} {W : WD} {fr : Bool} {e ei : Expr} {f fi : Den} {x : Str} {i : Nat} {pos pos' p1 p2 : Pos}
theorem own_lst {K : PySem.W.Frag} {T : List (Addr × Str)} {io : Option Addr} {env : En} {σ : L2.St} {H : Hp} {ds : List D} (r : Rel K T io env σ H) (h : env[i]? = some (.own (.lst ds))) : ∃ a vs, σ[i]? = some (some (.ref a)) ∧ H a = some (.lst vs) ∧ RpL K H ds vs ∧ (D.lst ds).fl = true := by
  obtain ⟨a, s1, ⟨u, h1, h2⟩, fl⟩ := r.own i _ h
  cases u with
  | lst vs => exact ⟨a, vs, s1, h1, h2, fl⟩
  | _ => exact (show False from h2).elim
theorem ds_append (i : Nat) {pos : Pos} (h : PE X e (tBM X.K "list" rAppend (tVar i) (tCons (RdE X.K W f) tNil))) (hs : swapsWith e none pos.line X.env = pure false := by rfl) : DS X W fr (.Expr e pos) (sApp i f) := by
  refine ps_imp (ps_expr h hs) fun D σ H q => ?_
  obtain ⟨io, env, r, q⟩ := q
  unfold sApp at q
  by_cases hb : isOwn env i = true
  · rw [if_pos hb] at q
    obtain ⟨ds0, h0⟩ := isOwn_get hb
    obtain ⟨a, vs0, s1, h1, h2, fl0⟩ := own_lst r h0
    refine ⟨.ref a, s1, .inl ⟨rfl, _, SqL.of h1⟩, io, env, r, WpS.bindE q fun p v H' ev r' p' h' => ?_⟩
    cases zz : chL i (fun ds => if decide (ds.length < big) then some (ds ++ [p.1]) else none) p.2 with
    | none => rw [zz] at h'; exact (show False from h').elim
    | some e =>
      rw [zz] at h'
      obtain ⟨ds, es, g1, g2, rfl⟩ := chL_some zz
      split at g2
      · rename_i hc
        simp only [decide_eq_true_eq] at hc
        cases g2
        obtain ⟨a', vs, s2, h3, h4, fl⟩ := own_lst r' g1
        rw [s1] at s2; cases s2
        obtain ⟨r2, ev2⟩ := r'.updO (d' := .lst (ds ++ [p.1])) (u' := .lst (vs ++ [v])) g1 s1 rfl (fun H' fx => RpL.append (RpL.ext fx _ _ h4) (RpL.cons (Rp.ext fx _ _ p') RpL.nil))
        exact ⟨a, vs, v, rfl, rfl, h3, big_lt (by rw [h4.length]; exact hc), h' σ _ ev2.ev r2⟩
      · cases g2
  · rw [if_neg hb] at q; exact (show False from q).elim

/-! ### x[i] = e -/
def sPut (i : Nat) (fi fv : Den) : DenS := fun env => (fv env).bind fun x => if isOwn x.2 i then (fi x.2).bind fun k => (match k.1 with
    | .int j => (R.of (chL i (fun ds => (ixN ds.length j).map fun m => ds.set m x.1) k.2)).bind fun e => .ok (.nx, e)
    | _ => .stk) else .stk
theorem ds_put (i : Nat) (hv : DE X W e f) (hi : DE X W ei fi) (hN : X.N[i]? = some x := by rfl) (hvis : Vis X.env.scope x := by first | exact Or.inl rfl | exact Or.inr (Or.inl rfl) | exact Or.inr (Or.inr rfl)) (hd : (x == ("__debug__" : Str)) = false := by decide)
    (hcd : (x == ("__classdict__" : Str)) = false := by decide)
    (ha : ∀ v, assign (.Subscript (.Name x p1) ei p2) X.env v = (do
      let ov ← holding [v] (eval (.Name x p1) X.env)
      let iv ← holding [v, ov] (eval ei X.env)
      standAt p2
      holding [v, ov, iv] (setItem ov iv v)
      release [v, ov, iv] []) := by intro _; rfl)
    (hs : swapsWithSole [.Subscript (.Name x p1) ei p2] e pos.line X.env = pure false := by rfl) (hw : swappedStores [.Subscript (.Name x p1) ei p2] e X.env = pure none := by rfl) (h1 : (assignEach [.Subscript (.Name x p1) ei p2] X.env).map (·.2) = [assign (.Subscript (.Name x p1) ei p2) X.env] := by rfl) :
    DS X W fr (.Assign [.Subscript (.Name x p1) ei p2] e pos) (sPut i fi f) := by
  refine ps_imp (ps_asg hv (pg_sub (pe_var (i := i) hN hvis hd hcd) hi set_list ha) hs hw h1) fun D σ H q => ?_
  obtain ⟨io, env, r, q⟩ := q
  refine ⟨io, env, r, WpS.bindE q fun p v H1 ev1 r1 p1' q1 => ?_⟩
  by_cases hb : isOwn p.2 i = true
  · rw [if_pos hb] at q1
    obtain ⟨ds0, h0⟩ := isOwn_get hb
    obtain ⟨a, vs0, s1, _, _, _⟩ := own_lst r1 h0
    refine ⟨.ref a, s1, io, p.2, r1, WpS.bindE q1 fun k w H2 ev2 r2 p2' q2 => ?_⟩
    obtain ⟨kd, ke⟩ := k
    cases kd with
    | int j =>
      dsimp only at q2
      cases zz : chL i (fun ds => (ixN ds.length j).map fun m => ds.set m p.1) ke with
      | none => rw [zz] at q2; exact (show False from q2).elim
      | some e =>
        rw [zz] at q2
        obtain ⟨ds, es, g1, g2, rfl⟩ := chL_some zz
        cases z2 : ixN ds.length j with
        | none => rw [z2] at g2; cases g2
        | some m =>
          rw [z2] at g2
          cases g2
          obtain ⟨a', vs, s2, h3, h4, fl⟩ := own_lst r2 g1
          rw [s1] at s2; cases s2
          have pv : Rp X.K H2 p.1 v := Rp.ext (r1.fx ev2) _ _ p1'
          obtain ⟨r3, ev3⟩ := r2.updO (d' := .lst (ds.set m p.1)) (u' := .lst (vs.set m v)) g1 s1 rfl (fun H' fx => RpL.set (Rp.ext fx _ _ pv) m (RpL.ext fx _ _ h4))
          have p2'' : w = .int j := by simpa [Rp] using p2'
          exact ⟨a, vs, j, m, rfl, p2'', h3, by rw [h4.length]; exact z2, q2 σ _ ev3.ev r3⟩
    | _ => exact (show False from q2).elim
  · rw [if_neg hb] at q1; exact (show False from q1).elim

/-! ### x op= e, ints -/
def sAug (i : Nat) (g : Int → Int → Int) (f : Den) : DenS := fun env => match env[i]? with
  | some (.val (.int a)) => (f env).bind fun x => (match x.1 with
    | .int b => (R.of (putV i (.int (g a b)) x.2)).bind fun e => .ok (.nx, e)
    | _ => .stk)
  | _ => .stk
theorem ds_aug (i : Nat) {op : Operator} {g : Int → Int → Int} (hN : X.N.Nodup) (h : DE X W e f) (ho : PIp X op (ipI g)) (hi : X.N[i]? = some x := by rfl) (hx : Loc X.env.scope x := by first | exact Or.inl rfl | exact Or.inr rfl) (hf : X.fn x = true ∨ X.env.scope.names.lookup x = some .local := by first | exact .inl rfl | exact .inr rfl) :
    DS X W fr (.AugAssign (.Name x pos') op e pos) (sAug i g f) := by
  refine ps_imp (ps_aug hN hi hx h ho hf) fun D σ H q => ?_
  obtain ⟨io, env, r, q⟩ := q
  unfold sAug at q
  split at q
  · rename_i a ha
    obtain ⟨v, s1, rv⟩ := r.val i _ ha
    refine ⟨v, s1, io, env, r, WpS.bindE q fun p w H1 ev1 r1 p1' q1 => ?_⟩
    obtain ⟨pd, pe⟩ := p
    cases pd with
    | int b =>
      dsimp only at q1
      cases zz : putV i (.int (g a b)) pe with
      | none => rw [zz] at q1; exact (show False from q1).elim
      | some e =>
        rw [zz] at q1
        obtain ⟨hn, rfl⟩ := putV_some zz
        obtain ⟨z1, z2⟩ := r1.setV (v := .int (g a b)) (d := .int (g a b)) hn (by simp [Rp])
        exact ⟨a, b, by simpa [Rp] using rv, by simpa [Rp] using p1', q1 _ H1 z2 z1⟩
    | _ => exact (show False from q1).elim
  · exact (show False from q).elim

/-! ### x[i] op= e, ints in an own list -/
theorem pget_list : PGet X (rIxL X.K) := by
  intro pins s σ H o k ov iv Q I ro rk h
  obtain ⟨p, xs, j, z, rfl, rfl, hq, he, q⟩ := h
  obtain rfl : ov = .ref p := ro
  obtain ⟨t, rfl⟩ := rk
  obtain ⟨its, r, pl, hz⟩ := I.list hq
  obtain ⟨m, h1, h2, h3, h4, h5⟩ := atI_get he
  obtain ⟨w, ew, rw'⟩ := r.get h2
  have len := r.length
  have lim := line63
  by_cases neg : 0 ≤ j
  · have e1 : j.toNat = m := by
      rw [seqIndex_of neg h5] at h1
      exact Option.some.inj h1
    exact wpAny_getItem_list pl.isList neg (by omega) (by rw [e1]; simpa using ew) ⟨z, H, I, rw', q⟩
  · have e1 : (j + (its.toArray.size : Int)).toNat = m := by
      rw [seqIndex_neg (by omega) h4] at h1
      rw [List.size_toArray, ← len]
      exact Option.some.inj h1
    exact wpAny_getItem_list_neg pl.isList (by omega) (by rw [List.size_toArray] <;> omega) (by omega) (by rw [e1]; simpa using ew) ⟨z, H, I, rw', q⟩
def sAugL (i : Nat) (g : Int → Int → Int) (fi f : Den) : DenS := fun env => if isOwn env i then (fi env).bind fun k => (match k.1, k.2[i]? with
    | .int j, some (.own (.lst ds)) => (match atI ds j with
      | some (.int a) => (f k.2).bind fun x => (match x.1 with
        | .int b => (R.of (chL i (fun es => (ixN es.length j).map fun m => es.set m (.int (g a b))) x.2)).bind fun e => .ok (.nx, e)
        | _ => .stk)
      | _ => .stk)
    | _, _ => .stk) else .stk
theorem atI_rp {K : PySem.W.Frag} {H : Hp} {ds : List D} {vs : List V} {j : Int} {d : D} (h : RpL K H ds vs) (e : atI ds j = some d) : ∃ v, atI vs j = some v ∧ Rp K H d v := by
  unfold atI at e ⊢
  rw [h.length]
  cases z : ixN ds.length j with
  | none => rw [z] at e; cases e
  | some m =>
    rw [z] at e
    obtain ⟨v, g1, g2⟩ := h.get (show ds[m]? = some d from e)
    exact ⟨v, g1, g2⟩
theorem ds_augL (i : Nat) {op : Operator} {g : Int → Int → Int} (hk : DE X W ei fi) (h : DE X W e f) (ho : PIp X op (ipI g)) (hN : X.N[i]? = some x := by rfl) (hvis : Vis X.env.scope x := by first | exact Or.inl rfl | exact Or.inr (Or.inl rfl) | exact Or.inr (Or.inr rfl)) (hd : (x == ("__debug__" : Str)) = false := by decide)
    (hcd : (x == ("__classdict__" : Str)) = false := by decide) (ha : ∀ ov iv new, augStore ei ov iv new = (do holding [new, ov, iv] (setItem ov iv new); release [new, ov, iv] []; pure .next) := by intros; rfl) :
    DS X W fr (.AugAssign (.Subscript (.Name x p1) ei p2) op e pos) (sAugL i g fi f) := by
  refine ps_imp (ps_augS (pe_var (i := i) hN hvis hd hcd) hk pget_list h ho set_list ha) fun D σ H q => ?_
  obtain ⟨io, env, r, q⟩ := q
  unfold sAugL at q
  by_cases hb : isOwn env i = true
  · rw [if_pos hb] at q
    obtain ⟨ds0, h0⟩ := isOwn_get hb
    obtain ⟨a, vs0, s1, _, _, _⟩ := own_lst r h0
    refine ⟨.ref a, s1, io, env, r, WpS.bindE q fun k w H1 ev1 r1 p1' q1 => ?_⟩
    obtain ⟨kd, ke⟩ := k
    dsimp only at q1 ev1 r1 p1'
    split at q1
    · rename_i j ds hke
      split at q1
      · rename_i z hz
        obtain ⟨a', vs, s2, h3, h4, fl⟩ := own_lst r1 hke
        rw [s1] at s2; cases s2
        obtain ⟨v, g1, g2⟩ := atI_rp h4 hz
        refine ⟨a, vs, j, v, rfl, by simpa [Rp] using p1', SqL.of h3, g1, io, ke, r1, WpS.bindE q1 fun p w2 H2 ev2 r2 p2' q2 => ?_⟩
        obtain ⟨pd, pe⟩ := p
        cases pd with
        | int b =>
          dsimp only at q2
          cases zz : chL i (fun es => (ixN es.length j).map fun m => es.set m (.int (g z b))) pe with
          | none => rw [zz] at q2; exact (show False from q2).elim
          | some e =>
            rw [zz] at q2
            obtain ⟨ds2, es, k1, k2, rfl⟩ := chL_some zz
            cases z2 : ixN ds2.length j with
            | none => rw [z2] at k2; cases k2
            | some m =>
              rw [z2] at k2
              cases k2
              obtain ⟨a2, vs2, s3, h5, h6, fl2⟩ := own_lst r2 k1
              rw [s1] at s3; cases s3
              obtain ⟨r3, ev3⟩ := r2.updO (d' := .lst (ds2.set m (.int (g z b)))) (u' := .lst (vs2.set m (.int (g z b)))) k1 s1 rfl (fun H' fx => RpL.set (by simp [Rp]) m (RpL.ext fx _ _ h6))
              exact ⟨z, b, by simpa [Rp] using g2, by simpa [Rp] using p2', a, vs2, j, m, rfl, by simpa [Rp] using p1', h5, by rw [h6.length]; exact z2, q2 σ _ ev3.ev r3⟩
        | _ => exact (show False from q2).elim
      · exact (show False from q1).elim
    · exact (show False from q1).elim
  · rw [if_neg hb] at q; exact (show False from q).elim

/-! ### target = e, by a target -/
def sTgt (p : Pt) (f : Den) : DenS := fun env => (f env).bind fun x => (R.of (p.asg x.1 x.2)).bind fun e => .ok (.nx, e)
theorem ds_tgt {tg : Expr} {p : Pt} (h : DE X W e f) (hg : DG X tg p) (hs : swapsWithSole [tg] e pos.line X.env = pure false := by rfl) (hw : swappedStores [tg] e X.env = pure none := by rfl) (h1 : (assignEach [tg] X.env).map (·.2) = [assign tg X.env] := by rfl) : DS X W fr (.Assign [tg] e pos) (sTgt p f) := by
  refine ps_imp (ps_asg h hg hs hw h1) fun D σ H q => ?_
  obtain ⟨io, env, r, q⟩ := q
  refine ⟨io, env, r, WpS.bindE q fun x v H1 ev1 r1 p1' q1 => ?_⟩
  cases zz : p.asg x.1 x.2 with
  | none => rw [zz] at q1; exact (show False from q1).elim
  | some e =>
    rw [zz] at q1
    exact ⟨W.T, io, x.2, x.1, e, r1, p1', zz, fun σ' r2 ev2 _ => q1 σ' H1 ev2 r2⟩
/-- a, b = e1, e2 -/
def sPar2 (i j : Nat) (F : DenL) : DenS := fun env => (F env).bind fun x => match x.1 with
  | [d, e] => (R.of ((putV i d x.2).bind fun e1 => putV j e e1)).bind fun e2 => .ok (.nx, e2)
  | _ => .stk
theorem ds_par2 (i j : Nat) {y : Str} {a b : Expr} {F : DenL} {px py pt : Pos} {kt k2 pt2} (hN : X.N.Nodup) (ha : DA X W [a, b] F) (hc : X.calm = true := by rfl) (hi : X.N[i]? = some x := by rfl) (hj : X.N[j]? = some y := by rfl) (hij : i ≠ j := by decide)
    (hx : X.env.scope.names.lookup x = some .local := by rfl) (hy : X.env.scope.names.lookup y = some .local := by rfl)
    (hw : swappedStores [.Tuple [.Name x px, .Name y py] kt pt] (.Tuple [a, b] k2 pt2) X.env = pure (some [x, y]) := by rfl)
    (hs : swapsWithSole [.Tuple [.Name x px, .Name y py] kt pt] (.Tuple [a, b] k2 pt2) pos.line X.env = pure false := by rfl) :
    DS X W fr (.Assign [.Tuple [.Name x px, .Name y py] kt pt] (.Tuple [a, b] k2 pt2) pos) (sPar2 i j F) := by
  refine ps_imp (ps_par hc hN hi hj hij hx hy ha hw hs) fun D σ H q => ?_
  obtain ⟨io, env, r, q⟩ := q
  refine ⟨io, env, r, WpS.bindE q fun p vs H1 ev1 r1 p1' q1 => ?_⟩
  obtain ⟨pd, pe⟩ := p
  dsimp only at q1 r1 p1'
  split at q1
  · rename_i d e
    simp only [RpL] at p1'
    obtain ⟨v, rest, rfl, rv, w, rest', rfl, rw', rfl⟩ := p1'
    cases zz : (putV i d pe).bind fun e1 => putV j e e1 with
    | none => rw [zz] at q1; exact (show False from q1).elim
    | some e2 =>
      rw [zz] at q1
      cases z1 : putV i d pe with
      | none => rw [z1] at zz; cases zz
      | some e1 =>
        rw [z1] at zz
        obtain ⟨n1, rfl⟩ := putV_some z1
        obtain ⟨n2, rfl⟩ := putV_some (show putV j e _ = some e2 from zz)
        obtain ⟨a1, a2⟩ := r1.setV n1 rv
        obtain ⟨b1, b2⟩ := a1.setV n2 rw'
        exact ⟨v, w, rfl, q1 _ H1 (a2.trans b2) b1⟩
  · exact (show False from q1).elim
end

/-! ### an own list's item; an own thing that is frozen behind a statement -/
def eIxO (i : Nat) (fi : Den) : Den := fun env => if isOwn env i then (fi env).bind fun k => (match k.1, k.2[i]? with
    | .int j, some (.own (.lst ds)) => (R.of (atI ds j)).bind fun d => .ok (d, k.2)
    | _, _ => .stk) else .stk
def sFz (i : Nat) : DenS := fun env => match env[i]? with
  | some (.own d) => .ok (.nx, env.set i (.val d))
  | _ => .ok (.nx, env)
section
variable {X : Cx} {W : WD} {fr : Bool} {e ei : Expr} {f fi : Den} {x : Str} {i : Nat} {pos p1 : Pos} {st : Stmt} {g : DenS}
theorem de_ixO (i : Nat) (hi : DE X W ei fi) (hN : X.N[i]? = some x := by rfl) (hvis : Vis X.env.scope x := by first | exact Or.inl rfl | exact Or.inr (Or.inl rfl) | exact Or.inr (Or.inr rfl)) (hd : (x == ("__debug__" : Str)) = false := by decide)
    (hcd : (x == ("__classdict__" : Str)) = false := by decide) (hs : PlainIx ei := by exact fun _ _ => rfl) : DE X W (.Subscript (.Name x p1) ei pos) (eIxO i fi) := by
  refine pe_imp (pe_ix ix_list (pe_var (i := i) hN hvis hd hcd) hi hs) fun σ H Q q => ?_
  obtain ⟨io, env, r, q⟩ := q
  unfold eIxO at q
  by_cases hb : isOwn env i = true
  · rw [if_pos hb] at q
    obtain ⟨ds0, h0⟩ := isOwn_get hb
    obtain ⟨a, vs0, s1, _, _, _⟩ := own_lst r h0
    refine ⟨.ref a, s1, io, env, r, Wp.bind q fun k w H2 q0 ev2 r2 p2' q2 => ?_⟩
    obtain ⟨kd, ke⟩ := k
    dsimp only at q2 ev2 r2 p2'
    split at q2
    · rename_i j ds hke
      cases z : atI ds j with
      | none => rw [z] at q2; exact (show False from q2).elim
      | some d =>
        rw [z] at q2
        obtain ⟨a', vs, s2, h3, h4, fl⟩ := own_lst r2 hke
        rw [s1] at s2; cases s2
        obtain ⟨v, g1, g2⟩ := atI_rp h4 z
        exact ⟨a, vs, j, v, rfl, by simpa [Rp] using p2', SqL.of h3, g1, q2 v H2 (EvE.refl _ _ _) r2 g2⟩
    · exact (show False from q2).elim
  · rw [if_neg hb] at q; exact (show False from q).elim
theorem lend_for {K : PySem.W.Frag} {T : List (Addr × Str)} {io : Option Addr} {env : En} {σ : L2.St} {H : Hp} {d : D} {a : Addr} {u : HO} {od : Obj} (h0 : i ≠ 0) (r : Rel K T io env σ H) (hi : env[i]? = some (.own d)) (ha : σ[i]? = some (some (.ref a))) (hu : H a = some u) (ho : HOr K H d u) :
    Rel K T io (env.set i (.val d)) σ (upd H a (.frz od u)) ∧ Ev env σ H (env.set i (.val d)) σ (upd H a (.frz od u)) := by
  have r1 := lend (od := od) r hi ha hu ho
  refine ⟨⟨r1.len, r1.val, r1.own, r1.sep, fun b h => ?_, r1.tab⟩, ⟨fun b o h no => ⟨fun _ => ?_, fun z => no (lend_sub hi z)⟩, fun b o h => ?_⟩⟩
  · obtain ⟨q1, y, q2⟩ := r.io b h
    exact ⟨q1, y, by rw [set_get (lt_of_get hi), if_neg h0]; exact q2⟩
  · rw [upd_ne (fun z => by subst z; exact no ⟨i, d, hi, ha⟩)]; exact h
  · by_cases z : b = a
    · exact ⟨_, by rw [z]; exact upd_same⟩
    · exact ⟨o, by rw [upd_ne z]; exact h⟩
theorem ds_fz (i : Nat) (h : DS X W fr st g) (h0 : i ≠ 0 := by decide) : DS X W fr st (sSeq g (sFz i)) := by
  refine ⟨fun pins s σ H D I q => ?_⟩
  obtain ⟨io, env, r, q⟩ := q
  let D' : Ends := { D with nx := fun σ' H' => D.nx σ' H' ∨ ∃ l u, H' l = some u ∧ Mut (some u) ∧ ∀ od, D.nx σ' (upd H' l (.frz od u)) }
  refine thn (h.run pins s σ H D' I ⟨io, env, r, ?_⟩) fun fl s1 hs => ?_
  · have q := WpS.seq q
    cases z : g env with
    | stk => rw [z] at q; exact q
    | err c => rw [z] at q; exact q
    | ok p =>
      rw [z] at q
      obtain ⟨fl, env1⟩ := p
      cases fl with
      | brk => exact q
      | cnt => exact q
      | ret d => exact q
      | nx =>
        intro σ1 H1 ev1 r1
        obtain ⟨io2, env2, r2, q2⟩ := q σ1 H1 ev1 r1
        unfold sFz at q2
        split at q2
        · rename_i d hd
          obtain ⟨a, ha, ⟨u, hu, ho⟩, fl⟩ := r2.own i d hd
          refine .inr ⟨a, u, hu, ho.mut, fun od => ?_⟩
          obtain ⟨r3, ev3⟩ := lend_for (od := od) h0 r2 hd ha hu ho
          exact q2 σ1 _ ev3 r3
        · exact .inl (q2 σ1 H1 (Ev.refl _ _ _) r2)
  · cases fl with
    | next =>
      obtain ⟨σ', H', I2, q2⟩ := hs
      rcases q2 with q2 | ⟨l, u, eu, mu, q2⟩
      · exact ⟨σ', H', I2, q2⟩
      · obtain ⟨od, I3⟩ := I2.lock eu mu
        exact ⟨σ', _, I3, q2 od⟩
    | brk => exact hs
    | cont => exact hs
    | ret v => exact hs
end
end DL

/-! ## DLp -/
/-! DLp: the built-in operations as functions on data. -/
namespace DL
open PySem PySem.Spec PyProof.Rows L2

/-! ### a value or a new thing -/
abbrev MaB (K : PySem.W.Frag) (H H' : Hp) (d : D) (v : V) : Prop := Rp K H' d v ∨ ∃ a, v = V.ref a ∧ H a = none ∧ ROwn K H' d a
def PrM2 (K : PySem.W.Frag) (r : R2) (p : D → D → Option D) : Prop :=
  ∀ (H : Hp) (x y : V) (a b d : D), Rp K H a x → Rp K H b y → p a b = some d → ∀ Q : VK, (∀ v H', Ext H H' → MaB K H H' d v → Q v H') → r x y H Q
def PrM (K : PySem.W.Frag) (r : List V → Hp → VK → Prop) (p : List D → Option D) : Prop :=
  ∀ (H : Hp) (vs : List V) (ds : List D) (d : D), RpL K H ds vs → p ds = some d → ∀ Q : VK, (∀ v H', Ext H H' → MaB K H H' d v → Q v H') → r vs H Q
def RdM (K : PySem.W.Frag) (W : WD) (f : Den) : TE := fun σ H Q => ∃ io env, Rel K W.T io env σ H ∧ Wp K W io env σ H (f env) (fun H' d v => MaB K H H' d v) Q
abbrev DM (X : Cx) (W : WD) (e : Expr) (f : Den) : Prop := PE X e (RdM X.K W f)
theorem MaB.back {K : PySem.W.Frag} {H0 H1 H' : Hp} {d : D} {v : V} (dm : ∀ b o, H0 b = some o → ∃ o', H1 b = some o') (h : MaB K H1 H' d v) : MaB K H0 H' d v := by
  rcases h with h | ⟨a, e1, e2, e3⟩
  · exact .inl h
  · exact .inr ⟨a, e1, free_back dm e2, e3⟩
theorem rd_opM {K : PySem.W.Frag} {W : WD} {σ : L2.St} {H : Hp} {fa fb : Den} {r : R2} {p : D → D → Option D} (hp : PrM2 K r p) {Q : VK} (h : RdM K W (e2 p fa fb) σ H Q) : tOp r (RdE K W fa) (RdE K W fb) σ H Q := by
  obtain ⟨io, env, hr, h⟩ := h
  refine ⟨io, env, hr, Wp.bind h fun x v H1 _ e1 r1 p1 h1 => ⟨io, x.2, r1, Wp.bind h1 fun y w H2 _ e2 r2 p2 h2 => ?_⟩⟩
  cases q : p x.1 y.1 with
  | none => rw [q] at h2; exact (show False from h2).elim
  | some d =>
    rw [q] at h2
    exact hp H2 v w x.1 y.1 d (Rp.ext (r1.fx e2) _ _ p1) p2 q Q fun z H3 e3 rz => h2 z H3 (EvE.ext e3) (r2.ext e3) (rz.back (e1.trans e2).dom)
theorem rd_cbM {K : PySem.W.Frag} {W : WD} {σ : L2.St} {H : Hp} {F : DenL} {r : List V → Hp → VK → Prop} {p : List D → Option D} (hp : PrM K r p) {Q : VK} (h : RdM K W (eN p F) σ H Q) : tCB r (RdA K W F) σ H Q := by
  obtain ⟨io, env, hr, h⟩ := h
  refine ⟨io, env, hr, Wp.bind h fun x vs H1 _ e1 r1 p1 h1 => ?_⟩
  cases q : p x.1 with
  | none => rw [q] at h1; exact (show False from h1).elim
  | some d =>
    rw [q] at h1
    exact hp H1 vs x.1 d p1 q Q fun z H3 e3 rz => h1 z H3 (EvE.ext e3) (r1.ext e3) (rz.back e1.dom)
/-- a new thing is frozen, a value stays -/
theorem DM.fz {X : Cx} {W : WD} {e : Expr} {f : Den} (h : DM X W e f) : DE X W e f := by
  refine ⟨fun pins s σ H Q I hq => ?_⟩
  obtain ⟨io, env, hr, hq⟩ := hq
  refine thn (h.run pins s σ H (fun v H1 => Q v H1 ∨ ∃ a u, v = .ref a ∧ H1 a = some u ∧ Mut (some u) ∧ ∀ od, Q v (upd H1 a (.frz od u))) I ⟨io, env, hr, ?_⟩) fun v s1 ⟨x, H1, I1, rx, q⟩ => ?_
  · cases z : f env with
    | stk => rw [z] at hq; exact hq
    | err c => rw [z] at hq; exact hq
    | ok p =>
      rw [z] at hq
      intro v H1 e1 r1 p1
      rcases p1 with p1 | ⟨a, rfl, na, u, hu, ho⟩
      · exact .inl (hq v H1 e1 r1 p1)
      · have no : ¬ OwnA p.2 σ a := fun y => by
          obtain ⟨i, d, y1, y2⟩ := e1.shp.ownA.mp y
          obtain ⟨b, y3, ⟨w, y4, _⟩, _⟩ := hr.own i d y1
          rw [y2] at y3; cases y3
          rw [na] at y4; cases y4
        have nf : ∀ o, H1 a = some o → ¬ Frm o := fun o ho' => by
          rw [hu] at ho'; cases ho'; exact ho.notFrm
        refine .inr ⟨a, u, rfl, hu, ho.mut, fun od => ?_⟩
        have r2 : Rel X.K W.T io p.2 σ (upd H1 a (.frz od u)) := r1.upd_new nf (fun o z => by rw [hu] at z; cases z; exact ho.nc) no
        have fx : FExt H1 (upd H1 a (.frz od u)) := fun b o h f => by
          rw [upd_ne (fun z => by subst z; exact nf o h f)]; exact h
        refine hq (.ref a) _ ⟨e1.shp, fun b o hb ht hn => ?_, fun b o hb => ?_⟩ r2 (Rp.of_frz (ho.ext fx) upd_same)
        · rw [upd_ne (ne_of_none hb na)]; exact e1.kp b o hb ht hn
        · rw [upd_ne (ne_of_none hb na)]; exact e1.dom b o hb
  · rcases q with q | ⟨a, u, ex, eu, mu, q⟩
    · exact ⟨x, H1, I1, rx, q⟩
    · obtain ⟨od, I2⟩ := I1.lock eu mu
      exact ⟨x, _, I2, rx, q od⟩
/-- two rules, one after the other -/
def orD (p q : D → D → Option D) : D → D → Option D := fun a b => (p a b).or (q a b)
theorem PrR2.m {K : PySem.W.Frag} {r : R2} {p : D → D → Option D} (h : PrR2 K r p) : PrM2 K r p := fun H x y a b d ra rb e Q k => h H x y a b d ra rb e Q fun v H' x1 rv => k v H' x1 (.inl rv)
theorem PrF2.m {K : PySem.W.Frag} {r : R2} {p : D → D → Option D} (h : PrF2 K r p) : PrM2 K r p := fun H x y a b d ra rb e Q k => h H x y a b d ra rb e Q fun l H' x1 nl ow => k _ H' x1 (.inr ⟨l, rfl, nl, ow⟩)
theorem PrM2.or {K : PySem.W.Frag} {r r' : R2} {p q : D → D → Option D} (h : PrM2 K r p) (h' : PrM2 K r' q) : PrM2 K (fun x y H Q => r x y H Q ∨ r' x y H Q) (orD p q) := by
  intro H x y a b d ra rb e Q k
  unfold orD at e
  cases z : p a b with
  | some d' => rw [z] at e; exact .inl (h H x y a b d ra rb (z.trans e) Q k)
  | none => rw [z] at e; exact .inr (h' H x y a b d ra rb e Q k)
theorem PrR2.or {K : PySem.W.Frag} {r r' : R2} {p q : D → D → Option D} (h : PrR2 K r p) (h' : PrR2 K r' q) : PrR2 K (fun x y H Q => r x y H Q ∨ r' x y H Q) (orD p q) := by
  intro H x y a b d ra rb e Q k
  unfold orD at e
  cases z : p a b with
  | some d' => rw [z] at e; exact .inl (h H x y a b d ra rb (z.trans e) Q k)
  | none => rw [z] at e; exact .inr (h' H x y a b d ra rb e Q k)
section
variable {X : Cx} {W : WD} {a b e : Expr} {es : List Expr} {fa fb : Den} {F : DenL} {pos : Pos}
theorem dm_bin {op : Operator} {r : R2} {p : D → D → Option D} (hp : PrM2 X.K r p) (ho : OpR X (binaryOp op) r) (ha : DE X W a fa) (hb : DE X W b fb) : DM X W (.BinOp a op b pos) (e2 p fa fb) :=
  pe_imp (pe_op ho ha hb) fun σ H Q h => rd_opM hp h
theorem dm_ct {x : Str} {T : String} {r : List V → Hp → VK → Prop} {p : List D → Option D} {q : Pos} (hp : PrM X.K r p) (hc : CallR X (.type T) r) (hg : Gl X x) (hm : X.mg x = none) (hv : bootBuiltins x = some (.type T)) (ha : DA X W (e :: es) F)
    (hn : x ≠ "__name__" := by decide) (hdb : (x == ("__debug__" : Str)) = false := by decide) (he : starEach (e :: es) X.env = (false, eval e X.env) :: starEach es X.env := by rfl) (hpl : (backTo pos (starEach es X.env)).any (·.1) = false := by rfl) :
    DM X W (.Call (.Name x q) (e :: es) [] pos) (eN p F) := pe_imp (pe_callTy hc hg hm hv ha hn hdb he hpl) fun σ H Q h => rd_cbM hp h
end

/-! ### ints -/
def i2 (g : Int → Int → D) : D → D → Option D
  | .int i, .int j => some (g i j)
  | _, _ => none
def i2c (C : Int → Int → Bool) (g : Int → Int → D) : D → D → Option D
  | .int i, .int j => if C i j then some (g i j) else none
  | _, _ => none
section
variable {K : PySem.W.Frag} {H : Hp}
theorem rp_int {i : Int} {v : V} (h : Rp K H (.int i) v) : v = .int i := by simpa [Rp] using h
theorem pr_i2 {g : Int → Int → Int} : PrR2 K (rI0 fun i j => .int (g i j)) (i2 fun i j => .int (g i j)) := by
  intro H x y a b d ra rb e Q k
  cases a <;> cases b <;> simp only [i2] at e <;> first
    | (cases e; exact ⟨_, _, rp_int ra, rp_int rb, k _ H (Ext.refl _) (by simp [Rp])⟩)
    | cases e
theorem pr_i2b {g : Int → Int → Bool} : PrR2 K (rI0 fun i j => .bl (g i j)) (i2 fun i j => .bl (g i j)) := by
  intro H x y a b d ra rb e Q k
  cases a <;> cases b <;> simp only [i2] at e <;> first
    | (cases e; exact ⟨_, _, rp_int ra, rp_int rb, k _ H (Ext.refl _) (by simp [Rp])⟩)
    | cases e
theorem pr_i2c {C : Int → Int → Prop} {B : Int → Int → Bool} {g : Int → Int → Int} (hB : ∀ i j, B i j = true → C i j) : PrR2 K (rI C fun i j => .int (g i j)) (i2c B fun i j => .int (g i j)) := by
  intro H x y a b d ra rb e Q k
  cases a <;> cases b <;> simp only [i2c] at e <;> first
    | (split at e
       · rename_i hc; cases e; exact ⟨_, _, rp_int ra, rp_int rb, hB _ _ hc, k _ H (Ext.refl _) (by simp [Rp])⟩
       · cases e)
    | cases e
end
def pAddI := i2 fun i j => D.int (i + j)
def pSubI := i2 fun i j => D.int (i - j)
/-- a bool among ints, ahead -/
def b2 (g : Int → Int → D) : D → D → Option D
  | .bl k, .int j => some (g (if k = true then 1 else 0) j)
  | _, _ => none
def pAddB := b2 fun i j => D.int (i + j)
def pSubB := b2 fun i j => D.int (i - j)
def pSub := orD pSubI pSubB
def mulB (i j : Int) : Bool := decide ((-(2 ^ 64) < i ∧ i < 2 ^ 64) ∨ (-(2 ^ 64) < j ∧ j < 2 ^ 64))
def pMulI := i2c mulB fun i j => D.int (i * j)
def divB (i j : Int) : Bool := decide (0 < j ∧ j < 1073741824)
def pDiv := i2c divB fun i j => D.int (i / j)
def pMod := i2c (fun _ j => decide (0 < j)) fun i j => D.int (i % j)
def powB (i j : Int) : Bool := decide (0 ≤ j ∧ j ≤ 1000000 ∧ i.natAbs < 2 ^ 64)
def pPow := i2c powB fun i j => D.int (i ^ j.toNat)
def pLtI := i2 fun i j => D.bl (decide (i < j))
def pLe := i2 fun i j => D.bl (decide (i ≤ j))
def pGt := i2 fun i j => D.bl (decide (j < i))
def pGe := i2 fun i j => D.bl (decide (j ≤ i))
def pNeg : D → Option D
  | .int i => some (.int (-i))
  | _ => none
section
variable {K : PySem.W.Frag}
theorem pr_addI : PrR2 K (rI0 fun i j => .int (i + j)) pAddI := pr_i2
def rB2 (g : Int → Int → Int) : R2 := fun x y H Q => ∃ (k : Bool) (i : Int), x = .bl k ∧ y = .int i ∧ Q (.int (g (if k = true then 1 else 0) i)) H
theorem pr_b2 {g : Int → Int → Int} : PrR2 K (rB2 g) (b2 fun i j => .int (g i j)) := by
  intro H x y a b d ra rb e Q k
  cases a <;> cases b <;> simp only [b2] at e <;> first
    | (cases e; exact ⟨_, _, by simpa [Rp] using ra, rp_int rb, k _ H (Ext.refl _) (by simp [Rp])⟩)
    | cases e
theorem op_addB {X : Cx} : OpR X (binaryOp .Add) (rB2 fun i j => i + j) := by
  intro pins s σ H x y v u Q I rx ry h
  obtain ⟨k, i, rfl, rfl, q⟩ := h
  cases rx
  obtain ⟨t, rfl⟩ := ry
  exact PySem.IntBool.add_bool_int ⟨.int _, H, I.tok _, ⟨_, rfl⟩, q⟩
theorem op_subB0 {X : Cx} : OpR X (binaryOp .Sub) (rB2 fun i j => i - j) := by
  intro pins s σ H x y v u Q I rx ry h
  obtain ⟨k, i, rfl, rfl, q⟩ := h
  cases rx
  obtain ⟨t, rfl⟩ := ry
  exact PySem.IntBool.sub_bool_int ⟨.int _, H, I.tok _, ⟨_, rfl⟩, q⟩
def rSubB : R2 := fun x y H Q => rI0 (fun i j => .int (i - j)) x y H Q ∨ rB2 (fun i j => i - j) x y H Q
theorem op_subB {X : Cx} : OpR X (binaryOp .Sub) rSubB := op_sub.or op_subB0
theorem pr_sub : PrR2 K rSubB pSub := PrR2.or (pr_i2 (g := fun i j => i - j)) (pr_b2 (g := fun i j => i - j))
theorem pr_mulI : PrR2 K (rI CMul fun i j => .int (i * j)) pMulI := pr_i2c fun i j h => of_decide_eq_true (p := (-(2 ^ 64) < i ∧ i < 2 ^ 64) ∨ (-(2 ^ 64) < j ∧ j < 2 ^ 64)) h
theorem pr_div : PrR2 K (rI CDiv fun i j => .int (i / j)) pDiv := pr_i2c fun i j h => of_decide_eq_true (p := 0 < j ∧ j < 1073741824) h
theorem pr_mod : PrR2 K (rI (fun _ j => 0 < j) fun i j => .int (i % j)) pMod := pr_i2c fun i j h => of_decide_eq_true h
theorem pr_pow : PrR2 K (rI CPow fun i j => .int (i ^ j.toNat)) pPow := pr_i2c fun i j h => of_decide_eq_true (p := 0 ≤ j ∧ j ≤ 1000000 ∧ i.natAbs < 2 ^ 64) h
theorem pr_ltI : PrR2 K (rI0 fun i j => .bl (decide (i < j))) pLtI := pr_i2b
theorem pr_le : PrR2 K (rI0 fun i j => .bl (decide (i ≤ j))) pLe := pr_i2b
theorem pr_gt : PrR2 K (rI0 fun i j => .bl (decide (j < i))) pGt := pr_i2b
theorem pr_ge : PrR2 K (rI0 fun i j => .bl (decide (j ≤ i))) pGe := pr_i2b
theorem pr_neg : PrR1 K (rU fun i => .int (-i)) pNeg := by
  intro H x a d ra e Q k
  cases a <;> simp only [pNeg] at e <;> first
    | (cases e; exact ⟨_, rp_int ra, k _ H (Ext.refl _) (by simp [Rp])⟩)
    | cases e
end

/-! ### ints of a list -/
def asI : List D → Option (List Int)
  | [] => some []
  | .int i :: ds => (asI ds).map (i :: ·)
  | _ :: _ => none
theorem asI_some : ∀ {ds : List D} {ns : List Int}, asI ds = some ns → ds = ns.map D.int
  | [], ns, h => by simp only [asI, Option.some.injEq] at h; subst h; rfl
  | .int i :: ds, ns, h => by
    simp only [asI] at h
    cases z : asI ds with
    | none => rw [z] at h; cases h
    | some ms => rw [z] at h; cases h; rw [List.map_cons, asI_some z]
  | .non :: _, _, h => by simp [asI] at h
  | .bl _ :: _, _, h => by simp [asI] at h
  | .str _ :: _, _, h => by simp [asI] at h
  | .tup _ _ :: _, _, h => by simp [asI] at h
  | .lst _ :: _, _, h => by simp [asI] at h
  | .dk _ :: _, _, h => by simp [asI] at h
  | .dt _ :: _, _, h => by simp [asI] at h
@[simp] theorem asI_map : ∀ (ns : List Int), asI (ns.map D.int) = some ns
  | [] => rfl
  | n :: ns => by simp [asI, asI_map ns]
def asB : List D → Option (List Bool)
  | [] => some []
  | .bl i :: ds => (asB ds).map (i :: ·)
  | _ :: _ => none
theorem asB_some : ∀ {ds : List D} {ns : List Bool}, asB ds = some ns → ds = ns.map D.bl
  | [], ns, h => by simp only [asB, Option.some.injEq] at h; subst h; rfl
  | .bl i :: ds, ns, h => by
    simp only [asB] at h
    cases z : asB ds with
    | none => rw [z] at h; cases h
    | some ms => rw [z] at h; cases h; rw [List.map_cons, asB_some z]
  | .non :: _, _, h => by simp [asB] at h
  | .int _ :: _, _, h => by simp [asB] at h
  | .str _ :: _, _, h => by simp [asB] at h
  | .tup _ _ :: _, _, h => by simp [asB] at h
  | .lst _ :: _, _, h => by simp [asB] at h
  | .dk _ :: _, _, h => by simp [asB] at h
  | .dt _ :: _, _, h => by simp [asB] at h
@[simp] theorem asB_map : ∀ (ns : List Bool), asB (ns.map D.bl) = some ns
  | [] => rfl
  | n :: ns => by simp [asB, asB_map ns]

/-! ### tuples and lists put together -/
theorem objOk_tupO {P : Program} {w : World} {H : Hp} {h : Heap} {p : Addr} {xs : List V} {its : List Value} (m : Bool) (hz : xs.length ≤ sizeLine) (r : Vals xs its) (e : h.get? p = some { cls := .type "tuple", data := .seq its.toArray }) :
    ObjOk P w H h p (tupO m { cls := .type "tuple", data := .seq its.toArray } xs) := by
  cases m with
  | false => exact ⟨hz, its, r, ⟨_, e, rfl, _, rfl⟩⟩
  | true => exact ⟨e, hz, its, r, ⟨_, e, rfl, _, rfl⟩⟩
def pAddT : D → D → Option D
  | .tup b xs, .tup c ys => if b = c then (short (xs ++ ys)).map (.tup b) else none
  | _, _ => none
def pAddL : D → D → Option D
  | .lst xs, .lst ys => (short (xs ++ ys)).map .lst
  | _, _ => none
def pAdd := orD pAddI (orD pAddT (orD pAddL pAddB))
def rCatB (K : PySem.W.Frag) : R2 := fun x y H Q => ∃ m a b xs ys, x = .ref a ∧ y = .ref b ∧ SqT K H a xs ∧ SqT K H b ys ∧ xs.length + ys.length ≤ sizeLine ∧
  (xs = [] → Q (.ref b) H) ∧ (xs ≠ [] → ys = [] → Q (.ref a) H) ∧ (xs ≠ [] → ys ≠ [] → ∀ p o, H p = none → o.dict = none → Q (.ref p) (upd H p (tupO m o (xs ++ ys))))
theorem op_catB {X : Cx} : OpR X (binaryOp .Add) (rCatB X.K) := by
  intro pins s σ H x y v u Q I rx ry h
  obtain ⟨m, a, b, xs, ys, rfl, rfl, ha, hb, hz, q0, q1, q2⟩ := h
  cases rx
  cases ry
  obtain ⟨its, r1, p1, _⟩ := I.tuple ha
  obtain ⟨its2, r2, p2, _⟩ := I.tuple hb
  by_cases hx : xs = []
  · subst hx
    cases r1
    exact cat_tup0 p1 p2 ⟨.ref b, H, I, rfl, q0 rfl⟩
  · refine HT.cat_tup p1 p2 (fun z => hx (r1.nil_iff.mp z)) (fun z => ⟨.ref a, H, I, rfl, q1 hx (r2.nil_iff.mp z)⟩) (fun z => ?_) (by rw [← r1.length, ← r2.length]; exact hz)
    refine ⟨.ref s.heap.objs.size, _, I.laid (t' := s.toks) (o := tupO m _ (xs ++ ys)) (fun b ob q => Heap.get?_push_of_some _ q) (Nat.le_refl _) (objOk_tupO m (by rw [List.length_append]; exact hz) (r1.append r2) (Heap.get?_push_size _ rfl)), rfl, q2 hx (fun w => z (r2.nil_iff.mpr w)) _ _ (I.hok.fresh (Nat.le_refl _)) rfl⟩
theorem pr_addT {K : PySem.W.Frag} : PrR2 K (rCatB K) pAddT := by
  intro H x y a b d ra rb e Q k
  cases a with
  | tup m xs =>
    cases b with
    | tup c ys =>
      simp only [pAddT] at e
      split at e
      · rename_i hm
        subst hm
        cases z : short (xs ++ ys) with
        | none => rw [z] at e; cases e
        | some es =>
          rw [z] at e
          cases e
          obtain ⟨rfl, hl⟩ := short_some z
          simp only [Rp] at ra rb
          obtain ⟨p, vs, rfl, hp, r1⟩ := ra
          obtain ⟨q, ws, rfl, hq, r2⟩ := rb
          have l1 := r1.length
          have l2 := r2.length
          rw [List.length_append] at hl
          refine ⟨m, p, q, vs, ws, rfl, rfl, hp.sq, hq.sq, big_le (by omega), fun hn => ?_, fun _ hn => ?_, fun _ _ l o nl ho => ?_⟩
          · subst hn
            have : xs = [] := List.length_eq_zero_iff.mp (by simpa using l1.symm)
            subst this
            exact k _ H (Ext.refl _) (by simp only [Rp, List.nil_append]; exact ⟨q, ws, rfl, hq, r2⟩)
          · subst hn
            have : ys = [] := List.length_eq_zero_iff.mp (by simpa using l2.symm)
            subst this
            exact k _ H (Ext.refl _) (by simp only [Rp, List.append_nil]; exact ⟨p, vs, rfl, hp, r1⟩)
          · exact k _ _ (Ext.new nl) (by simp only [Rp]; exact ⟨l, vs ++ ws, rfl, TupAt.new ho, RpL.ext (Ext.new nl).fx _ _ (RpL.append r1 r2)⟩)
      · cases e
    | _ => simp [pAddT] at e
  | _ => simp [pAddT] at e
/-- two lists that are read make a new one -/
def rCatS (K : PySem.W.Frag) : R2 := fun x y H Q => ∃ l b xs zs, x = .ref l ∧ y = .ref b ∧ SqL K H l xs ∧ SqL K H b zs ∧ xs.length + zs.length ≤ sizeLine ∧ ∀ p, H p = none → Q (.ref p) (upd H p (.lst (xs ++ zs)))
theorem op_catS {X : Cx} : OpR X (binaryOp .Add) (rCatS X.K) := by
  intro pins s σ H x y v u Q I rx ry h
  obtain ⟨l, b, xs, zs, rfl, rfl, hX, hZ, hz, q⟩ := h
  cases rx
  cases ry
  obtain ⟨its, r1, ⟨⟨c1, d1, t1, s1⟩, n1, g1, e1, _, f1⟩, z1⟩ := I.list hX
  obtain ⟨its2, r2, ⟨⟨c2, d2, t2, s2⟩, n2, g2, e2, _, f2⟩, z2⟩ := I.list hZ
  dsimp only at e1 f1 e2 f2
  subst e1 f1 e2 f2
  have l1 := r1.length
  have l2 := r2.length
  refine concat_meets ⟨_, g1, rfl⟩ ⟨_, g2, rfl⟩ noFill_list_add
    seq_list_add PySem.F.slot_list_add PySem.F.entry_list_add
    (PySem.F.args_list_add_2 _ _)
    (list_addW l b its.toArray its2.toArray n1 n2 d1 d2 s1 s2 (by rw [List.size_toArray, List.size_toArray]; omega)) ⟨g1, g2, ?_⟩
  rw [show its.toArray ++ its2.toArray = (its ++ its2).toArray by simp]
  exact ⟨.ref _, _, I.lnew (t' := s.toks) (r1.append r2) (by rw [List.length_append]; omega), rfl, q _ I.fresh⟩
theorem pr_addL {K : PySem.W.Frag} : PrF2 K (rCatS K) pAddL := by
  intro H x y a b d ra rb e Q k
  cases a with
  | lst xs =>
    cases b with
    | lst ys =>
      simp only [pAddL] at e
      cases z : short (xs ++ ys) with
      | none => rw [z] at e; cases e
      | some es =>
        rw [z] at e
        cases e
        obtain ⟨rfl, hl⟩ := short_some z
        simp only [Rp] at ra rb
        obtain ⟨p, vs, rfl, hp, r1⟩ := ra
        obtain ⟨q, ws, rfl, hq, r2⟩ := rb
        have l1 := r1.length
        have l2 := r2.length
        rw [List.length_append] at hl
        exact ⟨p, q, vs, ws, rfl, rfl, hp.sq, hq.sq, big_le (by omega), fun l nl => k l _ (Ext.new nl) nl ⟨.lst (vs ++ ws), upd_same, RpL.ext (Ext.new nl).fx _ _ (RpL.append r1 r2)⟩⟩
    | _ => simp [pAddL] at e
  | _ => simp [pAddL] at e
def rAddA (K : PySem.W.Frag) : R2 := fun x y H Q => rI0 (fun i j => .int (i + j)) x y H Q ∨ (rCatB K x y H Q ∨ (rCatS K x y H Q ∨ rB2 (fun i j => i + j) x y H Q))
theorem op_addA {X : Cx} : OpR X (binaryOp .Add) (rAddA X.K) := op_add.or (op_catB.or (op_catS.or op_addB))
theorem pr_add {K : PySem.W.Frag} : PrM2 K (rAddA K) pAdd := pr_addI.m.or (pr_addT.m.or (pr_addL.m.or (pr_b2 (g := fun i j => i + j)).m))

/-! ### equality of data -/
mutual
def D.py : D → Option PyData
  | .non => some .none
  | .bl b => some (.bool b)
  | .int i => some (.int i)
  | .str x => some (.str x)
  | .tup _ ds => (pyL ds).map .tuple
  | .lst ds => (pyL ds).map .list
  | _ => none
def pyL : List D → Option (List PyData)
  | [] => some []
  | d :: ds => d.py.bind fun e => (pyL ds).map (e :: ·)
end
mutual
theorem Rp.dp {K : PySem.W.Frag} {H : Hp} : ∀ (d : D) (v : V) (e : PyData), d.py = some e → Rp K H d v → Dp K H v e
  | .non, v, e, h, r => by simp [D.py] at h; simp [Rp] at r; subst h; subst r; exact .non
  | .bl b, v, e, h, r => by simp [D.py] at h; simp [Rp] at r; subst h; subst r; exact .bl b
  | .int i, v, e, h, r => by simp [D.py] at h; simp [Rp] at r; subst h; subst r; exact .int i
  | .str x, v, e, h, r => by simp [D.py] at h; simp [Rp] at r; subst h; subst r; exact .str x
  | .tup _ ds, v, e, h, r => by
    simp only [D.py] at h
    cases z : pyL ds with
    | none => rw [z] at h; cases h
    | some es =>
      rw [z] at h
      cases h
      simp only [Rp] at r
      obtain ⟨a, vs, rfl, h1, h2⟩ := r
      exact .tup h1.sq (RpL.dp ds vs es z h2)
  | .lst ds, v, e, h, r => by
    simp only [D.py] at h
    cases z : pyL ds with
    | none => rw [z] at h; cases h
    | some es =>
      rw [z] at h
      cases h
      simp only [Rp] at r
      obtain ⟨a, vs, rfl, h1, h2⟩ := r
      exact .lst h1.sq (RpL.dp ds vs es z h2)
  | .dk _, _, _, h, _ => by simp [D.py] at h
  | .dt _, _, _, h, _ => by simp [D.py] at h
theorem RpL.dp {K : PySem.W.Frag} {H : Hp} : ∀ (ds : List D) (vs : List V) (es : List PyData), pyL ds = some es → RpL K H ds vs → DpAll K H vs es
  | [], vs, es, h, r => by simp [pyL] at h; simp only [RpL] at r; subst h; subst r; exact .nil
  | d :: ds, vs, es, h, r => by
    simp only [pyL] at h
    cases z : d.py with
    | none => rw [z] at h; cases h
    | some e =>
      cases z2 : pyL ds with
      | none => rw [z, z2] at h; cases h
      | some fs =>
        rw [z, z2] at h
        cases h
        simp only [RpL] at r
        obtain ⟨v, rest, rfl, h1, h2⟩ := r
        exact .cons (Rp.dp d v e z h1) (RpL.dp ds rest fs z2 h2)
end
/-- scalars, as == tells them apart -/
def eqS : D → D → Option Bool
  | .non, .non => some true
  | .int i, .int j => some (decide (i = j))
  | .bl i, .bl j => some (decide (i = j))
  | .str i, .str j => some (decide (i = j))
  | .non, .int _ => some false
  | .int _, .non => some false
  | .non, .bl _ => some false
  | .bl _, .non => some false
  | .non, .str _ => some false
  | .str _, .non => some false
  | .int _, .str _ => some false
  | .str _, .int _ => some false
  | .bl _, .str _ => some false
  | .str _, .bl _ => some false
  | _, _ => none
def eqD (a b : D) : Option Bool := match a.py, b.py with
  | some x, some y => if SeqAt.shaped x && SeqAt.shaped y then some (PyData.eqv x y) else none
  | _, _ => none
def pEq : D → D → Option D := fun a b => ((eqS a b).or (eqD a b)).map D.bl
def pNe : D → D → Option D := fun a b => ((eqS a b).or (eqD a b)).map fun c => D.bl (!c)
theorem eqS_scal {K : PySem.W.Frag} {H : Hp} {a b : D} {x y : V} {c : Bool} (h : eqS a b = some c) (ra : Rp K H a x) (rb : Rp K H b y) : scal x y = true ∧ decide (x = y) = c := by
  cases a <;> cases b <;> simp only [eqS, Option.some.injEq] at h <;> first
    | cases h; done
    | (simp only [Rp] at ra rb; subst ra; subst rb; subst h; exact ⟨rfl, by simp⟩)
def rEqA (K : PySem.W.Frag) : R2 := fun x y H Q => rEq x y H Q ∨ rEqD K x y H Q
def rNeA (K : PySem.W.Frag) : R2 := fun x y H Q => rNe x y H Q ∨ rNeD K x y H Q
theorem op_eqA {X : Cx} (hu : X.A.units + 64 < cLine) : OpR X (compareOp .Eq) (rEqA X.K) := op_eq.or (op_eqD hu)
theorem op_neA {X : Cx} (hu : X.A.units + 64 < cLine) : OpR X (compareOp .NotEq) (rNeA X.K) := op_ne.or (op_neD hu)
theorem pr_eq {K : PySem.W.Frag} : PrR2 K (rEqA K) pEq := by
  intro H x y a b d ra rb e Q k
  unfold pEq at e
  cases z : eqS a b with
  | some c =>
    rw [z] at e
    cases e
    obtain ⟨h1, h2⟩ := eqS_scal z ra rb
    exact .inl ⟨h1, by rw [h2]; exact k _ H (Ext.refl _) (by simp [Rp])⟩
  | none =>
    rw [z] at e
    unfold eqD at e
    cases z1 : a.py with
    | none => rw [z1] at e; cases e
    | some p =>
      cases z2 : b.py with
      | none => rw [z1, z2] at e; cases e
      | some q =>
        rw [z1, z2] at e
        dsimp only at e
        split at e
        · rename_i hs
          rw [Bool.and_eq_true] at hs
          cases e
          exact .inr ⟨p, q, Rp.dp _ _ _ z1 ra, Rp.dp _ _ _ z2 rb, hs.1, hs.2, k _ H (Ext.refl _) (by simp [Rp])⟩
        · cases e
theorem pr_ne {K : PySem.W.Frag} : PrR2 K (rNeA K) pNe := by
  intro H x y a b d ra rb e Q k
  unfold pNe at e
  cases z : eqS a b with
  | some c =>
    rw [z] at e
    cases e
    obtain ⟨h1, h2⟩ := eqS_scal z ra rb
    exact .inl ⟨h1, by rw [h2]; exact k _ H (Ext.refl _) (by simp [Rp])⟩
  | none =>
    rw [z] at e
    unfold eqD at e
    cases z1 : a.py with
    | none => rw [z1] at e; cases e
    | some p =>
      cases z2 : b.py with
      | none => rw [z1, z2] at e; cases e
      | some q =>
        rw [z1, z2] at e
        dsimp only at e
        split at e
        · rename_i hs
          rw [Bool.and_eq_true] at hs
          cases e
          exact .inr ⟨p, q, Rp.dp _ _ _ z1 ra, Rp.dp _ _ _ z2 rb, hs.1, hs.2, k _ H (Ext.refl _) (by simp [Rp])⟩
        · cases e
/-- is None -/
def pIsN : D → D → Option D
  | .non, .non => some (.bl true)
  | _, .non => some (.bl false)
  | _, _ => none
def pNotN : D → D → Option D
  | .non, .non => some (.bl false)
  | _, .non => some (.bl true)
  | _, _ => none
theorem rp_non {K : PySem.W.Frag} {H : Hp} {d : D} {v : V} (h : Rp K H d v) : (v = .non) ↔ d = .non := by
  cases d <;> simp only [Rp] at h <;> first
    | (obtain ⟨_, _, _, rfl, _⟩ := h; simp; done)
    | (subst h; simp)
    | (obtain ⟨a, _, e, _⟩ := h; subst e; simp)
def rIsN : R2 := fun x y H Q => y = .non ∧ Q (.bl (decide (x = .non))) H
def rNoN : R2 := fun x y H Q => y = .non ∧ Q (.bl (!decide (x = .non))) H
theorem pr_isN {K : PySem.W.Frag} : PrR2 K rIsN pIsN := by
  intro H x y a b d ra rb e Q k
  have hx := rp_non ra
  cases b with
  | non =>
    refine ⟨(rp_non rb).mpr rfl, ?_⟩
    cases a <;> simp only [pIsN, Option.some.injEq] at e <;> subst e <;> first
      | (rw [decide_eq_true (hx.mpr rfl)]; exact k _ H (Ext.refl _) (by simp [Rp]))
      | (rw [decide_eq_false (fun z => by cases hx.mp z)]; exact k _ H (Ext.refl _) (by simp [Rp]))
  | _ => cases a <;> simp [pIsN] at e
theorem pr_notN {K : PySem.W.Frag} : PrR2 K rNoN pNotN := by
  intro H x y a b d ra rb e Q k
  have hx := rp_non ra
  cases b with
  | non =>
    refine ⟨(rp_non rb).mpr rfl, ?_⟩
    cases a <;> simp only [pNotN, Option.some.injEq] at e <;> subst e <;> first
      | (rw [decide_eq_true (hx.mpr rfl)]; exact k _ H (Ext.refl _) (by simp [Rp]))
      | (rw [decide_eq_false (fun z => by cases hx.mp z)]; exact k _ H (Ext.refl _) (by simp [Rp]))
  | _ => cases a <;> simp [pNotN] at e

/-! ### subscripts -/
def pIx : D → D → Option D
  | .lst ds, .int j => atI ds j
  | .tup _ ds, .int j => atI ds j
  | _, _ => none
def rIxA (K : PySem.W.Frag) : R2 := fun x y H Q => rIxL K x y H Q ∨ rIxT K x y H Q
theorem ix_A {X : Cx} : IxR X (rIxA X.K) := ix_list.or ix_tup
theorem pr_ix {K : PySem.W.Frag} : PrR2 K (rIxA K) pIx := by
  intro H x y a b d ra rb e Q k
  cases b with
  | int j =>
    cases a with
    | lst ds =>
      simp only [Rp] at ra
      obtain ⟨p, vs, rfl, hp, r1⟩ := ra
      obtain ⟨v, g1, g2⟩ := atI_rp r1 e
      exact .inl ⟨p, vs, j, v, rfl, rp_int rb, hp.sq, g1, k v H (Ext.refl _) g2⟩
    | tup tb ds =>
      simp only [Rp] at ra
      obtain ⟨p, vs, rfl, hp, r1⟩ := ra
      obtain ⟨v, g1, g2⟩ := atI_rp r1 e
      exact .inr ⟨p, vs, j, v, rfl, rp_int rb, hp.sq, g1, k v H (Ext.refl _) g2⟩
    | _ => simp [pIx] at e
  | _ => cases a <;> simp [pIx] at e

/-! ### slices -/
def cutD (xs : List D) (lo hi : Option Int) : List D := (xs.drop (HT.sIx xs.length 0 lo)).take (HT.sIx xs.length xs.length hi - HT.sIx xs.length 0 lo)
theorem RpL.cut {K : PySem.W.Frag} {H : Hp} {ds : List D} {vs : List V} (h : RpL K H ds vs) (lo hi : Option Int) : RpL K H (cutD ds lo hi) (cutV vs lo hi) := by
  unfold cutD cutV
  rw [h.length]
  exact RpL.take _ (RpL.drop _ h)
abbrev DenO := En → R (Option Int × En)
def oN : DenO := fun env => .ok (none, env)
def oS (f : Den) : DenO := fun env => (f env).bind fun x => match x.1 with
  | .int i => .ok (some i, x.2)
  | _ => .stk
def RdO (K : PySem.W.Frag) (W : WD) (f : DenO) : TO := fun σ H Q => ∃ io env, Rel K W.T io env σ H ∧ Wp K W io env σ H (f env) (fun _ o o' => o = o') Q
abbrev DO (X : Cx) (W : WD) (e : Option Expr) (f : DenO) : Prop := PO X e (RdO X.K W f)
theorem po_imp {X : Cx} {e : Option Expr} {t t' : TO} (h : PO X e t) (k : ∀ σ H Q, t' σ H Q → t σ H Q) : PO X e t' := ⟨fun pins s σ H Q I q => h.run pins s σ H Q I (k σ H Q q)⟩
def eSl (f : Den) (lo hi : DenO) : Den := fun env => (f env).bind fun x => (lo x.2).bind fun l => (hi l.2).bind fun u => match x.1 with
  | .lst ds => .ok (.lst (cutD ds l.1 u.1), u.2)
  | .tup m ds => .ok (.tup m (cutD ds l.1 u.1), u.2)
  | _ => .stk
/-- t[lo:hi]: the whole of it is t itself -/
def rSlP (K : PySem.W.Frag) : V → Option Int → Option Int → Hp → VK → Prop := fun x lo hi H Q => ∃ m a xs, x = .ref a ∧ SqT K H a xs ∧
  (HT.sIx xs.length 0 lo = 0 ∧ HT.sIx xs.length xs.length hi = xs.length → Q (.ref a) H) ∧ (¬ (HT.sIx xs.length 0 lo = 0 ∧ HT.sIx xs.length xs.length hi = xs.length) → ∀ p o, H p = none → o.dict = none → Q (.ref p) (upd H p (tupO m o (cutV xs lo hi))))
theorem sl_tupB {X : Cx} : SlR X (rSlP X.K) := by
  intro pins s σ H x v vl vu lo hi sl Q I rx hs pl pu h
  obtain ⟨m, a, xs, rfl, hx, q1, q2⟩ := h
  cases rx
  obtain ⟨its, r, ht, hz⟩ := I.tuple hx
  have hlen : its.toArray.size = xs.length := by rw [List.size_toArray]; exact r.length.symm
  refine ⟨"tuple", _, PyProof.Rows.slot_tuple_getitem.lookup, ht.typeIs, ?_⟩
  by_cases hw : HT.sIx xs.length 0 lo = 0 ∧ HT.sIx xs.length xs.length hi = xs.length
  · exact getItem_tuple_whole ht hs pl pu (by rw [hlen]; exact hw) ⟨.ref a, H, I, rfl, q1 hw⟩
  · refine HT.getItem_tuple_cut ht hs pl pu (by rw [hlen]; exact hw) ?_ (by rw [hlen]; exact hz)
    rw [hlen]
    exact ⟨.ref s.heap.objs.size, _, I.laid (t' := s.toks) (o := tupO m _ (cutV xs lo hi)) (fun b ob q => Heap.get?_push_of_some _ q) (Nat.le_refl _) (objOk_tupO m (Nat.le_trans (cutV_length xs lo hi) hz) ((r.drop (HT.sIx xs.length 0 lo)).take (HT.sIx xs.length xs.length hi - HT.sIx xs.length 0 lo)) (Heap.get?_push_size _ rfl)), rfl, q2 hw _ _ (I.hok.fresh (Nat.le_refl _)) rfl⟩
def rSlB (K : PySem.W.Frag) : V → Option Int → Option Int → Hp → VK → Prop := fun x lo hi H Q => rSlL K x lo hi H Q ∨ rSlP K x lo hi H Q
section
variable {X : Cx} {W : WD} {e : Expr} {lo hi : Option Expr} {f : Den} {fl fh : DenO} {pos p2 : Pos}
theorem do_n : DO X W none oN := po_imp po_none fun σ H Q ⟨io, env, r, h⟩ => h none H (EvE.refl _ _ _) r rfl
theorem do_s (h : DE X W e f) : DO X W (some e) (oS f) := by
  refine po_imp (po_some h) fun σ H Q hq => ?_
  obtain ⟨io, env, hr, hq⟩ := hq
  refine ⟨io, env, hr, Wp.bind hq fun x v H1 q0 e1 r1 p1 h1 => ?_⟩
  clear q0
  obtain ⟨pd, pe⟩ := x
  cases pd with
  | int i => exact ⟨i, rp_int p1, h1 (some i) H1 (EvE.refl _ _ _) r1 rfl⟩
  | _ => exact (show False from h1).elim
theorem dm_slice (he : DE X W e f) (hl : DO X W lo fl) (hu : DO X W hi fh) : DM X W (.Subscript e (.Slice lo hi none p2) pos) (eSl f fl fh) := by
  refine pe_imp (pe_slice (sl_list.or sl_tupB : SlR X (rSlB X.K)) he hl hu) fun σ H Q hq => ?_
  obtain ⟨io, env, hr, hq⟩ := hq
  refine ⟨io, env, hr, Wp.bind hq fun x v H1 q0 e1 r1 p1 h1 => ⟨io, x.2, r1, Wp.bind h1 fun l l' H2 q1 e2 r2 p2 h2 => ⟨io, l.2, r2, Wp.bind h2 fun u u' H3 q2 e3 r3 p3 h3 => ?_⟩⟩⟩
  clear q0 q1 q2
  subst p2
  subst p3
  obtain ⟨pd, pe⟩ := x
  have p1 := Rp.ext ((r1.fx e2).trans (r2.fx e3)) _ _ p1
  cases pd with
  | lst ds =>
    simp only [Rp] at p1
    obtain ⟨p, vs, rfl, hp, rr⟩ := p1
    refine .inl ⟨p, vs, rfl, hp.sq, fun q nq => h3 _ _ (EvE.ext (Ext.new nq)) (r3.ext (Ext.new nq)) (.inr ⟨q, rfl, free_back ((e1.trans e2).trans e3).dom nq, .lst _, upd_same, RpL.ext (Ext.new nq).fx _ _ (rr.cut _ _)⟩)⟩
  | tup m ds =>
    simp only [Rp] at p1
    obtain ⟨p, vs, rfl, hp, rr⟩ := p1
    have hl := rr.length
    refine .inr ⟨m, p, vs, rfl, hp.sq, fun ⟨a1, a2⟩ => ?_, fun _ q o nq ho => h3 _ _ (EvE.ext (Ext.new nq)) (r3.ext (Ext.new nq)) (.inl ?_)⟩
    · refine h3 _ H3 (EvE.refl _ _ _) r3 (.inl ?_)
      have : cutD ds l.1 u.1 = ds := by
        unfold cutD
        rw [← hl, a1, a2, Nat.sub_zero, List.drop_zero, List.take_of_length_le (by omega)]
      dsimp only
      rw [this]
      simp only [Rp]
      exact ⟨p, vs, rfl, hp, rr⟩
    · simp only [Rp]
      exact ⟨q, _, rfl, TupAt.new ho, RpL.ext (Ext.new nq).fx _ _ (rr.cut _ _)⟩
  | _ => exact (show False from h3).elim
end
end DL

/-! ## DLq -/
/-! DLq: built-in calls. -/
namespace DL
open PySem PySem.Spec PyProof.Rows L2

section
variable {K : PySem.W.Frag} {H : Hp}
theorem rp1 {d : D} {vs : List V} (h : RpL K H [d] vs) : ∃ v, vs = [v] ∧ Rp K H d v := by
  simp only [RpL] at h
  obtain ⟨v, r, e, h1, e2⟩ := h
  subst e2
  exact ⟨v, e, h1⟩
theorem rp2 {d e : D} {vs : List V} (h : RpL K H [d, e] vs) : ∃ v w, vs = [v, w] ∧ Rp K H d v ∧ Rp K H e w := by
  simp only [RpL] at h
  obtain ⟨v, r, e1, h1, w, r2, e2, h2, e3⟩ := h
  subst e3
  subst e2
  exact ⟨v, w, e1, h1, h2⟩
theorem rp_lst {ds : List D} {v : V} (h : Rp K H (.lst ds) v) : ∃ a vs, v = .ref a ∧ FzL K H a vs ∧ RpL K H ds vs := by simpa only [Rp] using h
theorem rp_tup {b : Bool} {ds : List D} {v : V} (h : Rp K H (.tup b ds) v) : ∃ a vs, v = .ref a ∧ TupAt b H a vs ∧ RpL K H ds vs := by simpa only [Rp] using h
end

/-! ### len -/
def pLen : List D → Option D
  | [.lst ds] => some (.int ds.length)
  | [.tup _ ds] => some (.int ds.length)
  | [.str x] => if x.length ≤ sizeLine then some (.int x.length) else none
  | _ => none
def rLen (K : PySem.W.Frag) : List V → Hp → VK → Prop := fun xs H Q => ∃ x n, xs = [x] ∧ LenV K x H n ∧ Q (.int n) H
theorem pr_len {K : PySem.W.Frag} : PrR K (rLen K) pLen := by
  intro H vs ds d r e Q k
  unfold pLen at e
  split at e
  · rename_i es
    obtain ⟨v, rfl, h⟩ := rp1 r
    obtain ⟨a, ws, rfl, h1, h2⟩ := rp_lst h
    cases e
    refine ⟨_, es.length, rfl, .inl ⟨ws, h1.sq, h2.length.symm⟩, k _ H (Ext.refl _) (by simp [Rp])⟩
  · rename_i tb es
    obtain ⟨v, rfl, h⟩ := rp1 r
    obtain ⟨a, ws, rfl, h1, h2⟩ := rp_tup h
    cases e
    refine ⟨_, es.length, rfl, .inr ⟨ws, h1.sq, h2.length.symm⟩, k _ H (Ext.refl _) (by simp [Rp])⟩
  · rename_i x
    obtain ⟨v, rfl, h⟩ := rp1 r
    have hv : v = .str x := by simpa [Rp] using h
    subst hv
    split at e
    · rename_i hl
      cases e
      exact ⟨_, x.length, rfl, ⟨hl, rfl⟩, k _ H (Ext.refl _) (by simp [Rp])⟩
    · cases e
  · cases e

/-! ### list(..), tuple(..) -/
def pList : List D → Option D
  | [.lst ds] => some (.lst ds)
  | [.tup _ ds] => some (.lst ds)
  | _ => none
def rList (K : PySem.W.Frag) : List V → Hp → VK → Prop := fun xs H Q => ∃ p ys, xs = [.ref p] ∧ (SqL K H p ys ∨ SqT K H p ys) ∧ ∀ l, H l = none → Q (.ref l) (upd H l (.lst ys))
theorem pr_list {K : PySem.W.Frag} : PrF K (rList K) pList := by
  intro H vs ds d r e Q k
  unfold pList at e
  split at e
  · obtain ⟨v, rfl, h⟩ := rp1 r
    obtain ⟨a, ws, rfl, h1, h2⟩ := rp_lst h
    cases e
    exact ⟨a, ws, rfl, .inl h1.sq, fun l nl => k l _ (Ext.new nl) nl ⟨.lst ws, upd_same, RpL.ext (Ext.new nl).fx _ _ h2⟩⟩
  · obtain ⟨v, rfl, h⟩ := rp1 r
    obtain ⟨a, ws, rfl, h1, h2⟩ := rp_tup h
    cases e
    exact ⟨a, ws, rfl, .inr h1.sq, fun l nl => k l _ (Ext.new nl) nl ⟨.lst ws, upd_same, RpL.ext (Ext.new nl).fx _ _ h2⟩⟩
  · cases e
def pTuple (m : Bool) : List D → Option D
  | [.lst ds] => some (.tup m ds)
  | [.tup b ds] => some (.tup b ds)
  | _ => none
def rTuple (K : PySem.W.Frag) : List V → Hp → VK → Prop := fun xs H Q => ∃ m p ys, xs = [.ref p] ∧ ((SqL K H p ys ∧ ∀ l o, H l = none → o.dict = none → Q (.ref l) (upd H l (tupO m o ys))) ∨ (SqT K H p ys ∧ Q (.ref p) H))
theorem call_tupleB {X : Cx} : CallR X (.type "tuple") (rTuple X.K) := by
  intro pins s σ H xs us Q I r h
  obtain ⟨m, p, ys, rfl, h⟩ := h
  obtain ⟨u, rfl, rx⟩ := vals1 r
  cases rx
  rcases h with ⟨hq, q⟩ | ⟨hq, q⟩
  · obtain ⟨its, r', pl, hz⟩ := I.list hq
    have hlen := r'.length
    refine call_tuple_list pl.isList (fun h' kp => ?_) (by simp only [List.size_toArray] <;> omega)
    have I1 : Inv X pins σ H { s with heap := h' } := I.kept (t' := s.toks) kp
    have I2 : Inv X pins σ (upd H h'.objs.size (tupO m { cls := .type "tuple", data := .seq its.toArray } ys)) { s with heap := h'.push { cls := .type "tuple", data := .seq its.toArray } } :=
      I1.laid (t' := s.toks) (fun b o e => Heap.get?_push_of_some _ e) (Nat.le_refl _) (objOk_tupO m hz r' (Heap.get?_push_size _ rfl))
    exact ⟨.ref h'.objs.size, _, I2, rfl, q _ _ (I1.hok.fresh (Nat.le_refl _)) rfl⟩
  · obtain ⟨its, r', pl, hz⟩ := I.tuple hq
    exact call_tuple_same pl ⟨.ref p, H, I, rfl, q⟩
theorem pr_tuple {K : PySem.W.Frag} (m : Bool) : PrR K (rTuple K) (pTuple m) := by
  intro H vs ds d r e Q k
  unfold pTuple at e
  split at e
  · obtain ⟨v, rfl, h⟩ := rp1 r
    obtain ⟨a, ws, rfl, h1, h2⟩ := rp_lst h
    cases e
    exact ⟨m, a, ws, rfl, .inl ⟨h1.sq, fun l o nl ho => k _ _ (Ext.new nl) (by simp only [Rp]; exact ⟨l, ws, rfl, TupAt.new ho, RpL.ext (Ext.new nl).fx _ _ h2⟩)⟩⟩
  · obtain ⟨v, rfl, h⟩ := rp1 r
    obtain ⟨a, ws, rfl, h1, h2⟩ := rp_tup h
    cases e
    exact ⟨m, a, ws, rfl, .inr ⟨h1.sq, k _ H (Ext.refl _) (by simp only [Rp]; exact ⟨a, ws, rfl, h1, h2⟩)⟩⟩
  · cases e

/-! ### numbers of lists -/
def pAll : List D → Option D
  | [.lst ds] => (asB ds).map fun bs => .bl (bs.all id)
  | _ => none
def pAny : List D → Option D
  | [.lst ds] => (asB ds).map fun bs => .bl (bs.any id)
  | _ => none
def pSum : List D → Option D
  | [.lst ds] => (asI ds).map fun ns => .int ns.sum
  | _ => none
theorem pr_all {K : PySem.W.Frag} : PrR K (rAll K) pAll := by
  intro H vs ds d r e Q k
  unfold pAll at e
  split at e
  · rename_i es
    obtain ⟨v, rfl, h⟩ := rp1 r
    obtain ⟨a, ws, rfl, h1, h2⟩ := rp_lst h
    cases z : asB es with
    | none => rw [z] at e; cases e
    | some bs =>
      rw [z] at e
      cases e
      rw [asB_some z] at h2
      have := RpL.bls h2
      subst this
      exact ⟨a, bs, rfl, h1.sq, k _ H (Ext.refl _) (by simp [Rp])⟩
  · cases e
theorem pr_any {K : PySem.W.Frag} : PrR K (rAny K) pAny := by
  intro H vs ds d r e Q k
  unfold pAny at e
  split at e
  · rename_i es
    obtain ⟨v, rfl, h⟩ := rp1 r
    obtain ⟨a, ws, rfl, h1, h2⟩ := rp_lst h
    cases z : asB es with
    | none => rw [z] at e; cases e
    | some bs =>
      rw [z] at e
      cases e
      rw [asB_some z] at h2
      have := RpL.bls h2
      subst this
      exact ⟨a, bs, rfl, h1.sq, k _ H (Ext.refl _) (by simp [Rp])⟩
  · cases e
theorem pr_sum {K : PySem.W.Frag} : PrR K (rSum K) pSum := by
  intro H vs ds d r e Q k
  unfold pSum at e
  split at e
  · rename_i es
    obtain ⟨v, rfl, h⟩ := rp1 r
    obtain ⟨a, ws, rfl, h1, h2⟩ := rp_lst h
    cases z : asI es with
    | none => rw [z] at e; cases e
    | some bs =>
      rw [z] at e
      cases e
      rw [asI_some z] at h2
      have := RpL.ints h2
      subst this
      exact ⟨a, bs, rfl, h1.sq, k _ H (Ext.refl _) (by simp [Rp])⟩
  · cases e
/-- the greatest, the least of ints -/
def mxI : List Int → Option Int
  | [] => none
  | x :: r => some (r.foldl max x)
def mnI : List Int → Option Int
  | [] => none
  | x :: r => some (r.foldl min x)
theorem foldl_max : ∀ (r : List Int) (x : Int), (r.foldl max x = x ∨ r.foldl max x ∈ r) ∧ x ≤ r.foldl max x ∧ ∀ y ∈ r, y ≤ r.foldl max x
  | [], x => ⟨.inl rfl, Int.le_refl _, fun _ h => by cases h⟩
  | z :: r, x => by
    obtain ⟨h1, h2, h3⟩ := foldl_max r (max x z)
    have e : (z :: r).foldl max x = r.foldl max (max x z) := rfl
    rw [e]
    refine ⟨?_, by omega, fun y hy => ?_⟩
    · rcases h1 with h1 | h1
      · rw [h1]
        by_cases q : x ≤ z
        · right; rw [show max x z = z by omega]; exact List.mem_cons_self
        · left; omega
      · right; exact List.mem_cons_of_mem _ h1
    · rcases List.mem_cons.mp hy with rfl | hy
      · omega
      · exact h3 y hy
theorem foldl_min : ∀ (r : List Int) (x : Int), (r.foldl min x = x ∨ r.foldl min x ∈ r) ∧ r.foldl min x ≤ x ∧ ∀ y ∈ r, r.foldl min x ≤ y
  | [], x => ⟨.inl rfl, Int.le_refl _, fun _ h => by cases h⟩
  | z :: r, x => by
    obtain ⟨h1, h2, h3⟩ := foldl_min r (min x z)
    have e : (z :: r).foldl min x = r.foldl min (min x z) := rfl
    rw [e]
    refine ⟨?_, by omega, fun y hy => ?_⟩
    · rcases h1 with h1 | h1
      · rw [h1]
        by_cases q : z ≤ x
        · right; rw [show min x z = z by omega]; exact List.mem_cons_self
        · left; omega
      · right; exact List.mem_cons_of_mem _ h1
    · rcases List.mem_cons.mp hy with rfl | hy
      · omega
      · exact h3 y hy
theorem mxI_some {ns : List Int} {m : Int} (h : mxI ns = some m) : 0 < ns.length ∧ m ∈ ns ∧ ∀ y ∈ ns, y ≤ m := by
  cases ns with
  | nil => cases h
  | cons x r =>
    cases h
    obtain ⟨h1, h2, h3⟩ := foldl_max r x
    refine ⟨by simp, ?_, fun y hy => ?_⟩
    · rcases h1 with h1 | h1
      · rw [h1]; exact List.mem_cons_self
      · exact List.mem_cons_of_mem _ h1
    · rcases List.mem_cons.mp hy with rfl | hy
      · exact h2
      · exact h3 y hy
theorem mnI_some {ns : List Int} {m : Int} (h : mnI ns = some m) : 0 < ns.length ∧ m ∈ ns ∧ ∀ y ∈ ns, m ≤ y := by
  cases ns with
  | nil => cases h
  | cons x r =>
    cases h
    obtain ⟨h1, h2, h3⟩ := foldl_min r x
    refine ⟨by simp, ?_, fun y hy => ?_⟩
    · rcases h1 with h1 | h1
      · rw [h1]; exact List.mem_cons_self
      · exact List.mem_cons_of_mem _ h1
    · rcases List.mem_cons.mp hy with rfl | hy
      · exact h2
      · exact h3 y hy
def pMax : List D → Option D
  | [.lst ds] => ((asI ds).bind mxI).map .int
  | [.int i, .int j] => some (.int (if j > i then j else i))
  | _ => none
def pMin : List D → Option D
  | [.lst ds] => ((asI ds).bind mnI).map .int
  | [.int i, .int j] => some (.int (if j < i then j else i))
  | _ => none
def rMaxA (K : PySem.W.Frag) : List V → Hp → VK → Prop := fun xs H Q => rMax K xs H Q ∨ ∃ i j, xs = [.int i, .int j] ∧ Q (.int (if j > i then j else i)) H
def rMinA (K : PySem.W.Frag) : List V → Hp → VK → Prop := fun xs H Q => rMin K xs H Q ∨ ∃ i j, xs = [.int i, .int j] ∧ Q (.int (if j < i then j else i)) H
theorem cr_maxA {X : Cx} (hc : X.calm = true) : CallR X (.builtin "max") (rMaxA X.K) := (cr_max hc).or (call_max2 hc)
theorem cr_minA {X : Cx} (hc : X.calm = true) : CallR X (.builtin "min") (rMinA X.K) := (cr_min hc).or (call_min2 hc)
theorem pr_max {K : PySem.W.Frag} : PrR K (rMaxA K) pMax := by
  intro H vs ds d r e Q k
  unfold pMax at e
  split at e
  · rename_i es
    obtain ⟨v, rfl, h⟩ := rp1 r
    obtain ⟨a, ws, rfl, h1, h2⟩ := rp_lst h
    cases z : asI es with
    | none => rw [z] at e; cases e
    | some bs =>
      rw [z] at e
      cases z2 : mxI bs with
      | none => simp [z2] at e
      | some m =>
        simp only [Option.bind_some, z2, Option.map_some, Option.some.injEq] at e
        subst e
        obtain ⟨m1, m2, m3⟩ := mxI_some z2
        rw [asI_some z] at h2
        have := RpL.ints h2
        subst this
        exact .inl ⟨a, bs, rfl, h1.sq, m1, fun m' k1 k2 => by
          rw [show m' = m from Int.le_antisymm (m3 m' k1) (k2 m m2)]
          exact k _ H (Ext.refl _) (by simp [Rp])⟩
  · obtain ⟨v, w, rfl, h1, h2⟩ := rp2 r
    cases e
    exact .inr ⟨_, _, by rw [rp_int h1, rp_int h2], k _ H (Ext.refl _) (by simp [Rp])⟩
  · cases e
theorem pr_min {K : PySem.W.Frag} : PrR K (rMinA K) pMin := by
  intro H vs ds d r e Q k
  unfold pMin at e
  split at e
  · rename_i es
    obtain ⟨v, rfl, h⟩ := rp1 r
    obtain ⟨a, ws, rfl, h1, h2⟩ := rp_lst h
    cases z : asI es with
    | none => rw [z] at e; cases e
    | some bs =>
      rw [z] at e
      cases z2 : mnI bs with
      | none => simp [z2] at e
      | some m =>
        simp only [Option.bind_some, z2, Option.map_some, Option.some.injEq] at e
        subst e
        obtain ⟨m1, m2, m3⟩ := mnI_some z2
        rw [asI_some z] at h2
        have := RpL.ints h2
        subst this
        exact .inl ⟨a, bs, rfl, h1.sq, m1, fun m' k1 k2 => by
          rw [show m' = m from Int.le_antisymm (k2 m m2) (m3 m' k1)]
          exact k _ H (Ext.refl _) (by simp [Rp])⟩
  · obtain ⟨v, w, rfl, h1, h2⟩ := rp2 r
    cases e
    exact .inr ⟨_, _, by rw [rp_int h1, rp_int h2], k _ H (Ext.refl _) (by simp [Rp])⟩
  · cases e

/-! ### isinstance -/
def D.ty : D → String
  | .non => "NoneType" | .bl _ => "bool" | .int _ => "int" | .str _ => "str" | .tup _ _ => "tuple" | .lst _ => "list" | .dk _ => "dict" | .dt _ => "dict"
def D.plain : D → Bool
  | .dk _ | .dt _ => false
  | _ => true
/-- whether a thing is of a built-in type -/
def D.isT (d : D) (T : String) : Bool := d.ty == T || (d.ty == "bool" && T == "int")
theorem tyX_of {K : PySem.W.Frag} {H : Hp} {d : D} {v : V} (hp : d.plain = true) (h : Rp K H d v) : TyX K H v (.type d.ty) := by
  cases d with
  | non => simp only [Rp] at h; subst h; exact .base .non
  | bl b => simp only [Rp] at h; subst h; exact .base (.bl b)
  | int b => simp only [Rp] at h; subst h; exact .base (.int b)
  | str b => simp only [Rp] at h; subst h; exact .base (.str b)
  | tup tb ds =>
    obtain ⟨a, ws, rfl, h1, _⟩ := rp_tup h
    cases tb with
    | false => exact .base (.tup h1)
    | true => obtain ⟨o, h1, _⟩ := h1; exact .fTuple h1
  | lst ds =>
    obtain ⟨a, ws, rfl, h1, _⟩ := rp_lst h
    rcases h1 with ⟨o, h1⟩ | ⟨o, its, n, q1, q2, _⟩
    · exact .base (.frz h1)
    · exact .kList q1 q2
  | dk _ => cases hp
  | dt _ => cases hp
/-- the five types that are asked for -/
def kitT (T : String) : Bool := T == "int" || T == "bool" || T == "str" || T == "tuple" || T == "list"
theorem kit_all : ∀ t ∈ ["NoneType", "bool", "int", "str", "tuple", "list"], ∀ T ∈ ["int", "bool", "str", "tuple", "list"], kitB t T = some (t == T || (t == "bool" && T == "int")) := by decide +kernel
theorem kit_is {K : PySem.W.Frag} {d : D} {T : String} (hp : d.plain = true) (hT : kitT T = true) : PySem.W.kitOne K (.type d.ty) (.type T) = some (d.isT T) := by
  refine kit_ty ?_
  unfold kitT at hT
  simp only [Bool.or_eq_true, beq_iff_eq] at hT
  have m2 : T ∈ ["int", "bool", "str", "tuple", "list"] := by
    rcases hT with (((h | h) | h) | h) | h <;> subst h <;> simp
  refine kit_all d.ty ?_ T m2
  cases d <;> first
    | (cases hp; done)
    | simp [D.ty]
def eIsT (T : String) (f : Den) : Den := e1 (fun d => if d.plain then some (.bl (d.isT T)) else none) f
def eIsT2 (T U : String) (f : Den) : Den := e1 (fun d => if d.plain then some (.bl (d.isT T || d.isT U)) else none) f
section
variable {X : Cx} {W : WD} {e : Expr} {f : Den} {p pos p1 p2 p3 : Pos} {T U : String} {x y : Str}
theorem de_isT (hT : kitT T = true) (hg : Gl X "isinstance") (hm : X.mg "isinstance" = none) (hgT : Gl X x) (hmT : X.mg x = none) (hvT : bootBuiltins x = some (.type T)) (h : DE X W e f) (hi : bootBuiltins "isinstance" = some (.builtin "isinstance")) (hn : x ≠ "__name__" := by decide) (hd : (x == ("__debug__" : Str)) = false := by decide)
    (he : starEach (e :: [.Name x p1]) X.env = (false, eval e X.env) :: starEach [.Name x p1] X.env := by rfl) (he2 : starEach [.Name x p1] X.env = (false, eval (.Name x p1) X.env) :: starEach [] X.env := by rfl) (hpl : (backTo pos (starEach [.Name x p1] X.env)).any (·.1) = false := by rfl) :
    DE X W (.Call (.Name "isinstance" p) [e, .Name x p1] [] pos) (eIsT T f) := by
  refine pe_imp (pe_callB call_isi hg hm hi (pa_cons h (pa_cons (pe_bltn (v := .ty T) hgT hmT hvT rfl hn hd) pa_nil he2) he) (by decide) (by decide) he hpl) fun σ H Q hq => ?_
  obtain ⟨io, env, hr, hq⟩ := hq
  refine ⟨io, env, hr, Wp.bind hq fun q v H1 q0 e1 r1 p1 h1 => ?_⟩
  clear q0
  by_cases hp : q.1.plain = true
  · dsimp only at h1; rw [if_pos hp] at h1
    exact ⟨v, .ty T, .type q.1.ty, .type T, q.1.isT T, rfl, .ty T, tyX_of hp p1, kit_is hp hT, h1 _ H1 (EvE.refl _ _ _) r1 (by simp [Rp])⟩
  · dsimp only at h1; rw [if_neg hp] at h1; exact (show False from h1).elim
theorem de_isT2 {k} (hT : kitT T = true) (hU : kitT U = true) (hg : Gl X "isinstance") (hm : X.mg "isinstance" = none) (hgT : Gl X x) (hmT : X.mg x = none) (hvT : bootBuiltins x = some (.type T)) (hgU : Gl X y) (hmU : X.mg y = none) (hvU : bootBuiltins y = some (.type U)) (h : DE X W e f) (hi : bootBuiltins "isinstance" = some (.builtin "isinstance"))
    (hn : x ≠ "__name__" := by decide) (hd : (x == ("__debug__" : Str)) = false := by decide) (hn' : y ≠ "__name__" := by decide) (hd' : (y == ("__debug__" : Str)) = false := by decide)
    (he : starEach (e :: [.Tuple [.Name x p1, .Name y p2] k p3]) X.env = (false, eval e X.env) :: starEach [.Tuple [.Name x p1, .Name y p2] k p3] X.env := by rfl) (he2 : starEach [.Tuple [.Name x p1, .Name y p2] k p3] X.env = (false, eval (.Tuple [.Name x p1, .Name y p2] k p3) X.env) :: starEach [] X.env := by rfl) (hpl : (backTo pos (starEach [.Tuple [.Name x p1, .Name y p2] k p3] X.env)).any (·.1) = false := by rfl)
    (he3 : starEach [.Name x p1, .Name y p2] X.env = (false, eval (.Name x p1) X.env) :: starEach [.Name y p2] X.env := by rfl) (he4 : starEach [.Name y p2] X.env = (false, eval (.Name y p2) X.env) :: starEach [] X.env := by rfl) :
    DE X W (.Call (.Name "isinstance" p) [e, .Tuple [.Name x p1, .Name y p2] k p3] [] pos) (eIsT2 T U f) := by
  refine pe_imp (pe_callB call_isiT hg hm hi (pa_cons h (pa_cons (pe_tup (pa_cons (pe_bltn (v := .ty T) hgT hmT hvT rfl hn hd) (pa_cons (pe_bltn (v := .ty U) hgU hmU hvU rfl hn' hd') pa_nil he4) he3)) pa_nil he2) he) (by decide) (by decide) he hpl) fun σ H Q hq => ?_
  obtain ⟨io, env, hr, hq⟩ := hq
  refine ⟨io, env, hr, Wp.bind hq fun q v H1 q0 e1 r1 p1 h1 => ⟨by show 2 ≤ sizeLine; decide, fun t nt => ?_⟩⟩
  clear q0
  by_cases hp : q.1.plain = true
  · dsimp only at h1; rw [if_pos hp] at h1
    have x1 : Ext H1 (upd H1 t (.tup [.ty T, .ty U])) := Ext.new nt
    refine ⟨v, t, [.ty T, .ty U], .type q.1.ty, [.type T, .type U], (q.1.isT T || q.1.isT U), rfl, upd_same, .cons (.ty T) (.cons (.ty U) .nil), tyX_of hp (Rp.ext x1.fx _ _ p1), ?_, h1 _ _ (EvE.ext x1) (r1.ext x1) (by simp [Rp])⟩
    refine kitAny_cons (kit_is hp hT) (fun z => ?_) (fun z => by rw [z]; rfl)
    rw [z]
    refine kitAny_cons (kit_is hp hU) (fun z2 => ?_) (fun z2 => by rw [z2]; rfl)
    rw [z2]
    exact kitAny_nil
  · dsimp only at h1; rw [if_neg hp] at h1; exact (show False from h1).elim
end

/-! ### str(n), int(b) -/
def pStr : List D → Option D
  | [.int i] => if i.natAbs.log2 < 1920 then some (.str (toString i)) else none
  | [.bl b] => some (.str (if b then "True" else "False"))
  | _ => none
def rStrB : List V → Hp → VK → Prop := fun xs H Q => (∃ i : Int, xs = [.int i] ∧ i.natAbs.log2 < 1920 ∧ Q (.str (toString i)) H) ∨ ∃ b : Bool, xs = [.bl b] ∧ Q (.str (if b then "True" else "False")) H
theorem call_strB {X : Cx} : CallR X (.type "str") rStrB := by
  intro pins s σ H xs us Q I r h
  rcases h with h | ⟨b, rfl, q⟩
  · exact call_str_int pins s σ H xs us Q I r h
  · obtain ⟨u, rfl, r1⟩ := vals1 r
    cases r1
    exact PySem.P.str_of_bool ⟨.str _, H, I.tok _, ⟨_, rfl⟩, q⟩
theorem pr_str {K : PySem.W.Frag} : PrR K rStrB pStr := by
  intro H vs ds d r e Q k
  unfold pStr at e
  split at e
  · obtain ⟨v, rfl, h⟩ := rp1 r
    split at e
    · rename_i hl
      cases e
      exact .inl ⟨_, by rw [rp_int h], hl, k _ H (Ext.refl _) (by simp [Rp])⟩
    · cases e
  · obtain ⟨v, rfl, h⟩ := rp1 r
    cases e
    exact .inr ⟨_, by rw [show v = .bl _ by simpa [Rp] using h], k _ H (Ext.refl _) (by simp [Rp])⟩
  · cases e
def pInt : List D → Option D
  | [.int i] => some (.int i)
  | [.bl b] => some (.int (if b then 1 else 0))
  | _ => none
def rInt1 : List V → Hp → VK → Prop := fun xs H Q => (∃ i, xs = [.int i] ∧ Q (.int i) H) ∨ ∃ k, xs = [.bl k] ∧ Q (.int (if k then 1 else 0)) H
theorem pr_int {K : PySem.W.Frag} : PrR K rInt1 pInt := by
  intro H vs ds d r e Q k
  unfold pInt at e
  split at e
  · obtain ⟨v, rfl, h⟩ := rp1 r
    cases e
    exact .inl ⟨_, by rw [rp_int h], k _ H (Ext.refl _) (by simp [Rp])⟩
  · obtain ⟨v, rfl, h⟩ := rp1 r
    cases e
    simp only [Rp] at h
    subst h
    exact .inr ⟨_, rfl, k _ H (Ext.refl _) (by simp [Rp])⟩
  · cases e
end DL

/-! ## DLr -/
/-! DLr: order of tuples, repeated lists and tuples, walks of any sequence, calls by one fact. -/
namespace DL
open PySem PySem.Spec PyProof.Rows L2

/-! ### < of ints, of tuples of ints -/
def pLtT : D → D → Option D
  | .tup _ xs, .tup _ ys => match asI xs, asI ys with
    | some ns, some ms => some (.bl (HT.lexLt ns ms))
    | _, _ => none
  | _, _ => none
def pLt := orD pLtI pLtT
def rLtA (K : PySem.W.Frag) : R2 := fun x y H Q => rI0 (fun i j => .bl (decide (i < j))) x y H Q ∨ rLtT K x y H Q
theorem op_ltA {X : Cx} (hu : X.A.units < cLine) : OpR X (compareOp .Lt) (rLtA X.K) := op_lt.or (op_ltT hu)
theorem pr_ltT {K : PySem.W.Frag} : PrR2 K (rLtT K) pLtT := by
  intro H x y a b d ra rb e Q k
  cases a with
  | tup tb xs =>
    cases b with
    | tup tc ys =>
      simp only [pLtT] at e
      split at e
      · rename_i ns ms h1 h2
        cases e
        obtain ⟨p, vs, rfl, g1, g2⟩ := rp_tup ra
        obtain ⟨q, ws, rfl, g3, g4⟩ := rp_tup rb
        rw [asI_some h1] at g2
        rw [asI_some h2] at g4
        have e1 := RpL.ints g2
        have e2 := RpL.ints g4
        subst e1
        subst e2
        exact ⟨p, q, ns, ms, rfl, rfl, g1.sq, g3.sq, k _ H (Ext.refl _) (by simp [Rp])⟩
      · cases e
    | _ => simp [pLtT] at e
  | _ => simp [pLtT] at e
theorem pr_lt {K : PySem.W.Frag} : PrR2 K (rLtA K) pLt := pr_ltI.or pr_ltT

/-! ### repeated -/
def fRep (fa fb : Den) : Den := fun env => (fa env).bind fun x => (fb x.2).bind fun y => match x.1, y.1 with
  | .lst ds, .int k => if small k && decide (ds.length * k.toNat ≤ big) then .ok (.lst (List.replicate k.toNat ds).flatten, y.2) else .stk
  | _, _ => .stk
theorem df_rep {X : Cx} {W : WD} {a b : Expr} {fa fb : Den} {pos : Pos} (ha : DF X W a fa) (hb : DE X W b fb) : DF X W (.BinOp a .Mult b pos) (fRep fa fb) := by
  refine pe_imp (pe_op op_rep ha hb) fun σ H Q hq => ?_
  obtain ⟨io, env, hr, hq⟩ := hq
  refine ⟨io, env, hr, Wp.bind hq fun x v H1 q0 e1 r1 p1 h1 => ⟨io, x.2, r1, Wp.bind h1 fun y w H2 q1 e2 r2 p2 h2 => ?_⟩⟩
  clear q0 q1
  obtain ⟨xd, xe⟩ := x
  obtain ⟨yd, ye⟩ := y
  obtain ⟨l, rfl, nl, u, hu, ho⟩ := p1
  dsimp only at h2 e1 e2 r1 r2 p2 ho
  split at h2
  · rename_i ds k
    split at h2
    · rename_i hc
      rw [Bool.and_eq_true] at hc
      have hk := small_le hc.1
      have hz := of_decide_eq_true hc.2
      cases u with
      | lst vs =>
        have ho' : RpL X.K H1 ds vs := ho
        have no : ¬ OwnA xe σ l := fun z => by
          obtain ⟨j, d0, z1, z2⟩ := e1.shp.ownA.mp z
          obtain ⟨b0, z3, ⟨u0, z4, _⟩, _⟩ := hr.own j d0 z1
          rw [z2] at z3; cases z3
          rw [nl] at z4; cases z4
        have hu2 := e2.kp l _ hu trivial no
        have ho2 := RpL.ext (r1.fx e2) _ _ ho'
        have hl := ho2.length
        have hlim : (2 : Int) ^ 62 < 2 ^ 63 := by decide
        refine ⟨l, k, vs, rfl, rp_int p2, hu2, by omega, by omega, big_le (by rw [hl]; exact hz), fun q nq => ?_⟩
        exact h2 _ _ (EvE.ext (Ext.new nq)) (r2.ext (Ext.new nq)) ⟨q, rfl, free_back (e1.trans e2).dom nq, .lst _, upd_same, RpL.ext (Ext.new nq).fx _ _ (ho2.rep _)⟩
      | _ => exact (show False from ho).elim
    · exact (show False from h2).elim
  · exact (show False from h2).elim
def pRepT : D → D → Option D
  | .tup false ds, .int k => if decide (2 ≤ k ∧ k ≤ 1000 ∧ ds.length ≤ 1000) && !ds.isEmpty then some (.tup false (List.replicate k.toNat ds).flatten) else none
  | _, _ => none
theorem pr_repT {K : PySem.W.Frag} : PrR2 K (rRepT K) pRepT := by
  intro H x y a b d ra rb e Q k
  cases a with
  | tup tb xs =>
    cases tb with
    | true => simp [pRepT] at e
    | false =>
    cases b with
    | int j =>
      simp only [pRepT] at e
      split at e
      · rename_i hc
        rw [Bool.and_eq_true] at hc
        obtain ⟨h1, h2, h3⟩ := of_decide_eq_true hc.1
        cases e
        obtain ⟨p, vs, rfl, g1, g2⟩ := rp_tup ra
        have hl := g2.length
        have hne : vs ≠ [] := fun z => by
          subst z
          have : xs = [] := List.length_eq_zero_iff.mp (by simpa using hl.symm)
          subst this
          exact absurd hc.2 (by simp)
        exact ⟨p, j, vs, rfl, rp_int rb, g1.sq, hne, h1, h2, by omega, fun q nq => k _ _ (Ext.new nq) (by simp only [Rp]; exact ⟨q, _, rfl, upd_same, RpL.ext (Ext.new nq).fx _ _ (g2.rep _)⟩)⟩
      · cases e
    | _ => simp [pRepT] at e
  | _ => simp [pRepT] at e

/-! ### any sequence walked -/
def itS (f : Den) : DenL := fun env => (f env).bind fun x => match x.1 with
  | .lst ds => .ok (ds, x.2)
  | .tup _ ds => .ok (ds, x.2)
  | _ => .stk
section
variable {X : Cx} {W : WD} {tg e : Expr} {f : Den}
theorem wk_tup {K : PySem.W.Frag} {H : Hp} {l : Addr} {ds : List D} {vs : List V} (h : ∀ Ha, FExt H Ha → SqT K Ha l vs) (hr : RpL K H ds vs) : Wk K (Itt K l) ds H := fun Ha e => by
  have hs : SqT K Ha l vs := h Ha e
  have hl := hr.length
  refine ⟨fun i hi => ⟨vs, vs[i]'(by omega), hs, by simp⟩, ⟨vs, hs, by omega⟩, fun i d x Hb hd y => ?_⟩
  obtain ⟨rfl, y⟩ := y
  obtain ⟨v, h1, h2⟩ := hr.get hd
  have := (y vs hs).symm.trans h1
  cases this
  exact ⟨Ext.refl _, Rp.ext e _ _ h2⟩
theorem di_seq (h : DE X W e f) : DI X W tg e (itS f) := by
  refine ⟨fun pins s σ H Rr I hq => ?_⟩
  obtain ⟨io, env, hr, hq⟩ := hq
  let QQ : VK := fun v H1 => ∃ a, v = V.ref a ∧ ((∃ vs, FzL X.K H1 a vs ∧ Rr (Itl X.K a) H1) ∨ ∃ vs, SqT X.K H1 a vs ∧ Rr (Itt X.K a) H1)
  refine thn (h.run pins s σ H QQ I ⟨io, env, hr, Wp.bind hq fun x v H1 q0 e1 r1 p1 h1 => ?_⟩) fun v s1 ⟨x, H1, I1, r1, q1⟩ => ?_
  · clear q0
    obtain ⟨xd, xe⟩ := x
    cases xd with
    | lst ds =>
      obtain ⟨a, vs, rfl, g1, g2⟩ := rp_lst p1
      exact ⟨a, rfl, .inl ⟨vs, g1, h1 _ H1 (EvE.refl _ _ _) r1 (wk_list g1 g2)⟩⟩
    | tup tb ds =>
      obtain ⟨a, vs, rfl, g1, g2⟩ := rp_tup p1
      exact ⟨a, rfl, .inr ⟨vs, g1.sq, h1 _ H1 (EvE.refl _ _ _) r1 (wk_tup (fun Ha e => (g1.ext e).sq) g2)⟩⟩
    | _ => exact (show False from h1).elim
  · obtain ⟨a, rfl, q1⟩ := q1
    obtain rfl : v = .ref a := r1
    have new : ∀ (o : Obj), ∀ b ∈ [s1.heap.objs.size], FpOk X pins H1 b := fun o b hb => by
      have e : b = s1.heap.objs.size := by simpa using hb
      subst e
      exact I1.fpOk (Nat.le_refl _) (I1.hok.fresh (Nat.le_refl _))
    rcases q1 with ⟨vs, g1, g2⟩ | ⟨vs, g1, g2⟩
    · obtain ⟨its, rv, pl, hz⟩ := I1.list g1.sq
      refine wpAny_pyIter_list pl.isList ⟨s1.heap.objs.size, [s1.heap.objs.size], _, _, H1, rfl, ?_, turn_list a _, ⟨_, Heap.get?_push_size _ rfl, rfl, rfl⟩, ?_, g2⟩
      · exact I1.kept (t' := s1.toks) fun b o e => Heap.get?_push_of_some _ e
      · exact new pl.choose
    · obtain ⟨its, rv, pl, hz⟩ := I1.tuple g1
      refine wpAny_pyIter_tuple (show s1.heap.IsTuple a its.toArray from pl) ⟨s1.heap.objs.size, [s1.heap.objs.size], _, _, H1, rfl, ?_, turn_tuple a _, ⟨_, Heap.get?_push_size _ rfl, rfl, rfl⟩, ?_, g2⟩
      · exact I1.kept (t' := s1.toks) fun b o e => Heap.get?_push_of_some _ e
      · exact new pl.choose
end

/-! ### a module's whole number, an own exception class -/
structure TopI (mg : Str → Option Value) (x : Str) (i : Int) : Prop where
  ex : ∃ t, mg x = some (.int i t)
structure TopX (K : PySem.W.Frag) (mg : Str → Option Value) (x : Str) : Prop where
  ex : ∃ C, mg x = some (.ref C) ∧ PySem.W.excIn K C [.type "ValueError", .type "Exception", .type "BaseException", .type "object"] "ValueError.__new__" = true ∧ PySem.W.keepIn K (.ref C) = true ∧
    PySem.W.subIn K (.ref C) (.type "BaseException") = some true ∧ PySem.W.typeIn K (.ref C) = some (.type "type")
theorem de_topI {X : Cx} {W : WD} {x : Str} {i : Int} {pos : Pos} (hg : Gl X x) (h : TopI X.mg x i) (hd : (x == ("__debug__" : Str)) = false := by decide) : DE X W (.Name x pos) (eC (.int i)) :=
  let ⟨t, e⟩ := h.ex; de_globI hg e ⟨t, rfl⟩ hd
/-! ### a def by one fact -/
def Cal (P : Program) (w : World) (K : PySem.W.Frag) (T : List (Addr × Str)) (mg : Str → Option Value) (base : Heap) (k : Nat) (x : Str) (io fr : Bool) (n : Nat) (F : DenF) : Prop :=
  ∃ (f : Addr) (fd : FuncData) (ps : List Str), mg x = some (.ref f) ∧ PySem.W.keepIn K (.ref f) = true ∧ Binds K fd ps [] ∧ FnOk P w K mg base (L2N.CX P w) k f fd ps (spD K T mg io fr n F)
abbrev CalX (X : Cx) (T : List (Addr × Str)) (k : Nat) (x : Str) (io fr : Bool) (n : Nat) (F : DenF) : Prop := Cal X.prog X.w X.K T X.mg X.base k x io fr n F
section
variable {X : Cx} {W : WD} {k n : Nat} {F : DenF} {Fa : DenL} {x y : Str} {p pos pos' : Pos} {e : Expr} {es : List Expr}
theorem de_callC (C : CalX X W.T k x false false n F) (hr : Room k X.A) (tk : L2N.Takes X (WT X.mg W)) (hg : Gl X x) (ha : DA X W (e :: es) Fa)
    (hdb : (x == ("__debug__" : Str)) = false := by decide) (he : starEach (e :: es) X.env = (false, eval e X.env) :: starEach es X.env := by rfl) (hpl : (backTo pos (starEach es X.env)).any (·.1) = false := by rfl) : DE X W (.Call (.Name x p) (e :: es) [] pos) (eCall n F Fa) :=
  let ⟨f, fd, ps, hm, hk, hb, G⟩ := C; de_call G hr tk hg hm hk hb ha hdb he hpl
theorem df_callC (C : CalX X W.T k x false true n F) (hr : Room k X.A) (tk : L2N.Takes X (WT X.mg W)) (hg : Gl X x) (ha : DA X W (e :: es) Fa)
    (hdb : (x == ("__debug__" : Str)) = false := by decide) (he : starEach (e :: es) X.env = (false, eval e X.env) :: starEach es X.env := by rfl) (hpl : (backTo pos (starEach es X.env)).any (·.1) = false := by rfl) : DF X W (.Call (.Name x p) (e :: es) [] pos) (eCall n F Fa) :=
  let ⟨f, fd, ps, hm, hk, hb, G⟩ := C; df_call G hr tk hg hm hk hb ha hdb he hpl
theorem de_callOC (i : Nat) (C : CalX X W.T k x true false n F) (hr : Room k X.A) (tk : L2N.Takes X (WT X.mg W)) (hg : Gl X x) (ha : DA X W es Fa)
    (hN : X.N[i]? = some y := by rfl) (hv : Vis X.env.scope y := by first | exact Or.inl rfl | exact Or.inr (Or.inl rfl) | exact Or.inr (Or.inr rfl)) (hd : (y == ("__debug__" : Str)) = false := by decide) (hcd : (y == ("__classdict__" : Str)) = false := by decide)
    (hdb : (x == ("__debug__" : Str)) = false := by decide) (he : starEach (.Name y pos' :: es) X.env = (false, eval (.Name y pos') X.env) :: starEach es X.env := by rfl) (hpl : (backTo pos (starEach es X.env)).any (·.1) = false := by rfl) : DE X W (.Call (.Name x p) (.Name y pos' :: es) [] pos) (eCallO i n F Fa) :=
  let ⟨f, fd, ps, hm, hk, hb, G⟩ := C; de_callO i G hr tk hg hm hk hb ha hN hv hd hcd hdb he hpl
theorem df_callOC (i : Nat) (C : CalX X W.T k x true true n F) (hr : Room k X.A) (tk : L2N.Takes X (WT X.mg W)) (hg : Gl X x) (ha : DA X W es Fa)
    (hN : X.N[i]? = some y := by rfl) (hv : Vis X.env.scope y := by first | exact Or.inl rfl | exact Or.inr (Or.inl rfl) | exact Or.inr (Or.inr rfl)) (hd : (y == ("__debug__" : Str)) = false := by decide) (hcd : (y == ("__classdict__" : Str)) = false := by decide)
    (hdb : (x == ("__debug__" : Str)) = false := by decide) (he : starEach (.Name y pos' :: es) X.env = (false, eval (.Name y pos') X.env) :: starEach es X.env := by rfl) (hpl : (backTo pos (starEach es X.env)).any (·.1) = false := by rfl) : DF X W (.Call (.Name x p) (.Name y pos' :: es) [] pos) (eCallO i n F Fa) :=
  let ⟨f, fd, ps, hm, hk, hb, G⟩ := C; df_callO i G hr tk hg hm hk hb ha hN hv hd hcd hdb he hpl
end
theorem fnNone {P : Program} {w : World} {K : PySem.W.Frag} {T : List (Addr × Str)} {mg : Str → Option Value} {base : Heap} {k : Nat} {f : Addr} {fd : FuncData} {ps : List Str} {io fr : Bool} {n : Nat} : FnOk P w K mg base (L2N.CX P w) k f fd ps (spD K T mg io fr n fun _ => .stk) :=
  ⟨fun vs H Q E ⟨_, _, ds, _, z⟩ => z.elim, fun A outer s H args us vs Q E _ _ _ _ ⟨_, _, ds, _, z⟩ => z.elim⟩
end DL

/-! ## DLs -/
/-! DLs: enumerate and zip over lists and tuples, reversed slices, sorted(set(..)). -/
namespace DL
open PySem PySem.Spec PyProof.Rows L2

/-! ### either kind of sequence -/
def SqB (K : PySem.W.Frag) (b : Bool) (H : Hp) (a : Addr) (xs : List V) : Prop := match b with | true => SqT K H a xs | false => SqL K H a xs
def ItB (b : Bool) (h : Heap) (it a : Addr) (i : Nat) : Prop := match b with | true => h.IsTupleIter it a i | false => h.IsListIter it a i
def HasB (b : Bool) (h : Heap) (a : Addr) (its : Array Value) : Prop := match b with | true => h.IsTuple a its | false => h.IsList a its
def bgB (b : Bool) (a : Addr) : Obj := match b with
  | true => { cls := .type "tuple_iterator", data := .fields #[.ref a, .int 0 0] }
  | false => { cls := .type "list_iterator", data := .fields #[.ref a, .int 0 0] }
theorem begins_B (b : Bool) (a : Addr) (its : Array Value) : Begins (.ref a) (bgB b a) (fun h => HasB b h a its) := by
  cases b
  · exact begins_list a its
  · exact begins_tuple a its
theorem ItB.new {b : Bool} {h : Heap} {it a : Addr} (e : h.get? it = some (bgB b a)) : ItB b h it a 0 := by
  cases b
  · exact ⟨_, e, rfl, rfl⟩
  · exact ⟨_, e, rfl, rfl⟩
theorem draws_B {prog : Program} {w : World} {A : Around} (b : Bool) (hh : A.handled = none) (it a : Addr) (hne : a ≠ it) (its : Array Value) :
    Draws prog w A it [it, a] its.size (fun i v => its[i]? = some v) (fun i h => ItB b h it a i ∧ HasB b h a its) := by
  cases b
  · exact Draws.list hh it a hne its
  · exact Draws.tuple hh it a hne its
theorem ItB.at {b : Bool} {h h' : Heap} {it a : Addr} {i : Nat} (e : ItB b h it a i) (k : ∀ o, h.get? it = some o → h'.get? it = some o) : ItB b h' it a i := by
  cases b
  · exact Heap.IsListIter.at e k
  · exact Heap.IsTupleIter.at e k
theorem ItB.obj {b : Bool} {h : Heap} {it a : Addr} {i : Nat} (e : ItB b h it a i) : ∃ o, h.get? it = some o ∧ ∀ v, o.data ≠ .cell v := by
  cases b
  · obtain ⟨o, ho, hc, hd⟩ := e
    exact ⟨o, ho, fun v q => by rw [hd] at q; cases q⟩
  · obtain ⟨o, ho, hc, hd⟩ := e
    exact ⟨o, ho, fun v q => by rw [hd] at q; cases q⟩
section
variable {X : Cx} {pins : List (Addr × Obj)} {σ : L2.St} {H : Hp} {s : Shared} {b : Bool} {a : Addr} {xs ys : List V}
theorem seqB (I : Inv X pins σ H s) (h : SqB X.K b H a xs) : ∃ its : List Value, Vals xs its ∧ HasB b s.heap a its.toArray := by
  cases b
  · obtain ⟨its, r, p, _⟩ := I.list h
    exact ⟨its, r, p.isList⟩
  · obtain ⟨its, r, p, _⟩ := I.tuple h
    exact ⟨its, r, p⟩
theorem injB (I : Inv X pins σ H s) (h : SqB X.K b H a xs) (h' : SqB X.K b H a ys) : xs = ys := by
  cases b
  · exact I.list_inj h h'
  · exact I.tuple_inj h h'
theorem HasB.lt {h : Heap} {its : Array Value} (e : HasB b h a its) : a < h.objs.size := by
  cases b
  · obtain ⟨o, ho, _⟩ := e
    exact Heap.lt_size ho
  · obtain ⟨o, ho, _⟩ := e
    exact Heap.lt_size ho
end

/-! ### enumerate -/
def IteB (K : PySem.W.Frag) (b : Bool) (a : Addr) : It :=
  ⟨fun i H => ∃ (xs : List V) (x : V), SqB K b H a xs ∧ xs[i]? = some x, fun i H v H' => ∃ T x, v = .ref T ∧ H T = none ∧ H' = upd H T (.tup [.int (i : Nat), x]) ∧ ∀ xs, SqB K b H a xs → xs[i]? = some x,
    fun i H => ∃ xs : List V, SqB K b H a xs ∧ xs.length = i⟩
theorem turn_enumB {P : Program} {w : World} {K : PySem.W.Frag} {elts : List Expr} {kk : Nat} {tpos : Pos} {b : Bool} {a e it : Addr} (hne : e ≠ it) (hae : a ≠ e) (hai : a ≠ it) :
    Turn P w K (.Tuple elts kk tpos) (IteB K b a) [e, it] e (fun i h => (∃ old, IsEnum h e it ((i : Nat) : Int) old) ∧ ItB b h it a i) where
  mem := by simp
  obj := fun i h st c hc => by
    obtain ⟨⟨old, he⟩, hi⟩ := st
    have e' : c = e ∨ c = it := by simpa using hc
    rcases e' with z | z
    · rw [z]; exact ⟨_, he, fun v q => nomatch q⟩
    · rw [z]; exact hi.obj
  keep := fun i h h' st k => let ⟨⟨old, he⟩, hi⟩ := st; ⟨⟨old, k e (by simp) _ he⟩, hi.at fun o q => k it (by simp) o q⟩
  item := by
    intro X hP hw hK hc i pins s σ H E I hf st hg
    subst hP hw hK
    obtain ⟨⟨old, he⟩, hit⟩ := st
    obtain ⟨xs, x, hq, hx⟩ := hg
    obtain ⟨its, rv, p⟩ := seqB I hq
    obtain ⟨u, hu, ru⟩ := rv.get hx
    have hh : X.A.in1.handled = none := I.ok.hd hc
    have hlt : i < its.toArray.size := by
      rw [List.size_toArray]
      exact (List.getElem?_eq_some_iff.mp hu).1
    have hel : e < s.heap.objs.size := Heap.lt_size he
    have hil : it < s.heap.objs.size := by obtain ⟨_, q, _⟩ := hit.obj; exact Heap.lt_size q
    refine wpAny_pyNext_enum_itemD (draws_B b hh it a hai its.toArray) he ⟨hit, p⟩ hlt hne (by simp [hne, Ne.symm hae]) fun x2 h' tk hP2 ho st2 hT hsz hk => ?_
    have hx2 : x2 = u := by
      have hP2 : its[i]? = some x2 := by simpa using hP2
      rw [hu] at hP2
      exact (Option.some.inj hP2).symm
    rw [hx2] at ho hT
    refine ⟨_, rfl, wpAny_letOwnedTupleGo_enum (s := { s with heap := h', toks := tk + 1 }) ho fun h'' he' sb => ?_⟩
    have hT2 : h''.get? s.heap.objs.size = some { cls := .type "tuple", data := .seq #[.int i tk, u] } := (sb.2 _ (Nat.ne_of_gt hel)).trans hT
    have new : ObjOk X.prog X.w (upd H s.heap.objs.size (.tup [.int (i : Nat), x])) h'' s.heap.objs.size (.tup [.int (i : Nat), x]) :=
      ⟨by show 2 ≤ sizeLine; decide, [.int i tk, u], .cons ⟨_, rfl⟩ (.cons ru .nil), ⟨_, hT2, rfl, _, rfl⟩⟩
    have I1 : Inv X pins σ (upd H s.heap.objs.size (.tup [.int (i : Nat), x])) { s with heap := h'', toks := tk + 1 } :=
      I.turnedNew (ch := [e, it]) (fun c ob hb q => (sb.2 c (fun z => hb (by simp [z]))).trans (hk c ob (fun z => hb (by simp [z])) (fun z => hb (by simp [z])) q)) hf (Nat.le_refl _) new
    refine ⟨.ref s.heap.objs.size, _, I1, rfl, ⟨_, x, rfl, I.hok.fresh (Nat.le_refl _), rfl, fun ys hy => by rw [injB I hy hq]; exact hx⟩, ⟨⟨u, ?_⟩, st2.1.at fun o q => (sb.2 it (Ne.symm hne)).trans q⟩, fun c hb => ?_⟩
    · have e1 : ((i + 1 : Nat) : Int) = (i : Int) + 1 := by omega
      rw [e1]; exact he'
    · have hb' : c < s.heap.objs.size := by
        have e' : c = e ∨ c = it := by simpa using hb
        rcases e' with z | z
        · rw [z]; exact hel
        · rw [z]; exact hil
      rw [upd_ne (Nat.ne_of_lt hb')]
      exact (hf c hb).1
  done := by
    intro X hP hw hK hc i pins s σ H E I hf st hg
    subst hP hw hK
    obtain ⟨⟨old, he⟩, hit⟩ := st
    obtain ⟨xs, hq, hx⟩ := hg
    obtain ⟨its, rv, p⟩ := seqB I hq
    obtain ⟨f0, f1, f2, f3, f4, f5⟩ := hf it (by simp)
    have hh : X.A.in1.handled = none := I.ok.hd hc
    have hl : its.toArray.size = i := by rw [List.size_toArray, ← rv.length, hx]
    exact wpAny_pyNext_enum_endD (draws_B b hh it a hai its.toArray) he ⟨by rw [hl]; exact hit, p⟩ fun h' eb => ⟨rfl, I.turned (t' := s.toks) (fun c o hb q => eb c o hb q) f0 f1 f3 f4 f5⟩
  self := fun A i s Q E st h => let ⟨⟨_, he⟩, _⟩ := st; wpAny_pyIter_enum he h
theorem meets_enumB {v : Value} {o : Obj} {H : Heap → Prop} (B : Begins v o H) :
    Meets (Builtin.«enumerate.__new__» ⟨[.type "enumerate", v], []⟩) (fun _ R s => H s.heap ∧
      R (.ok (.ret (.ref (s.heap.push o).objs.size))) { s with heap := (s.heap.push o).push { cls := .type "enumerate", data := .fields #[.none, .bool false, .ref s.heap.objs.size, rawInt 0, .none, .none] } }) :=
  .of_wp fun prog w A R s h => by
    obtain ⟨hp, g, d, tk, os⟩ := s; obtain ⟨h1, h⟩ := h
    have hsub := sub_enumerate
    have q1 : ∀ {A' : Around} {E : Value → Shared → Prop} {Q : Value → Shared → Prop}, Q (.ref hp.objs.size) ⟨hp.push o, g, d, tk, os⟩ → wpAny (model prog w) A' (pyIter v) Q E ⟨hp, g, d, tk, os⟩ :=
      fun q => B.iter prog w _ _ ⟨hp, g, d, tk, os⟩ _ h1 q
    wp_walk using q1
    refine wpAny_stack_any fun st => wpAny_pure ?_
    split
    · rename_i c _ _ _ _ _
      cases (c == Value.type "enumerate")
      · wp_walk using q1
        exact ⟨_, rfl, h⟩
      · wp_walk using q1
        exact ⟨_, rfl, h⟩
    · wp_walk using q1
      exact ⟨_, rfl, h⟩
theorem enum_beginsB {prog : Program} {w : World} {A : Around} {E : Value → Shared → Prop} {s : Shared} {v : Value} {o : Obj} {H : Heap → Prop} {Q : Value → Shared → Prop} (B : Begins v o H) (h1 : H s.heap)
    (h : ∀ h', IsEnum h' (s.heap.objs.size + 1) s.heap.objs.size 0 .none → h'.get? s.heap.objs.size = some o → h'.objs.size = s.heap.objs.size + 2 →
      (∀ b o, s.heap.get? b = some o → h'.get? b = some o) → Q (.ref (s.heap.objs.size + 1)) { s with heap := h' }) :
    wpAny (model prog w) A (call (.type "enumerate") [v]) Q E s := by
  refine callType_new F.called_enumerate (by decide) (F.typeCall_enumerate_1 _) (F.newCall_enumerate_1 _) (fun obj => F.args_object_init_2 obj _) F.entry_enumerate_new
    (meets_enumB B) ⟨h1, ?_⟩
  have hz : (s.heap.push o).objs.size = s.heap.objs.size + 1 := Heap.size_push ..
  show _ ∧ _
  rw [hz]
  have he : IsEnum ((s.heap.push o).push { cls := .type "enumerate", data := .fields #[.none, .bool false, .ref s.heap.objs.size, rawInt 0, .none, .none] }) (s.heap.objs.size + 1) s.heap.objs.size 0 .none := by
    have := Heap.get?_push_size (s.heap.push o) (o := { cls := .type "enumerate", data := .fields #[.none, .bool false, .ref s.heap.objs.size, rawInt 0, .none, .none] }) rfl
    rw [hz] at this; exact this
  exact ⟨⟨_, he, rfl⟩, h _ he (Heap.get?_push_of_some _ (Heap.get?_push_size _ B.free)) (by rw [Heap.size_push, hz]) fun b o x => Heap.get?_push_of_some _ (Heap.get?_push_of_some _ x)⟩
def iEnumB (K : PySem.W.Frag) (ta : TA) : TI := fun σ H R => ta σ H fun vs H1 => ∃ b a xs, vs = [.ref a] ∧ SqB K b H1 a xs ∧ R (IteB K b a) H1
theorem pi_enumB {X : Cx} {e : Expr} {ta : TA} {p pos tpos : Pos} {elts : List Expr} {kk : Nat} (hg : Gl X "enumerate") (hm : X.mg "enumerate" = none) (ha : PA X [e] ta) (hs : starEach [e] X.env = [(false, eval e X.env)] := by rfl) :
    PI X (.Tuple elts kk tpos) (.Call (.Name "enumerate" p) [e] [] pos) (iEnumB X.K ta) := by
  refine ⟨fun pins s σ H R I h => ?_⟩
  refine Call_ (ld_blt I hg hm boot_enumerate (PyProof.Rows.callWith_type1 (thn (ha.run pos pins s σ H _ I h) fun us s1 ⟨vs, H1, I1, r1, q1⟩ => ?_) hs rfl))
  obtain ⟨b, a, xs, ex, hq, q⟩ := q1
  subst ex
  cases r1 with
  | cons r rr =>
    cases rr
    cases r
    obtain ⟨its, rv, p'⟩ := seqB I1 hq
    have hal := p'.lt
    refine enum_beginsB (begins_B b a its.toArray) p' fun h' he hit hsz hk => wpAny_pyIter_enum he ?_
    have I2 : Inv X pins σ H1 { s1 with heap := h' } := I1.kept (t' := s1.toks) hk
    refine ⟨s1.heap.objs.size + 1, [s1.heap.objs.size + 1, s1.heap.objs.size], _, _, H1, rfl, I2, turn_enumB (b := b) (a := a) (Nat.succ_ne_self _) (Nat.ne_of_lt (Nat.lt_succ_of_lt hal)) (Nat.ne_of_lt hal), ⟨⟨.none, he⟩, ItB.new hit⟩, fun c hb => ?_, q⟩
    have e' : c = s1.heap.objs.size + 1 ∨ c = s1.heap.objs.size := by simpa using hb
    have hle : s1.heap.objs.size ≤ c := by
      rcases e' with z | z
      · rw [z]; exact Nat.le_add_right _ _
      · rw [z]; exact Nat.le_refl _
    exact I1.fpOk hle (I1.hok.fresh hle)

/-! ### zip of two -/
def ItzB (K : PySem.W.Frag) (b1 b2 : Bool) (a1 a2 : Addr) : It :=
  ⟨fun i H => ∃ (xs ys : List V) (x y : V), SqB K b1 H a1 xs ∧ SqB K b2 H a2 ys ∧ xs[i]? = some x ∧ ys[i]? = some y,
    fun i H v H' => ∃ T x y, v = .ref T ∧ H T = none ∧ H' = upd H T (.tup [x, y]) ∧ (∀ xs, SqB K b1 H a1 xs → xs[i]? = some x) ∧ ∀ ys, SqB K b2 H a2 ys → ys[i]? = some y,
    fun i H => ∃ xs ys : List V, SqB K b1 H a1 xs ∧ SqB K b2 H a2 ys ∧ i ≤ xs.length ∧ i ≤ ys.length ∧ (i = xs.length ∨ i = ys.length)⟩
theorem turn_zipB {P : Program} {w : World} {K : PySem.W.Frag} {elts : List Expr} {kk : Nat} {tpos : Pos} {b1 b2 : Bool} {a1 a2 z TI TO i1 i2 : Addr} (S : ZipSep2 z TI TO i1 i2 [i1, a1] [i2, a2]) (n1 : a1 ≠ i1) (n2 : a2 ≠ i2) :
    Turn P w K (.Tuple elts kk tpos) (ItzB K b1 b2 a1 a2) [z, TI, TO, i1, i2] z (fun i h => IsZip h z TI TO .none ∧ IsTupOf2 h TI (.ref i1) (.ref i2) ∧ (∃ x y, IsTupOf2 h TO x y) ∧ ItB b1 h i1 a1 i ∧ ItB b2 h i2 a2 i) where
  mem := by simp
  obj := fun i h st c hc => by
    obtain ⟨hz, hTI, ⟨x, y, hTO⟩, h1, h2⟩ := st
    have e' : c = z ∨ c = TI ∨ c = TO ∨ c = i1 ∨ c = i2 := by simpa using hc
    rcases e' with q | q | q | q | q
    · rw [q]; exact ⟨_, hz, fun v q => nomatch q⟩
    · rw [q]; exact ⟨_, hTI, fun v q => nomatch q⟩
    · rw [q]; exact ⟨_, hTO, fun v q => nomatch q⟩
    · rw [q]; exact h1.obj
    · rw [q]; exact h2.obj
  keep := fun i h h' st k => by
    obtain ⟨hz, hTI, ⟨x, y, hTO⟩, h1, h2⟩ := st
    exact ⟨k z (by simp) _ hz, k TI (by simp) _ hTI, ⟨x, y, k TO (by simp) _ hTO⟩, h1.at fun o q => k i1 (by simp) o q, h2.at fun o q => k i2 (by simp) o q⟩
  item := by
    intro X hP hw hK hc i pins s σ H E I hf st hg
    subst hP hw hK
    obtain ⟨hz, hTI, ⟨x0, y0, hTO⟩, h1, h2⟩ := st
    obtain ⟨xs, ys, x, y, hqx, hqy, hx, hy⟩ := hg
    obtain ⟨its, rv, p⟩ := seqB I hqx
    obtain ⟨its2, rv2, p2⟩ := seqB I hqy
    obtain ⟨u, hu, ru⟩ := rv.get hx
    obtain ⟨u2, hu2, ru2⟩ := rv2.get hy
    have hh : X.A.in1.handled = none := I.ok.hd hc
    have hl1 : i < its.toArray.size := by rw [List.size_toArray]; exact (List.getElem?_eq_some_iff.mp hu).1
    have hl2 : i < its2.toArray.size := by rw [List.size_toArray]; exact (List.getElem?_eq_some_iff.mp hu2).1
    have hzl : z < s.heap.objs.size := Heap.lt_size hz
    refine wpAny_pyNext_zipD2_item S (draws_B b1 hh i1 a1 n1 its.toArray) (draws_B b2 hh i2 a2 n2 its2.toArray) hz hTI hTO ⟨h1, p⟩ ⟨h2, p2⟩ hl1 hl2 fun x1 x2 h' tk e1 e2 z' TO' st1 st2 hT hsz hk => ?_
    have ex1 : x1 = u := by
      have e1 : its[i]? = some x1 := by simpa using e1
      rw [hu] at e1
      exact (Option.some.inj e1).symm
    have ex2 : x2 = u2 := by
      have e2 : its2[i]? = some x2 := by simpa using e2
      rw [hu2] at e2
      exact (Option.some.inj e2).symm
    rw [ex1, ex2] at hT TO'
    refine ⟨_, rfl, wpAny_letOwnedTupleGo_zip (s := { s with heap := h', toks := tk }) z' fun h'' z'' sb => ?_⟩
    have hT2 : h''.get? s.heap.objs.size = some { cls := .type "tuple", data := .seq #[u, u2] } := (sb.2 _ (Nat.ne_of_gt hzl)).trans hT
    have new : ObjOk X.prog X.w (upd H s.heap.objs.size (.tup [x, y])) h'' s.heap.objs.size (.tup [x, y]) :=
      ⟨by show 2 ≤ sizeLine; decide, [u, u2], .cons ru (.cons ru2 .nil), ⟨_, hT2, rfl, _, rfl⟩⟩
    have I1 : Inv X pins σ (upd H s.heap.objs.size (.tup [x, y])) { s with heap := h'', toks := tk } :=
      I.turnedNew (t' := tk) (ch := [z, TI, TO, i1, i2]) (fun c o hb q => (sb.2 c (fun q' => hb (by simp [q']))).trans (hk c o (fun q' => hb (by simp [q'])) (fun q' => hb (by simp [q'])) (fun q' => hb (by simp [q'])) (fun q' => hb (by simp [q'])) q)) hf (Nat.le_refl _) new
    refine ⟨.ref s.heap.objs.size, _, I1, rfl, ⟨_, x, y, rfl, I.hok.fresh (Nat.le_refl _), rfl, fun l hl => by rw [injB I hl hqx]; exact hx, fun l hl => by rw [injB I hl hqy]; exact hy⟩, ⟨z'', ?_, ⟨u, u2, ?_⟩, ?_, ?_⟩, fun c hcm => ?_⟩
    · exact (sb.2 _ S.TIz).trans (hk _ _ S.TIz S.TITO S.TIi1 S.TIi2 hTI)
    · exact (sb.2 _ S.TOz).trans TO'
    · exact st1.1.at fun o q => (sb.2 _ (Ne.symm S.zi1)).trans q
    · exact st2.1.at fun o q => (sb.2 _ (Ne.symm S.zi2)).trans q
    · have hlt : c < s.heap.objs.size := by
        have e' : c = z ∨ c = TI ∨ c = TO ∨ c = i1 ∨ c = i2 := by simpa using hcm
        rcases e' with q | q | q | q | q
        · rw [q]; exact hzl
        · rw [q]; exact Heap.lt_size hTI
        · rw [q]; exact Heap.lt_size hTO
        · rw [q]; obtain ⟨_, e1, _⟩ := h1.obj; exact Heap.lt_size e1
        · rw [q]; obtain ⟨_, e2, _⟩ := h2.obj; exact Heap.lt_size e2
      rw [upd_ne (Nat.ne_of_lt hlt)]
      exact (hf c hcm).1
  done := by
    intro X hP hw hK hc i pins s σ H E I hf st hg
    subst hP hw hK
    obtain ⟨hz, hTI, ⟨x0, y0, hTO⟩, h1, h2⟩ := st
    obtain ⟨xs, ys, hqx, hqy, hi1, hi2, hend⟩ := hg
    obtain ⟨its, rv, p⟩ := seqB I hqx
    obtain ⟨its2, rv2, p2⟩ := seqB I hqy
    have hh : X.A.in1.handled = none := I.ok.hd hc
    have l1 : its.toArray.size = xs.length := by rw [List.size_toArray, rv.length]
    have l2 : its2.toArray.size = ys.length := by rw [List.size_toArray, rv2.length]
    exact wpAny_pyNext_zipD2_end S (draws_B b1 hh i1 a1 n1 its.toArray) (draws_B b2 hh i2 a2 n2 its2.toArray) hz hTI hTO ⟨h1, p⟩ ⟨h2, p2⟩ (by rw [l1]; exact hi1) (by rw [l2]; exact hi2) (by rw [l1, l2]; exact hend)
      fun h' tk hk => ⟨rfl, I.turnedL (t' := tk) (ch := [z, TI, TO, i1, i2]) (fun c o hb q =>
      hk c o (fun q' => hb (by simp [q'])) (fun q' => hb (by simp [q'])) (fun q' => hb (by simp [q'])) (fun q' => hb (by simp [q'])) q) hf⟩
  self := fun A i s Q E st h => wpAny_pyIter_zip st.1 h
def iZipB (K : PySem.W.Frag) (ta : TA) : TI := fun σ H R => ta σ H fun vs H1 => ∃ b1 b2 a1 a2 xs ys, vs = [.ref a1, .ref a2] ∧ SqB K b1 H1 a1 xs ∧ SqB K b2 H1 a2 ys ∧ R (ItzB K b1 b2 a1 a2) H1
theorem pi_zipB {X : Cx} {e e2 : Expr} {ta : TA} {p pos tpos : Pos} {elts : List Expr} {kk : Nat} (hg : Gl X "zip") (hm : X.mg "zip" = none) (ha : PA X [e, e2] ta)
    (hs : starEach [e, e2] X.env = (false, eval e X.env) :: starEach [e2] X.env := by rfl) (hpl : (backTo pos (starEach [e2] X.env)).any (·.1) = false := by rfl) :
    PI X (.Tuple elts kk tpos) (.Call (.Name "zip" p) [e, e2] [] pos) (iZipB X.K ta) := by
  refine ⟨fun pins s σ H R I h => ?_⟩
  refine Call_ (ld_blt I hg hm PyProof.Rows.boot_zip (PyProof.Rows.callWith_type1 (thn (ha.run pos pins s σ H _ I h) fun us s1 ⟨vs, H1, I1, r1, q1⟩ => ?_) hs hpl))
  obtain ⟨b1, b2, a1, a2, xs, ys, ex, hqx, hqy, q⟩ := q1
  subst ex
  cases r1 with
  | cons r rr =>
    cases rr with
    | cons r' rr =>
      cases rr
      cases r
      cases r'
      obtain ⟨its, rv, p1⟩ := seqB I1 hqx
      obtain ⟨its2, rv2, p2⟩ := seqB I1 hqy
      have la := p1.lt
      have lb := p2.lt
      refine zip_begins2 (begins_B b1 a1 its.toArray) (begins_B b2 a2 its2.toArray) p1 p2 fun h' hz hTI hTO h1 h2 hsz hk => wpAny_pyIter_zip hz ?_
      have I2 : Inv X pins σ H1 { s1 with heap := h' } := I1.kept (t' := s1.toks) hk
      have S := zip_sep2 (N := s1.heap.objs.size) (fp1 := [a1]) (fp2 := [a2]) (by simpa using la) (by simpa using lb)
      refine ⟨s1.heap.objs.size + 4, [s1.heap.objs.size + 4, s1.heap.objs.size + 2, s1.heap.objs.size + 3, s1.heap.objs.size, s1.heap.objs.size + 1], _, _, H1, rfl, I2, turn_zipB (b1 := b1) (b2 := b2) S (Nat.ne_of_lt la) (Nat.ne_of_lt (Nat.lt_succ_of_lt lb)), ⟨hz, hTI, ⟨_, _, hTO⟩, ItB.new h1, ItB.new h2⟩, fun c hcm => ?_, q⟩
      have e' : c = s1.heap.objs.size + 4 ∨ c = s1.heap.objs.size + 2 ∨ c = s1.heap.objs.size + 3 ∨ c = s1.heap.objs.size ∨ c = s1.heap.objs.size + 1 := by simpa using hcm
      have hle : s1.heap.objs.size ≤ c := by
        rcases e' with z | z | z | z | z
        · rw [z]; exact Nat.le_add_right _ _
        · rw [z]; exact Nat.le_add_right _ _
        · rw [z]; exact Nat.le_add_right _ _
        · rw [z]; exact Nat.le_refl _
        · rw [z]; exact Nat.le_add_right _ _
      exact I1.fpOk hle (I1.hok.fresh hle)

/-! ### set(xs) of a list of ints -/
abbrev noSet (w : World) : Obj := { cls := .type "set", dict := none, data := .set #[] 0 (.fresh 0 0 (!w.params.followText "set-order")) }
section
variable {P : Program} {w : World} {A : Around} {E : Value → Shared → Prop} {s : Shared}
theorem call_setL {l : Addr} {its : Array Value} (ns : List Int) {Q : Value → Shared → Prop} (hh : A.handled = none) (hl : s.heap.IsList l its) (hi : IntsAre its.toList ns) (hb : ns.length + 1 < scanBound)
    (h : ∀ (h' : Heap) (tk c : Nat), SetR w h' s.heap.objs.size (fun j => decide (j ∈ ns)) c → c ≤ ns.length → (∀ b o, s.heap.get? b = some o → h'.get? b = some o) → Q (.ref s.heap.objs.size) { s with heap := h', toks := tk }) :
    wpAny (model P w) A (call (.type "set") [.ref l]) Q E s := by
  have hz : its.size = ns.length := (Array.length_toList (xs := its)).symm.trans (IntsAre.length hi)
  obtain ⟨c, tl, mro⟩ := F.called_set.mro
  have hmade := F.called_set.made
  have hsub := F.called_set.sub
  refine wpAny_call (codeAny_of_tree ?_)
  show wpAny _ _ (callAny (.type "set") _) _ _ _
  refine wpAny_pure ⟨Code.quiet_builtin _ (by decide +kernel), codeAny_builtin F.entry_type_call ?_⟩
  rw [Around.under_plain (weight_type_call_type "set" [.ref l] []) rfl]
  have h1 := F.called_set.notType
  have h2 := F.called_set.canCreate
  have h3 := F.typeCall_set_1 (.ref l)
  repeat (any_goals (first | assumption | wp_step))
  refine codeAny_mono (code_set_led1 (.ref l) (E := E) (Q₁ := fun x t => x = .ref s.heap.objs.size ∧ t = { s with heap := s.heap.push (noSet w) }) ⟨rfl, rfl⟩) fun r t hr => ?_
  cases r with
  | error e => exact hr
  | ok fl =>
    cases fl with
    | ret x =>
      obtain ⟨rfl, rfl⟩ := hr
      have gS : (s.heap.push (noSet w)).get? s.heap.objs.size = some (noSet w) := Heap.get?_push_size _ rfl
      have tS : Shared.TypeIs { s with heap := s.heap.push (noSet w) } (.ref s.heap.objs.size) "set" := ⟨_, gS, rfl⟩
      have k1 := F.called_set.init.lookup
      have k2 := F.called_set.init.bind (.ref s.heap.objs.size)
      repeat (any_goals (first | assumption | wp_step))
      refine codeAny_mono (codeAny_call_builtin (R := wants (fun r t => r = .none ∧ ∃ h' tk c, t = { s with heap := h', toks := tk } ∧ SetR w h' s.heap.objs.size (fun j => decide (j ∈ ns)) c ∧ c ≤ ns.length ∧
          (∀ b o, s.heap.get? b = some o → h'.get? b = some o)) E) F.called_set.init.plain F.entry_set_init (check_set_init_1 tS ?_)) fun r2 t2 hr2 => ?_
      · obtain ⟨⟨oc, od, oda, os⟩, ho, hc, nl, hd⟩ := hl
        simp only at hc hd
        subst hc hd
        have ho' : (s.heap.push (noSet w)).get? l = some { cls := .type "list", dict := od, data := .seq its nl, slots := os } := Heap.get?_push_of_some _ ho
        have n1 := F.sub_list_set
        have n2 := F.sub_list_frozenset
        have n3 : (Value.type "list" == Value.type "dict") = false := by decide
        have isl : (s.heap.push (noSet w)).IsList l its := ⟨_, ho', rfl, nl, rfl⟩
        unfold Builtin.«set.__init__» noKeywords Builtin.Frozenset.updateFrom
        generalize hPI : pyIter = PI
        wp_walk
        subst hPI
        refine wpAny_pyIter_list isl ?_
        refine wpAny_bind (wpAny_runValue ?_)
        have lt0 : l < s.heap.objs.size := Heap.lt_size ho
        have hh3 : A.in1.in1.in1.handled = none := by simp [hh]
        have sz1 : (s.heap.push (noSet w)).objs.size = s.heap.objs.size + 1 := Heap.size_push ..
        have ne1 : l ≠ (s.heap.push (noSet w)).objs.size := by
          rw [sz1]; exact Nat.ne_of_lt (Nat.lt_succ_of_lt lt0)
        have nf : s.heap.objs.size ∉ [(s.heap.push (noSet w)).objs.size, l] := by
          rw [sz1]
          intro z
          have z : s.heap.objs.size = s.heap.objs.size + 1 ∨ s.heap.objs.size = l := by simpa using z
          rcases z with z | z
          · exact absurd z (Nat.ne_of_lt (Nat.lt_succ_self _))
          · exact absurd z (Nat.ne_of_gt lt0)
        have hv : ∀ (i : Nat) (v : Value), its[i]? = some v → ∃ k t, ns[i]? = some k ∧ v = .int k t := fun i v hv => by
          have q : i < ns.length := by rw [← hz]; exact (Array.getElem?_eq_some_iff.mp hv).1
          obtain ⟨t, e⟩ := PyProof.Rows.IntsAre.int_at hi i v (by rw [Array.getElem?_toList]; exact hv)
          refine ⟨ns[i], t, List.getElem?_eq_getElem q, ?_⟩
          rw [e, List.getD_eq_getElem?_getD, List.getElem?_eq_getElem q] <;> rfl
        refine set_update_ints ((Walks.list hh3 _ l ne1 its).toS) s.heap.objs.size nf ns hz hb hv (its.size - 0) 0 _ (by omega) (Nat.zero_le _) ⟨⟨_, Heap.get?_push_size _ rfl, rfl, rfl⟩, (isl.push _)⟩
          ⟨0, Nat.le_refl 0, setR_new_at (Heap.get?_push_of_some _ gS)⟩ ?_
        intro t c' hm hc' hS'
        obtain ⟨h', g2, d', tk', os'⟩ := t
        have eg : g2 = s.gens := hm.gens
        have ed : d' = s.drawn := hm.drawn
        have eo : os' = s.os := hm.os
        subst eg ed eo
        show wpAny _ _ _ _ _ _
        refine wpAny_pure ?_
        show wpAny _ _ (ret Value.none) _ _ _
        rw [hz] at hc'
        refine wpAny_pure ⟨rfl, h', tk', c', rfl, hS', hc', fun b o e => ?_⟩
        have b0 : b < s.heap.objs.size := Heap.lt_size e
        refine hm.heap b o (fun z => ?_) (Heap.get?_push_of_some _ (Heap.get?_push_of_some _ e))
        rw [sz1] at z
        have z : b = s.heap.objs.size ∨ b = s.heap.objs.size + 1 := by simpa using z
        rcases z with z | z
        · exact absurd z (Nat.ne_of_lt b0)
        · exact absurd z (Nat.ne_of_lt (Nat.lt_succ_of_lt b0))
      · cases r2 with
        | error e => exact hr2
        | ok f2 =>
          cases f2 with
          | ret r =>
            obtain ⟨rfl, h', tk, c', rfl, g1, g2, g3⟩ := hr2
            repeat (any_goals (first | assumption | wp_step))
            exact h _ _ _ g1 g2 g3
          | _ => exact hr2.elim
    | _ => exact hr.elim
end

/-- sorted(set(xs)) -/
def tSortSet (K : PySem.W.Frag) (ta : TE) : TE := fun σ H Q => ta σ H fun x H1 => ∃ (l : Addr) (ns : List Int), x = .ref l ∧ SqL K H1 l (ns.map V.int) ∧ ns.length < 64 ∧
  ∀ (p : Addr) (ms : List Int), H1 p = none → ms.Pairwise (· < ·) → (∀ k : Int, k ∈ ms ↔ k ∈ ns) → Q (.ref p) (upd H1 p (.lst (ms.map V.int)))
theorem pe_sortSet {X : Cx} {a : Expr} {ta : TE} {p p2 q pos : Pos} (hg : Gl X "sorted") (hm : X.mg "sorted" = none) (hg2 : Gl X "set") (hm2 : X.mg "set" = none) (ha : PE X a ta) (hc : X.calm = true := by rfl)
    (na : starEach [a] X.env = (false, eval a X.env) :: starEach [] X.env := by rfl) : PE X (.Call (.Name "sorted" p) [.Call (.Name "set" p2) [a] [] q] [] pos) (tSortSet X.K ta) := by
  refine ⟨fun pins s σ H Q I h => ?_⟩
  unfold tSortSet at h
  refine Call_ (ld_blt I hg hm boot_sorted ?_)
  refine PyProof.Rows.callWith_builtin1 (PyProof.Rows.args_cons ?_ rfl) rfl rfl
  refine Call_ (ld_blt I hg2 hm2 boot_set ?_)
  refine PyProof.Rows.callWith_type1 (PyProof.Rows.args_cons (thn (ha.run pins s σ H _ I h) fun v s1 ⟨x, H1, I1, r1, q1⟩ => PyProof.Rows.args_nil ?_) na) na rfl
  obtain ⟨l, ns, rfl, hq, hl, q1⟩ := q1
  cases r1
  obtain ⟨its, r, pl, hz⟩ := I1.list hq
  have hi : IntsAre its.toArray.toList ns := by simpa using intsAre_of r
  have hh : X.A.handled = none := I1.ok.hd hc
  refine call_setL ns hh pl.isList hi (by unfold scanBound; omega) fun h' tk c hS hcl hk => ?_
  refine PyProof.Rows.args_nil ?_
  have I2 : Inv X pins σ H1 { s1 with heap := h', toks := tk } := I1.kept fun b o e => hk b o e
  refine sorted_set hS hh (by omega) fun s' pp out cc ms k1 k2 k3 k4 k5 k6 k7 k8 k9 => ?_
  have hlen : (ms.map V.int).length ≤ sizeLine := by rw [List.length_map, k9, sizeLine_eq]; omega
  have hn : H1 pp = none := I2.hok.fresh k4
  have J : Inv X pins σ (upd H1 pp (.lst (ms.map V.int))) { { s1 with heap := h', toks := tk } with heap := s'.heap, gens := s'.gens, drawn := s'.drawn, toks := s'.toks } :=
    I2.call (ch := []) (Un.laid k1 k4 hn) (I2.hok.laid k1 k4 ⟨hlen, out.toList, cc, vals_of_ints k6, k5⟩) (by rw [k2]; exact I2.bare) (fun _ z => nomatch z)
  have e : s' = { s1 with heap := s'.heap, gens := s'.gens, drawn := s'.drawn, toks := s'.toks } := by
    cases s'
    cases s1
    cases k3
    rfl
  rw [e]
  exact ⟨.ref pp, _, J, rfl, q1 pp ms hn k7 (fun k => (k8 k).trans (by simp))⟩

end DL

/-! ## DLt -/
/-! DLt: reversed slices, enumerate, zip, sorted(set(..)), by value. -/
namespace DL
open PySem PySem.Spec PyProof.Rows L2

def eRev (f : Den) : Den := fun env => (f env).bind fun x => match x.1 with
  | .lst ds => .ok (.lst ds.reverse, x.2)
  | .tup m ds => .ok (.tup m ds.reverse, x.2)
  | _ => .stk
def sqD : D → Option (List D)
  | .lst ds => some ds
  | .tup _ ds => some ds
  | _ => none
def enumD (ds : List D) : List D := ds.zipIdx.map fun p => D.tup false [.int (p.2 : Nat), p.1]
def itEnum (F : DenL) : DenL := fun env => (F env).bind fun x => match x.1 with
  | [a] => (R.of (sqD a)).bind fun ds => .ok (enumD ds, x.2)
  | _ => .stk
def zipD (xs ys : List D) : List D := (xs.zip ys).map fun p => D.tup false [p.1, p.2]
def itZip (F : DenL) : DenL := fun env => (F env).bind fun x => match x.1 with
  | [a, b] => (R.of (do let xs ← sqD a; let ys ← sqD b; some (zipD xs ys))).bind fun ds => .ok (ds, x.2)
  | _ => .stk
/-- sorted, no one twice -/
def insI (x : Int) : List Int → List Int
  | [] => [x]
  | y :: r => if x < y then x :: y :: r else if x = y then y :: r else y :: insI x r
def sortI (ns : List Int) : List Int := ns.foldr insI []
theorem insI_mem (x k : Int) : ∀ l : List Int, k ∈ insI x l ↔ k = x ∨ k ∈ l
  | [] => by simp [insI]
  | y :: r => by
    unfold insI
    split
    · simp
    · split
      · rename_i h1 h2
        subst h2
        simp
      · rw [List.mem_cons, insI_mem x k r, List.mem_cons]
        constructor
        · rintro (h | h | h)
          · exact .inr (.inl h)
          · exact .inl h
          · exact .inr (.inr h)
        · rintro (h | h | h)
          · exact .inr (.inl h)
          · exact .inl h
          · exact .inr (.inr h)
theorem insI_rising (x : Int) : ∀ l : List Int, l.Pairwise (· < ·) → (insI x l).Pairwise (· < ·)
  | [], _ => by simp [insI]
  | y :: r, h => by
    have h' := List.pairwise_cons.mp h
    unfold insI
    split
    · rename_i q
      refine List.pairwise_cons.mpr ⟨fun z hz => ?_, h⟩
      rcases List.mem_cons.mp hz with e | e
      · omega
      · have := h'.1 z e
        omega
    · split
      · exact h
      · rename_i q1 q2
        refine List.pairwise_cons.mpr ⟨fun z hz => ?_, insI_rising x r h'.2⟩
        rcases (insI_mem x z r).mp hz with e | e
        · omega
        · exact h'.1 z e
theorem sortI_mem (k : Int) : ∀ ns : List Int, k ∈ sortI ns ↔ k ∈ ns
  | [] => by simp [sortI]
  | x :: r => by
    show k ∈ insI x (sortI r) ↔ _
    rw [insI_mem, sortI_mem k r, List.mem_cons]
theorem sortI_rising : ∀ ns : List Int, (sortI ns).Pairwise (· < ·)
  | [] => List.Pairwise.nil
  | x :: r => insI_rising x _ (sortI_rising r)
theorem rising_one : ∀ {l m : List Int}, l.Pairwise (· < ·) → m.Pairwise (· < ·) → (∀ k : Int, k ∈ l ↔ k ∈ m) → l = m
  | [], [], _, _, _ => rfl
  | [], y :: m, _, _, h => absurd ((h y).mpr List.mem_cons_self) (by simp)
  | x :: l, [], _, _, h => absurd ((h x).mp List.mem_cons_self) (by simp)
  | x :: l, y :: m, hl, hm, h => by
    have a := List.pairwise_cons.mp hl
    have b := List.pairwise_cons.mp hm
    have exy : x = y := by
      rcases List.mem_cons.mp ((h x).mp List.mem_cons_self) with e | e
      · exact e
      · rcases List.mem_cons.mp ((h y).mpr List.mem_cons_self) with e2 | e2
        · exact e2.symm
        · have := a.1 y e2
          have := b.1 x e
          omega
    subst exy
    refine congrArg _ (rising_one a.2 b.2 fun k => ⟨fun hk => ?_, fun hk => ?_⟩)
    · rcases List.mem_cons.mp ((h k).mp (List.mem_cons_of_mem _ hk)) with e | e
      · have := a.1 k hk
        omega
      · exact e
    · rcases List.mem_cons.mp ((h k).mpr (List.mem_cons_of_mem _ hk)) with e | e
      · have := b.1 k hk
        omega
      · exact e
def eSortSet (f : Den) : Den := fun env => (f env).bind fun x => match x.1 with
  | .lst ds => (match asI ds with
    | some ns => if ns.length < 64 then .ok (.lst ((sortI ns).map D.int), x.2) else .stk
    | none => .stk)
  | _ => .stk

theorem enumD_get {ds : List D} {i : Nat} {d : D} (h : (enumD ds)[i]? = some d) : ∃ x, ds[i]? = some x ∧ d = .tup false [.int (i : Nat), x] := by
  unfold enumD at h
  rw [List.getElem?_map, List.getElem?_zipIdx] at h
  cases q : ds[i]? with
  | none => rw [q] at h; cases h
  | some x =>
    rw [q] at h
    simp at h
    exact ⟨x, rfl, h.symm⟩
theorem enumD_len (ds : List D) : (enumD ds).length = ds.length := by
  unfold enumD
  rw [List.length_map, List.length_zipIdx]
theorem zipD_get {xs ys : List D} {i : Nat} {d : D} (h : (zipD xs ys)[i]? = some d) : ∃ x y, xs[i]? = some x ∧ ys[i]? = some y ∧ d = .tup false [x, y] := by
  unfold zipD at h
  rw [List.getElem?_map] at h
  cases q : (xs.zip ys)[i]? with
  | none => rw [q] at h; cases h
  | some p =>
    rw [q] at h
    obtain ⟨h1, h2⟩ := List.getElem?_zip_eq_some.mp q
    cases h
    exact ⟨p.1, p.2, h1, h2, rfl⟩
theorem zipD_len (xs ys : List D) : (zipD xs ys).length = min xs.length ys.length := by
  unfold zipD
  rw [List.length_map, List.length_zip]
theorem rpL_one {K : PySem.W.Frag} {H : Hp} {a : D} {vs : List V} (h : RpL K H [a] vs) : ∃ v, vs = [v] ∧ Rp K H a v := by
  simp only [RpL] at h
  obtain ⟨v, w, rfl, h1, rfl⟩ := h
  exact ⟨v, rfl, h1⟩
theorem rpL_two {K : PySem.W.Frag} {H : Hp} {a b : D} {vs : List V} (h : RpL K H [a, b] vs) : ∃ v w, vs = [v, w] ∧ Rp K H a v ∧ Rp K H b w := by
  simp only [RpL] at h
  obtain ⟨v, w, rfl, h1, u, z, rfl, h2, rfl⟩ := h
  exact ⟨v, u, rfl, h1, h2⟩
/-- a sequence by value, at either kind of address -/
theorem seq_rep {K : PySem.W.Frag} {H : Hp} {d : D} {v : V} {ds : List D} (h : sqD d = some ds) (r : Rp K H d v) : ∃ b a vs, v = .ref a ∧ RpL K H ds vs ∧ ∀ Ha, FExt H Ha → SqB K b Ha a vs := by
  cases d with
  | lst xs =>
    simp only [sqD, Option.some.injEq] at h
    subst h
    obtain ⟨a, vs, rfl, g1, g2⟩ := rp_lst r
    exact ⟨false, a, vs, rfl, g2, fun Ha e => (g1.ext e).sq⟩
  | tup tb xs =>
    simp only [sqD, Option.some.injEq] at h
    subst h
    obtain ⟨a, vs, rfl, g1, g2⟩ := rp_tup r
    exact ⟨true, a, vs, rfl, g2, fun Ha e => (g1.ext e).sq⟩
  | _ => simp [sqD] at h
theorem sqB_one {K : PySem.W.Frag} {b : Bool} {H : Hp} {a : Addr} {xs ys : List V} {i : Nat} {x : V} (h : SqB K b H a xs) (k : ∀ xs, SqB K b H a xs → xs[i]? = some x) : xs[i]? = some x := k _ h
theorem rp_pair {K : PySem.W.Frag} {H : Hp} {T : Addr} {a b : D} {x y : V} (hT : H T = none) (ra : Rp K H a x) (rb : Rp K H b y) : Ext H (upd H T (.tup [x, y])) ∧ Rp K (upd H T (.tup [x, y])) (.tup false [a, b]) (.ref T) := by
  have e : Ext H (upd H T (.tup [x, y])) := Ext.new hT
  refine ⟨e, ?_⟩
  simp only [Rp]
  exact ⟨T, _, rfl, upd_same, RpL.cons (Rp.ext e.fx _ _ ra) (RpL.cons (Rp.ext e.fx _ _ rb) RpL.nil)⟩
section
variable {X : Cx} {W : WD} {e : Expr} {es elts : List Expr} {f : Den} {F : DenL} {k kk : Nat} {p p1 p2 p3 pos pos' tpos : Pos}
theorem wk_enum {K : PySem.W.Frag} {H : Hp} {b : Bool} {a : Addr} {ds : List D} {vs : List V} (hs : ∀ Ha, FExt H Ha → SqB K b Ha a vs) (hr : RpL K H ds vs) : Wk K (IteB K b a) (enumD ds) H := fun Ha e => by
  have hq := hs Ha e
  have hl := hr.length
  rw [enumD_len]
  refine ⟨fun i hi => ⟨vs, vs[i]'(by omega), hq, by simp⟩, ⟨vs, hq, hl⟩, fun i d x Hb hd y => ?_⟩
  obtain ⟨T, x0, rfl, hT, rfl, g⟩ := y
  obtain ⟨d0, h0, rfl⟩ := enumD_get hd
  obtain ⟨v, h1, h2⟩ := hr.get h0
  have := (g vs hq).symm.trans h1
  cases this
  exact rp_pair hT (by simp [Rp]) (Rp.ext e _ _ h2)
theorem di_enum (hg : Gl X "enumerate") (hm : X.mg "enumerate" = none) (ha : DA X W [e] F) (hs : starEach [e] X.env = [(false, eval e X.env)] := by rfl) : DI X W (.Tuple elts kk tpos) (.Call (.Name "enumerate" p) [e] [] pos) (itEnum F) := by
  refine pi_imp (pi_enumB hg hm ha hs) fun σ H Q hq => ?_
  obtain ⟨io, env, hr, hq⟩ := hq
  refine ⟨io, env, hr, Wp.bind hq fun x vs H1 q0 e1 r1 p1 h1 => ?_⟩
  clear q0
  obtain ⟨xd, xe⟩ := x
  dsimp only at h1 p1
  split at h1
  · rename_i a
    obtain ⟨v, rfl, pv⟩ := rpL_one p1
    cases q : sqD a with
    | none => rw [q] at h1; exact (show False from h1).elim
    | some ds =>
      rw [q] at h1
      obtain ⟨b, l, ws, rfl, g1, g2⟩ := seq_rep q pv
      exact ⟨b, l, ws, rfl, g2 _ (FExt.refl _), h1 _ H1 (EvE.refl _ _ _) r1 (wk_enum g2 g1)⟩
  · exact (show False from h1).elim
theorem wk_zip {K : PySem.W.Frag} {H : Hp} {b1 b2 : Bool} {a1 a2 : Addr} {ds1 ds2 : List D} {vs1 vs2 : List V} (hs1 : ∀ Ha, FExt H Ha → SqB K b1 Ha a1 vs1) (hr1 : RpL K H ds1 vs1) (hs2 : ∀ Ha, FExt H Ha → SqB K b2 Ha a2 vs2) (hr2 : RpL K H ds2 vs2) :
    Wk K (ItzB K b1 b2 a1 a2) (zipD ds1 ds2) H := fun Ha e => by
  have q1 := hs1 Ha e
  have q2 := hs2 Ha e
  have l1 := hr1.length
  have l2 := hr2.length
  rw [zipD_len]
  refine ⟨fun i hi => ⟨vs1, vs2, vs1[i]'(by omega), vs2[i]'(by omega), q1, q2, by simp, by simp⟩, ⟨vs1, vs2, q1, q2, by omega, by omega, by omega⟩, fun i d x Hb hd y => ?_⟩
  obtain ⟨T, x0, y0, rfl, hT, rfl, g1, g2⟩ := y
  obtain ⟨d1, d2, h1, h2, rfl⟩ := zipD_get hd
  obtain ⟨v1, e1, e2⟩ := hr1.get h1
  obtain ⟨v2, e3, e4⟩ := hr2.get h2
  have := (g1 vs1 q1).symm.trans e1
  cases this
  have := (g2 vs2 q2).symm.trans e3
  cases this
  exact rp_pair hT (Rp.ext e _ _ e2) (Rp.ext e _ _ e4)
theorem di_zip {a b : Expr} (hg : Gl X "zip") (hm : X.mg "zip" = none) (ha : DA X W [a, b] F) (hs : starEach [a, b] X.env = (false, eval a X.env) :: starEach [b] X.env := by rfl) (hpl : (backTo pos (starEach [b] X.env)).any (·.1) = false := by rfl) :
    DI X W (.Tuple elts kk tpos) (.Call (.Name "zip" p) [a, b] [] pos) (itZip F) := by
  refine pi_imp (pi_zipB hg hm ha hs hpl) fun σ H Q hq => ?_
  obtain ⟨io, env, hr, hq⟩ := hq
  refine ⟨io, env, hr, Wp.bind hq fun x vs H1 q0 e1 r1 p1 h1 => ?_⟩
  clear q0
  obtain ⟨xd, xe⟩ := x
  dsimp only at h1 p1
  split at h1
  · rename_i a b
    obtain ⟨v1, v2, rfl, pa, pb⟩ := rpL_two p1
    cases q1 : sqD a with
    | none => rw [q1] at h1; exact (show False from h1).elim
    | some xs =>
      cases q2 : sqD b with
      | none => rw [q1, q2] at h1; exact (show False from h1).elim
      | some ys =>
        rw [q1, q2] at h1
        obtain ⟨b1, a1, ws1, rfl, g1, g2⟩ := seq_rep q1 pa
        obtain ⟨b2, a2, ws2, rfl, g3, g4⟩ := seq_rep q2 pb
        exact ⟨b1, b2, a1, a2, ws1, ws2, rfl, g2 _ (FExt.refl _), g4 _ (FExt.refl _), h1 _ H1 (EvE.refl _ _ _) r1 (wk_zip g2 g1 g4 g3)⟩
  · exact (show False from h1).elim

/-! ### the other way round -/
theorem revPick (its : Array Value) : ((List.range its.size).filterMap fun (m : Nat) => its[(((its.size : Int) - 1) + (m : Int) * (-1)).toNat]?).toArray = its.toList.reverse.toArray := by
  have e : (List.range its.size).filterMap (fun (m : Nat) => its[(((its.size : Int) - 1) + (m : Int) * (-1)).toNat]?) = ((List.range its.size).map fun k => its.size - 1 - k).filterMap (its[·]?) := by
    rw [List.filterMap_map]
    refine congrArg (fun g => List.filterMap g (List.range its.size)) (funext fun m => ?_)
    have e1 : (((its.size : Int) - 1) + (m : Int) * (-1)).toNat = its.size - 1 - m := by omega
    show its[(((its.size : Int) - 1) + (m : Int) * (-1)).toNat]? = its[its.size - 1 - m]?
    rw [e1]
  rw [e, PySem.W.krv_range, List.filterMap_reverse, PySem.W.krv_all]
theorem revPlaces (n : Nat) : Builtin.Slice.slicePlaces ((n : Int) - 1) (-1) (-1) = n := by
  unfold Builtin.Slice.slicePlaces
  have h1 : ¬ ((-1 : Int) > 0) := by decide
  rw [if_neg h1]
  by_cases h : (n : Int) - 1 > -1
  · rw [if_pos h, show (- -1 : Int) = 1 by decide, Int.ediv_one]
    omega
  · rw [if_neg h]
    omega
section
variable {prog : Program} {w : World} {A : Around} {E : Value → Shared → Prop} {s : Shared}
theorem applied_rev {sl : Addr} {vl vu vk : Value} {n : Nat} {Q : Int × Int × Nat → Shared → Prop} (hs : s.heap.IsSliceOf sl vl vu vk) (pl : IsPart vl none) (pu : IsPart vu none) (pk : IsPart vk (some (-1)))
    (h : Q ((n : Int) - 1, -1, n) s) : wpAny (model prog w) A (Builtin.Slice.sliceApplied (.ref sl) (pure (n : Int))) Q E s := by
  obtain ⟨os, hos, hcs, hds⟩ := id hs
  unfold Builtin.Slice.sliceApplied Builtin.Slice.sliceFields
  refine wpAny_bind (wpAny_bind (wpAny_field hos hds (x := vl) rfl (wpAny_bind (wpAny_field hos hds (x := vu) rfl (wpAny_bind (wpAny_field hos hds (x := vk) rfl (wpAny_pure ?_)))))))
  refine wpAny_bind (HT.slicePart_ pk ?_)
  show wpAny _ _ (if ((-1 : Int) == 0) = true then _ else _) _ _ s
  rw [if_neg (by decide)]
  refine wpAny_bind (HT.slicePart_ pl (wpAny_bind (HT.slicePart_ pu (wpAny_bind (wpAny_pure ?_)))))
  show wpAny _ _ (pure ((n : Int) - 1, (-1 : Int), Builtin.Slice.slicePlaces ((n : Int) - 1) (-1) (-1))) _ _ s
  rw [revPlaces]
  exact wpAny_pure h
theorem getItem_tuple_rev {t sl : Addr} {its : Array Value} {vl vu vk : Value} {Q : Value → Shared → Prop} (ht : IsTup s.heap t its) (hs : s.heap.IsSliceOf sl vl vu vk) (pl : IsPart vl none) (pu : IsPart vu none) (pk : IsPart vk (some (-1)))
    (h : Q (.ref s.heap.objs.size) { s with heap := s.heap.push { cls := .type "tuple", data := .seq its.toList.reverse.toArray } }) (hz : its.size ≤ sizeLine) : wpAny (model prog w) A (getItem (.ref t) (.ref sl)) Q E s := by
  have hz2 : sizeOk (.seq its.toList.reverse.toArray) := by
    show its.toList.reverse.toArray.size ≤ sizeLine
    rw [List.size_toArray, List.length_reverse, Array.length_toList]
    exact hz
  obtain ⟨os, hos, hcs, hds⟩ := id hs
  have tS : s.TypeIs (.ref sl) "slice" := ⟨os, hos, hcs⟩
  unfold getItem
  try with_reducible refine wpAny_holding ?_
  first | refine wpAny_bind (wpAny_pure ?_) | skip
  refine wpAny_bind (wpAny_sequenceKey ht.typeIs (by decide) ?_)
  refine wpAny_bind (wpAny_callSpecial?_slot (name := Str.ofString "__getitem__") ht.typeIs PyProof.Rows.slot_tuple_getitem
    (wpAny_call_entry PyProof.Rows.slot_tuple_getitem ht.typeIs PyProof.Rows.entry_tuple_getitem ?_ (PyProof.Rows.args_tuple_getitem _ _)))
  show wpAny _ _ (Builtin.Tuple.tupleItemsOf (.ref t) >>= _) _ _ s
  refine wpAny_bind (PyProof.Rows.tupleItemsOf_ ht ?_)
  refine wpAny_bind (wpAny_typeOf tS ?_)
  rw [if_pos (by decide)]
  refine wpAny_bind (applied_rev hs pl pu pk ?_)
  have no : ¬ ((((its.size : Int) - 1) == 0 && (-1 : Int) == 1 && its.size == its.size) = true) := by
    intro q
    rw [Bool.and_eq_true, Bool.and_eq_true] at q
    exact absurd q.1.2 (by decide)
  show wpAny _ _ (if (((its.size : Int) - 1) == 0 && (-1 : Int) == 1 && its.size == its.size) = true then _ else _) _ _ s
  rw [if_neg no, revPick]
  first
    | exact wpAny_bind (m := Builtin.Tuple.tupleExact _) (wpAny_newObj_type (wpAny_pure ⟨_, rfl, wpAny_pure h⟩) hz2)
    | exact wpAny_bind (m := Builtin.Tuple.tupleExact _) (wpAny_newObj_type (wpAny_bind (wpAny_pure (wpAny_pure ⟨_, rfl, wpAny_pure h⟩))) hz2)
    | exact wpAny_bind (wpAny_bind (m := Builtin.Tuple.tupleExact _) (wpAny_newObj_type (wpAny_pure (wpAny_pure ⟨_, rfl, wpAny_pure h⟩)) hz2))
    | exact wpAny_bind (wpAny_bind (m := Builtin.Tuple.tupleExact _) (wpAny_newObj_type (wpAny_pure ⟨_, rfl, wpAny_pure h⟩) hz2))
end
def tRevB (K : PySem.W.Frag) (te : TE) : TE := fun σ H Q => te σ H fun x H1 => ∃ m a xs, x = .ref a ∧ ((SqL K H1 a xs ∧ ∀ p, H1 p = none → Q (.ref p) (upd H1 p (.lst xs.reverse))) ∨ (SqT K H1 a xs ∧ ∀ p o, H1 p = none → o.dict = none → Q (.ref p) (upd H1 p (tupO m o xs.reverse))))
theorem pe_revB {te : TE} (he : PE X e te) : PE X (.Subscript e (.Slice none none (some (.UnaryOp .USub (.Constant (.int 1) k p1) p2)) p3) pos) (tRevB X.K te) := by
  refine ⟨fun pins s σ H Q I h => ?_⟩
  unfold tRevB at h
  refine Subscript_ (thn (he.run pins s σ H _ I h) fun v s1 ⟨x, H1, I1, r1, q1⟩ => ?_)
  obtain ⟨m, a, xs, ex, q⟩ := q1
  subst ex
  cases r1
  have hst : PO X (some (.UnaryOp .USub (.Constant (.int 1) k p1) p2)) (tPart (tUn (rU fun i => .int (-i)) (tC (.int 1)))) := po_some (pe_un un_neg pe_int)
  refine wpAny_Slice (thn (po_none.run pins s1 σ H1 (fun o H2 => o = none ∧ H2 = H1) I1 ⟨rfl, rfl⟩) fun vl s2 ⟨l, H2, I2, pl, el, e2⟩ => ?_)
  subst el e2
  refine thn (po_none.run pins s2 σ H2 (fun o H3 => o = none ∧ H3 = H2) I2 ⟨rfl, rfl⟩) fun vu s3 ⟨u, H3, I3, pu, eu, e3⟩ => ?_
  subst eu e3
  refine thn (hst.run pins s3 σ H3 (fun o H4 => o = some (-1) ∧ H4 = H3) I3 ⟨1, rfl, -1, rfl, rfl, rfl⟩) fun vs s4 ⟨o, H4, I4, ps, eo, e4⟩ => ?_
  subst eo e4
  have I5 : Inv X pins σ H4 { s4 with heap := s4.heap.push { cls := .type "slice", data := .fields #[vl, vu, vs] } } := I4.kept (t' := s4.toks) fun b ob q => Heap.get?_push_of_some _ q
  have hS := Heap.IsSliceOf.new s4.heap vl vu vs
  show wpAny (model X.prog X.w) X.A (subscriptTail e (.Slice none none (some (.UnaryOp .USub (.Constant (.int 1) k p1) p2)) p3) (.ref a) (.ref s4.heap.objs.size)) (EP X pins σ Q) X.xe { s4 with heap := s4.heap.push { cls := .type "slice", data := .fields #[vl, vu, vs] } }
  rcases q with ⟨hx, q⟩ | ⟨hx, q⟩
  · obtain ⟨its, r, ht, hz⟩ := I5.list hx
    have hlen := r.length
    refine tail_any (ops := [.ref a, .ref s4.heap.objs.size]) ht.isList.typeIs (PySem.slot_list_getitem.lookup) ?_ (by with_unfolding_all rfl)
    refine wpAny_getItem_list_slice ht.isList hS pl pu ps (by decide) ?_ (by rw [List.size_toArray]; omega)
    rw [PySem.W.krv_pick]
    refine ⟨.ref _, _, I5.laid (t' := s4.toks) (o := .lst xs.reverse) (fun b ob q => Heap.get?_push_of_some _ q) (Nat.le_refl _) ?_, rfl, q _ (I5.hok.fresh (Nat.le_refl _))⟩
    exact ⟨by rw [List.length_reverse]; exact hz, _, 0, r.reverse, Heap.get?_push_size _ rfl⟩
  · obtain ⟨its, r, ht, hz⟩ := I5.tuple hx
    have hlen := r.length
    refine tail_any (ops := [.ref a, .ref s4.heap.objs.size]) ht.typeIs (PyProof.Rows.slot_tuple_getitem.lookup) ?_ (by with_unfolding_all rfl)
    refine getItem_tuple_rev ht hS pl pu ps ?_ (by rw [List.size_toArray]; omega)
    exact ⟨.ref _, _, I5.laid (t' := s4.toks) (o := tupO m _ xs.reverse) (fun b ob q => Heap.get?_push_of_some _ q) (Nat.le_refl _) (objOk_tupO m (by rw [List.length_reverse]; exact hz) r.reverse (Heap.get?_push_size _ rfl)), rfl, q _ _ (I5.hok.fresh (Nat.le_refl _)) rfl⟩
theorem dm_rev (he : DE X W e f) : DM X W (.Subscript e (.Slice none none (some (.UnaryOp .USub (.Constant (.int 1) k p1) p2)) p3) pos) (eRev f) := by
  refine pe_imp (pe_revB he) fun σ H Q hq => ?_
  obtain ⟨io, env, hr, hq⟩ := hq
  refine ⟨io, env, hr, Wp.bind hq fun x v H1 q0 e1 r1 p1 h1 => ?_⟩
  clear q0
  obtain ⟨xd, xe⟩ := x
  dsimp only at h1 p1
  cases xd with
  | lst ds =>
    obtain ⟨a, vs, rfl, g1, g2⟩ := rp_lst p1
    exact ⟨false, a, vs, rfl, .inl ⟨g1.sq, fun q nq => h1 _ _ (EvE.ext (Ext.new nq)) (r1.ext (Ext.new nq)) (.inr ⟨q, rfl, free_back e1.dom nq, .lst _, upd_same, RpL.ext (Ext.new nq).fx _ _ g2.reverse⟩)⟩⟩
  | tup m ds =>
    obtain ⟨a, vs, rfl, g1, g2⟩ := rp_tup p1
    refine ⟨m, a, vs, rfl, .inr ⟨g1.sq, fun q o nq ho => h1 _ _ (EvE.ext (Ext.new nq)) (r1.ext (Ext.new nq)) (.inl ?_)⟩⟩
    simp only [Rp]
    exact ⟨q, _, rfl, TupAt.new ho, RpL.ext (Ext.new nq).fx _ _ g2.reverse⟩
  | _ => exact (show False from h1).elim
theorem df_sortset (hg : Gl X "sorted") (hm : X.mg "sorted" = none) (hg2 : Gl X "set") (hm2 : X.mg "set" = none) (he : DE X W e f) (hc : X.calm = true := by rfl) (na : starEach [e] X.env = (false, eval e X.env) :: starEach [] X.env := by rfl) :
    DF X W (.Call (.Name "sorted" p) [.Call (.Name "set" p2) [e] [] p3] [] pos) (eSortSet f) := by
  refine pe_imp (pe_sortSet hg hm hg2 hm2 he hc na) fun σ H Q hq => ?_
  obtain ⟨io, env, hr, hq⟩ := hq
  refine ⟨io, env, hr, Wp.bind hq fun x v H1 q0 e1 r1 p1 h1 => ?_⟩
  clear q0
  obtain ⟨xd, xe⟩ := x
  dsimp only at h1 p1
  split at h1
  · rename_i ds
    split at h1
    · rename_i ns hn
      split at h1
      · rename_i hl
        obtain ⟨l, vs, rfl, g1, g2⟩ := rp_lst p1
        rw [asI_some hn] at g2
        have ev := RpL.ints g2
        subst ev
        refine ⟨l, ns, rfl, g1.sq, hl, fun q ms nq r1' r2' => ?_⟩
        have ems : ms = sortI ns := rising_one r1' (sortI_rising ns) fun k => (r2' k).trans (sortI_mem k ns).symm
        subst ems
        exact h1 _ _ (EvE.ext (Ext.new nq)) (r1.ext (Ext.new nq)) ⟨q, rfl, free_back e1.dom nq, .lst _, upd_same, RpL.of_ints _⟩
      · exact (show False from h1).elim
    · exact (show False from h1).elim
  · exact (show False from h1).elim
end
end DL

/-! ## DLu -/
/-! DLu: what the head needs. -/
namespace DL
open PySem PySem.Spec PyProof.Rows L2
section
variable {K : PySem.W.Frag}
theorem fun_of {x q : Str} {st : Stmt} {f : Addr} {fd : FuncData} (F : FunD K x q (defArgs st) (defBody st) (defScope st) [] [] f fd) : Fun K x q st f fd := by
  obtain ⟨oc, od, dV, kV, doc, pm, an, cdv, ct, osl, e, lk, hc, hD, hK⟩ := F.ex
  rcases hD with ⟨_, rfl⟩ | ⟨z, _⟩
  · exact ⟨⟨oc, od, kV, doc, pm, an, cdv, ct, osl, e, lk, hc⟩, F.kp⟩
  · exact absurd rfl z
end
/-- the law's promise at a script of whole numbers -/
theorem spD_law {K : PySem.W.Frag} {T : List (Addr × Str)} {mg : Str → Option Value} {F : DenF} {H : Hp} {a : Addr} {ns : List Int} (hT : LamX.Tabs T H) (hO : ∀ xs, H a ≠ some (.lst xs)) (hS : SqL K H a (ns.map V.int)) (hF : ∃ d, F [.lst (ns.map D.int)] = .ok (.bl true, d)) :
    spD K T mg false false 1 F [.ref a] H (fun v _ => v = .bl true) fun _ _ _ => False := by
  obtain ⟨d, hF⟩ := hF
  have fz : FzL K H a (ns.map V.int) := by
    rcases hS with (h | h) | h
    · exact absurd h (hO _)
    · exact .inl h
    · exact .inr h
  refine ⟨rfl, hT, [.lst (ns.map D.int)], ?_, ?_⟩
  · show RpL K H [.lst (ns.map D.int)] [.ref a]
    refine RpL.cons ?_ RpL.nil
    simp only [Rp]
    exact ⟨a, _, rfl, fz, RpL.of_ints ns⟩
  · rw [hF]
    intro v H' _ _ _ r
    rw [if_neg (by decide)] at r
    simpa [Rp] using r
theorem walk_W {l : PySem.W.OpenLaw} {n k : Nat} {q : Program} {loose : List Str} {XP : (Str → Option Value) → Heap → Prop} {YP : World → Heap → Prop} {d : DefRec} {x : Str}
    (hn : l.most = some n) (hn2 : n ≤ sizeLine) (hdf : d.params.defaults = []) (hr : Room k callerA)
    (F : ∀ (w : World) (mg : Str → Option Value) (fa : Addr) (h : Heap), YP w h → h.Ns mainGlobals mg → mg d.name = some (.ref fa) →
      ∃ (K : PySem.W.Frag) (fd : FuncData) (sp : Sp), K.In h ∧ (∀ (s : Shared) (u : Value), BindsTo s fd ⟨[u], []⟩ [(x, u)]) ∧
        (∀ (H : Hp) (a : Addr) (ns : List Int), ns.length ≤ n → Only H → SqL K H a (ns.map V.int) → sp [.ref a] H (fun v _ => v = .bl true) fun _ _ _ => False) ∧
        ∀ base : Heap, K.In base → base.Ns mainGlobals mg → FnOk l.prog w K mg base (L2N.CX l.prog w) k fa fd [x] sp) :
    PySem.W.WalkO q loose XP YP l.row.toRowW d [] (fun f vs => PySem.call f vs) := by
  refine Att.attach_call hn hdf fun w s₀ s₁ mg mb fa o pm cd doc a vs ns G Y ho hd hcd hmg hobj hints hlen hg => ?_
  obtain ⟨K, fd, sp, KX, hb, hsp, hF⟩ := F w mg fa _ Y G.T.g hmg
  refine law_call KX G.T.g G.T.b G.T.builtins G.T.nolimit hg hobj hints (Nat.le_trans hlen hn2) hr hF hb (fun H hO hS => hsp H a ns hlen hO hS) fun H e s' h => ?_
  obtain ⟨_, _, _, _, _, _, _, _, _, _, _, _, z⟩ := h
  exact z
end DL

/-! ## DLw -/
/-! DLw: a lambda is made; sorted(xs, key=lambda p: (p[1], p[0])) of pairs of whole numbers. -/
namespace DL
open PySem PySem.Spec PyProof.Rows L2

/-! ### a lambda is made -/
section
variable {X : Cx} {pins : List (Addr × Obj)} {σ : L2.St} {H : Hp} {s : Shared}
theorem lam_new {T : List (Addr × Str)} {c P : Addr} {params : Arguments} {body : Expr} {scope : Scope} {pos : Pos} {E Q : Value → Shared → Prop} (I : Inv X pins σ H s) (TB : LamX.TabB X.base X.mg c P) (hcode : X.env.code = .ref c)
    (hm : (P, X.env.qual ++ "<lambda>") ∈ T) (hu : ∀ p ∈ T, p.1 = P → p.2 = X.env.qual ++ "<lambda>") (hT : LamX.Tabs T H) (hdef : defaultsOf params X.env = ([], [])) (hfree : ∀ y ∈ scope.names, y.2 = .free → ∃ c, X.env.cells.lookup y.1 = some c)
    (h : ∀ (f c' : Addr) (pm ctv : Value) (H1 : Hp) (s' : Shared), Inv X pins σ H1 s' → XN H H1 → (∀ b o, H b = some o → ∃ o', H1 b = some o') → LamX.Tabs T H1 →
      s'.heap.get? f = some (PySem.W.kla_obj "<lambda>" (X.env.qual ++ "<lambda>") params body scope (cloFrom X.env.cells scope.names []) pm c' ctv) → H1 f = none → f ∉ frs X.stack → H1 c' = some (LamX.CodeO c' (X.env.qual ++ "<lambda>")) → Q (.ref f) s') :
    wpAny (model X.prog X.w) X.A (eval (.Lambda params body scope pos) X.env) Q E s := by
  obtain ⟨ps, hP, ht, ha⟩ := hT _ hm
  have oldP : s.heap.get? P = some { cls := .none, data := .fields ps } := I.hok P _ hP
  have away : ∀ f, s.heap.objs.size ≤ f → f ∉ frs X.stack := fun f hf z => by
    rcases List.mem_cons.mp (I.stkSub _ z) with e | e
    · have lt := I.lt
      rw [← e] at lt
      exact Nat.lt_irrefl _ (Nat.lt_of_lt_of_le lt hf)
    · exact I.nofs hf e
  refine PySem.W.kla_eval hdef ?_
  cases hc : codeAmong pos ps.toList with
  | some cv =>
    obtain ⟨c', rfl, hco⟩ := ha pos cv hc
    refine PySem.W.kla_makeFunctionHit (mg := X.mg) (c := c) (P := P) (ps := ps) (closure_ok hfree) I.ok.glob (I.mod.glob.keeps I.bk) hcode (TB.code.keeps I.bk) oldP ht hc (TB.bm.keeps I.bk) fun ctv h' tk hx hsz => ?_
    exact h h'.objs.size c' _ ctv H _ (I.kept (t' := tk) fun b o e => Heap.get?_push_of_some _ (hx b o e)) (fun b o q _ => q) (fun b o q => ⟨o, q⟩) hT (Heap.get?_push_size _ rfl) (I.hok.fresh hsz) (away _ hsz) hco
  | none =>
    refine PySem.W.kla_makeFunction (mg := X.mg) (c := c) (P := P) (ps := ps) (closure_ok hfree) I.ok.glob (I.mod.glob.keeps I.bk) hcode (TB.code.keeps I.bk) oldP ht hc TB.gP (TB.bm.keeps I.bk) fun c' ctv h' tk hx hge hlt hrec htb => ?_
    obtain ⟨c2, oc, vs, t, e2, hoc, hd, hv⟩ := hrec
    cases e2
    have hsz : s.heap.objs.size ≤ h'.objs.size := Nat.le_trans hge (Nat.le_of_lt hlt)
    have nC : H c' = none := I.hok.fresh hge
    have I1 := LamX.inv_table (t' := tk) (more := #[rawInt pos.line, rawInt pos.col, .ref c']) (h' := h'.push (PySem.W.kla_obj "<lambda>" (X.env.qual ++ "<lambda>") params body scope (cloFrom X.env.cells scope.names []) ((X.mg "__name__").getD .none) c' ctv)) I hP
      (fun b o hb e => Heap.get?_push_of_some _ (hx b o hb e)) (Heap.get?_push_of_some _ htb) hge ⟨oc, vs, t, Heap.get?_push_of_some _ hoc, hd, hv⟩
    have up : ∀ b o, H b = some o → b ≠ P → upd (upd H P (.tbl (ps ++ #[rawInt pos.line, rawInt pos.col, .ref c']))) c' (LamX.CodeO c' (X.env.qual ++ "<lambda>")) b = some o := fun b o e n => by
      rw [upd_ne (ne_of_none e nC), upd_ne n]; exact e
    have atP : upd (upd H P (.tbl (ps ++ #[rawInt pos.line, rawInt pos.col, .ref c']))) c' (LamX.CodeO c' (X.env.qual ++ "<lambda>")) P = some (.tbl (ps ++ #[rawInt pos.line, rawInt pos.col, .ref c'])) := by
      rw [upd_ne (ne_of_none hP nC), upd_same]
    have codes : ∀ c0 q, H c0 = some (LamX.CodeO c0 q) → upd (upd H P (.tbl (ps ++ #[rawInt pos.line, rawInt pos.col, .ref c']))) c' (LamX.CodeO c' (X.env.qual ++ "<lambda>")) c0 = some (LamX.CodeO c0 q) := fun c0 q e =>
      up c0 _ e fun z => by rw [z, hP] at e; exact LamX.codeO_ne _ (Option.some.inj e).symm
    have eL : (ps ++ #[rawInt pos.line, rawInt pos.col, .ref c']).toList = ps.toList ++ [rawInt pos.line, rawInt pos.col, .ref c'] := by simp
    refine h h'.objs.size c' _ ctv _ _ I1 (fun b o e n => up b o e fun z => by rw [z, hP] at e; cases e; exact n) (fun b o e => ?_) (fun p hp => ?_) (Heap.get?_push_size _ rfl) ?_ (away _ hsz) upd_same
    · by_cases z : b = P
      · exact ⟨_, by rw [z]; exact atP⟩
      · exact ⟨o, up b o e z⟩
    · by_cases hb : p.1 = P
      · rw [hu p hp hb, hb]
        refine ⟨_, atP, by rw [eL]; exact PySem.TriplesOk_snoc _ _ _ _ ht, fun p' cv hcv => ?_⟩
        rw [eL] at hcv
        rcases LamX.among_app _ ht hcv with z | z
        · obtain ⟨c0, e1, e2⟩ := ha p' cv z
          exact ⟨c0, e1, codes _ _ e2⟩
        · exact ⟨c', z, upd_same⟩
      · obtain ⟨ps', a1, a2, a3⟩ := hT p hp
        refine ⟨ps', up _ _ a1 hb, a2, fun p' cv hcv => ?_⟩
        obtain ⟨c0, e1, e2⟩ := a3 p' cv hcv
        exact ⟨c0, e1, codes _ _ e2⟩
    · have n1 : h'.objs.size ≠ c' := Nat.ne_of_gt hlt
      have n2 : h'.objs.size ≠ P := Nat.ne_of_gt (Nat.lt_of_lt_of_le (Heap.lt_size oldP) hsz)
      rw [upd_ne n1, upd_ne n2]
      exact I.hok.fresh hsz
end

/-! ### a list or a tuple is collected, sorted by a key -/
section
variable {prog : Program} {w : World} {A : Around} {E : Value → Shared → Prop} {s : Shared} {T : String}
theorem seq_collect {l : Addr} {o : Obj} {n : Nat} {vs : List Value} {Q : List Value → Shared → Prop} (hT : T = "list" ∨ T = "tuple") (ho : s.heap.get? l = some o) (hc : o.cls = .type T) (hd : o.data = .seq vs.toArray n)
    (h : Q vs { s with heap := (s.heap.push (seqObj "list" #[] 0)).update s.heap.objs.size (Obj.mapSeq (· ++ vs.toArray)) }) (hsz : vs.length ≤ sizeLine) :
    wpAny (model prog w) A (collect (.ref l)) Q E s := by
  unfold collect
  refine wpAny_bind (wpAny_runValue (codeAny_builtin F.entry_proto_collect ?_))
  rw [Around.under_plainId F.plain_proto_collect _]
  show wpAny _ _ (do again (.builtin "list.__iadd__" ⟨[← newList [], .ref l], []⟩)) _ _ s
  refine wpAny_bind (wpAny_newList (wpAny_pure ⟨plainId_quiet F.plain_list_iadd _, codeAny_builtin F.entry_list_iadd ?_⟩))
  rw [Around.under_plainId F.plain_list_iadd _]
  show wpAny _ _ (Builtin.List.listExtendWith (.ref s.heap.objs.size) (.ref l) (.ref s.heap.objs.size)) _ _ { s with heap := s.heap.push (seqObj "list" #[] 0) }
  unfold Builtin.List.listExtendWith
  have ho' : (s.heap.push (seqObj "list" #[] 0)).get? l = some o := Heap.get?_push_of_some _ ho
  refine wpAny_bind (wpAny_typeOf (T := T) ⟨o, ho', hc⟩ ?_)
  have ht : (Value.type T == Value.type "list" || Value.type T == Value.type "tuple") = true := by
    rcases hT with rfl | rfl <;> rfl
  rw [if_pos (by rw [Bool.or_assoc, ht, Bool.or_true])]
  refine wpAny_bind (listItems_at ho' hd ?_)
  refine wpAny_bind (listItems_at (xs := #[]) (n := 0) (Heap.get?_push_size _ rfl) rfl ?_)
  rw [if_neg (by simp)]
  refine wpAny_bind (listUpdate_at (xs := #[]) (n := 0) (Heap.get?_push_size _ rfl) rfl ?_ (Nat.zero_le _) (by show (#[] ++ vs.toArray).size ≤ sizeLine + 1; simp only [Array.size_append, List.size_toArray, List.length_nil]; omega))
  refine wpAny_pure ?_
  show wpAny (model prog w) A (do
      let o ← load s.heap.objs.size
      match o.data with
      | .seq xs _ => pure xs.toList
      | _ => unsupported "internal:collect") Q E { s with heap := (s.heap.push (seqObj "list" #[] 0)).update s.heap.objs.size (Obj.mapSeq (· ++ vs.toArray)) }
  refine wpAny_bind (wpAny_load (get?_update_seq (Heap.get?_push_size _ rfl) _) ?_)
  show wpAny _ _ (pure ((#[] : Array Value) ++ vs.toArray).toList) Q E _
  rw [show ((#[] : Array Value) ++ vs.toArray).toList = vs by simp]
  exact wpAny_pure h
open PySem.W in
theorem sorted_by {l : Addr} {o : Obj} {n : Nat} {vs : List Value} {β : Type} {R : Value → β → Prop} {bs : List β} {f : Addr} {Q : Value → Shared → Prop} (k : β → PyData) (hT : T = "list" ∨ T = "tuple") (ho : s.heap.get? l = some o) (hc : o.cls = .type T) (hd : o.data = .seq vs.toArray n)
    (e : EachIs R vs bs) (hal : AllAlike (bs.map k)) (hk : Sortable (bs.map k)) (hL : bs.length ≤ sizeLine) (hu : ∀ x, x ∈ bs → A.units + 2 + (k x).depth < cLine)
    (turn : ∀ (v : Value) (x : β), R v x → x ∈ bs → ∀ (h : Heap) (tk : Nat), (∀ b o, s.heap.get? b = some o → h.get? b = some o) →
      wpAny (model prog w) A.in1.in1 (call (.ref f) [v]) (KeyPure (k x) { s with heap := h, toks := tk }) (fun _ _ => False) { s with heap := h, toks := tk })
    (h : ∀ out c h' tk, (∀ b o, s.heap.get? b = some o → h'.get? b = some o) → h'.get? (s.heap.objs.size + 1) = some (seqObj "list" (List.toArray out) c) → EachIs R out (bs.mergeSort (dataLe false k)) →
      Q (.ref (s.heap.objs.size + 1)) { s with heap := h', toks := tk }) :
    wpAny (model prog w) A (call (.builtin "sorted") [.ref l] [(Str.ofString "key", .ref f)]) Q E s := by
  have up : ∀ {g : Heap}, KeepsBut (s.heap.objs.size + 1) (copyHeap s.heap vs) g → ∀ b o, s.heap.get? b = some o → g.get? b = some o := fun {g} kp b o q =>
    kp b o (Nat.ne_of_lt (Nat.lt_succ_of_lt (Heap.lt_size q))) (copyHeap_old q)
  refine call_function_entry_kw kind_sorted plain_sorted entry_sorted (ksk_s1 _ _) ?_
  unfold Builtin.«sorted»
  refine wpAny_bind (m := checkCount "sorted" 1 1 _) (wpAny_pure ?_)
  refine wpAny_bind (seq_collect hT ho hc hd ?_ (by rw [e.length]; exact hL))
  refine wpAny_bind (wpAny_newList ?_ (by rw [e.length]; exact hL))
  have hsz : ((s.heap.push (seqObj "list" #[] 0)).update s.heap.objs.size (Obj.mapSeq (· ++ vs.toArray))).objs.size = s.heap.objs.size + 1 := by
    rw [Heap.size_update, size_push']
  show wpAny _ _ _ _ _ { s with heap := copyHeap s.heap vs }
  rw [hsz]
  refine wpAny_bind (wpAny_holding (wpAny_call_entry_kw slot_list_sort ⟨_, copyHeap_at s.heap vs, rfl⟩ entry_list_sort ?body (ksk_l1 _ _)))
  case body =>
    rw [ksk_t1]
    refine keyH_tree (kz := bs.map k) (s := { s with heap := copyHeap s.heap vs }) (copyHeap_at s.heap vs) (by rw [List.length_map]; exact e.length.symm) (by rw [e.length]; exact hL) hal hk (bound_map (A := A.in1.in1) hu)
      (keyH_turns (s := { s with heap := copyHeap s.heap vs }) e fun v x hR hx h tk kp => turn v x hR hx h tk (up kp)) fun h' tk out c kp hD ko => ⟨_, rfl, ?_⟩
    exact wpAny_pure ⟨_, rfl, h out c h' tk (up kp) hD (keyedOut_each k ko e)⟩
end

/-! ### the key of a pair: lambda p: (p[1], p[0]) -/
section
variable {prog : Program} {w : World} {A : Around} {s : Shared}
theorem pair_key {f c' t : Addr} {x qual : Str} {params : Arguments} {scope : Scope} {cl : List (Str × Addr)} {pm ctv : Value} {k1 k2 kk : Nat} {p1 p2 p3 p4 p5 p6 p7 : Pos} {i j : Int} {t1 t2 : Tok} {n : Nat} {o : Obj}
    (hf : s.heap.get? f = some (PySem.W.kla_obj "<lambda>" qual params (.Tuple [.Subscript (.Name x p1) (.Constant (.int 1) k1 p2) p3, .Subscript (.Name x p4) (.Constant (.int 0) k2 p5) p6] kk p7) scope cl pm c' ctv))
    (hd : A.depth < recursionLimit) (hco : scope.isCoroutine = false) (hgen : scope.isGenerator = false) (hk : scope.kind = .function) (hcd : s.heap.CodeRec (.ref c') qual) (hlim : s.heap.NoLimit)
    (hb : bindArgs (PySem.W.kla_fn "<lambda>" qual params (.Tuple [.Subscript (.Name x p1) (.Constant (.int 1) k1 p2) p3, .Subscript (.Name x p4) (.Constant (.int 0) k2 p5) p6] kk p7) scope cl pm (.ref c') ctv) ⟨[.ref t], []⟩ = pure [(x, .ref t)])
    (hl : scope.names.lookup x = some .local) (hcell : ∀ y ∈ scope.names, y.2 ≠ .cell) (hx : (x == ("__debug__" : Str)) = false)
    (ht : s.heap.get? t = some o) (hc : o.cls = .type "tuple") (hdt : o.data = .seq #[.int i t1, .int j t2] n) :
    wpAny (model prog w) A (call (.ref f) [.ref t]) (PySem.W.KeyPure (.tuple [.int j, .int i]) s) (fun _ _ => False) s := by
  refine wpAny_call (PySem.W.kla_callFunE hd hf rfl hco hgen rfl hcd ?_)
  rw [hb]
  refine wpAny_pure (wpAny_newFunctionEnv hcell (fun y hy => ?_) (fun h₁ hns hsb => ⟨hlim.fresh _ hsb, ?_⟩) hk)
  · have e : y = (x, Value.ref t) := by simpa using hy
    rw [e]; exact hl
  have kp : ∀ b o, s.heap.get? b = some o → h₁.get? b = some o := fun b o e => hsb.extBut b o (Nat.ne_of_lt (Heap.lt_size e)) (Heap.get?_push_of_some _ e)
  have hT : ∀ tk, IsTup (({ s with heap := h₁, toks := tk } : Shared).heap) t #[.int i t1, .int j t2] := fun tk => ⟨o, kp _ _ ht, hc, n, hdt⟩
  refine PySem.W.kla_codeExpr (wpAny_Tuple_spliced ?_)
  refine Calls.spliced_cons (Subscript_ (wpAny_Name (wpAny_loadName_local hk hl (show _ from hns) (by simp [List.lookup]; rfl) ?_) hx))
  refine wpAny_Constant_int (subscriptTail_builtinR (x := .int j t2) (hT _).typeIs slot_tuple_getitem.lookup (getItem_tuple (j := 1) (hT _) (by omega) (by omega) rfl rfl ⟨rfl, ?_⟩))
  refine Calls.spliced_cons (Subscript_ (wpAny_Name (wpAny_loadName_local hk hl (show _ from hns) (by simp [List.lookup]; rfl) ?_) hx))
  refine wpAny_Constant_int (subscriptTail_builtinR (x := .int i t1) (hT _).typeIs slot_tuple_getitem.lookup (getItem_tuple (j := 0) (hT _) (by omega) (by omega) rfl rfl ⟨rfl, ?_⟩))
  refine Calls.spliced_nil ⟨by show 2 ≤ sizeLine; decide, ?_⟩
  refine ⟨_, _, rfl, fun b o e => Heap.get?_push_of_some _ (kp b o e), ?_⟩
  exact .tuple (Heap.get?_push_size _ rfl) rfl rfl (.cons (.int j t2) (.cons (.int i t1) .nil))
end

/-! ### sorted(xs, key=lambda p: (p[1], p[0])) -/
/-- how code is known, where its table is -/
structure LamAt (X : Cx) (T : List (Addr × Str)) : Prop where
  ex : ∃ c P, X.env.code = .ref c ∧ LamX.TabB X.base X.mg c P ∧ (P, X.env.qual ++ "<lambda>") ∈ T ∧ ∀ p ∈ T, p.1 = P → p.2 = X.env.qual ++ "<lambda>"
abbrev PrV := V × (Int × Int)
def leK (x y : Int × Int) : Bool := decide (x.2 < y.2 ∨ (x.2 = y.2 ∧ x.1 ≤ y.1))
def PairAt (K : PySem.W.Frag) (H : Hp) (v : V) (p : Int × Int) : Prop := ∃ t, v = .ref t ∧ SqT K H t [.int p.1, .int p.2]
theorem sqt_xn {K : PySem.W.Frag} {H H' : Hp} {a : Addr} {xs : List V} (e : XN H H') (h : SqT K H a xs) : SqT K H' a xs := by
  rcases h with (h | ⟨o, h⟩) | h
  · exact .inl (.inl (e _ _ h trivial))
  · exact .inl (.inr ⟨o, e _ _ h trivial⟩)
  · exact .inr h
theorem sql_xn {K : PySem.W.Frag} {H H' : Hp} {a : Addr} {xs : List V} (e : XN H H') (h : SqL K H a xs) : SqL K H' a xs := by
  rcases h with (h | ⟨o, h⟩) | h
  · exact .inl (.inl (e _ _ h trivial))
  · exact .inl (.inr ⟨o, e _ _ h trivial⟩)
  · exact .inr h
def tSortKey (K : PySem.W.Frag) (T : List (Addr × Str)) (te : TA) : TE := fun σ H Q => te σ H fun vs H1 => ∃ (a : Addr) (bs : List PrV), vs = [.ref a] ∧ (SqL K H1 a (bs.map (·.1)) ∨ SqT K H1 a (bs.map (·.1))) ∧ (∀ b ∈ bs, PairAt K H1 b.1 b.2) ∧ LamX.Tabs T H1 ∧
  ∀ (H2 : Hp) (p : Addr), XN H1 H2 → (∀ b o, H1 b = some o → ∃ o', H2 b = some o') → LamX.Tabs T H2 → H2 p = none → Q (.ref p) (upd H2 p (.lst ((bs.mergeSort fun x y => leK x.2 y.2).map (·.1))))
open PySem.W in
theorem each_of : ∀ {bs : List PrV} {its : List Value}, Vals (bs.map (·.1)) its → EachIs (fun v b => L2.RelV b.1 v ∧ b ∈ bs) its bs
  | [], its, h => by cases h; exact .nil
  | b :: bs, its, h => by
    rw [List.map_cons] at h
    cases h with
    | cons r rr => exact .cons ⟨r, List.mem_cons_self⟩ ((each_of rr).mono fun v b h => ⟨h.1, List.mem_cons_of_mem _ h.2⟩)
open PySem.W in
theorem each_vals {R : Value → PrV → Prop} (k : ∀ v b, R v b → L2.RelV b.1 v) : ∀ {bs : List PrV} {its : List Value}, EachIs R its bs → Vals (bs.map (·.1)) its
  | _, _, .nil => .nil
  | _, _, .cons h t => .cons (k _ _ h) (each_vals k t)
section
variable {X : Cx}
theorem pe_sortKey {T : List (Addr × Str)} {e : Expr} {te : TA} {x : Str} {params : Arguments} {scope : Scope} {k : Nat} {k1 k2 kk : Nat} {p pos kpos lpos p1 p2 p3 p4 p5 p6 p7 : Pos} (hg : Gl X "sorted") (hm : X.mg "sorted" = none) (L : LamAt X T) (hr : Room k X.A) (he : PA X [e] te) (hcalm : X.calm = true)
    (hdef : defaultsOf params X.env = ([], [])) (hnames : scope.names = [(x, .local)]) (hk : scope.kind = .function) (hco : scope.isCoroutine = false) (hgen : scope.isGenerator = false) (hx : (x == ("__debug__" : Str)) = false)
    (hb : ∀ (q : Str) (cl : List (Str × Addr)) (pm cv ctv v : Value), bindArgs (PySem.W.kla_fn "<lambda>" q params (.Tuple [.Subscript (.Name x p1) (.Constant (.int 1) k1 p2) p3, .Subscript (.Name x p4) (.Constant (.int 0) k2 p5) p6] kk p7) scope cl pm cv ctv) ⟨[v], []⟩ = pure [(x, v)])
    (na : backTo pos (starEach [e] X.env) = (false, eval e X.env) :: backTo pos (starEach [] X.env)) (hpl : (backTo pos (starEach [e] X.env)).any (·.1) = false)
    (hall : (backToKw pos (keywordEach [⟨some "key", .Lambda params (.Tuple [.Subscript (.Name x p1) (.Constant (.int 1) k1 p2) p3, .Subscript (.Name x p4) (.Constant (.int 0) k2 p5) p6] kk p7) scope lpos, kpos⟩] X.env)).all (·.1.isSome) = true)
    (hnone : (backToKw pos (keywordEach [⟨some "key", .Lambda params (.Tuple [.Subscript (.Name x p1) (.Constant (.int 1) k1 p2) p3, .Subscript (.Name x p4) (.Constant (.int 0) k2 p5) p6] kk p7) scope lpos, kpos⟩] X.env)).any (·.1.isNone) = false)
    (hks : (backToKw pos (keywordEach [⟨some "key", .Lambda params (.Tuple [.Subscript (.Name x p1) (.Constant (.int 1) k1 p2) p3, .Subscript (.Name x p4) (.Constant (.int 0) k2 p5) p6] kk p7) scope lpos, kpos⟩] X.env)).filterMap (·.1) = [Str.ofString "key"]) :
    PE X (.Call (.Name "sorted" p) [e] [⟨some "key", .Lambda params (.Tuple [.Subscript (.Name x p1) (.Constant (.int 1) k1 p2) p3, .Subscript (.Name x p4) (.Constant (.int 0) k2 p5) p6] kk p7) scope lpos, kpos⟩] pos) (tSortKey X.K T te) := by
  refine ⟨fun pins s σ H Q I h => ?_⟩
  obtain ⟨c, P, hcode, TB, hmT, hu⟩ := L.ex
  have hfree : ∀ y ∈ scope.names, y.2 = .free → ∃ c, X.env.cells.lookup y.1 = some c := fun y hy z => by
    rw [hnames] at hy
    rw [List.mem_singleton.mp hy] at z
    cases z
  refine wpAny_Call_Name_kw (ld_blt I hg hm boot_sorted ?_)
  refine PyProof.Rows.callWith_kw ?_ na hpl hall hnone
  refine thn (he.run pos pins s σ H _ I h) fun us s1 ⟨vs, H1, I1, r1, a, bs, ev, hsq, hpr, hT, q⟩ => ?_
  subst ev
  obtain rfl := Vals.ref1 r1
  refine wpAny_evalAll_cons (wpAny_bind (lam_new I1 TB hcode hmT hu hT hdef hfree fun f c' pm ctv H2 s2 I2 eN dm T2 hf hfn hfr hco2 => wpAny_bind (wpAny_standAt (wpAny_pure (wpAny_evalAll_nil ?_)))))
  rw [hks]
  show wpAny (model X.prog X.w) X.A (call (.builtin "sorted") [.ref a] [(Str.ofString "key", .ref f)]) (EP X pins σ Q) X.xe s2
  obtain ⟨⟨oc, ovs, ot, hoc, hdc, hvc⟩, _, _⟩ := I2.hok c' _ hco2
  have seqAt : ∃ (T0 : String) (o : Obj) (n : Nat) (its : List Value), (T0 = "list" ∨ T0 = "tuple") ∧ s2.heap.get? a = some o ∧ o.cls = .type T0 ∧ o.data = .seq its.toArray n ∧ Vals (bs.map (·.1)) its ∧ (bs.map (·.1)).length ≤ sizeLine := by
    rcases hsq with hsq | hsq
    · obtain ⟨its, rv, pl, hz⟩ := I2.list (sql_xn eN hsq)
      obtain ⟨o, ho, hc, n, hd⟩ := pl.isList
      exact ⟨_, o, n, its, .inl rfl, ho, hc, hd, rv, hz⟩
    · obtain ⟨its, rv, pl, hz⟩ := I2.tuple (sqt_xn eN hsq)
      obtain ⟨o, ho, hc, n, hd⟩ := pl
      exact ⟨_, o, n, its, .inr rfl, ho, hc, hd, rv, hz⟩
  obtain ⟨T0, o, n, its, hT0, ho, hc, hd, rv, hz⟩ := seqAt
  rw [List.length_map] at hz
  have un := hr.un
  have dp := hr.dp
  refine sorted_by (R := fun v b => L2.RelV b.1 v ∧ b ∈ bs) (fun b : PrV => .tuple [.int b.2.2, .int b.2.1]) hT0 ho hc hd (each_of rv) (PySem.W.AllAlike.of fun _ _ => by simp [PySem.W.alike, PySem.W.alikeAll]) (PySem.W.Sortable.tuples fun _ => ⟨_, _, rfl⟩) hz (fun b _ => ?_) (fun v b hR hb2 h' tk kp => ?_) fun out co h' tk kp hD eo => ?_
  · have hdp : (PyData.tuple [.int b.2.2, .int b.2.1]).depth = 1 := by simp [PyData.depth, PyData.depthAll]
    omega
  · obtain ⟨t, et, hq⟩ := hpr b hb2
    obtain ⟨its2, r2, ⟨ot2, hot, hct, nt, hdt⟩, _⟩ := I2.tuple (sqt_xn eN hq)
    obtain ⟨u1, u2, rfl, ⟨t1, rfl⟩, ⟨t2, rfl⟩⟩ := vals2 r2
    have hv : v = .ref t := by
      have := hR.1
      rw [et] at this
      exact this
    rw [hv]
    exact pair_key (s := { s2 with heap := h', toks := tk }) (kp _ _ hf) (show X.A.depth < recursionLimit by omega) hco hgen hk ⟨c', oc, ovs, ot, rfl, kp _ _ hoc, hdc, hvc⟩ (I2.nolimit.keeps kp) (hb _ _ _ _ _ _) (by rw [hnames]; simp [List.lookup]) (fun y hy z => by rw [hnames] at hy; rw [List.mem_singleton.mp hy] at z; cases z) hx (kp _ _ hot) hct hdt
  · rw [PySem.W.dataLe_ii (fun b : PrV => b.2.2) (fun b : PrV => b.2.1)] at eo
    have rv2 : Vals ((bs.mergeSort fun x y => leK x.2 y.2).map (·.1)) out := each_vals (fun v b h => h.1) eo
    have hlen : ((bs.mergeSort fun x y => leK x.2 y.2).map (·.1)).length ≤ sizeLine := by
      rw [List.length_map, List.length_mergeSort]; exact hz
    exact ⟨.ref (s2.heap.objs.size + 1), _, I2.laid (t' := tk) kp (Nat.le_succ _) (show ObjOk X.prog X.w _ _ _ (.lst _) from ⟨hlen, out, co, rv2, hD⟩), rfl, q _ _ eN dm T2 (I2.hok.fresh (Nat.le_succ _))⟩
end

def prP : D → Option (Int × Int)
  | .tup _ [.int i, .int j] => some (i, j)
  | _ => none
def prs : List D → Option (List (D × (Int × Int)))
  | [] => some []
  | d :: ds => (prP d).bind fun p => (prs ds).map ((d, p) :: ·)
def srtK (bs : List (D × (Int × Int))) : List D := (bs.mergeSort fun x y => leK x.2 y.2).map (·.1)
def eSortKey (F : DenL) : Den := fun env => (F env).bind fun x => match x.1 with
  | [a] => (R.of ((sqD a).bind prs)).bind fun bs => .ok (.lst (srtK bs), x.2)
  | _ => .stk
theorem prP_at {K : PySem.W.Frag} {H : Hp} {d : D} {v : V} {p : Int × Int} (h : prP d = some p) (r : Rp K H d v) : PairAt K H v p := by
  unfold prP at h
  split at h
  · cases h
    obtain ⟨a, vs, rfl, h1, h2⟩ := rp_tup r
    obtain ⟨x, y, rfl, e1, e2⟩ := rp2 h2
    rw [rp_int e1, rp_int e2] at h1
    exact ⟨a, rfl, h1.sq⟩
  · cases h
theorem prs_tri {K : PySem.W.Frag} {H : Hp} : ∀ {ds : List D} {vs : List V} {bs : List (D × (Int × Int))}, RpL K H ds vs → prs ds = some bs →
    ∃ tl : List (D × PrV), tl.map (fun t => (t.1, t.2.2)) = bs ∧ tl.map (fun t => t.2.1) = vs ∧ ∀ t ∈ tl, Rp K H t.1 t.2.1 ∧ PairAt K H t.2.1 t.2.2
  | [], vs, bs, r, h => by
    simp only [RpL] at r
    simp only [prs, Option.some.injEq] at h
    subst r; subst h
    exact ⟨[], rfl, rfl, fun t ht => by cases ht⟩
  | d :: ds, vs, bs, r, h => by
    simp only [RpL] at r
    obtain ⟨v, r', e1, h1, h2⟩ := r
    simp only [prs] at h
    cases z : prP d with
    | none => rw [z] at h; cases h
    | some p =>
      rw [z] at h
      cases z2 : prs ds with
      | none => rw [z2] at h; cases h
      | some bs2 =>
        rw [z2] at h
        cases h
        obtain ⟨tl, t1, t2, t3⟩ := prs_tri h2 z2
        refine ⟨(d, v, p) :: tl, by rw [List.map_cons, t1], by rw [List.map_cons, t2, e1], fun t ht => ?_⟩
        rcases List.mem_cons.mp ht with e | ht
        · rw [e]; exact ⟨h1, prP_at z h1⟩
        · exact t3 t ht
theorem rpL_map {K : PySem.W.Frag} {H : Hp} {α : Type} {f : α → D} {g : α → V} : ∀ {l : List α}, (∀ t ∈ l, Rp K H (f t) (g t)) → RpL K H (l.map f) (l.map g)
  | [], _ => RpL.nil
  | t :: l, h => RpL.cons (h t List.mem_cons_self) (rpL_map fun x hx => h x (List.mem_cons_of_mem _ hx))
section
variable {X : Cx} {W : WD}
theorem df_sortKey {e : Expr} {F : DenL} {x : Str} {params : Arguments} {scope : Scope} {k : Nat} {k1 k2 kk : Nat} {p pos kpos lpos p1 p2 p3 p4 p5 p6 p7 : Pos} (hg : Gl X "sorted") (hm : X.mg "sorted" = none) (L : LamAt X W.T) (hr : Room k X.A) (he : DA X W [e] F) (hcalm : X.calm = true)
    (hdef : defaultsOf params X.env = ([], [])) (hnames : scope.names = [(x, .local)]) (hk : scope.kind = .function) (hco : scope.isCoroutine = false) (hgen : scope.isGenerator = false) (hx : (x == ("__debug__" : Str)) = false)
    (hb : ∀ (q : Str) (cl : List (Str × Addr)) (pm cv ctv v : Value), bindArgs (PySem.W.kla_fn "<lambda>" q params (.Tuple [.Subscript (.Name x p1) (.Constant (.int 1) k1 p2) p3, .Subscript (.Name x p4) (.Constant (.int 0) k2 p5) p6] kk p7) scope cl pm cv ctv) ⟨[v], []⟩ = pure [(x, v)])
    (na : backTo pos (starEach [e] X.env) = (false, eval e X.env) :: backTo pos (starEach [] X.env)) (hpl : (backTo pos (starEach [e] X.env)).any (·.1) = false)
    (hall : (backToKw pos (keywordEach [⟨some "key", .Lambda params (.Tuple [.Subscript (.Name x p1) (.Constant (.int 1) k1 p2) p3, .Subscript (.Name x p4) (.Constant (.int 0) k2 p5) p6] kk p7) scope lpos, kpos⟩] X.env)).all (·.1.isSome) = true)
    (hnone : (backToKw pos (keywordEach [⟨some "key", .Lambda params (.Tuple [.Subscript (.Name x p1) (.Constant (.int 1) k1 p2) p3, .Subscript (.Name x p4) (.Constant (.int 0) k2 p5) p6] kk p7) scope lpos, kpos⟩] X.env)).any (·.1.isNone) = false)
    (hks : (backToKw pos (keywordEach [⟨some "key", .Lambda params (.Tuple [.Subscript (.Name x p1) (.Constant (.int 1) k1 p2) p3, .Subscript (.Name x p4) (.Constant (.int 0) k2 p5) p6] kk p7) scope lpos, kpos⟩] X.env)).filterMap (·.1) = [Str.ofString "key"]) :
    DF X W (.Call (.Name "sorted" p) [e] [⟨some "key", .Lambda params (.Tuple [.Subscript (.Name x p1) (.Constant (.int 1) k1 p2) p3, .Subscript (.Name x p4) (.Constant (.int 0) k2 p5) p6] kk p7) scope lpos, kpos⟩] pos) (eSortKey F) := by
  refine pe_imp (pe_sortKey hg hm L hr he hcalm hdef hnames hk hco hgen hx hb na hpl hall hnone hks) fun σ H Q hq => ?_
  obtain ⟨io, env, hrl, hq⟩ := hq
  refine ⟨io, env, hrl, Wp.bind hq fun x vs H1 q0 e1 r1 p1 h1 => ?_⟩
  clear q0
  obtain ⟨xd, xe⟩ := x
  dsimp only at h1 p1 r1 e1
  split at h1
  · rename_i a
    obtain ⟨v, rfl, pv⟩ := rpL_one p1
    cases q1 : (sqD a).bind prs with
    | none => rw [q1] at h1; exact (show False from h1).elim
    | some bs =>
      rw [q1] at h1
      cases q2 : sqD a with
      | none => rw [q2] at q1; cases q1
      | some ds =>
        rw [q2] at q1
        obtain ⟨b, l, ws, rfl, g1, g2⟩ := seq_rep q2 pv
        obtain ⟨tl, t1, t2, t3⟩ := prs_tri g1 (show prs ds = some bs from q1)
        have hs := g2 H1 (FExt.refl _)
        have em : (tl.map (·.2)).map (·.1) = ws := by rw [List.map_map]; exact t2
        refine ⟨l, tl.map (·.2), rfl, ?_, fun b hb => ?_, r1.tab, fun H2 p xn dm T2 np => ?_⟩
        · rw [em]
          cases b with
          | true => exact .inr hs
          | false => exact .inl hs
        · obtain ⟨t, ht, rfl⟩ := List.mem_map.mp hb
          exact (t3 t ht).2
        · have s1 : ((tl.map (·.2)).mergeSort fun x y => leK x.2 y.2) = (tl.mergeSort fun x y => leK x.2.2 y.2.2).map (·.2) := (List.map_mergeSort (f := fun t : D × PrV => t.2) (r := fun x y => leK x.2.2 y.2.2) (s := fun x y => leK x.2 y.2) fun a _ b _ => rfl).symm
          have s2 : (bs.mergeSort fun x y => leK x.2 y.2) = (tl.mergeSort fun x y => leK x.2.2 y.2.2).map (fun t => (t.1, t.2.2)) := by
            rw [← t1]; exact (List.map_mergeSort (f := fun t : D × PrV => (t.1, t.2.2)) (r := fun x y => leK x.2.2 y.2.2) (s := fun x y => leK x.2 y.2) fun a _ b _ => rfl).symm
          have x2 : Ext H2 (upd H2 p (.lst (((tl.map (·.2)).mergeSort fun x y => leK x.2 y.2).map (·.1)))) := Ext.new np
          have xn2 : XN H1 (upd H2 p (.lst (((tl.map (·.2)).mergeSort fun x y => leK x.2 y.2).map (·.1)))) := xn.trans x2.xn
          refine h1 (.ref p) _ (EvE.extN xn2 fun b o hb => let ⟨o', h'⟩ := dm b o hb; ⟨o', x2 _ _ h'⟩) (r1.extN xn2 (T2.ext x2)) ⟨p, rfl, ?_, .lst _, upd_same, ?_⟩
          · exact free_back e1.dom (free_back dm np)
          · refine RpL.ext xn2.fx _ _ ?_
            show RpL X.K H1 (srtK bs) _
            unfold srtK
            rw [s1, s2, List.map_map, List.map_map]
            exact rpL_map fun t ht => (t3 t (List.mem_mergeSort.mp ht)).1
  · exact (show False from h1).elim
end
end DL

/-! ## DLx -/
/-! DLx: chains of three, count, index, in, comprehensions of two fors, dict(pairs), get, dict comprehensions. -/
namespace DL
open PySem PySem.Spec PyProof.Rows L2

/-! ### a op1 b op2 c op3 d -/
def eChain3 (p q r : D → D → Option D) (fa fb fc fd : Den) : Den := fun env => (fa env).bind fun x => (fb x.2).bind fun y => (R.of (p x.1 y.1)).bind fun d => match d with
  | .bl true => (fc y.2).bind fun z => (R.of (q y.1 z.1)).bind fun d => (match d with
    | .bl true => (fd z.2).bind fun u => (R.of (r z.1 u.1)).bind fun d => .ok (d, u.2)
    | .bl false => .ok (.bl false, z.2)
    | _ => .stk)
  | .bl false => .ok (.bl false, y.2)
  | _ => .stk
def tChain3 (r r' r'' : R2) (ta tb tc td : TE) : TE := fun σ H Q => ta σ H fun x H1 => tb σ H1 fun y H2 => r x y H2 fun z H3 => ∃ k, z = .bl k ∧
  (if k = true then tc σ H3 fun w H4 => r' y w H4 fun z2 H5 => ∃ k2, z2 = .bl k2 ∧ (if k2 = true then td σ H5 fun u H6 => r'' w u H6 Q else Q (.bl false) H5) else Q (.bl false) H3)
section
variable {X : Cx} {W : WD} {a b c d : Expr} {fa fb fc fd : Den} {pos : Pos}
theorem pe_chain3 {op op' op'' : CmpOp} {r r' r'' : R2} {ta tb tc td : TE} (ho : OpR X (compareOp op) r) (ho' : OpR X (compareOp op') r') (ho'' : OpR X (compareOp op'') r'') (ha : PE X a ta) (hb : PE X b tb) (hc : PE X c tc) (hd : PE X d td)
    (hm : lastMarks [op, op', op''] [b, c, d] = false := by with_unfolding_all rfl) : PE X (.Compare a [op, op', op''] [b, c, d] pos) (tChain3 r r' r'' ta tb tc td) := by
  refine ⟨fun pins s σ H Q I h => ?_⟩
  refine Compare_chain (thn (ha.run pins s σ H _ I h) fun v s1 ⟨x, H1, I1, r1, q1⟩ => chain_link (thn (hb.run pins s1 σ H1 _ I1 q1) fun u s2 ⟨y, H2, I2, r2, q2⟩ =>
    thn (ho pins s2 σ H2 x y v u _ I2 r1 r2 q2) fun d' s3 ⟨z, H3, I3, r3, k, e, q3⟩ => ?_)) hm
  subst e
  cases r3
  refine wpAny_truthy_bool ?_
  cases k with
  | false => exact ite_ff ⟨.bl false, H3, I3, rfl, q3⟩
  | true =>
    refine ite_tt (chain_link (thn (hc.run pins s3 σ H3 _ I3 q3) fun w' s4 ⟨z', H4, I4, r4, q4⟩ => thn (ho' pins s4 σ H4 y z' u w' _ I4 r2 r4 q4) fun d2 s5 ⟨z2, H5, I5, r5, k2, e2, q5⟩ => ?_))
    subst e2
    cases r5
    refine wpAny_truthy_bool ?_
    cases k2 with
    | false => exact ite_ff ⟨.bl false, H5, I5, rfl, q5⟩
    | true => exact ite_tt (chain_last (thn (hd.run pins s5 σ H5 _ I5 q5) fun w3 s6 ⟨z3, H6, I6, r6, q6⟩ => ho'' pins s6 σ H6 z' z3 w' w3 Q I6 r4 r6 q6))
theorem pt_chain3 {op op' op'' : CmpOp} {r r' r'' : R2} {ta tb tc td : TE} (ho : OpR X (compareOp op) r) (ho' : OpR X (compareOp op') r') (ho'' : OpR X (compareOp op'') r'') (ha : PE X a ta) (hb : PE X b tb) (hc : PE X c tc) (hd : PE X d td)
    (hm : lastMarks [op, op', op''] [b, c, d] = false := by with_unfolding_all rfl) : PT X (.Compare a [op, op', op''] [b, c, d] pos) (fun σ H Q => tChain3 r r' r'' ta tb tc td σ H fun x H' => ∃ k, x = .bl k ∧ Q k H') := by
  refine ⟨fun pins s σ H Q I h => ?_⟩
  refine isTrue_chain (thn (ha.run pins s σ H _ I h) fun v s1 ⟨x, H1, I1, r1, q1⟩ => test_link (thn (hb.run pins s1 σ H1 _ I1 q1) fun u s2 ⟨y, H2, I2, r2, q2⟩ =>
    thn (ho pins s2 σ H2 x y v u _ I2 r1 r2 q2) fun d' s3 ⟨z, H3, I3, r3, k, e, q3⟩ => ?_)) hm
  subst e
  cases r3
  refine wpAny_truthy_bool ?_
  cases k with
  | false =>
    obtain ⟨k', e', q'⟩ := q3
    cases e'
    exact ite_ff ⟨H3, I3, q'⟩
  | true =>
    refine ite_tt (test_link (thn (hc.run pins s3 σ H3 _ I3 q3) fun w' s4 ⟨z', H4, I4, r4, q4⟩ => thn (ho' pins s4 σ H4 y z' u w' _ I4 r2 r4 q4) fun d2 s5 ⟨z2, H5, I5, r5, k2, e2, q5⟩ => ?_))
    subst e2
    cases r5
    refine wpAny_truthy_bool ?_
    cases k2 with
    | false =>
      obtain ⟨k', e', q'⟩ := q5
      cases e'
      exact ite_ff ⟨H5, I5, q'⟩
    | true =>
      refine ite_tt (test_last (thn (hd.run pins s5 σ H5 _ I5 q5) fun w3 s6 ⟨z3, H6, I6, r6, q6⟩ => thn (ho'' pins s6 σ H6 z' z3 w' w3 _ I6 r4 r6 q6) fun d3 s7 ⟨z4, H7, I7, r7, k3, e3, q7⟩ => ?_))
      subst e3
      cases r7
      exact wpAny_truthy_bool ⟨H7, I7, q7⟩
theorem rd_chain3 {r r' r'' : R2} {p q s : D → D → Option D} {σ : L2.St} {H : Hp} {Q : VK} (hp : PrR2 X.K r p) (hq : PrR2 X.K r' q) (hs : PrR2 X.K r'' s) (h : RdE X.K W (eChain3 p q s fa fb fc fd) σ H Q) :
    tChain3 r r' r'' (RdE X.K W fa) (RdE X.K W fb) (RdE X.K W fc) (RdE X.K W fd) σ H Q := by
  obtain ⟨io, env, hr, h⟩ := h
  refine ⟨io, env, hr, Wp.bind h fun x v H1 _ e1 r1 p1 h1 => ⟨io, x.2, r1, Wp.bind h1 fun y w H2 _ e2 r2 p2 h2 => ?_⟩⟩
  cases z : p x.1 y.1 with
  | none => rw [z] at h2; exact (show False from h2).elim
  | some d1 =>
    rw [z] at h2
    refine hp H2 v w x.1 y.1 d1 (Rp.ext (r1.fx e2) _ _ p1) p2 z _ fun k H3 x3 rk => ?_
    rw [R.of_some, R.bind_ok] at h2
    have r3 := r2.ext x3
    have h3 := Wp.fwd (EvE.ext x3 : EvE y.2 σ H2 y.2 H3) h2
    cases d1 with
    | bl k1 =>
      refine ⟨k1, by simpa [Rp] using rk, ?_⟩
      cases k1 with
      | false => exact iteF (h3 (.bl false) H3 (EvE.refl _ _ _) r3 (by simp [Rp]))
      | true =>
        refine iteT ⟨io, y.2, r3, Wp.bind h3 fun u u' H4 _ e4 r4 p4 h4 => ?_⟩
        cases z2 : q y.1 u.1 with
        | none => rw [z2] at h4; exact (show False from h4).elim
        | some d2 =>
          rw [z2] at h4
          refine hq H4 w u' y.1 u.1 d2 (Rp.ext (x3.fx.trans (r3.fx e4)) _ _ p2) p4 z2 _ fun k5 H5 x5 rk5 => ?_
          rw [R.of_some, R.bind_ok] at h4
          have r5 := r4.ext x5
          have h5 := Wp.fwd (EvE.ext x5 : EvE u.2 σ H4 u.2 H5) h4
          cases d2 with
          | bl k2 =>
            refine ⟨k2, by simpa [Rp] using rk5, ?_⟩
            cases k2 with
            | false => exact iteF (h5 (.bl false) H5 (EvE.refl _ _ _) r5 (by simp [Rp]))
            | true =>
              refine iteT ⟨io, u.2, r5, Wp.bind h5 fun t t' H6 _ e6 r6 p6 h6 => ?_⟩
              cases z3 : s u.1 t.1 with
              | none => rw [z3] at h6; exact (show False from h6).elim
              | some d3 =>
                rw [z3] at h6
                exact hs H6 u' t' u.1 t.1 d3 (Rp.ext (x5.fx.trans (r5.fx e6)) _ _ p4) p6 z3 Q fun v7 H7 x7 r7 => h6 v7 H7 (EvE.ext x7) (r6.ext x7) r7
          | _ => exact (show False from h5).elim
    | _ => exact (show False from h3).elim
theorem de_chain3 {op op' op'' : CmpOp} {r r' r'' : R2} {p q s : D → D → Option D} (hp : PrR2 X.K r p) (hq : PrR2 X.K r' q) (hs : PrR2 X.K r'' s) (ho : OpR X (compareOp op) r) (ho' : OpR X (compareOp op') r') (ho'' : OpR X (compareOp op'') r'') (ha : DE X W a fa) (hb : DE X W b fb) (hc : DE X W c fc) (hd : DE X W d fd)
    (hm : lastMarks [op, op', op''] [b, c, d] = false := by with_unfolding_all rfl) : DE X W (.Compare a [op, op', op''] [b, c, d] pos) (eChain3 p q s fa fb fc fd) := by
  exact pe_imp (pe_chain3 ho ho' ho'' ha hb hc hd hm) fun σ H Q h => rd_chain3 hp hq hs h
theorem dt_chain3 {op op' op'' : CmpOp} {r r' r'' : R2} {p q s : D → D → Option D} (hp : PrR2 X.K r p) (hq : PrR2 X.K r' q) (hs : PrR2 X.K r'' s) (ho : OpR X (compareOp op) r) (ho' : OpR X (compareOp op') r') (ho'' : OpR X (compareOp op'') r'') (ha : DE X W a fa) (hb : DE X W b fb) (hc : DE X W c fc) (hd : DE X W d fd)
    (hm : lastMarks [op, op', op''] [b, c, d] = false := by with_unfolding_all rfl) : DT X W (.Compare a [op, op', op''] [b, c, d] pos) (tst (eChain3 p q s fa fb fc fd)) := by
  exact pt_imp (pt_chain3 ho ho' ho'' ha hb hc hd hm) fun σ H Q h => rd_chain3 hp hq hs (rd_tst h)
end

/-! ### t.count(x) -/
def cntD (ds : List D) (b : D) : Option D := match pyL ds, b.py with
  | some es, some e => if SeqAt.shaped (.tuple es) && SeqAt.shaped e then some (.int (es.countP fun z => PyData.eqv z e : Nat)) else none
  | _, _ => none
def eCount (fa fb : Den) : Den := fun env => (fa env).bind fun x => match x.1 with
  | .tup true ds => (fb x.2).bind fun y => (R.of (cntD ds y.1)).bind fun d => .ok (d, y.2)
  | _ => .stk
def rCount (K : PySem.W.Frag) : R2 := fun x y H Q => ∃ a vs ds d, x = .ref a ∧ TupAt true H a vs ∧ Dp K H x (.tuple ds) ∧ Dp K H y d ∧ SeqAt.shaped (.tuple ds) = true ∧ SeqAt.shaped d = true ∧ Q (.int (ds.countP fun z => PyData.eqv z d : Nat)) H
def tCount (K : PySem.W.Frag) (ta tb : TE) : TE := fun σ H Q => ta σ H fun x H1 => (∃ a vs, x = .ref a ∧ TupAt true H1 a vs) ∧ tb σ H1 fun y H2 => rCount K x y H2 Q
section
variable {X : Cx} {W : WD} {o e : Expr} {apos cpos : Pos} {fa fb : Den}
theorem pe_count {ta tb : TE} (hu : X.A.units + 65 < cLine) (ho : PE X o ta) (he : PE X e tb) (m : M1 X o "count" apos e cpos) : PE X (.Call (.Attribute o "count" apos) [e] [] cpos) (tCount X.K ta tb) := by
  refine ⟨fun pins s σ H Q I h => ?_⟩
  refine wpAny_Call_method m.base m.few m.line PySem.F.plainAttrs_tuple PySem.F.slot_tuple_count PySem.F.type_tuple_count (thn (ho.run pins s σ H _ I h) fun u s1 ⟨x, H1, I1, rx, ⟨a, vs, ex, tat⟩, q1⟩ => ?_)
  subst ex
  obtain rfl : u = Value.ref a := rx
  obtain ⟨o1, h1, hdn⟩ := tat
  obtain ⟨g1, hz, its, rv, ⟨o2, g2, c2, n2, d2⟩⟩ := I1.hok a _ h1
  rw [g1] at g2; cases g2
  refine ⟨⟨_, g1, c2⟩, fun b z => by cases z; exact ⟨_, g1, hdn⟩, ?_⟩
  rw [m.trees]
  refine Calls.callWith_builtin rfl (Calls.evalArgs_plain (Calls.spliced_cons (thn (he.run pins s1 σ H1 _ I1 q1) fun iv s2 ⟨y, H2, I2, ry, q2⟩ => Calls.spliced_nil ?_)))
  obtain ⟨a', vs', ds, d, e1, tat2, hl, hy, sl, sd, q⟩ := q2
  cases e1
  obtain ⟨bs, r1⟩ := Dp.reads I2 d y iv hy ry
  have hxs : PyData.canLayAll0 ds = true := SeqAt.canLay_of_shaped sl
  have hroom : X.A.units + 1 + min (PyData.depthAll ds) d.depth < cLine := room_in_shaped sd hu
  cases hl with
  | tup hs ha =>
    obtain ⟨its3, rv3, ⟨⟨cls, dd, data, sls⟩, ho3, hc3, n3, hd3⟩, hlen⟩ := I2.tuple hs
    simp only at hc3 hd3
    subst hc3 hd3
    obtain ⟨as, h4⟩ := Dp.readsAll I2 ds _ its3 ha rv3
    have hmap : its3.map (SeqAt.readOf s2.heap) = ds := SeqAt.readsAll_map ds its3 as hxs h4
    refine call_meets PySem.F.slot_tuple_count ⟨_, ho3, rfl⟩ PySem.F.entry_tuple_count (PySem.F.args_tuple_count_2 _ _)
      (SeqAt.tuple_countAt a its3.toArray n3 dd sls iv (fun u => PyData.eqv (SeqAt.readOf s2.heap u) d)) ⟨ho3, SeqAt.items_eqAt (vs := its3.toArray) (show ReadsAll s2.heap its3.toArray.toList ds as from h4) r1 hxs (SeqAt.canLay_of_shaped sd) hroom, ?_⟩
    refine ⟨.int (ds.countP fun z => PyData.eqv z d : Nat), H2, I2.tok _, ⟨s2.toks, ?_⟩, q⟩
    show Value.int ((its3.toArray.toList.countP _ : Nat) : Int) s2.toks = _
    rw [← hmap, List.countP_map]
    rfl
theorem de_count (hu : X.A.units + 65 < cLine) (ho : DE X W o fa) (he : DE X W e fb) (m : M1 X o "count" apos e cpos) : DE X W (.Call (.Attribute o "count" apos) [e] [] cpos) (eCount fa fb) := by
  refine pe_imp (pe_count hu ho he m) fun σ H Q h => ?_
  obtain ⟨io, env, hr, h⟩ := h
  refine ⟨io, env, hr, Wp.bind h fun x v H1 q0 e1 r1 p1 h1 => ?_⟩
  clear q0
  obtain ⟨xd, xe⟩ := x
  dsimp only at h1 p1 e1 r1
  split at h1
  · rename_i ds
    obtain ⟨a, vs, rfl, g1, g2⟩ := rp_tup p1
    refine ⟨⟨a, vs, rfl, g1⟩, io, xe, r1, Wp.bind h1 fun y w H2 q1 ev2 r2 p2 h2 => ?_⟩
    clear q1
    cases z : cntD ds y.1 with
    | none => rw [z] at h2; exact (show False from h2).elim
    | some d =>
      rw [z] at h2
      unfold cntD at z
      split at z
      · rename_i es e z1 z2
        split at z
        · rename_i hc
          cases z
          rw [Bool.and_eq_true] at hc
          have g2 := RpL.ext (r1.fx ev2) _ _ g2
          have g1 := g1.ext (r1.fx ev2)
          exact ⟨a, vs, es, e, rfl, g1, .tup g1.sq (RpL.dp ds vs es z1 g2), Rp.dp _ _ _ z2 p2, hc.1, hc.2, h2 _ H2 (EvE.refl _ _ _) r2 (by simp [Rp])⟩
        · cases z
      · cases z
  · exact (show False from h1).elim
end

/-! ### l.index(x), ints -/
def idxI (k : Int) : List Int → Option Nat
  | [] => none
  | n :: ns => if n = k then some 0 else (idxI k ns).map (· + 1)
theorem idxI_some {k : Int} : ∀ {ns : List Int} {j : Nat}, idxI k ns = some j → ns[j]? = some k ∧ ∀ m z, m < j → ns[m]? = some z → z ≠ k
  | [], j, h => by cases h
  | n :: ns, j, h => by
    unfold idxI at h
    split at h
    · rename_i e
      cases h
      exact ⟨by simp [e], fun m z hm => by omega⟩
    · rename_i e
      cases q : idxI k ns with
      | none => rw [q] at h; cases h
      | some i =>
        rw [q] at h
        cases h
        obtain ⟨h1, h2⟩ := idxI_some q
        refine ⟨by simpa using h1, fun m z hm hz => ?_⟩
        cases m with
        | zero =>
          have hz : n = z := by simpa using hz
          rw [← hz]; exact e
        | succ m => exact h2 m z (by have hm : m + 1 < i + 1 := hm; omega) (by simpa using hz)
def eIndex (fa fb : Den) : Den := fun env => (fa env).bind fun x => match x.1 with
  | .lst ds => (fb x.2).bind fun y => (R.of (match asI ds, y.1 with | some ns, .int k => (idxI k ns).map fun (j : Nat) => D.int (j : Int) | _, _ => none)).bind fun d => .ok (d, y.2)
  | _ => .stk
section
variable {X : Cx} {W : WD} {o e : Expr} {apos cpos : Pos} {fa fb : Den}
theorem de_index (ho : DE X W o fa) (he : DE X W e fb)
    (hbase : attributeBase o "index" X.env (eval o X.env) = eval o X.env := by rfl)
    (hfew : ((backTo cpos (starEach [e] X.env)).all (fun x => !x.1) && (backToKw cpos (keywordEach [] X.env)).all (fun x => x.1.isSome)
      && decide (([e] : List Expr).length + ([] : List Keyword).length + (if ([] : List Keyword).isEmpty then 0 else 1) < 30)) = true := by rfl)
    (hline : (apos.endLine == cpos.line) = true := by rfl) (hs : starEach [e] X.env = (false, eval e X.env) :: starEach [] X.env := by rfl) (hplain : (backTo cpos (starEach [] X.env)).any (·.1) = false := by rfl) :
    DE X W (.Call (.Attribute o "index" apos) [e] [] cpos) (eIndex fa fb) := by
  refine pe_imp (pe_bm PySem.F.plainAttrs_list PySem.F.slot_list_index PySem.F.type_list_index mt_index ho (pa_cons he pa_nil hs) hbase hfew hline hs hplain) fun σ H Q h => ?_
  obtain ⟨io, env, hr, h⟩ := h
  refine ⟨io, env, hr, Wp.bind h fun x v H1 q0 e1 r1 p1 h1 => ?_⟩
  clear q0
  obtain ⟨xd, xe⟩ := x
  dsimp only at h1 p1 e1 r1
  split at h1
  · rename_i ds
    obtain ⟨a, vs, rfl, g1, g2⟩ := rp_lst p1
    refine ⟨.inl ⟨rfl, vs, g1.sq⟩, io, xe, r1, Wp.bind h1 fun y w H2 q1 ev2 r2 p2 h2 => ?_⟩
    clear q1
    split at h2
    · rename_i ns k hn hk
      cases z : idxI k ns with
      | none => rw [z] at h2; exact (show False from h2).elim
      | some j =>
        rw [z] at h2
        obtain ⟨i1, i2⟩ := idxI_some z
        rw [asI_some hn] at g2
        have ev := RpL.ints g2
        subst ev
        rw [hk] at p2
        refine ⟨a, ns.map V.int, .int k, j, .int k, rfl, by rw [rp_int p2], (g1.ext (r1.fx ev2)).sq, rfl, by simp [flatV], by rw [List.getElem?_map, i1]; rfl, by simp [eqV], fun m z' hm hz => ?_, h2 _ H2 (EvE.refl _ _ _) r2 (by simp [Rp])⟩
        rw [List.getElem?_map] at hz
        cases q : ns[m]? with
        | none => rw [q] at hz; cases hz
        | some n =>
          rw [q] at hz
          cases hz
          have := i2 m n hm q
          simp [eqV, this]
    · exact (show False from h2).elim
  · exact (show False from h1).elim
end

/-! ### x in s, x not in s -/
def inD (a b : D) : Option Bool := match sqD b with
  | some ds => (match pyL ds, a.py with
    | some es, some e => if SeqAt.shaped (.list es) && (SeqAt.shaped (.tuple es) && SeqAt.shaped e) then some (es.any fun z => PyData.eqv z e) else none
    | _, _ => none)
  | none => none
def pIn : D → D → Option D := fun a b => (inD a b).map D.bl
def pNotIn : D → D → Option D := fun a b => (inD a b).map fun c => D.bl (!c)
def rInB (K : PySem.W.Frag) (neg : Bool) : R2 := fun x y H Q => ∃ d ds, Dp K H x d ∧ (Dp K H y (.list ds) ∨ Dp K H y (.tuple ds)) ∧ SeqAt.shaped d = true ∧ SeqAt.shaped (.list ds) = true ∧ SeqAt.shaped (.tuple ds) = true ∧ Q (.bl (if neg then !(ds.any fun z => PyData.eqv z d) else ds.any fun z => PyData.eqv z d)) H
section
variable {X : Cx}
theorem op_inB (hu : X.A.units + 65 < cLine) : OpR X (compareOp .In) (rInB X.K false) := by
  intro pins s σ H x y v u Q I rx ry h
  obtain ⟨d, ds, hd, he, sd, se, st, q⟩ := h
  obtain ⟨as, r1⟩ := Dp.reads I d x v hd rx
  rcases he with he | he
  · obtain ⟨bs, r2⟩ := Dp.reads I (.list ds) y u he ry
    exact SeqAt.in_list_reads r2 r1 (SeqAt.canLay_of_shaped se) (SeqAt.canLay_of_shaped sd) (room_in_shaped sd hu) ⟨.bl _, H, I, rfl, q⟩
  · obtain ⟨bs, r2⟩ := Dp.reads I (.tuple ds) y u he ry
    exact SeqAt.in_tuple_reads r2 r1 (SeqAt.canLay_of_shaped st) (SeqAt.canLay_of_shaped sd) (room_in_shaped sd hu) ⟨.bl _, H, I, rfl, q⟩
theorem op_notInB (hu : X.A.units + 65 < cLine) : OpR X (compareOp .NotIn) (rInB X.K true) := by
  intro pins s σ H x y v u Q I rx ry h
  obtain ⟨d, ds, hd, he, sd, se, st, q⟩ := h
  obtain ⟨as, r1⟩ := Dp.reads I d x v hd rx
  rcases he with he | he
  · obtain ⟨bs, r2⟩ := Dp.reads I (.list ds) y u he ry
    exact SeqAt.notIn_list_reads r2 r1 (SeqAt.canLay_of_shaped se) (SeqAt.canLay_of_shaped sd) (room_in_shaped sd hu) ⟨.bl _, H, I, rfl, q⟩
  · obtain ⟨bs, r2⟩ := Dp.reads I (.tuple ds) y u he ry
    exact SeqAt.notIn_tuple_reads r2 r1 (SeqAt.canLay_of_shaped st) (SeqAt.canLay_of_shaped sd) (room_in_shaped sd hu) ⟨.bl _, H, I, rfl, q⟩
end
theorem inD_at {K : PySem.W.Frag} {H : Hp} {a b : D} {x y : V} {c : Bool} (h : inD a b = some c) (ra : Rp K H a x) (rb : Rp K H b y) :
    ∃ d ds, Dp K H x d ∧ (Dp K H y (.list ds) ∨ Dp K H y (.tuple ds)) ∧ SeqAt.shaped d = true ∧ SeqAt.shaped (.list ds) = true ∧ SeqAt.shaped (.tuple ds) = true ∧ c = ds.any fun z => PyData.eqv z d := by
  unfold inD at h
  split at h
  · rename_i ds hs
    split at h
    · rename_i es e z1 z2
      split at h
      · rename_i hc
        cases h
        rw [Bool.and_eq_true, Bool.and_eq_true] at hc
        refine ⟨e, es, Rp.dp _ _ _ z2 ra, ?_, hc.2.2, hc.1, hc.2.1, rfl⟩
        cases b with
        | lst xs => cases hs; obtain ⟨a, vs, rfl, g1, g2⟩ := rp_lst rb; exact .inl (.lst g1.sq (RpL.dp _ _ _ z1 g2))
        | tup m xs => cases hs; obtain ⟨a, vs, rfl, g1, g2⟩ := rp_tup rb; exact .inr (.tup g1.sq (RpL.dp _ _ _ z1 g2))
        | _ => cases hs
      · cases h
    · cases h
  · cases h
theorem pr_in {K : PySem.W.Frag} : PrR2 K (rInB K false) pIn := by
  intro H x y a b d ra rb e Q k
  unfold pIn at e
  cases z : inD a b with
  | none => rw [z] at e; cases e
  | some c =>
    rw [z] at e
    cases e
    obtain ⟨d, ds, h1, h2, h3, h4, h5, rfl⟩ := inD_at z ra rb
    exact ⟨d, ds, h1, h2, h3, h4, h5, k _ H (Ext.refl _) (by simp [Rp])⟩
theorem pr_notIn {K : PySem.W.Frag} : PrR2 K (rInB K true) pNotIn := by
  intro H x y a b d ra rb e Q k
  unfold pNotIn at e
  cases z : inD a b with
  | none => rw [z] at e; cases e
  | some c =>
    rw [z] at e
    cases e
    obtain ⟨d, ds, h1, h2, h3, h4, h5, rfl⟩ := inD_at z ra rb
    exact ⟨d, ds, h1, h2, h3, h4, h5, k _ H (Ext.refl _) (by simp [Rp])⟩
end DL

/-! ## DLy -/
/-! DLy: comprehensions of two fors, where nothing is own. -/
namespace DL
open PySem PySem.Spec PyProof.Rows L2

def ownless (env : En) : Bool := env.all fun s => match s with
  | .own _ => false
  | _ => true
theorem ownless_get {env : En} (h : ownless env = true) (j : Nat) (d : D) : env[j]? ≠ some (.own d) := fun q => by
  have := List.all_eq_true.mp h _ (List.mem_of_getElem? q)
  exact absurd this (by simp)
theorem ownless_no {env : En} (h : ownless env = true) {σ : L2.St} {b : Addr} : ¬ OwnA env σ b := fun ⟨j, d, q, _⟩ => ownless_get h j d q
theorem ownless_eq {env env' : En} {σ : L2.St} {H H' : Hp} (h : ownless env = true) (e : EvE env σ H env' H') : env' = env ∧ XN H H' := by
  refine ⟨List.ext_getElem? fun j => (e.shp.2 j).2 fun d => ownless_get h j d, fun b o hb ht => e.kp b o hb ht (ownless_no h)⟩
theorem ownless_wipe {vs : List Nat} : ∀ {env : En}, ownless env = true → ownless (wipeE env vs) = true := by
  induction vs with
  | nil => intro env h; exact h
  | cons i vs ih =>
    intro env h
    refine ih ?_
    unfold ownless
    rw [List.all_eq_true]
    intro s hs
    rcases List.mem_or_eq_of_mem_set hs with hs | hs
    · exact List.all_eq_true.mp h s hs
    · rw [hs]
theorem ownless_has {vs : List Nat} {env : En} (h : ownless env = true) : ¬ hasOwn env vs = true := fun z => by
  unfold hasOwn at z
  obtain ⟨i, _, q⟩ := List.any_eq_true.mp z
  split at q
  · rename_i d e
    exact ownless_get h i d e
  · cases q
theorem wipe_eq {vs : List Nat} {σ σA : L2.St} (hl : σA.length = σ.length) (offs : ∀ j, j ∉ vs → σA[j]? = σ[j]?) : wipe σA vs = wipe σ vs := by
  apply List.ext_getElem?
  intro j
  by_cases hj : j ∈ vs
  · have n1 : ∀ s : L2.St, j < (wipe s vs).length → (wipe s vs)[j]? = some none := fun s hs => by
      cases q : (wipe s vs)[j]? with
      | none => exact absurd (List.getElem?_eq_none_iff.mp q) (by omega)
      | some o =>
        cases o with
        | none => rfl
        | some w => exact absurd hj (wipe_some q).2
    have hlen : (wipe σA vs).length = (wipe σ vs).length := by rw [wipe_length, wipe_length, hl]
    by_cases hjl : j < (wipe σ vs).length
    · rw [n1 σ hjl, n1 σA (by omega)]
    · rw [List.getElem?_eq_none_iff.mpr (by omega), List.getElem?_eq_none_iff.mpr (by omega)]
  · rw [wipe_out hj, wipe_out hj, offs j hj]

theorem Rel.fxl {K : PySem.W.Frag} {T : List (Addr × Str)} {io : Option Addr} {env : En} {σ : L2.St} {H H' : Hp} (h : ownless env = true) (r : Rel K T io env σ H) (e : FExt H H') (t : LamX.Tabs T H') : Rel K T io env σ H' where
  len := r.len
  val := fun i d h => let ⟨v, h1, h2⟩ := r.val i d h; ⟨v, h1, Rp.ext e _ _ h2⟩
  own := fun i d q => absurd q (ownless_get h i d)
  sep := r.sep
  io := r.io
  tab := t
def loop2 (p1 : Pt) (vs1 : List Nat) (elt : Den) (e : En) : List D → List D → R (List D)
  | [], acc => .ok acc
  | y :: ys, acc => (R.of (p1.asg y (wipeE e vs1))).bind fun e2 => (elt e2).hush.bind fun q => if acc.length < big then loop2 p1 vs1 elt e ys (acc ++ [q.1]) else .stk
def loop1 (p : Pt) (vs : List Nat) (it1 : DenL) (p1 : Pt) (vs1 : List Nat) (elt : Den) (env : En) : List D → List D → R (List D)
  | [], acc => .ok acc
  | x :: xs, acc => (R.of (p.asg x (wipeE env vs))).bind fun e1 => (it1 e1).hush.bind fun q => (loop2 p1 vs1 elt e1 q.1 acc).bind fun acc' => loop1 p vs it1 p1 vs1 elt env xs acc'
def fComp2 (it : DenL) (p : Pt) (vs : List Nat) (it1 : DenL) (p1 : Pt) (vs1 : List Nat) (elt : Den) : Den := fun env =>
  if ownless env then (it env).bind fun x => (loop1 p vs it1 p1 vs1 elt x.2 x.1 []).bind fun ds => R.ok (D.lst ds, x.2) else .stk
theorem hush_some {α : Type} {r : R α} {β : Type} {f : α → R β} {b : β} (h : r.hush.bind f = .ok b) : ∃ a, r = .ok a ∧ f a = .ok b := by
  cases r with
  | stk => cases h
  | err c => cases h
  | ok a => exact ⟨a, rfl, h⟩
theorem of_some' {α β : Type} {r : Option α} {f : α → R β} {b : β} (h : (R.of r).bind f = .ok b) : ∃ a, r = some a ∧ f a = .ok b := by
  cases r with
  | none => cases h
  | some a => exact ⟨a, rfl, h⟩
/-- the loops come to no error -/
theorem loop2_ok {p1 : Pt} {vs1 : List Nat} {elt : Den} {e : En} : ∀ (ys acc : List D), (∃ ds, loop2 p1 vs1 elt e ys acc = .ok ds) ∨ loop2 p1 vs1 elt e ys acc = .stk
  | [], acc => .inl ⟨acc, rfl⟩
  | y :: ys, acc => by
    unfold loop2
    cases p1.asg y (wipeE e vs1) with
    | none => exact .inr rfl
    | some e2 =>
      rw [R.of_some, R.bind_ok]
      cases elt e2 with
      | stk => exact .inr rfl
      | err c => exact .inr rfl
      | ok q =>
        rw [R.hush_ok, R.bind_ok]
        split
        · exact loop2_ok ys _
        · exact .inr rfl
theorem loop1_ok {p : Pt} {vs : List Nat} {it1 : DenL} {p1 : Pt} {vs1 : List Nat} {elt : Den} {env : En} : ∀ (xs acc : List D), (∃ ds, loop1 p vs it1 p1 vs1 elt env xs acc = .ok ds) ∨ loop1 p vs it1 p1 vs1 elt env xs acc = .stk
  | [], acc => .inl ⟨acc, rfl⟩
  | x :: xs, acc => by
    unfold loop1
    cases p.asg x (wipeE env vs) with
    | none => exact .inr rfl
    | some e2 =>
      rw [R.of_some, R.bind_ok]
      cases it1 e2 with
      | stk => exact .inr rfl
      | err c => exact .inr rfl
      | ok q =>
        rw [R.hush_ok, R.bind_ok]
        rcases loop2_ok (p1 := p1) (vs1 := vs1) (elt := elt) (e := e2) q.1 acc with ⟨ds, z⟩ | z
        · rw [z, R.bind_ok]; exact loop1_ok xs ds
        · rw [z]; exact .inr rfl
theorem rd_lc2 {K : PySem.W.Frag} {W : WD} {it it1 : DenL} {p p1 : Pt} {vs vs1 : List Nat} {elt : Den} {σ : L2.St} {H : Hp} {Q : VK} (hps : ∀ j ∈ p.slots, j ∈ vs) (hps1 : ∀ j ∈ p1.slots, j ∈ vs1) (hvv : ∀ j ∈ vs1, j ∈ vs) (h : RdF K W (fComp2 it p vs it1 p1 vs1 elt) σ H Q) :
    tLc2 (RdI K W it) (RdG K p) (RdT K (WF W.T) tT) (RdI K (WF W.T) it1) (RdG K p1) (RdT K (WF W.T) tT) (RdE K (WF W.T) elt) vs vs1 σ H Q := by
  obtain ⟨io, env, hr, h⟩ := h
  unfold fComp2 at h
  by_cases hown : ownless env = true
  · rw [if_pos hown] at h
    refine ⟨io, env, hr, Wp.bind h fun x J H1 q0 ev1 r1 wk h1 => ?_⟩
    clear q0
    obtain ⟨xs, env1⟩ := x
    dsimp only at ev1 r1 wk h1
    obtain ⟨rfl, xn1⟩ := ownless_eq hown ev1
    rcases loop1_ok (p := p) (vs := vs) (it1 := it1) (p1 := p1) (vs1 := vs1) (elt := elt) (env := env1) xs [] with ⟨out, hout⟩ | z
    · rw [hout, R.bind_ok] at h1
      intro L hL
      have x0 : Ext H1 (upd H1 L (.lst [])) := Ext.new hL
      have neL : ∀ b o, H1 b = some o → b ≠ L := fun b o q z => by rw [z, hL] at q; cases q
      -- what is kept on the way
      let KP : Hp → List D → List V → Prop := fun H2 acc vacc => XN H1 H2 ∧ (∀ b o, H1 b = some o → ∃ o', H2 b = some o') ∧ LamX.Tabs W.T H2 ∧ H2 L = some (.lst vacc) ∧ RpL K H2 acc vacc
      refine ⟨fun i m H2 => m = xs.length - i ∧ i ≤ xs.length ∧ ∃ acc vacc, KP H2 acc vacc ∧ loop1 p vs it1 p1 vs1 elt env1 (xs.drop i) acc = .ok out,
        ⟨_, rfl, Nat.zero_le _, [], [], ⟨x0.xn, fun b o q => ⟨o, x0 _ _ q⟩, r1.tab.ext x0, upd_same, RpL.nil⟩, hout⟩, ?_⟩
      rintro i m H2 ⟨rfl, hi, acc, vacc, ⟨k1, k2, k3, k4, k5⟩, hl1⟩
      have r2 : Rel K W.T io env1 σ H2 := r1.extN k1 k3
      obtain ⟨w1, w2, w3⟩ := wk H2 k1.fx
      by_cases hl : i < xs.length
      · rw [drop_cons hl] at hl1
        unfold loop1 at hl1
        obtain ⟨eA, hA, hl1⟩ := of_some' hl1
        obtain ⟨q, hq, hl1⟩ := hush_some hl1
        refine .inr ⟨w1 i hl, fun H' => ∃ acc vacc, KP H' acc vacc ∧ loop1 p vs it1 p1 vs1 elt env1 (xs.drop (i + 1)) acc = .ok out, fun H' ⟨acc, vacc, g1, g2⟩ => ⟨xs.length - (i + 1), by omega, rfl, hl, acc, vacc, g1, g2⟩, fun v H3 y => ?_⟩
        obtain ⟨x3, rp⟩ := w3 i xs[i] v H3 (by simp [hl]) y
        have r3 := r2.ext x3
        have hn : ¬ hasOwn env1 vs = true := ownless_has hown
        refine ⟨W.T, io, _, _, eA, r3.wiped hn, rp, hA, fun σA rA evA offA => ?_⟩
        have offs : ∀ j, j ∉ vs → σA[j]? = σ[j]? := fun j hj => by rw [offA.2 j fun z => hj (hps j z), wipe_out hj]
        have lenA : σA.length = σ.length := by rw [offA.1, wipe_length]
        have ownA : ownless eA = true := by
          unfold ownless
          rw [List.all_eq_true]
          intro s hs
          obtain ⟨j, hj⟩ := List.getElem?_of_mem hs
          cases s with
          | own d =>
            obtain ⟨_, o2, _⟩ := asg_out _ _ _ _ hA
            exact absurd (o2 j d hj) (ownless_get (ownless_wipe hown) j d)
          | _ => rfl
        refine ⟨wipe_eq lenA offs, io, eA, rA, fun b H4 e4 r4 p4 => ?_⟩
        subst p4
        obtain ⟨_, xn4⟩ := ownless_eq ownA e4
        refine iteT ⟨io, eA, r4, ?_⟩
        rw [hq]
        intro J1 H5 ev5 r5 wk5
        obtain ⟨qd, qe⟩ := q
        dsimp only at ev5 r5 wk5 hl1
        obtain ⟨rfl, xn5⟩ := ownless_eq ownA ev5
        obtain ⟨acc2, hacc2, hl1⟩ : ∃ acc2, loop2 p1 vs1 elt qe qd acc = .ok acc2 ∧ loop1 p vs it1 p1 vs1 elt env1 (xs.drop (i + 1)) acc2 = .ok out := by
          cases z : loop2 p1 vs1 elt qe qd acc with
          | stk => rw [z] at hl1; cases hl1
          | err c => rw [z] at hl1; cases hl1
          | ok a => rw [z] at hl1; exact ⟨a, rfl, hl1⟩
        have n25 : XN H2 H5 := (x3.xn.trans xn4).trans xn5
        have kp5 : KP H5 acc vacc := ⟨k1.trans n25, fun b o hb => by
            obtain ⟨o2, h2⟩ := k2 b o hb
            obtain ⟨o4, h4⟩ := e4.dom b o2 (x3 b o2 h2)
            exact ev5.dom b o4 h4, r5.tab, n25 _ _ k4 trivial, RpL.ext n25.fx _ _ k5⟩
        refine ⟨fun j k H6 => k = qd.length - j ∧ j ≤ qd.length ∧ FExt H5 H6 ∧ ∃ acc vacc, KP H6 acc vacc ∧ loop2 p1 vs1 elt qe (qd.drop j) acc = .ok acc2 ∧ Rel K W.T io qe σA H6,
          ⟨_, rfl, Nat.zero_le _, FExt.refl _, acc, vacc, kp5, hacc2, r5⟩, ?_⟩
        rintro j k H6 ⟨rfl, hj, x56, acc3, vacc3, ⟨l1, l2, l3, l4, l5⟩, hl2, r6⟩
        obtain ⟨u1, u2, u3⟩ := wk5 H6 x56
        by_cases hjl : j < qd.length
        · rw [drop_cons hjl] at hl2
          unfold loop2 at hl2
          obtain ⟨eB, hB, hl2⟩ := of_some' hl2
          obtain ⟨q2, hq2, hl3⟩ := hush_some (show ((elt eB).hush.bind fun q => if acc3.length < big then loop2 p1 vs1 elt qe (List.drop (j + 1) qd) (acc3 ++ [q.1]) else R.stk) = .ok acc2 from hl2)
          split at hl3
          · rename_i hbig
            refine .inr ⟨u1 j hjl, fun H' => FExt H5 H' ∧ ∃ acc vacc, KP H' acc vacc ∧ loop2 p1 vs1 elt qe (qd.drop (j + 1)) acc = .ok acc2 ∧ Rel K W.T io qe σA H', fun H' ⟨g0, acc, vacc, g1, g2, g3⟩ => ⟨qd.length - (j + 1), by omega, rfl, hjl, g0, acc, vacc, g1, g2, g3⟩, fun v2 H7 y2 => ?_⟩
            obtain ⟨x7, rp7⟩ := u3 j qd[j] v2 H7 (by simp [hjl]) y2
            have r7 := r6.ext x7
            refine ⟨W.T, io, _, _, eB, r7.wiped (ownless_has ownA), rp7, hB, fun σB rB evB offB => ?_⟩
            have offs2 : ∀ j, j ∉ vs1 → σB[j]? = σA[j]? := fun j hj => by rw [offB.2 j fun z => hj (hps1 j z), wipe_out hj]
            have ownB : ownless eB = true := by
              unfold ownless
              rw [List.all_eq_true]
              intro s hs
              obtain ⟨j, hj⟩ := List.getElem?_of_mem hs
              cases s with
              | own d =>
                obtain ⟨_, o2, _⟩ := asg_out _ _ _ _ hB
                exact absurd (o2 j d hj) (ownless_get (ownless_wipe ownA) j d)
              | _ => rfl
            refine ⟨wipe_eq (by rw [offB.1, wipe_length]) offs2, io, eB, rB, fun b H8 e8 r8 p8 => ?_⟩
            subst p8
            obtain ⟨_, xn8⟩ := ownless_eq ownB e8
            refine iteT ⟨io, eB, r8, ?_⟩
            rw [hq2]
            intro w H9 ev9 r9 p9
            obtain ⟨rfl, xn9⟩ := ownless_eq ownB (show EvE eB σB H8 q2.2 H9 from ev9)
            have n69 : XN H6 H9 := (x7.xn.trans xn8).trans xn9
            have L9 : H9 L = some (.lst vacc3) := n69 _ _ l4 trivial
            have hlen := l5.length
            have upL : ∀ b o, H9 b = some o → b ≠ L → upd H9 L (.lst (vacc3 ++ [w])) b = some o := fun b o hb n => by rw [upd_ne n]; exact hb
            have fx9 : FExt H9 (upd H9 L (.lst (vacc3 ++ [w]))) := fun b o hb f => upL b o hb fun z => by rw [z, L9] at hb; cases hb; exact f
            have t9 : LamX.Tabs W.T (upd H9 L (.lst (vacc3 ++ [w]))) := tabs_upd r9.tab fun o z => by rw [L9] at z; cases z; exact trivial
            have n1 : XN H1 (upd H9 L (.lst (vacc3 ++ [w]))) := fun b o hb ht => upL b o (n69 _ _ (l1 b o hb ht) ht) (neL b o hb)
            -- the slots lean on what was there ahead of the list
            refine ⟨vacc3, L9, big_lt (by omega), ?_, acc3 ++ [q2.1], vacc3 ++ [w], ⟨n1, fun b o hb => ?_, t9, upd_same, ?_⟩, hl3, ?_⟩
            · exact x56.trans (n69.fx.trans fx9)
            · obtain ⟨o2, h2⟩ := l2 b o hb
              obtain ⟨o8, h8⟩ := e8.dom b o2 (x7 b o2 h2)
              obtain ⟨o9, h9⟩ := ev9.dom b o8 h8
              exact ⟨o9, upL b o9 h9 (neL b o hb)⟩
            · exact RpL.append (RpL.ext (n69.fx.trans fx9) _ _ l5) (RpL.cons (Rp.ext fx9 _ _ p9) RpL.nil)
            · exact Rel.fxl ownA r6 (n69.fx.trans fx9) t9
          · cases hl3
        · have e : j = qd.length := by omega
          subst e
          rw [List.drop_length] at hl2
          cases hl2
          exact .inl ⟨u2, acc2, vacc3, ⟨l1, l2, l3, l4, l5⟩, hl1⟩
      · have e : i = xs.length := by omega
        subst e
        rw [List.drop_length] at hl1
        cases hl1
        refine .inl ⟨w2, h1 (.ref L) H2 (EvE.extN k1 k2) r2 ⟨L, rfl, free_back ev1.dom hL, .lst vacc, k4, k5⟩⟩
    · rw [z] at h1; exact (show False from h1).elim
  · rw [if_neg hown] at h; exact (show False from h).elim
section
variable {X : Cx} {W : WD} {fr : Bool} {elt tg iter tg1 iter1 : Expr} {scope : Scope} {own : List (Str × Nat)} {it it1 : DenL} {p p1 : Pt} {vs1 : List Nat} {fe : Den} {pos spos py : Pos} {y : Str} {i : Nat}
theorem df_comp2 (hN : X.N.Nodup) (hi : DI X W tg iter it) (ok : BlkOk X.N X.env.scope scope own) (hg : Bl X scope fun Y => DG Y tg p) (hi1 : Bl X scope fun Y => DI Y (WF W.T) tg1 iter1 it1) (hg1 : Bl X scope fun Y => DG Y tg1 p1) (he : Bl X scope fun Y => DE Y (WF W.T) elt fe)
    (hps : ∀ j ∈ p.slots, j ∈ own.map (·.2)) (hps1 : ∀ j ∈ p1.slots, j ∈ vs1) (hv : ∀ i ∈ vs1, i ∈ own.map (·.2)) (hc : X.calm = true := by rfl) (hs : ∀ x, foldedSetIterable iter X.env x = pure x := by intro _; rfl) (hs1 : ∀ env x, foldedSetIterable iter1 env x = pure x := by intro _ _; rfl) :
    DF X W (.ListComp elt [⟨tg, iter, [], 0⟩, ⟨tg1, iter1, [], 0⟩] scope pos) (fComp2 it p (own.map (·.2)) it1 p1 vs1 fe) :=
  pe_imp (pe_lc2 hc hN hi ok hv hg (fun _ _ _ _ _ => dts_nil) hi1 hg1 (fun _ _ _ _ _ => dts_nil) he hs hs1) fun σ H Q h => rd_lc2 hps hps1 hv h
end
end DL

/-! ## DLz -/
/-! DLz: dict(a tuple of pairs), get, d[k]; own things behind several targets; a thing frozen ahead of a statement. -/
namespace DL
open PySem PySem.Spec PyProof.Rows L2

/-! ### dict(t), t a tuple of pairs of ints, no first one twice -/
theorem valV_append_none {κ : Type} [DecidableEq κ] : ∀ {a b : List (κ × V)} {k : κ}, (∀ p ∈ a, p.1 ≠ k) → (∀ p ∈ b, p.1 ≠ k) → valV (a ++ b) k = none
  | [], [], _, _, _ => rfl
  | [], p :: b, k, _, h => by rw [List.nil_append, valV_neg (h p List.mem_cons_self)]; exact valV_append_none (a := []) (fun _ z => by cases z) fun q hq => h q (List.mem_cons_of_mem _ hq)
  | p :: a, b, k, h, h' => by rw [List.cons_append, valV_neg (h p List.mem_cons_self)]; exact valV_append_none (fun q hq => h q (List.mem_cons_of_mem _ hq)) h'
theorem merge_new : ∀ {more acc : List (Key × V)}, (more.map (·.1)).Nodup → (∀ p ∈ acc, ∀ q ∈ more, p.1 ≠ q.1) → mergeK acc more = acc ++ more
  | [], acc, _, _ => by simp [mergeK]
  | q :: more, acc, hn, hd => by
    obtain ⟨h1, h2⟩ := List.nodup_cons.mp hn
    have e : putK acc q.1 q.2 = acc ++ [q] := putK_new _ (by
      have := valV_append_none (a := acc) (b := []) (k := q.1) (fun p hp => hd p hp q List.mem_cons_self) (fun _ z => by cases z)
      rwa [List.append_nil] at this)
    show mergeK (putK acc q.1 q.2) more = _
    rw [e, merge_new h2 fun p hp r hr => ?_]
    · simp
    · rcases List.mem_append.mp hp with hp | hp
      · exact hd p hp r (List.mem_cons_of_mem _ hr)
      · rw [List.mem_singleton.mp hp]
        exact fun z => h1 (List.mem_map.mpr ⟨r, hr, z.symm⟩)
def adrOf : V → Addr
  | .ref a => a
  | _ => 0
section
variable {X : Cx} {pins : List (Addr × Obj)} {σ : L2.St} {H : Hp} {s : Shared}
theorem raw_pairs (I : Inv X pins σ H s) : ∀ {bs : List PrV}, (∀ b ∈ bs, PairAt X.K H b.1 b.2) →
    ∃ (prs : List (Key × Value)) (rw : List (Value × Value)), KV (bs.map fun b => kdV b.2) prs ∧ prs.length = bs.length ∧ rw.length = bs.length ∧
      ∀ (j : Nat) (k v : Value), rw[j]? = some (k, v) → ∃ (b : PrV) (key : Key), bs[j]? = some b ∧ prs[j]? = some (key, v) ∧ (∃ t, b.1 = .ref t ∧ s.heap.IsTuple t #[k, v]) ∧ (mixKind X.prog X.w).is key k = true
  | [], _ => ⟨[], [], .nil, rfl, rfl, fun j k v e => by simp at e⟩
  | b :: bs, h => by
    obtain ⟨prs, rw', h1, h2, h3, h4⟩ := raw_pairs I fun x hx => h x (List.mem_cons_of_mem _ hx)
    obtain ⟨t, et, hq⟩ := h b List.mem_cons_self
    obtain ⟨its, rv, ht, _⟩ := I.tuple hq
    obtain ⟨u, y, rfl, ru, ry⟩ := vals2 rv
    refine ⟨(.inl b.2.1, y) :: prs, (u, y) :: rw', .cons ⟨rfl, ry⟩ h1, by simp [h2], by simp [h3], fun j k v e => ?_⟩
    cases j with
    | zero =>
      have e' : (u, y) = (k, v) := Option.some.inj e
      cases e'
      exact ⟨b, .inl b.2.1, rfl, rfl, ⟨t, et, ht⟩, kV_is (k := .inl b.2.1) ru⟩
    | succ j => exact h4 j k v (by simpa using e)
end
def rDictT (K : PySem.W.Frag) : List V → Hp → VK → Prop := fun xs H Q => ∃ (a : Addr) (bs : List PrV), xs = [.ref a] ∧ TupAt true H a (bs.map (·.1)) ∧ (∀ b ∈ bs, PairAt K H b.1 b.2) ∧
  ∀ p, H p = none → Q (.ref p) (upd H p (.dK (mergeK [] (bs.map fun b => kdV b.2))))
theorem call_dictT {X : Cx} (hcalm : X.calm = true) : CallR X (.type "dict") (rDictT X.K) := by
  intro pins s σ H xs us Q I r h
  obtain ⟨a, bs, rfl, tat, hp, q⟩ := h
  obtain ⟨u, rfl, rx⟩ := vals1 r
  cases rx
  obtain ⟨o, ho, hdn⟩ := tat
  obtain ⟨g1, hz, its, rv, ⟨o2, g2, c2, n2, d2⟩⟩ := I.hok a _ ho
  rw [g1] at g2; cases g2
  obtain ⟨prs, rw', h1, h2, h3, h4⟩ := raw_pairs I hp
  have hlen := rv.length
  rw [List.length_map] at hz hlen
  refine PySem.call_dict_pairs (knd := mixKind X.prog X.w) (kvs := prs) (PairArg.tuple a its.toArray (fun j => adrOf ((bs.map (·.1)).getD j .non)) rw') (I.ok.hd hcalm) ⟨⟨o, n2, g1, c2, hdn, d2⟩, ?_, fun j k v e => ?_⟩ ⟨by rw [h2, h3], fun j k v e => ?_⟩ (by rw [h3]; exact hz) fun h' tk hd' k => ?_
  · rw [List.size_toArray, h3]; omega
  · obtain ⟨b, key, e1, e2, ⟨t, et, ht⟩, _⟩ := h4 j k v e
    have eb : (bs.map (·.1))[j]? = some (.ref t) := by rw [List.getElem?_map, e1, ← et]; rfl
    have ea : adrOf ((bs.map (·.1)).getD j .non) = t := by rw [List.getD_eq_getElem?_getD, eb]; rfl
    obtain ⟨w, ew, rw2⟩ := rv.get eb
    dsimp only
    rw [ea]
    cases (show w = Value.ref t from rw2)
    exact ⟨by simpa using ew, .inl ht⟩
  · obtain ⟨b, key, e1, e2, _, e4⟩ := h4 j k v e
    exact ⟨key, e2, e4⟩
  · have hm : (s.heap.objs.size == sysModules) = false := beq_eq_false_iff_ne.mpr (Nat.ne_of_gt I.big)
    have hl : (mergeK [] (bs.map fun b => kdV b.2)).length ≤ sizeLine := by
      refine Nat.le_trans (length_mergeK _ []) ?_
      rw [List.length_nil, Nat.zero_add, List.length_map]
      exact hz
    exact ⟨.ref s.heap.objs.size, _, I.laid (t' := tk) (fun b o e => k b o (by simp) e) (Nat.le_refl _) (show ObjOk X.prog X.w _ _ _ (.dK _) from ⟨hl, hm, merged [] prs, KV.merge h1 .nil, hd'⟩), rfl, q _ (I.hok.fresh (Nat.le_refl _))⟩
def prI (ds : List D) : Option (List (Int × Int)) := (prs ds).map fun l => l.map (·.2)
def pDict : List D → Option D
  | [.tup true ds] => (prI ds).bind fun ps => if (ps.map (·.1)).Nodup then some (.dk ps) else none
  | _ => none
theorem pr_dict {K : PySem.W.Frag} : PrF K (rDictT K) pDict := by
  intro H vs ds d r e Q k
  unfold pDict at e
  split at e
  · rename_i es
    obtain ⟨v, rfl, h⟩ := rp1 r
    obtain ⟨a, ws, rfl, h1, h2⟩ := rp_tup h
    unfold prI at e
    cases z : prs es with
    | none => rw [z] at e; cases e
    | some bs =>
      rw [z] at e
      have e : (if ((bs.map (·.2)).map (·.1)).Nodup then some (D.dk (bs.map (·.2))) else none) = some d := e
      split at e
      · rename_i hn
        cases e
        obtain ⟨tl, t1, t2, t3⟩ := prs_tri h2 z
        have ek : (bs.map (·.2)) = tl.map (fun t => t.2.2) := by rw [← t1, List.map_map]; rfl
        have em : mergeK [] ((tl.map (·.2)).map fun b => kdV b.2) = (bs.map (·.2)).map kdV := by
          rw [merge_new (acc := []) ?_ (fun _ z => by cases z), List.nil_append, ek, List.map_map, List.map_map]
          · rfl
          · rw [ek, List.map_map] at hn
            rw [List.map_map, List.map_map]
            rw [show ((fun x : Key × V => x.1) ∘ (fun b : PrV => kdV b.2)) ∘ (fun x : D × PrV => x.2) = (fun i : Int => (Sum.inl i : Key)) ∘ (((fun x : Int × Int => x.1) ∘ fun t : D × PrV => t.2.2)) from rfl, ← List.map_map]
            exact List.Pairwise.map _ (fun a b hab z => hab (Sum.inl.inj z)) hn
        refine ⟨a, tl.map (·.2), rfl, by rw [List.map_map]; exact t2 ▸ h1, fun b hb => ?_, fun p np => ?_⟩
        · obtain ⟨t, ht, rfl⟩ := List.mem_map.mp hb
          exact (t3 t ht).2
        · rw [em]
          exact k p _ (Ext.new np) np ⟨.dK _, upd_same, rfl⟩
      · cases e
  · cases e

/-! ### d.get(k, x), d[k] -/
def gtI (kvs : List (Int × Int)) (k : Int) : Option Int := (kvs.find? fun p => decide (p.1 = k)).map (·.2)
def gtT (kvs : List ((Int × Int) × Int)) (k : Int × Int) : Option Int := (kvs.find? fun p => decide (p.1 = k)).map (·.2)
theorem valV_dk (kvs : List (Int × Int)) (k : Int) : valV (kvs.map kdV) (.inl k) = (gtI kvs k).map V.int := by
  induction kvs with
  | nil => rfl
  | cons p r ih =>
    rw [List.map_cons]
    unfold gtI
    by_cases e : p.1 = k
    · rw [valV_pos (p := kdV p) (by unfold kdV; rw [e]), List.find?_cons_of_pos (by simp [e])]; rfl
    · rw [valV_neg (p := kdV p) (fun z => e (Sum.inl.inj z)), ih, List.find?_cons_of_neg (by simp [e])]; rfl
theorem valV_dt (kvs : List ((Int × Int) × Int)) (k : Int × Int) : valV (kvs.map tdV) [.inl k.1, .inl k.2] = (gtT kvs k).map V.int := by
  induction kvs with
  | nil => rfl
  | cons p r ih =>
    rw [List.map_cons]
    unfold gtT
    by_cases e : p.1 = k
    · rw [valV_pos (p := tdV p) (by unfold tdV; rw [e]), List.find?_cons_of_pos (by simp [e])]; rfl
    · rw [valV_neg (p := tdV p) (fun z => e (by
        have z : [Sum.inl p.1.1, Sum.inl p.1.2] = ([Sum.inl k.1, Sum.inl k.2] : List Key) := z
        injection z with z1 z2
        injection z2 with z2 _
        exact Prod.ext (Sum.inl.inj z1) (Sum.inl.inj z2))), ih, List.find?_cons_of_neg (by simp [e])]; rfl
def gtD (a k : D) : Option (Option Int) := match a, k with
  | .dk kvs, .int i => some (gtI kvs i)
  | .dt kvs, .tup false [.int i, .int j] => some (gtT kvs (i, j))
  | _, _ => none
def D.isD : D → Bool
  | .dk _ | .dt _ => true
  | _ => false
/-- of a dict that is handed in -/
def eGet (fa fk fx : Den) : Den := fun env => (fa env).bind fun x => if x.1.isD then (fk x.2).bind fun k => (fx k.2).bind fun y => (match gtD x.1 k.1, y.1 with
    | some o, .int i => .ok (.int (o.getD i), y.2)
    | _, _ => .stk) else .stk
def eGetI (fa fk : Den) : Den := e2 (fun a k => (gtD a k).bind fun o => o.map D.int) fa fk
theorem gtD_at {K : PySem.W.Frag} {H : Hp} {d k : D} {a : Addr} {y : V} {o : Option Int} (h : gtD d k = some o) (r : Rp K H d (.ref a)) (rk : Rp K H k y) : DGet H a y (o.map V.int) := by
  unfold gtD at h
  split at h
  · rename_i kvs i
    cases h
    simp only [Rp] at r
    obtain ⟨a', o', e, h1⟩ := r
    cases e
    exact .inl ⟨_, .inl i, .inr ⟨o', h1⟩, rp_int rk, (valV_dk _ _).symm⟩
  · rename_i kvs i j
    cases h
    simp only [Rp] at r
    obtain ⟨a', o', e, h1⟩ := r
    cases e
    obtain ⟨b, vs, rfl, g1, g2⟩ := rp_tup rk
    obtain ⟨x, z, rfl, e1, e2⟩ := rp2 g2
    rw [rp_int e1, rp_int e2] at g1
    exact .inr ⟨_, [.inl i, .inl j], b, .inr ⟨o', h1⟩, rfl, g1, (valV_dt _ (i, j)).symm⟩
  · cases h
theorem isD_at' {K : PySem.W.Frag} {H : Hp} {d : D} {v : V} (h : d.isD = true) (r : Rp K H d v) : ∃ a, v = .ref a ∧ IsD H a := by
  cases d <;> first
    | cases h; done
    | (simp only [Rp] at r
       obtain ⟨a, o, rfl, h1⟩ := r
       first
         | exact ⟨a, rfl, .inl ⟨_, .inr ⟨o, h1⟩⟩⟩
         | exact ⟨a, rfl, .inr ⟨_, .inr ⟨o, h1⟩⟩⟩)
section
variable {X : Cx} {W : WD} {o e f i : Expr} {apos cpos pos : Pos} {fa fk fx : Den}
theorem de_get (hu : X.A.units + 1 < cLine) (ho : DE X W o fa) (he : DE X W e fk) (hf : DE X W f fx) (m : M2 X o "get" apos e f cpos) : DE X W (.Call (.Attribute o "get" apos) [e, f] [] cpos) (eGet fa fk fx) := by
  refine pe_imp (pe_dget2 hu ho he hf m) fun σ H Q h => ?_
  obtain ⟨io, env, hr, h⟩ := h
  refine ⟨io, env, hr, Wp.bind h fun x v H1 q0 e1 r1 p1 h1 => ?_⟩
  clear q0
  by_cases hd : x.1.isD = true
  · rw [if_pos hd] at h1
    obtain ⟨a, rfl, hD⟩ := isD_at' hd p1
    refine ⟨a, rfl, hD, io, x.2, r1, Wp.bind h1 fun k kv H2 q1 ev2 r2 p2 h2 => ⟨io, k.2, r2, Wp.bind h2 fun y yv H3 q3 ev3 r3 p3 h3 => ?_⟩⟩
    clear q1 q3
    split at h3
    · rename_i o' i' z1 z2
      rw [z2] at p3
      refine ⟨_, gtD_at z1 (Rp.ext ((r1.fx ev2).trans (r2.fx ev3)) _ _ p1) (Rp.ext (r2.fx ev3) _ _ p2), h3 _ H3 (EvE.refl _ _ _) r3 ?_⟩
      rw [rp_int p3]
      cases o' <;> simp [Rp]
    · exact (show False from h3).elim
  · rw [if_neg hd] at h1; exact (show False from h1).elim
theorem de_getI (hu : X.A.units + 1 < cLine) (ho : DE X W o fa) (he : DE X W i fk) (hs : NoSl i) : DE X W (.Subscript o i pos) (eGetI fa fk) := by
  refine pe_imp (pe_dget hu ho he hs) fun σ H Q h => ?_
  obtain ⟨io, env, hr, h⟩ := h
  refine ⟨io, env, hr, Wp.bind h fun x v H1 q0 e1 r1 p1 h1 => ⟨io, x.2, r1, Wp.bind h1 fun k kv H2 q1 ev2 r2 p2 h2 => ?_⟩⟩
  clear q0 q1
  dsimp only at h2
  cases z : gtD x.1 k.1 with
  | none => rw [z] at h2; exact (show False from h2).elim
  | some o' =>
    rw [z] at h2
    cases o' with
    | none => exact (show False from h2).elim
    | some n =>
      have p1 := Rp.ext (r1.fx ev2) _ _ p1
      have hd : x.1.isD = true := by
        unfold gtD at z
        split at z
        · rename_i w _; rw [w]; rfl
        · rename_i w _; rw [w]; rfl
        · cases z
      obtain ⟨a, rfl, hD⟩ := isD_at' hd p1
      exact ⟨a, .int n, rfl, gtD_at z p1 p2, h2 _ H2 (EvE.refl _ _ _) r2 (by simp [Rp])⟩
end
end DL

/-! ## DLk -/
/-! DLk: defs that make lambdas, own exceptions, the head with tables. -/
namespace DL
open PySem PySem.Spec PyProof.Rows L2

theorem hu65 {k : Nat} {A : Around} (hr : Room k A) : A.units + 65 < cLine := by have := hr.un; omega
/-! ### own exceptions -/
theorem topX_of {K : PySem.W.Frag} {h : Heap} {mg : Str → Option Value} {x : Str} (X : K.In h) (G : h.Ns mainGlobals mg) (c : (He.Fa.exc x).ok K = true) (g : (He.Fa.glo x).ok K = true) : TopX K mg x := by
  obtain ⟨c1, c2⟩ := He.ba c
  obtain ⟨c2, c3⟩ := He.ba c2
  obtain ⟨c3, c4⟩ := He.ba c3
  exact ⟨_, He.glo_ok X G g, c1, c2, of_decide_eq_true c3, of_decide_eq_true c4⟩
theorem ds_raiseT {X : Cx} {W : WD} {fr : Bool} {x m : Str} {j : Nat} {p p2 pos pos' : Pos} (hc : X.calm = true) (tk : L2N.Takes X (WT X.mg W)) (T : TopX X.K X.mg x) (hg : Gl X x) (hdb : (x == ("__debug__" : Str)) = false := by decide) :
    DS X W fr (.Raise (some (.Call (.Name x p) [.Constant (.str m) j p2] [] pos)) none pos') (sErr x) :=
  let ⟨C, h1, h2, h3, h4, h5⟩ := T.ex
  ds_raise hc tk PySem.F.excBase_ValueError h2 h1 h3 (raises_own h4 h5) hg hdb

/-! ### a def whose code object is known -/
section
variable {P : Program} {w : World} {K : PySem.W.Frag} {T : List (Addr × Str)} {mg : Str → Option Value} {base : Heap}
/-- Fun.okX, the code object's value told -/
theorem okC {x qual : Str} {st : Stmt} {f : Addr} {fd : FuncData} {N ps : List Str} {k : Nat} {sp : Sp} (F : Fun K x qual st f fd) (S : FnScope N ps (defScope st)) (len : ∀ vs H Q E, sp vs H Q E → vs.length = ps.length)
    (hbody : ∀ (cdv : Value), fd.code = cdv → ∀ (A : Around) (outer : List Env) (s : Shared) (H : Hp) (vs : List V) (Q : VK) (E : XK), Room k (A.deeper (envOfC qual (defScope st) s.heap.objs.size f cdv)) → sp vs H Q E →
      ∃ t, PSs (cxOf (L2N.CX P w) P w K mg base N qual (defScope st) f cdv A outer s H E) (defBody st) t ∧ t { nx := fun _ H' => Q .non H', rt := Q } (L2.start N vs) H) : FnOk P w K mg base (L2N.CX P w) (k + 1) f fd ps sp := by
  obtain ⟨_, _, _, _, _, _, _, _, _, rfl, lk, hcd⟩ := F.ex
  exact fn_of lk hcd S len fun A outer s H vs Q E hr hsp => hbody _ rfl A outer s H vs Q E hr hsp
/-- from the promise to the reading of the body -/
theorem den_start {N ps : List Str} {io fr : Bool} {body : DenS} {vs : List V} {H : Hp} {Q : VK} {E : XK} (pre : ps.length ≤ N.length) (hsp : spD K T mg io fr ps.length (runF io fr (N.length - ps.length) body) vs H Q E) :
    RdS K (WE T mg E) fr body { nx := fun _ H' => Q .non H', rt := Q } (L2.start N vs) H := by
  obtain ⟨hv, hT, ds, ha, q⟩ := hsp
  have hpl := pre
  obtain ⟨ia, r, own, hio⟩ := rel_start (N := N) hv hpl hT ha
  refine ⟨ia, _, r, ?_⟩
  unfold runF at q
  have evc : ∀ {env' : En} {σ' : L2.St} {H' : Hp}, Ev (startE io ds (N.length - ps.length)) (L2.start N vs) H env' σ' H' → EvC io vs H H' := fun ev => ⟨fun b o hb ht hn => (ev.kp b o hb fun z => let ⟨z1, z2⟩ := own b z; hn z1 z2).1 ht, ev.dom⟩
  have out : ∀ {env' : En} {σ' : L2.St} {H' : Hp}, Rel K T ia env' σ' H' → OutOk K io vs H' (outE io env') := fun {env' σ' H'} rr hz => by
    obtain ⟨a, e1, e2⟩ := hio hz
    obtain ⟨g1, d, g2⟩ := rr.io a e1
    obtain ⟨b, g3, g4, g5⟩ := rr.own 0 d g2
    rw [g1] at g3; cases g3
    refine ⟨a, e2, ?_⟩
    unfold outE
    rw [g2]
    show ROwn K H' (if io = true then d else .non) a ∧ D.fl (if io = true then d else .non) = true
    rw [if_pos hz]
    exact ⟨g4, g5⟩
  cases z : body (startE io ds (N.length - ps.length)) with
  | stk => rw [z] at q; exact q
  | err c =>
    rw [z] at q
    exact fun env' σ' H' ev t' C hC => q C H' hC (evc ev) t'
  | ok o =>
    rw [z] at q
    obtain ⟨fl, env'⟩ := o
    cases fl with
    | brk => exact (show False from q).elim
    | cnt => exact (show False from q).elim
    | nx =>
      cases fr with
      | true => exact (show False from q).elim
      | false => exact fun σ' H' ev rr => q .non H' (evc ev) rr.tab (out rr) (by rw [if_neg (by decide)]; simp [Rp])
    | ret d =>
      intro v σ' H' ev rr ro
      refine q v H' (evc ev) rr.tab (out rr) ?_
      unfold RetOk at ro
      cases fr with
      | false => exact ro
      | true =>
        rw [if_pos rfl] at ro ⊢
        obtain ⟨a, e1, e2, e3⟩ := ro
        refine ⟨a, e1, ?_, e2⟩
        rcases e3 with e3 | ⟨e3, e4⟩
        · exact e3
        · obtain ⟨z1, z2⟩ := own a e3
          obtain ⟨b, z3, z4⟩ := hio z1
          rw [z2] at z4; cases z4
          exact absurd z3 e4
theorem scope_le {N ps : List Str} {sc : Scope} (S : FnScope N ps sc) : ps.length ≤ N.length := by have := congrArg List.length S.pre; rw [List.length_take] at this; omega
theorem den_okC {x qual : Str} {st : Stmt} {f : Addr} {fd : FuncData} {N ps : List Str} {k : Nat} (io fr : Bool) {body : DenS} (F : Fun K x qual st f fd) (S : FnScope N ps (defScope st))
    (h : ∀ (cdv : Value), fd.code = cdv → ∀ (A : Around) (outer : List Env) (s : Shared) (H : Hp) (E : XK), Room k (A.deeper (envOfC qual (defScope st) s.heap.objs.size f cdv)) →
      L2N.Takes (cxOf (L2N.CX P w) P w K mg base N qual (defScope st) f cdv A outer s H E) (WT mg (WE T mg E)) → DSs (cxOf (L2N.CX P w) P w K mg base N qual (defScope st) f cdv A outer s H E) (WE T mg E) fr (defBody st) body) :
    FnOk P w K mg base (L2N.CX P w) (k + 1) f fd ps (spD K T mg io fr ps.length (runF io fr (N.length - ps.length) body)) :=
  okC F S (fun vs H Q E q => q.1) fun cdv hc A outer s H vs Q E hr hsp => ⟨_, h cdv hc A outer s H E hr (tk_def (X := cxOf (L2N.CX P w) P w K mg base N qual (defScope st) f cdv A outer s H E) (L2N.takes_of rfl rfl rfl rfl)), den_start (scope_le S) hsp⟩
/-! ### the law's def: the script may stand free -/
theorem pss_lock {X : Cx} {b : List Stmt} {t : TS} (h : PSs X b t) : PSs X b (fun D σ H => t D σ H ∨ ∃ l u, H l = some u ∧ Mut (some u) ∧ ∀ od, t D σ (upd H l (.frz od u))) := ⟨fun pins s σ H D I q => by
  rcases q with q | ⟨l, u, e, m, q⟩
  · exact h.run pins s σ H D I q
  · obtain ⟨od, I2⟩ := I.lock e m
    exact h.run pins s σ _ D I2 (q od)⟩
def spL (K : PySem.W.Frag) (T : List (Addr × Str)) (mg : Str → Option Value) (F : DenF) : Sp := fun vs H Q E => vs.length = 1 ∧ (spD K T mg false false 1 F vs H Q E ∨ ∃ a xs, H a = some (.lst xs) ∧ ∀ od, spD K T mg false false 1 F vs (upd H a (.frz od (.lst xs))) Q E)
theorem den_okL {x qual p : Str} {st : Stmt} {f : Addr} {fd : FuncData} {N : List Str} {k : Nat} {body : DenS} (F : Fun K x qual st f fd) (S : FnScope N [p] (defScope st))
    (h : ∀ (cdv : Value), fd.code = cdv → ∀ (A : Around) (outer : List Env) (s : Shared) (H : Hp) (E : XK), Room k (A.deeper (envOfC qual (defScope st) s.heap.objs.size f cdv)) →
      L2N.Takes (cxOf (L2N.CX P w) P w K mg base N qual (defScope st) f cdv A outer s H E) (WT mg (WE T mg E)) → DSs (cxOf (L2N.CX P w) P w K mg base N qual (defScope st) f cdv A outer s H E) (WE T mg E) false (defBody st) body) :
    FnOk P w K mg base (L2N.CX P w) (k + 1) f fd [p] (spL K T mg (runF false false (N.length - 1) body)) :=
  okC F S (fun vs H Q E q => q.1) fun cdv hc A outer s H vs Q E hr hsp => ⟨_, pss_lock (h cdv hc A outer s H E hr (tk_def (X := cxOf (L2N.CX P w) P w K mg base N qual (defScope st) f cdv A outer s H E) (L2N.takes_of rfl rfl rfl rfl))), by
    rcases hsp.2 with q | ⟨a, xs, e, q⟩
    · exact .inl (den_start (ps := [p]) (scope_le S) q)
    · exact .inr ⟨a, _, e, trivial, fun od => den_start (ps := [p]) (scope_le S) (q od)⟩⟩
theorem spL_law {F : DenF} {H : Hp} {a : Addr} {ns : List Int} (hT : LamX.Tabs T H) (hS : SqL K H a (ns.map V.int)) (hF : ∃ d, F [.lst (ns.map D.int)] = .ok (.bl true, d)) :
    spL K T mg F [.ref a] H (fun v _ => v = .bl true) fun _ _ _ => False := by
  refine ⟨rfl, ?_⟩
  by_cases z : ∃ xs, H a = some (.lst xs)
  · obtain ⟨xs, z⟩ := z
    refine .inr ⟨a, xs, z, fun od => ?_⟩
    have hx : xs = ns.map V.int ∨ ∃ o, K.lookup a = some o := by
      rcases hS with (h | ⟨o, h⟩) | h
      · rw [z] at h; cases h; exact .inl rfl
      · rw [z] at h; cases h
      · obtain ⟨o, _, _, h, _⟩ := h; exact .inr ⟨_, h⟩
    refine spD_law (fun p hp => ?_) (fun ys h => ?_) ?_ hF
    · obtain ⟨ps, e1, e2, e3⟩ := hT p hp
      have ne : p.1 ≠ a := fun q => by rw [q, z] at e1; cases e1
      refine ⟨ps, by rw [upd_ne ne]; exact e1, e2, fun pos cv hc => ?_⟩
      obtain ⟨c, h1, h2⟩ := e3 pos cv hc
      have nc : c ≠ a := fun q => by rw [q, z] at h2; cases h2
      exact ⟨c, h1, by rw [upd_ne nc]; exact h2⟩
    · rw [upd_same] at h; cases h
    · rcases hS with (h | ⟨o, h⟩) | h
      · rw [z] at h; cases h
        exact .inl (.inr ⟨od, upd_same⟩)
      · rw [z] at h; cases h
      · exact .inr h
  · exact .inl (spD_law hT (fun xs h => z ⟨xs, h⟩) hS hF)
/-! ### lambdas' tables -/
/-- the def's own table of code objects -/
def LamHyp (mg : Str → Option Value) (base : Heap) (T : List (Addr × Str)) (q : Str) (fd : FuncData) : Prop := ∀ cdv, fd.code = cdv → ∃ c P, cdv = .ref c ∧ LamX.TabB base mg c P ∧ (P, q) ∈ T ∧ ∀ p ∈ T, p.1 = P → p.2 = q
def tabsK (K : PySem.W.Frag) (tq : List (He.Defn × Str)) : List (Addr × Str) := tq.map fun p => ((He.cT K p.1).2, p.2)
def tabsEx (tq : List (He.Defn × Str)) (K : PySem.W.Frag) : Bool := decide ((tq.map fun p => (He.cT K p.1).2).Nodup)
theorem nodup_key {α β : Type} [DecidableEq α] {l : List β} {f : β → α} (h : (l.map f).Nodup) {x y : β} (hx : x ∈ l) (hy : y ∈ l) (e : f x = f y) : x = y := by
  induction l with
  | nil => cases hx
  | cons z t ih =>
    have h1 : f z ∉ t.map f := (List.nodup_cons.mp h).1
    have h2 : (t.map f).Nodup := (List.nodup_cons.mp h).2
    cases hx with
    | head =>
      cases hy with
      | head => rfl
      | tail _ hy => exact absurd (List.mem_map.mpr ⟨y, hy, e.symm⟩) h1
    | tail _ hx =>
      cases hy with
      | head => exact absurd (List.mem_map.mpr ⟨x, hx, e⟩) h1
      | tail _ hy => exact ih h2 hx hy
theorem lamHyp {tq : List (He.Defn × Str)} {x qual q : Str} {st : Stmt} {fd : FuncData} {p : He.Defn} (F : Fun K x qual st (He.fAd K p) fd) (ex : tabsEx tq K = true) (hp : (p, q) ∈ tq)
    (TB : ∀ c ∈ tq.map (fun p => He.cT K p.1), LamX.TabB base mg c.1 c.2) : LamHyp mg base (tabsK K tq) q fd := by
  intro cdv hc
  obtain ⟨oc, od, kV, doc, pm, an, cd, ct, osl, e, lk, hcd⟩ := F.ex
  have hcode : fd.code = cd := by rw [e]
  obtain ⟨c, hcr⟩ := He.codeIn_ref hcd
  have e1 : He.codeOf K p = c := He.codeOf_eq lk (hcode.trans hcr)
  refine ⟨(He.cT K p).1, (He.cT K p).2, ?_, TB _ (List.mem_map.mpr ⟨_, hp, rfl⟩), List.mem_map.mpr ⟨_, hp, rfl⟩, fun r hr z => ?_⟩
  · rw [← hc, hcode, hcr]; exact congrArg Value.ref e1.symm
  · obtain ⟨r', hr', rfl⟩ := List.mem_map.mp hr
    have := nodup_key (of_decide_eq_true ex) hr' hp z
    rw [this]
end
/-! ### the head -/
theorem walk_T {l : PySem.W.OpenLaw} {n k : Nat} {q : Program} {loose : List Str} {XP : (Str → Option Value) → Heap → Prop} {d : DefRec} {x : Str} {g : Nat} {fa : List He.Fa} {fn : List He.DefD} {tq : List (He.Defn × Str)} {ex : PySem.W.Frag → Bool} {F : DenF}
    (hn : l.most = some n) (hn2 : n ≤ sizeLine) (hdf : d.params.defaults = []) (hr : Room k callerA)
    (hF : ∀ ns : List Int, ns.length ≤ n → ∃ d, F [.lst (ns.map D.int)] = .ok (.bl true, d))
    (G : ∀ (w : World) (mg : Str → Option Value) (f : Addr) (h : Heap) (K : PySem.W.Frag), K.In h → He.SaysD fa fn K → ex K = true → h.Ns mainGlobals mg → mg d.name = some (.ref f) →
      ∃ fd : FuncData, (∀ (s : Shared) (u : Value), BindsTo s fd ⟨[u], []⟩ [(x, u)]) ∧
        ∀ base : Heap, K.In base → base.Ns mainGlobals mg → (∀ p ∈ tq.map (fun p => He.cT K p.1), LamX.TabB base mg p.1 p.2) → FnOk l.prog w K mg base (L2N.CX l.prog w) k f fd [x] (spL K (tabsK K tq) mg F)) :
    PySem.W.WalkO q loose XP (He.hookX g fa fn [] (tq.map (·.1)) ex).says l.row.toRowW d [] (fun f vs => PySem.call f vs) := by
  refine LamX.walk_ofTsE (CX := L2N.CX l.prog) (x := x) hn hn2 hdf hr (fun w mg f h Y hns hmg => ?_) fun w H s e s' h => ?_
  · obtain ⟨K, KX, c⟩ := Y
    obtain ⟨fd, hb, hF2⟩ := G w mg f h K KX c.t.d c.more hns hmg
    have mem : ∀ {p : Addr × Addr}, p ∈ tq.map (fun p => He.cT K p.1) → ∃ t ∈ tq.map (·.1), He.cT K t = p := fun {p} hp => by
      obtain ⟨t, ht, e⟩ := List.mem_map.mp hp
      exact ⟨t.1, List.mem_map.mpr ⟨t, ht, rfl⟩, e⟩
    refine ⟨K, KX, fd, tq.map (fun p => He.cT K p.1), _, fun p hp => ?_, fun p hp => ?_, fun p hp => ?_, hb, fun H a ns hl _ hH hS => ?_, hF2⟩
    · obtain ⟨t, ht, rfl⟩ := mem hp; exact c.empty t ht
    · obtain ⟨t, ht, rfl⟩ := mem hp; exact c.out t ht
    · obtain ⟨t, ht, rfl⟩ := mem hp; exact PySem.W.codeHd_of_K KX (c.hd t ht)
    · refine spL_law (fun p hp => ?_) hS (hF ns hl)
      obtain ⟨t, ht, rfl⟩ := List.mem_map.mp hp
      exact .nil (hH _ (List.mem_map.mpr ⟨t, ht, rfl⟩))
  · obtain ⟨_, _, _, _, _, _, _, _, _, _, _, _, z⟩ := h
    exact z
end DL

/-! ## DLi -/
/-! DLi: within an except suite: zip of two lists, a pair's two names, a list comprehension. -/
namespace DL
open PySem PySem.Spec PyProof.Rows L2
/-! ### the ends of iterators -/
section
variable {prog : Program} {w : World} {A : Around} {E : Value → Shared → Prop} {s : Shared}
theorem nextOf_list_end_hot {it l x1 : Addr} {i : Nat} {items : Array Value} {Q : Value → Shared → Prop} (hot : HotX.HotAt A x1 s.heap) (hx1 : x1 ≠ it)
    (hit : s.heap.IsListIter it l i) (hl : s.heap.IsList l items) (hx : items[i]? = none)
    (hE : ∀ h' e, Heap.ExtBut it s.heap h' → (∃ o, h'.get? e = some o ∧ o.cls = .type "StopIteration") → E (.ref e) { s with heap := h' }) :
    wpAny (model prog w) A (Builtin.SmallTypes.nextOf (.ref it)) Q E s := by
  obtain ⟨hh, o1, vs1, h1, d1, c1⟩ := hot
  obtain ⟨o, ho, hc, hd⟩ := id hit
  obtain ⟨ol, hol, _, nl, hdl⟩ := hl
  unfold Builtin.SmallTypes.nextOf
  refine wpAny_bind (wpAny_callSpecial?_slot (name := Str.ofString "__next__") hit.typeIs slot_listiter_next
    (wpAny_call_entry slot_listiter_next hit.typeIs entry_listiter_next ?_ (args_listiter_next _)))
  show wpAny _ _ (field (.ref it) 0 >>= _) _ _ s
  refine wpAny_bind (wpAny_field ho hd (x := .ref l) rfl ?_)
  show wpAny _ _ (if (Value.ref l == Value.none) = true then _ else _) _ _ s
  rw [if_neg (show ¬ ((Value.ref l == Value.none) = true) from Bool.false_ne_true)]
  show wpAny _ _ (field (.ref it) 1 >>= _) _ _ s
  refine wpAny_bind (wpAny_field ho hd (x := .int i 0) rfl ?_)
  show wpAny _ _ (seqItems? (.ref l) >>= _) _ _ s
  refine wpAny_bind (wpAny_seqItems hol hdl ?_)
  simp only [Int.toNat_natCast, hx]
  refine wpAny_bind (wpAny_rule (wpAny_bind (wpAny_setField ho hd (by simp) ?_)))
  show wpAny _ _ (newExc (.type "StopIteration") [] >>= _) _ _ _
  refine wpAny_bind ?_
  simp only [newExc, newTuple]
  refine wpAny_bind (wpAny_newObj_type ?_ (by size_fits))
  refine wpAny_bind (m := firstArgMember _ _) (wpAny_of_eq (a := Value.none) (by first | rfl | (simp only [firstArgMember]; rfl)) ?_)
  refine wpAny_newObj_type ?_ (by size_fits)
  have u1 := fun (f : Obj → Obj) => (Heap.get?_update_other s.heap f (Ne.symm hx1)).trans h1
  refine HotX.raiseNew_hot ⟨hh, o1, vs1, Heap.get?_push_of_some _ (Heap.get?_push_of_some _ (u1 _)), d1, c1⟩ (Nat.ne_of_lt (Heap.lt_size (Heap.get?_push_of_some _ (u1 _)))) (Heap.get?_push_size _ rfl) rfl (by first | (simp; done) | (simp; omega) | (simp only [Array.size_append]; simp; omega)) ?_
  refine hE _ _ (fun b ob hb e => ?_) ⟨_, Heap.get?_update_self _ (Heap.get?_push_size _ rfl) rfl, rfl⟩
  refine (Heap.get?_update_other _ _ (Nat.ne_of_gt (Heap.lt_size (Heap.get?_push_of_some _ ((Heap.get?_update_other s.heap _ (Ne.symm hb)).trans e))))).trans ?_
  exact Heap.get?_push_of_some _ (Heap.get?_push_of_some _ ((Heap.get?_update_other s.heap _ (Ne.symm hb)).trans e))
theorem pyNext_tuple_end_hot {it t x1 : Addr} {i : Nat} {items : Array Value} {Q : Option Value → Shared → Prop} (hot : HotX.HotAt A x1 s.heap) (hx1 : x1 ≠ it)
    (hit : s.heap.IsTupleIter it t i) (ht : s.heap.IsTuple t items) (hx : items[i]? = none)
    (hQ : ∀ h', Heap.ExtBut it s.heap h' → Q none { s with heap := h' }) : wpAny (model prog w) A (pyNext (.ref it)) Q E s := by
  obtain ⟨hh, o1, vs1, h1, d1, c1⟩ := hot
  obtain ⟨o, ho, hc, hd⟩ := id hit
  obtain ⟨ol, hol, _, nl, hdl⟩ := ht
  unfold pyNext
  refine wpAny_bind (wpAny_attempt (wpAny_callSpecial?_slot (name := Str.ofString "__next__") hit.typeIs F.slot_tuple_iterator_next
    (wpAny_call_entry F.slot_tuple_iterator_next hit.typeIs F.entry_tuple_iterator_next ?_ (F.args_tuple_iterator_next_1 _))))
  show wpAny _ _ (field (.ref it) 0 >>= _) _ _ s
  refine wpAny_bind (wpAny_field ho hd (x := .ref t) rfl ?_)
  show wpAny _ _ (if (Value.ref t == Value.none) = true then _ else _) _ _ s
  rw [if_neg (show ¬ ((Value.ref t == Value.none) = true) from Bool.false_ne_true)]
  show wpAny _ _ (field (.ref it) 1 >>= _) _ _ s
  refine wpAny_bind (wpAny_field ho hd (x := .int i 0) rfl ?_)
  show wpAny _ _ (seqItems? (.ref t) >>= _) _ _ s
  refine wpAny_bind (wpAny_seqItems hol hdl ?_)
  simp only [Int.toNat_natCast, hx]
  refine wpAny_bind (wpAny_rule (wpAny_bind (wpAny_setField ho hd (by simp) ?_)))
  show wpAny _ _ (newExc (.type "StopIteration") [] >>= _) _ _ _
  refine wpAny_bind ?_
  simp only [newExc, newTuple]
  refine wpAny_bind (wpAny_newObj_type ?_ (by size_fits))
  refine wpAny_bind (m := firstArgMember _ _) (wpAny_of_eq (a := Value.none) (by first | rfl | (simp only [firstArgMember]; rfl)) ?_)
  refine wpAny_newObj_type ?_ (by size_fits)
  have u1 := fun (f : Obj → Obj) => (Heap.get?_update_other s.heap f (Ne.symm hx1)).trans h1
  refine HotX.raiseNew_hot ⟨hh, o1, vs1, Heap.get?_push_of_some _ (Heap.get?_push_of_some _ (u1 _)), d1, c1⟩ (Nat.ne_of_lt (Heap.lt_size (Heap.get?_push_of_some _ (u1 _)))) (Heap.get?_push_size _ rfl) rfl (by first | (simp; done) | (simp; omega) | (simp only [Array.size_append]; simp; omega)) ?_
  refine wpAny_bind (wpAny_isInstance (T := "StopIteration") (b := true) ⟨_, Heap.get?_update_self _ (Heap.get?_push_size _ rfl) rfl, rfl⟩ isSubtype_stop ?_)
  refine wpAny_pure (hQ _ fun b ob hb e => ?_)
  refine (Heap.get?_update_other _ _ (Nat.ne_of_gt (Heap.lt_size (Heap.get?_push_of_some _ ((Heap.get?_update_other s.heap _ (Ne.symm hb)).trans e))))).trans ?_
  exact Heap.get?_push_of_some _ (Heap.get?_push_of_some _ ((Heap.get?_update_other s.heap _ (Ne.symm hb)).trans e))
theorem HotAt.kept {x1 : Addr} {h h' : Heap} (hot : HotX.HotAt A x1 h) (k : ∀ o, h.get? x1 = some o → h'.get? x1 = some o) : HotX.HotAt A x1 h' := by
  obtain ⟨hh, o1, vs1, h1, d1, c1⟩ := hot
  exact ⟨hh, o1, vs1, k _ h1, d1, c1⟩
theorem HotAt.lt {x1 : Addr} {h : Heap} (hot : HotX.HotAt A x1 h) : x1 < h.objs.size := by
  obtain ⟨hh, o1, vs1, h1, d1, c1⟩ := hot
  exact Heap.lt_size h1
theorem unpackItems_hot {t x1 : Addr} {items : Array Value} {Q : List Value → Shared → Prop} (hot : HotX.HotAt A x1 s.heap) (ht : s.heap.IsTuple t items)
    (hQ : ∀ h', Heap.ExtBut s.heap.objs.size s.heap h' → Q items.toList { s with heap := h' }) : wpAny (model prog w) A (unpackItems (.ref t) items.size none) Q E s := by
  have hlt : t ≠ s.heap.objs.size := by obtain ⟨o, ho, _⟩ := ht; exact Nat.ne_of_lt (Heap.lt_size ho)
  have h1 : x1 ≠ s.heap.objs.size := Nat.ne_of_lt (HotAt.lt hot)
  unfold unpackItems
  refine wpAny_bind ?_
  · unfold notIterableAtAll
    refine wpAny_bind (wpAny_specialOf ht.typeIs F.slot_tuple_iter.lookup ?_)
    refine wpAny_pure ?_
    simp only [Bool.false_eq_true, if_false]
    refine wpAny_bind (wpAny_holding (wpAny_pyIter_tuple ht ?_))
    refine wpAny_bind (wpAny_holding (wpAny_draw_tuple hlt items.size 0 _ _ ⟨_, Heap.get?_push_size _ rfl, rfl, rfl⟩ (ht.push _) (by omega) fun h₁ hit₁ hs₁ => ?_))
    have hall : List.take items.size (List.drop 0 items.toList) = items.toList := by
      rw [List.drop_zero]; exact List.take_of_length_le (by simp)
    rw [hall]
    rw [if_neg (by simp)]
    have ht₁ : h₁.IsTuple t items := (ht.push _).extBut hs₁.extBut hlt
    have hot₁ : HotX.HotAt A x1 h₁ := HotAt.kept hot fun o e => hs₁.extBut _ _ h1 (Heap.get?_push_of_some _ e)
    refine wpAny_bind (wpAny_holding (pyNext_tuple_end_hot (s := { s with heap := h₁ }) hot₁ h1 hit₁ ht₁ (by simp) fun h₂ he₂ => ?_))
    simp only [Option.isSome_none, Bool.false_eq_true, if_false]
    refine wpAny_pure (hQ h₂ fun b o hb e => he₂ b o hb (hs₁.extBut b o hb (Heap.get?_push_of_some _ e)))
theorem assign_Tuple_hot {env : Env} {elts : List Expr} {k : Nat} {pos : Pos} {t x1 : Addr} {items : Array Value} {Q : Unit → Shared → Prop} (hot : HotX.HotAt A x1 s.heap) (ht : s.heap.IsTuple t items)
    (hn : (assignEach elts env).length = items.size) (hstar : (assignEach elts env).findIdx? (·.1) = none)
    (h : ∀ h', Heap.ExtBut s.heap.objs.size s.heap h' → wpAny (model prog w) A (assignInOrder ((assignEach elts env).map (·.2)) items.toList) Q E { s with heap := h' }) :
    wpAny (model prog w) A (assign (.Tuple elts k pos) env (.ref t)) Q E s := by
  rw [arm_assign_Tuple]
  refine wpAny_bind (wpAny_standAt ?_)
  unfold unpack
  rw [hn, hstar]
  exact wpAny_bind (wpAny_holding (unpackItems_hot hot ht h))
theorem draws_hot (it l x1 : Addr) (hne : l ≠ it) (hx1 : x1 ≠ it) (items : Array Value) :
    Draws prog w A it [it, l, x1] items.size (fun i v => items[i]? = some v) (fun i h => h.IsListIter it l i ∧ h.IsList l items ∧ HotX.HotAt A x1 h) where
  live := fun _ _ st => let ⟨o, ho, _⟩ := st.1; ⟨o, ho⟩
  frame := fun _ _ _ st hk => ⟨st.1.at fun o e => hk it (by simp) o e, st.2.1.at fun o e => hk l (by simp) o e, HotAt.kept st.2.2 fun o e => hk x1 (by simp) o e⟩
  item := fun i s Q E hi st hQ => by
    refine wpAny_nextOf_list_item st.1 st.2.1 (x := items[i]) (by simp [hi]) fun h' hit' hs' => ?_
    exact hQ _ h' s.toks (by simp [hi]) ⟨hit', st.2.1.extBut hs'.extBut hne, HotAt.kept st.2.2 fun o e => hs'.extBut _ _ hx1 e⟩ hs'
  done := fun s Q E st hE => nextOf_list_end_hot st.2.2 hx1 st.1 st.2.1 (by simp) hE
end
end DL

/-! ## DLj -/
/-! DLj: within an except suite: a list comprehension over zip of two lists. -/
namespace DL
open PySem PySem.Spec PyProof.Rows L2
/-- the turns of an iterator, x1's exception being handled -/
structure TurnA (P : Program) (w : World) (K : PySem.W.Frag) (tg : Expr) (J : It) (fp : List Addr) (it : Addr) (tn : Nat → Heap → Prop) (A : Around) (x1 : Addr) : Prop where
  mem : it ∈ fp
  obj : ∀ i h, tn i h → ∀ b ∈ fp, ∃ o, h.get? b = some o ∧ ∀ v, o.data ≠ .cell v
  keep : ∀ i h h', tn i h → (∀ b ∈ fp, ∀ o, h.get? b = some o → h'.get? b = some o) → tn i h'
  item : ∀ (X : Cx), X.prog = P → X.w = w → X.K = K → X.A = A → ∀ (i : Nat) (pins : List (Addr × Obj)) (s : Shared) (σ : L2.St) (H : Hp) (E : Value → Shared → Prop), HotX.HotAt A x1 s.heap → H x1 = none → Inv X pins σ H s → (∀ b ∈ fp, FpOk X pins H b) → tn i s.heap → J.go i H →
    wpAny (model P w) X.A (pyNext (.ref it)) (fun r s1 => ∃ u, r = some u ∧
      wpAny (model P w) X.A (letOwnedTupleGo tg (.ref it) u) (fun _ s2 => ∃ x H', Inv X pins σ H' s2 ∧ RelV x u ∧ J.yld i H x H' ∧ tn (i + 1) s2.heap ∧ ∀ b ∈ fp, H' b = none) E s1) E s
  done : ∀ (X : Cx), X.prog = P → X.w = w → X.K = K → X.A = A → ∀ (i : Nat) (pins : List (Addr × Obj)) (s : Shared) (σ : L2.St) (H : Hp) (E : Value → Shared → Prop), HotX.HotAt A x1 s.heap → H x1 = none → Inv X pins σ H s → (∀ b ∈ fp, FpOk X pins H b) → tn i s.heap → J.stop i H →
    wpAny (model P w) X.A (pyNext (.ref it)) (fun r s1 => r = none ∧ Inv X pins σ H s1) E s
  self : ∀ (A : Around) (i : Nat) (s : Shared) (Q : Value → Shared → Prop) (E : Value → Shared → Prop), tn i s.heap → Q (.ref it) s → wpAny (model P w) A (pyIter (.ref it)) Q E s
def ItzA (K : PySem.W.Frag) (a1 a2 : Addr) : It :=
  ⟨fun i H => ∃ (xs ys : List V) (x y : V), SqL K H a1 xs ∧ SqL K H a2 ys ∧ xs[i]? = some x ∧ ys[i]? = some y,
    fun i H v H' => ∃ T x y, v = .ref T ∧ H T = none ∧ H' = upd H T (.tup [x, y]) ∧ (∀ xs, SqL K H a1 xs → xs[i]? = some x) ∧ ∀ ys, SqL K H a2 ys → ys[i]? = some y,
    fun i H => ∃ xs ys : List V, SqL K H a1 xs ∧ SqL K H a2 ys ∧ i ≤ xs.length ∧ i ≤ ys.length ∧ (i = xs.length ∨ i = ys.length)⟩
theorem iterl_obj {h : Heap} {it l : Addr} {i : Nat} (e : h.IsListIter it l i) : ∃ o, h.get? it = some o ∧ ∀ v, o.data ≠ .cell v := by
  obtain ⟨o, ho, hc, hd⟩ := e
  exact ⟨o, ho, fun v q => by rw [hd] at q; cases q⟩
theorem sqL_at {X : Cx} {pins : List (Addr × Obj)} {σ : L2.St} {H : Hp} {s : Shared} {a : Addr} {xs : List V} (I : Inv X pins σ H s) (h : SqL X.K H a xs) : ∃ its : List Value, Vals xs its ∧ s.heap.IsList a its.toArray := by
  obtain ⟨its, r, p, _⟩ := I.list h
  exact ⟨its, r, p.isList⟩
theorem lt_of_list {h : Heap} {a : Addr} {its : Array Value} (p : h.IsList a its) : a < h.objs.size := by
  obtain ⟨o, ho, _⟩ := p
  exact Heap.lt_size ho
theorem turn_zipA {P : Program} {w : World} {K : PySem.W.Frag} {elts : List Expr} {kk : Nat} {tpos : Pos} {a1 a2 z TI TO i1 i2 x1 : Addr} {A : Around} (S : ZipSep2 z TI TO i1 i2 [i1, a1, x1] [i2, a2, x1]) (n1 : a1 ≠ i1) (n2 : a2 ≠ i2) (m1 : x1 ≠ i1) (m2 : x1 ≠ i2) (mz : x1 ≠ z) (mT : x1 ≠ TO) :
    TurnA P w K (.Tuple elts kk tpos) (ItzA K a1 a2) [z, TI, TO, i1, i2] z (fun i h => IsZip h z TI TO .none ∧ IsTupOf2 h TI (.ref i1) (.ref i2) ∧ (∃ x y, IsTupOf2 h TO x y) ∧ h.IsListIter i1 a1 i ∧ h.IsListIter i2 a2 i) A x1 where
  mem := by simp
  obj := fun i h st c hc => by
    obtain ⟨hz, hTI, ⟨x, y, hTO⟩, h1, h2⟩ := st
    have e' : c = z ∨ c = TI ∨ c = TO ∨ c = i1 ∨ c = i2 := by simpa using hc
    rcases e' with q | q | q | q | q
    · rw [q]; exact ⟨_, hz, fun v q => nomatch q⟩
    · rw [q]; exact ⟨_, hTI, fun v q => nomatch q⟩
    · rw [q]; exact ⟨_, hTO, fun v q => nomatch q⟩
    · rw [q]; exact iterl_obj h1
    · rw [q]; exact iterl_obj h2
  keep := fun i h h' st k => by
    obtain ⟨hz, hTI, ⟨x, y, hTO⟩, h1, h2⟩ := st
    exact ⟨k z (by simp) _ hz, k TI (by simp) _ hTI, ⟨x, y, k TO (by simp) _ hTO⟩, h1.at fun o q => k i1 (by simp) o q, h2.at fun o q => k i2 (by simp) o q⟩
  item := by
    intro X hP hw hK hA i pins s σ H E hot hx1 I hf st hg
    subst hP hw hK hA
    obtain ⟨hz, hTI, ⟨x0, y0, hTO⟩, h1, h2⟩ := st
    obtain ⟨xs, ys, x, y, hqx, hqy, hx, hy⟩ := hg
    obtain ⟨its, rv, p⟩ := sqL_at I hqx
    obtain ⟨its2, rv2, p2⟩ := sqL_at I hqy
    obtain ⟨u, hu, ru⟩ := rv.get hx
    obtain ⟨u2, hu2, ru2⟩ := rv2.get hy
    have hl1 : i < its.toArray.size := by rw [List.size_toArray]; exact (List.getElem?_eq_some_iff.mp hu).1
    have hl2 : i < its2.toArray.size := by rw [List.size_toArray]; exact (List.getElem?_eq_some_iff.mp hu2).1
    have hzl : z < s.heap.objs.size := Heap.lt_size hz
    have hot1 : HotX.HotAt X.A.in1 x1 s.heap := hot
    refine wpAny_pyNext_zipD2_item S (draws_hot (A := X.A.in1) i1 a1 x1 n1 m1 its.toArray) (draws_hot (A := X.A.in1) i2 a2 x1 n2 m2 its2.toArray) hz hTI hTO ⟨h1, p, hot1⟩ ⟨h2, p2, hot1⟩ hl1 hl2 fun x1' x2 h' tk e1 e2 z' TO' st1 st2 hT hsz hk => ?_
    have ex1 : x1' = u := by
      have e1 : its[i]? = some x1' := by simpa using e1
      rw [hu] at e1
      exact (Option.some.inj e1).symm
    have ex2 : x2 = u2 := by
      have e2 : its2[i]? = some x2 := by simpa using e2
      rw [hu2] at e2
      exact (Option.some.inj e2).symm
    rw [ex1, ex2] at hT TO'
    refine ⟨_, rfl, wpAny_letOwnedTupleGo_zip (s := { s with heap := h', toks := tk }) z' fun h'' z'' sb => ?_⟩
    have hT2 : h''.get? s.heap.objs.size = some { cls := .type "tuple", data := .seq #[u, u2] } := (sb.2 _ (Nat.ne_of_gt hzl)).trans hT
    have new : ObjOk X.prog X.w (upd H s.heap.objs.size (.tup [x, y])) h'' s.heap.objs.size (.tup [x, y]) :=
      ⟨by show 2 ≤ sizeLine; decide, [u, u2], .cons ru (.cons ru2 .nil), ⟨_, hT2, rfl, _, rfl⟩⟩
    have I1 : Inv X pins σ (upd H s.heap.objs.size (.tup [x, y])) { s with heap := h'', toks := tk } :=
      I.turnedNew (t' := tk) (ch := [z, TI, TO, i1, i2]) (fun c o hb q => (sb.2 c (fun q' => hb (by simp [q']))).trans (hk c o (fun q' => hb (by simp [q'])) (fun q' => hb (by simp [q'])) (fun q' => hb (by simp [q'])) (fun q' => hb (by simp [q'])) q)) hf (Nat.le_refl _) new
    refine ⟨.ref s.heap.objs.size, _, I1, rfl, ⟨_, x, y, rfl, I.hok.fresh (Nat.le_refl _), rfl, fun l hl => by rw [I.list_inj hl hqx]; exact hx, fun l hl => by rw [I.list_inj hl hqy]; exact hy⟩, ⟨z'', ?_, ⟨u, u2, ?_⟩, ?_, ?_⟩, fun c hcm => ?_⟩
    · exact (sb.2 _ S.TIz).trans (hk _ _ S.TIz S.TITO S.TIi1 S.TIi2 hTI)
    · exact (sb.2 _ S.TOz).trans TO'
    · exact st1.1.at fun o q => (sb.2 _ (Ne.symm S.zi1)).trans q
    · exact st2.1.at fun o q => (sb.2 _ (Ne.symm S.zi2)).trans q
    · have hlt : c < s.heap.objs.size := by
        have e' : c = z ∨ c = TI ∨ c = TO ∨ c = i1 ∨ c = i2 := by simpa using hcm
        rcases e' with q | q | q | q | q
        · rw [q]; exact hzl
        · rw [q]; exact Heap.lt_size hTI
        · rw [q]; exact Heap.lt_size hTO
        · rw [q]; obtain ⟨_, e1, _⟩ := iterl_obj h1; exact Heap.lt_size e1
        · rw [q]; obtain ⟨_, e2, _⟩ := iterl_obj h2; exact Heap.lt_size e2
      rw [upd_ne (Nat.ne_of_lt hlt)]
      exact (hf c hcm).1
  done := by
    intro X hP hw hK hA i pins s σ H E hot hx1 I hf st hg
    subst hP hw hK hA
    obtain ⟨hz, hTI, ⟨x0, y0, hTO⟩, h1, h2⟩ := st
    obtain ⟨xs, ys, hqx, hqy, hi1, hi2, hend⟩ := hg
    obtain ⟨its, rv, p⟩ := sqL_at I hqx
    obtain ⟨its2, rv2, p2⟩ := sqL_at I hqy
    have l1 : its.toArray.size = xs.length := by rw [List.size_toArray, rv.length]
    have l2 : its2.toArray.size = ys.length := by rw [List.size_toArray, rv2.length]
    have hot1 : HotX.HotAt X.A.in1 x1 s.heap := hot
    exact wpAny_pyNext_zipD2_end S (draws_hot (A := X.A.in1) i1 a1 x1 n1 m1 its.toArray) (draws_hot (A := X.A.in1) i2 a2 x1 n2 m2 its2.toArray) hz hTI hTO ⟨h1, p, hot1⟩ ⟨h2, p2, hot1⟩ (by rw [l1]; exact hi1) (by rw [l2]; exact hi2) (by rw [l1, l2]; exact hend)
      fun h' tk hk => ⟨rfl, I.turnedL (t' := tk) (ch := [z, TI, TO, i1, i2]) (fun c o hb q =>
      hk c o (fun q' => hb (by simp [q'])) (fun q' => hb (by simp [q'])) (fun q' => hb (by simp [q'])) (fun q' => hb (by simp [q'])) q) hf⟩
  self := fun A i s Q E st h => wpAny_pyIter_zip st.1 h
def PIEA (X : Cx) (x1 : Addr) (pins : List (Addr × Obj)) (σ : L2.St) (tg : Expr) (R : It → Hp → Prop) (itv : Value) (s2 : Shared) : Prop :=
  ∃ (it : Addr) (fp : List Addr) (tn : Nat → Heap → Prop) (J : It) (H' : Hp), itv = .ref it ∧ Inv X pins σ H' s2 ∧ TurnA X.prog X.w X.K tg J fp it tn X.A x1 ∧ tn 0 s2.heap ∧ (∀ b ∈ fp, FpOk X pins H' b) ∧ x1 ∉ fp ∧ R J H'
structure PIA (X : Cx) (x1 : Addr) (tg iter : Expr) (wi : TI) : Prop where
  run : ∀ (pins : List (Addr × Obj)) (s : Shared) (σ : L2.St) (H : Hp) (R : It → Hp → Prop), Inv X pins σ H s → wi σ H R →
    wpAny (model X.prog X.w) X.A (eval iter X.env) (fun v s1 => wpAny (model X.prog X.w) X.A (pyIter v) (PIEA X x1 pins σ tg R) X.xe s1) X.xe s
def iZipA (K : PySem.W.Frag) (ta : TA) : TI := fun σ H R => ta σ H fun vs H1 => ∃ a1 a2 xs ys, vs = [.ref a1, .ref a2] ∧ SqL K H1 a1 xs ∧ SqL K H1 a2 ys ∧ R (ItzA K a1 a2) H1
theorem pi_zipA {X : Cx} {e e2 : Expr} {ta : TA} {p pos tpos : Pos} {elts : List Expr} {kk : Nat} {x1 : Addr} (hx1 : ∀ {pins σ H s}, Inv X pins σ H s → x1 < s.heap.objs.size) (hg : Gl X "zip") (hm : X.mg "zip" = none) (ha : PA X [e, e2] ta)
    (hs : starEach [e, e2] X.env = (false, eval e X.env) :: starEach [e2] X.env := by rfl) (hpl : (backTo pos (starEach [e2] X.env)).any (·.1) = false := by rfl) :
    PIA X x1 (.Tuple elts kk tpos) (.Call (.Name "zip" p) [e, e2] [] pos) (iZipA X.K ta) := by
  refine ⟨fun pins s σ H R I h => ?_⟩
  refine Call_ (ld_blt I hg hm PyProof.Rows.boot_zip (PyProof.Rows.callWith_type1 (thn (ha.run pos pins s σ H _ I h) fun us s1 ⟨vs, H1, I1, r1, q1⟩ => ?_) hs hpl))
  obtain ⟨a1, a2, xs, ys, ex, hqx, hqy, q⟩ := q1
  subst ex
  cases r1 with
  | cons r rr =>
    cases rr with
    | cons r' rr =>
      cases rr
      cases r
      cases r'
      obtain ⟨its, rv, p1⟩ := sqL_at I1 hqx
      obtain ⟨its2, rv2, p2⟩ := sqL_at I1 hqy
      have la := lt_of_list p1
      have lb := lt_of_list p2
      have lx := hx1 I1
      refine zip_begins2 (begins_B false a1 its.toArray) (begins_B false a2 its2.toArray) p1 p2 fun h' hz hTI hTO h1 h2 hsz hk => wpAny_pyIter_zip hz ?_
      have I2 : Inv X pins σ H1 { s1 with heap := h' } := I1.kept (t' := s1.toks) hk
      have both : ∀ a : Addr, a < s1.heap.objs.size → ∀ b ∈ [a, x1], b < s1.heap.objs.size := fun a h b hb => by
        rcases List.mem_cons.mp hb with z | hb
        · rw [z]; exact h
        · rw [List.mem_singleton.mp hb]; exact lx
      have S := zip_sep2 (N := s1.heap.objs.size) (fp1 := [a1, x1]) (fp2 := [a2, x1]) (both a1 la) (both a2 lb)
      have hle : ∀ c ∈ [s1.heap.objs.size + 4, s1.heap.objs.size + 2, s1.heap.objs.size + 3, s1.heap.objs.size, s1.heap.objs.size + 1], s1.heap.objs.size ≤ c := fun c hcm => by
        have e' : c = s1.heap.objs.size + 4 ∨ c = s1.heap.objs.size + 2 ∨ c = s1.heap.objs.size + 3 ∨ c = s1.heap.objs.size ∨ c = s1.heap.objs.size + 1 := by simpa using hcm
        rcases e' with z | z | z | z | z
        · rw [z]; exact Nat.le_add_right _ _
        · rw [z]; exact Nat.le_add_right _ _
        · rw [z]; exact Nat.le_add_right _ _
        · rw [z]; exact Nat.le_refl _
        · rw [z]; exact Nat.le_add_right _ _
      have nx : ∀ k : Nat, x1 ≠ s1.heap.objs.size + k := fun k => Nat.ne_of_lt (Nat.lt_of_lt_of_le lx (Nat.le_add_right _ _))
      refine ⟨s1.heap.objs.size + 4, [s1.heap.objs.size + 4, s1.heap.objs.size + 2, s1.heap.objs.size + 3, s1.heap.objs.size, s1.heap.objs.size + 1], _, _, H1, rfl, I2, turn_zipA S (Nat.ne_of_lt la) (Nat.ne_of_lt (Nat.lt_succ_of_lt lb)) (nx 0) (nx 1) (nx 4) (nx 3), ⟨hz, hTI, ⟨_, _, hTO⟩, ?_, ?_⟩, fun c hcm => ?_, fun hm => ?_, q⟩
      · exact ⟨_, h1, rfl, rfl⟩
      · exact ⟨_, h2, rfl, rfl⟩
      · exact I1.fpOk (hle c hcm) (I1.hok.fresh (hle c hcm))
      · exact absurd (hle x1 hm) (Nat.not_le_of_lt lx)
/-- (a, b, ..) = a tuple of that length, x1's exception being handled -/
theorem pg_tupA {X : Cx} {pos : Pos} {es : List Expr} {k : Nat} {t : TGs} {n : Nat} {x1 : Addr} (hot : ∀ {pins σ H s}, Inv X pins σ H s → HotX.HotAt X.A x1 s.heap) (h : PGs X es t)
    (hn : (assignEach es X.env).length = n := by rfl) (hst : (assignEach es X.env).findIdx? (·.1) = none := by rfl) : PG X (.Tuple es k pos) (gTup X.K n t) := by
  refine ⟨fun pins s σ H v u Q I r hw => ?_⟩
  obtain ⟨a, xs, e1, hq, hl, hw⟩ := hw
  subst e1
  cases r
  obtain ⟨its, rv, ht, hz⟩ := I.tuple hq
  refine assign_Tuple_hot (hot I) ht (by simp [hn, ← hl, rv.length]) hst fun h' hx => ?_
  have I1 : Inv X pins σ H { s with heap := h' } := I.kept (t' := s.toks) fun b o e => hx b o (Nat.ne_of_lt (Heap.lt_size e)) e
  exact h.run pins _ σ H xs _ Q I1 (by simpa using rv) hw
end DL

/-! ## DL1 -/
/-! DL1: within an except suite: a list comprehension. -/
namespace DL
open PySem PySem.Spec PyProof.Rows L2
/-- the block's entry: p's object stands there, out of reach -/
structure PinB (X : Cx) (p : Addr × Obj) (s : Shared) (H : Hp) (fp : List Addr) : Prop where
  get : s.heap.get? p.1 = some p.2
  nn : H p.1 = none
  fr : p.1 ∉ frs X.stack
  nfp : p.1 ∉ fp
theorem PinB.at {X : Cx} {p : Addr × Obj} {s0 : Shared} {H0 : Hp} {fp : List Addr} {scope : Scope} {ce : Env} (B : PinB X p s0 H0 fp) {pins : List (Addr × Obj)} {σ : L2.St} {H : Hp} {s : Shared} (I : Inv (X.blk s0 H0 scope ce fp) pins σ H s) : s.heap.get? p.1 = some p.2 ∧ H p.1 = none :=
  ⟨I.base.keep p.1 p.2 B.get B.nn B.fr B.nfp, I.base.free p.1 p.2 B.get B.nn B.nfp⟩
theorem hot_of {A : Around} {p : Addr × Obj} {h : Heap} (h1 : L2H.Hot1 A p) (g : h.get? p.1 = some p.2) : HotX.HotAt A p.1 h := by
  obtain ⟨hh, vs, hv, h2⟩ := h1
  exact ⟨hh, p.2, vs, g, hv, h2⟩
section
variable {X : Cx}
theorem lc_coreA {p : Addr × Obj} {pins : List (Addr × Obj)} {s : Shared} {σ : L2.St} {H : Hp} {Q : VK} {elt tg iter : Expr} {ifs : List Expr} {scope : Scope} {own : List (Str × Nat)} {pos pos' : Pos} {wi : TI} {g : TG} {tt : TT} {te : TE} {use : Option (Value → Sem Unit)} {Qf : Value → Shared → Prop}
    (hp : p ∈ X.pn) (hot : L2H.Hot1 X.A p) (hN : X.N.Nodup) (I : Inv X pins σ H s) (hi : PIA X p.1 tg iter wi) (ok : BlkOk X.N X.env.scope scope own)
    (hg : ∀ (s : Shared) (H : Hp) (C : Addr) (cl : List (Str × Addr)) (fp : List Addr), PinB X p s H fp → PG (X.blk s H scope (compEnvC scope cl C X.env) fp) tg g) (ht : ∀ (s : Shared) (H : Hp) (C : Addr) (cl : List (Str × Addr)) (fp : List Addr), PTs (X.blk s H scope (compEnvC scope cl C X.env) fp) ifs tt)
    (he : ∀ (s : Shared) (H : Hp) (C : Addr) (cl : List (Str × Addr)) (fp : List Addr), PE (X.blk s H scope (compEnvC scope cl C X.env) fp) elt te) (hs : ∀ x, foldedSetIterable iter X.env x = pure x)
    (h : tLc wi g tt te (own.map (·.2)) σ H Q)
    (hRR : ∀ D C s' m H', Inv X pins σ H' s' → Q (.ref D) H' → s'.heap.Ns C m → FpOk X pins H' C → compPost (model X.prog X.w) X.A X.xe use Qf (.ref D) C (.ok .next) s') :
    wpAny (model X.prog X.w) X.A (comprehension (.ListComp elt [⟨tg, iter, ifs, 0⟩] scope pos) scope X.env pos' (newList []) false (eval iter X.env) use) Qf X.xe s := by
  have hfree : ∀ y ∈ scope.names, y.2 = .free → ∃ c, X.env.cells.lookup y.1 = some c := fun y hy e => by
    rcases ok.free y hy e with k | k
    · exact I.ok.has _ (.inl k)
    · exact I.ok.has _ (.inr k)
  refine wpAny_comprehension_free (use := use) rfl hs (closure_ok hfree) ok.kind (fun y hy e => by rw [ok.uniq y hy, e])
    (thn (hi.run pins s σ H _ I h) fun xv s1 hx => thn hx fun itv s2 h2 => ?_)
  obtain ⟨it, fp, tn, J, H2, e, I2, T, st2, f2, nfp1, q⟩ := h2
  subst e
  refine wpAny_newObj_type (newEnv_comp ?_) (by show 0 ≤ sizeLine; decide)
  generalize hD : s2.heap.objs.size = D
  have hDn : H2 D = none := I2.hok.fresh (Nat.le_of_eq hD)
  obtain ⟨W, ⟨m0, w0⟩, turn⟩ := q D hDn
  generalize hs3 : ({ s2 with heap := s2.heap.push { cls := .type "list", data := .seq ([] : List Value).toArray } } : Shared) = s3
  have I3 : Inv X pins σ (upd H2 D (.lst [])) s3 := by
    rw [← hs3]
    refine I2.laid (t' := s2.toks) (fun b o e => Heap.get?_push_of_some _ e) (Nat.le_of_eq hD) ⟨Nat.zero_le _, [], 0, .nil, ?_⟩
    rw [← hD]
    exact Heap.get?_push_size _ rfl
  have h3 : s3.heap = s2.heap.push { cls := .type "list", data := .seq ([] : List Value).toArray } := by rw [← hs3]
  have sz : ∀ b ∈ fp, b < s2.heap.objs.size := fun b hb => by
    obtain ⟨o, e, _⟩ := T.obj _ _ st2 b hb
    exact Heap.lt_size e
  have f3 : ∀ b ∈ fp, FpOk X pins (upd H2 D (.lst [])) b ∧ b < s3.heap.objs.size := fun b hb => by
    have hlt := sz b hb
    refine ⟨⟨?_, (f2 b hb).2⟩, by rw [h3, Heap.size_push]; exact Nat.lt_succ_of_lt hlt⟩
    rw [upd_ne (by rw [← hD]; exact Nat.ne_of_lt hlt)]
    exact (f2 b hb).1
  have st3 : tn 0 s3.heap := T.keep _ _ _ st2 fun b _ o e => by rw [h3]; exact Heap.get?_push_of_some _ e
  have I4 := block_start I3 ok hN f3
  have pB : PinB X p s3 (upd H2 D (.lst [])) fp := by
    obtain ⟨z1, z2, z3, z4, _⟩ := I3.pin p (List.mem_append_left _ hp)
    refine ⟨z1, z2, fun hm => ?_, nfp1⟩
    rcases List.mem_cons.mp (I3.stkSub _ hm) with z | z
    · exact z3 z
    · exact z4 z
  have pg := hg s3 (upd H2 D (.lst [])) s3.heap.objs.size (cellsFrom (s3.heap.objs.size + 1) scope.names (cloFrom X.env.cells scope.names [])) fp pB
  have pt := ht s3 (upd H2 D (.lst [])) s3.heap.objs.size (cellsFrom (s3.heap.objs.size + 1) scope.names (cloFrom X.env.cells scope.names [])) fp
  have pe := he s3 (upd H2 D (.lst [])) s3.heap.objs.size (cellsFrom (s3.heap.objs.size + 1) scope.names (cloFrom X.env.cells scope.names [])) fp
  show codeAny _ _ (.compStart (.ListComp elt [⟨tg, iter, ifs, 0⟩] scope pos) 0 (.ref it) (.ref D) (compEnvC scope (cellsFrom (s3.heap.objs.size + 1) scope.names (cloFrom X.env.cells scope.names [])) s3.heap.objs.size X.env)) (compPost (model X.prog X.w) X.A X.xe use Qf (.ref D) s3.heap.objs.size) { s3 with heap := pushCells (s3.heap.push { cls := .type "dict", data := .dict #[] }) scope.names }
  have nfp : ∀ b ∈ fp, (upd H2 D (.lst [])) b = none := fun b hb => (f3 b hb).1.1
  generalize hce : compEnvC scope (cellsFrom (s3.heap.objs.size + 1) scope.names (cloFrom X.env.cells scope.names [])) s3.heap.objs.size X.env = ce at I4 pg pt pe ⊢
  have cL : ce.locals = s3.heap.objs.size := by subst hce; rfl
  generalize hH3 : upd H2 D (.lst []) = H3 at I3 I4 pg pt pe w0 nfp f3 pB
  generalize hs4 : ({ s3 with heap := pushCells (s3.heap.push { cls := .type "dict", data := .dict #[] }) scope.names } : Shared) = s4 at I4 ⊢
  have st4 : tn 0 s4.heap := T.keep _ _ _ st3 fun b _ o e => by rw [← hs4]; exact pushCells_keeps _ _ _ _ (Heap.get?_push_of_some _ e)
  have stat : ∀ {σ' : L2.St} {H' : Hp} {s' : Shared}, Inv (X.blk s3 H3 scope ce fp) [] σ' H' s' → (∀ b ∈ fp, H' b = none) → ∀ b ∈ fp, FpOk (X.blk s3 H3 scope ce fp) [] H' b := fun {σ' H' s'} I' hn b hb =>
    ⟨hn b hb, (I'.ok.exf b hb).1, I'.ok.exfs b hb, .inl hb, fun x c e => (I'.ok.exf b hb).2 x c e, fun p hp => absurd (show p ∈ ([] : List (Addr × Obj)) ++ [] from hp) (by simp)⟩
  have loop : codeAny (model X.prog X.w) X.A (.compLoop (.ListComp elt [⟨tg, iter, ifs, 0⟩] scope pos) 0 (.ref it) (.ref D) ce) (compPost (model X.prog X.w) X.A X.xe use Qf (.ref D) s3.heap.objs.size) s4 := by
    refine compLoop_any (fun n s' => ∃ i H', Inv (X.blk s3 H3 scope ce fp) [] (wipe σ (own.map (·.2))) H' s' ∧ tn i s'.heap ∧ (∀ b ∈ fp, H' b = none) ∧ W i n H') ?_ m0 ⟨0, H3, I4, st4, nfp, w0⟩
    rintro n s5 ⟨i, H5, I5, st5, n5, w5⟩
    obtain ⟨g5, k5⟩ := pB.at I5
    have hot5 := hot_of hot g5
    rcases turn i n H5 w5 with ⟨stop, qq⟩ | ⟨go, Nx, hNx, step⟩
    · have td := T.done (X.blk s3 H3 scope ce fp) rfl rfl rfl rfl i [] s5 _ H5 (fun _ _ => False) hot5 k5 I5 (stat I5 n5) st5 stop
      refine thnF td fun r s6 ⟨hr, I6⟩ => ?_
      subst hr
      have I7 : Inv X pins σ H5 s6 := I3.call' (ch := fp) I6.os I6.base I6.hok I6.bare fun b hb => ⟨(f3 b hb).1.2.2.2.1, (f3 b hb).1.2.1, (f3 b hb).1.2.2.2.2.1, (f3 b hb).1.2.2.2.2.2⟩
      have nC : H5 s3.heap.objs.size = none := by
        have z : H5 ce.locals = none := I6.free
        rw [cL] at z
        exact z
      obtain ⟨m, hn, _⟩ := I6.loc
      have hn : s6.heap.Ns ce.locals m := hn
      rw [cL] at hn
      exact hRR D s3.heap.objs.size s6 m H5 I7 qq hn (I3.fpOk (Nat.le_refl _) nC)
    · have ti := T.item (X.blk s3 H3 scope ce fp) rfl rfl rfl rfl i [] s5 _ H5 (fun _ _ => False) hot5 k5 I5 (stat I5 n5) st5 go
      refine thnF ti fun r s6 ⟨u, hr, h6⟩ => ?_
      subst hr
      refine thnF h6 fun _ s7 ⟨x, H7, I7, r7, y7, st7, n7⟩ => ?_
      have I7' := I7.pinned (stat I7 n7) (T.obj _ _ st7)
      refine thnF (pg.run _ s7 _ H7 x u _ I7' r7 (step x H7 y7)) fun _ s8 ⟨σ8, H8, I8, hw8, q8⟩ => ?_
      refine thnF (pt.run _ s8 σ8 H8 _ I8 q8) fun b s9 ⟨H9, I9, q9⟩ => ?_
      have fin : ∀ {s' : Shared} {H' : Hp}, Inv (X.blk s3 H3 scope ce fp) ([] ++ pinsAt fp s7.heap) σ8 H' s' → Nx H' → ∃ m, m < n ∧ ∃ i H', Inv (X.blk s3 H3 scope ce fp) [] (wipe σ (own.map (·.2))) H' s' ∧ tn i s'.heap ∧ (∀ b ∈ fp, H' b = none) ∧ W i m H' := fun {s' H'} I' nx => by
        obtain ⟨m', hm, w'⟩ := hNx H' nx
        have pin' : ∀ b ∈ fp, ∀ o, s7.heap.get? b = some o → s'.heap.get? b = some o ∧ H' b = none := fun b hb o e =>
          let z := I'.pin (b, o) (List.mem_append_right _ (List.mem_append_right _ (mem_pinsAt hb e)))
          ⟨z.1, z.2.1⟩
        have hl : (wipe σ (own.map (·.2))).length = σ8.length := by rw [← hw8, wipe_length]
        refine ⟨m', hm, i + 1, H', (I'.unpinned (pins := [])).weak hl (fun j v e => ?_), T.keep _ _ _ st7 fun b hb o e => (pin' b hb o e).1, fun b hb => ?_, w'⟩
        · rw [← hw8] at e
          exact (wipe_some e).1
        · obtain ⟨o, e, _⟩ := T.obj _ _ st7 b hb
          exact (pin' b hb o e).2
      cases b with
      | false =>
        simp only [Bool.false_eq_true, if_false] at q9 ⊢
        exact fin I9 q9
      | true =>
        simp only [if_true] at q9 ⊢
        refine thnF (pe.run _ s9 σ8 H9 _ I9 q9) fun z s10 ⟨yv, H10, I10, r10, acc, hD10, hz10, nx⟩ => ?_
        exact app_ok (X := X.blk s3 H3 scope ce fp) I10 hD10 hz10 r10 fun s11 I11 => fin I11 nx
  exact codeAny_compStart_list loop (T.self X.A 0 _ _ _ st4 loop)
theorem pe_lcA {p : Addr × Obj} {elt tg iter : Expr} {ifs : List Expr} {scope : Scope} {own : List (Str × Nat)} {pos : Pos} {wi : TI} {g : TG} {tt : TT} {te : TE} (hp : p ∈ X.pn) (hot : L2H.Hot1 X.A p) (hN : X.N.Nodup) (hi : PIA X p.1 tg iter wi) (ok : BlkOk X.N X.env.scope scope own)
    (hg : ∀ (s : Shared) (H : Hp) (C : Addr) (cl : List (Str × Addr)) (fp : List Addr), PinB X p s H fp → PG (X.blk s H scope (compEnvC scope cl C X.env) fp) tg g) (ht : ∀ (s : Shared) (H : Hp) (C : Addr) (cl : List (Str × Addr)) (fp : List Addr), PTs (X.blk s H scope (compEnvC scope cl C X.env) fp) ifs tt)
    (he : ∀ (s : Shared) (H : Hp) (C : Addr) (cl : List (Str × Addr)) (fp : List Addr), PE (X.blk s H scope (compEnvC scope cl C X.env) fp) elt te) (hs : ∀ x, foldedSetIterable iter X.env x = pure x := by intro _; rfl) :
    PE X (.ListComp elt [⟨tg, iter, ifs, 0⟩] scope pos) (tLc wi g tt te (own.map (·.2))) := by
  refine ⟨fun pins s σ H Q I h => ?_⟩
  rw [eval_ListComp]
  refine lc_coreA hp hot hN I hi ok hg ht he hs h fun D C s' m H' I' q hn f => ⟨m, hn, fun h'' sb => ?_⟩
  obtain ⟨f0, f1, f2, f3, f4, f5⟩ := f
  exact ⟨.ref D, H', I'.turned (t' := s'.toks) (fun b o hb e => (sb.2 b hb).trans e) f0 f1 f3 f4 f5, rfl, q⟩
end
end DL

/-! ## DL2 -/
/-! DL2: the law's _law_kin: the names of a refusal's classes. -/
namespace DL
open PySem PySem.Spec PyProof.Rows L2
def kinN : List Str := ["NoBook", "NoRoom", "NoWinter", "NoSpan", "NoPrices", "NoSize", "NoSizes", "NotServed", "Unlike", "Full", "NoChild", "NoCoat"]
def excCB (K : PySem.W.Frag) (D : Addr) : Bool :=
  decide (PySem.W.findIn K (.ref D) "__getattribute__" = some (some (.builtin "BaseException.__getattribute__"))) && (decide (PySem.W.findIn K (.ref D) "__getattr__" = some none) && (decide (PySem.W.subIn K (.ref D) (.type "BaseException") = some true) && (PySem.W.hasDictIn K D &&
  (decide (PySem.W.findIn K (.ref D) "__class__" = some (some (.builtin "object.__class__"))) && (decide (PySem.W.specialIn K (.builtin "object.__class__") "__get__" = some (some (.builtin "getset_descriptor.__get__"))) && (decide (PySem.W.takesIn K (.builtin "object.__class__") = some true) && decide (PySem.W.mroIn K D (.type "object") = some true)))))))
theorem excCB_ok {K : PySem.W.Frag} {D : Addr} (h : excCB K D = true) : ExcC K D := by
  unfold excCB at h
  simp only [Bool.and_eq_true, decide_eq_true_eq] at h
  obtain ⟨h1, h2, h3, h4, h5, h6, h7, h8⟩ := h
  exact ⟨h1, h2, h3, h4, h5, h6, h7, h8⟩
/-- what the kernel is asked of the classes of refusals -/
def kinB (K : PySem.W.Frag) : Bool := (He.Fa.glo "CoatError").ok K && kinN.all fun x => (He.Fa.glo x).ok K && (excCB K (He.ga K x) && (decide (PySem.W.kitOne K (.ref (He.ga K x)) (.type "ValueError") = some true) &&
  (decide (PySem.W.exmOne K (.ref (He.ga K x)) (.ref (He.ga K "CoatError")) = some true) && kinN.all fun y => decide (PySem.W.kitOne K (.ref (He.ga K x)) (.ref (He.ga K y)) = some (decide (x = y))))))
structure KinF (K : PySem.W.Frag) (mg : Str → Option Value) : Prop where
  coat : mg "CoatError" = some (.ref (He.ga K "CoatError"))
  glo : ∀ x ∈ kinN, mg x = some (.ref (He.ga K x))
  exc : ∀ x ∈ kinN, ExcC K (He.ga K x)
  val : ∀ x ∈ kinN, PySem.W.kitOne K (.ref (He.ga K x)) (.type "ValueError") = some true
  exm : ∀ x ∈ kinN, PySem.W.exmOne K (.ref (He.ga K x)) (.ref (He.ga K "CoatError")) = some true
  kit : ∀ x ∈ kinN, ∀ y ∈ kinN, PySem.W.kitOne K (.ref (He.ga K x)) (.ref (He.ga K y)) = some (decide (x = y))
theorem kinF_of {K : PySem.W.Frag} {h : Heap} {mg : Str → Option Value} (X : K.In h) (G : h.Ns mainGlobals mg) (c : kinB K = true) : KinF K mg := by
  unfold kinB at c
  simp only [Bool.and_eq_true, List.all_eq_true, decide_eq_true_eq] at c
  obtain ⟨c0, c⟩ := c
  exact ⟨He.glo_ok X G c0, fun x hx => He.glo_ok X G (c x hx).1, fun x hx => excCB_ok (c x hx).2.1, fun x hx => (c x hx).2.2.1, fun x hx => (c x hx).2.2.2.1, fun x hx y hy => (c x hx).2.2.2.2 y hy⟩
/-- what it tells of a refusal -/
def kinBs (c : Str) : List Bool := (kinN.map fun y => decide (c = y)) ++ [true]
def pickS (ns : List Str) (bs : List Bool) : List Str := ((ns.zip bs).filter (·.2)).map (·.1)
def kinS (c : Str) : Str := Txt.join "" (pickS (kinN ++ (["+"] : List Str)) (kinBs c))
/-! ### the pieces -/
def tKb (a : Addr) (b : Bool) : TE := fun σ H Q => σ[0]? = some (some (.ref a)) ∧ Q (.bl b) H
def tKl (a : Addr) (bs : List Bool) : TA := fun σ H Q => σ[0]? = some (some (.ref a)) ∧ Q (bs.map V.bl) H
def tKL (a : Addr) (bs : List Bool) : TE := fun σ H Q => σ[0]? = some (some (.ref a)) ∧ ∀ p, H p = none → Q (.ref p) (upd H p (.lst (bs.map V.bl)))
def tSl (xs : List Str) : TA := fun _ H Q => Q (xs.map V.str) H
def tSL (xs : List Str) : TE := fun _ H Q => ∀ p, H p = none → Q (.ref p) (upd H p (.lst (xs.map V.str)))
section
variable {X : Cx} {p : Addr × Obj}
theorem pe_isK {D : Addr} {e2 : Expr} {cv : V} {cu : Value} {b : Bool} {p1 p2 pos : Pos} (hp : p ∈ X.pn) (C : ExcC X.K D) (hz : Zc (.ref D) none p.2) (hf : ∃ vs, p.2.data = .fields vs) (hg : Gl X "isinstance") (hm : X.mg "isinstance" = none)
    (he2 : PE X e2 (tC cv)) (hcv : ∀ u, RelV cv u → u = cu) (kit : PySem.W.kitOne X.K (.ref D) cu = some b) (hN : X.N[0]? = some ("e" : Str) := by rfl) (hv : Vis X.env.scope ("e" : Str) := by first | exact Or.inl rfl | exact Or.inr (Or.inl rfl) | exact Or.inr (Or.inr rfl))
    (hs : starEach [.Name "e" p2, e2] X.env = (false, eval (.Name "e" p2) X.env) :: starEach [e2] X.env := by rfl) (hs2 : starEach [e2] X.env = [(false, eval e2 X.env)] := by rfl) (hpl : (backTo pos (starEach [e2] X.env)).any (·.1) = false := by rfl) :
    PE X (.Call (.Name "isinstance" p1) [.Name "e" p2, e2] [] pos) (tKb p.1 b) := by
  have call : CallR X (.builtin "isinstance") (rIsE X.K D p.1) := by
    intro pins s σ H xs us Q I r h
    obtain ⟨c, cv', b', rfl, hcv', e, q⟩ := h
    cases r with
    | cons rx rr =>
      cases rr with
      | cons rt rr =>
        cases rr
        cases rx
        have ec := hcv' _ rt
        subst ec
        obtain ⟨hget, _⟩ := I.pin p (List.mem_append.mpr (.inl hp))
        obtain ⟨vs, hvs⟩ := hf
        obtain ⟨h1, h2⟩ := hz
        have J : PySem.W.InstAt s.heap p.1 p.2 D none := by
          obtain ⟨pa, po⟩ := p
          obtain ⟨oc, od, oda, osl⟩ := po
          dsimp only at h1 h2 hvs hget ⊢
          subst h1 h2 hvs
          exact ⟨hget, rfl, rfl, trivial⟩
        exact PySem.W.kia_one (PySem.W.handS_kitx_exc C.hg C.hk C.hs C.hd C.ha C.hn C.ht C.hm) I.kIn J e (fun z => nomatch z) fun tk => ⟨.bl b', H, I.kept (t' := tk) fun _ _ z => z, rfl, q⟩
  refine pe_imp (pe_callB call hg hm (by rfl) (pa_cons (pe_var (i := 0) hN hv) (pa_cons he2 pa_nil hs2) hs) (he := hs) (hpl := hpl)) fun σ H Q h => ?_
  exact ⟨.ref p.1, h.1, cv, cu, b, rfl, hcv, kit, h.2⟩
theorem pa_kn {a : Addr} : PA X [] (tKl a []) := pa_imp pa_nil fun σ H Q h => h.2
theorem pa_kc {a : Addr} {e : Expr} {es : List Expr} {b : Bool} {bs : List Bool} (h : PE X e (tKb a b)) (t : PA X es (tKl a bs)) (hs : starEach (e :: es) X.env = (false, eval e X.env) :: starEach es X.env := by rfl) : PA X (e :: es) (tKl a (b :: bs)) :=
  pa_imp (pa_cons h t hs) fun σ H Q q => ⟨q.1, q.1, q.2⟩
theorem pe_kl {a : Addr} {es : List Expr} {bs : List Bool} {pos : Pos} (t : PA X es (tKl a bs)) (hl : bs.length ≤ 100 := by decide) : PE X (.List es pos) (tKL a bs) :=
  pe_imp (pe_lst t) fun σ H Q q => ⟨q.1, by rw [List.length_map, sizeLine_eq]; omega, q.2⟩
theorem pa_sn : PA X [] (tSl []) := pa_imp pa_nil fun σ H Q h => h
theorem pa_sc {x : Str} {j : Nat} {q : Pos} {es : List Expr} {xs : List Str} (t : PA X es (tSl xs)) (hs : starEach (.Constant (.str x) j q :: es) X.env = (false, eval (.Constant (.str x) j q) X.env) :: starEach es X.env := by rfl) : PA X (.Constant (.str x) j q :: es) (tSl (x :: xs)) :=
  pa_imp (pa_cons pe_str t hs) fun σ H Q q => q
theorem pe_sl {es : List Expr} {xs : List Str} {pos : Pos} (t : PA X es (tSl xs)) (hl : xs.length ≤ 100 := by decide) : PE X (.List es pos) (tSL xs) :=
  pe_imp (pe_lst t) fun σ H Q q => ⟨by rw [List.length_map, sizeLine_eq]; omega, q⟩
theorem hot_blk {s0 : Shared} {H0 : Hp} {fp : List Addr} {scope : Scope} {ce : Env} (hot : L2H.Hot1 X.A p) (B : PinB X p s0 H0 fp) {pins : List (Addr × Obj)} {σ : L2.St} {H : Hp} {s : Shared} (I : Inv (X.blk s0 H0 scope ce fp) pins σ H s) : HotX.HotAt (X.blk s0 H0 scope ce fp).A p.1 s.heap := hot_of hot (B.at I).1
theorem pin_lt (hp : p ∈ X.pn) {pins : List (Addr × Obj)} {σ : L2.St} {H : Hp} {s : Shared} (I : Inv X pins σ H s) : p.1 < s.heap.objs.size := Heap.lt_size (I.pin p (List.mem_append_left _ hp)).1
end
/-! ### the whole -/
abbrev tKadd (K : PySem.W.Frag) (a : Addr) (bs : List Bool) : TS := tAsg (tOp (rCatS K) (tVar 1) (tKL a bs)) (gName 1)
abbrev tKlc (K : PySem.W.Frag) (xs : List Str) : TE := tLc (iZipA K (tCons (tOp (rCatS K) (tVar 2) (tSL xs)) (tCons (tVar 1) tNil))) (gTup K 2 (gCons (gName 3) (gCons (gName 4) gNil))) (tB (tVar 4)) (tVar 3) [3, 4]
abbrev tKjoin (K : PySem.W.Frag) (te : TE) : TE := tM1 (fun x xs H Q => ∃ a p, ∃ ys : List Str, x = .str a ∧ xs = [.ref p] ∧ (SqL K H p (ys.map V.str) ∨ SqT K H p (ys.map V.str)) ∧ (ys.map (·.length)).sum + ys.length * a.length ≤ 16777216 ∧ Q (.str (Txt.join a ys)) H) (tC (.str "")) te
theorem pick_succ {ns : List Str} {bs : List Bool} {i : Nat} {x : Str} {b : Bool} (hx : ns[i]? = some x) (hb : bs[i]? = some b) : pickS (ns.take (i + 1)) (bs.take (i + 1)) = pickS (ns.take i) (bs.take i) ++ (if b then [x] else []) := by
  have l1 := (List.getElem?_eq_some_iff.mp hx).1
  have l2 := (List.getElem?_eq_some_iff.mp hb).1
  have e1 : ns.take (i + 1) = ns.take i ++ [x] := by rw [List.take_add_one, hx]; rfl
  have e2 : bs.take (i + 1) = bs.take i ++ [b] := by rw [List.take_add_one, hb]; rfl
  rw [e1, e2]
  unfold pickS
  rw [List.zip_append (by rw [List.length_take, List.length_take]; omega), List.filter_append, List.map_append]
  cases b <;> rfl
theorem klc_run {K : PySem.W.Frag} {a l ln : Addr} {bs : List Bool} {ns xs : List Str} {H : Hp} {Q : VK} (hl : H l = some (.lst (bs.map V.bl))) (hn : H ln = some (.lst (ns.map V.str))) (hb : bs.length = ns.length + xs.length) (hz : bs.length ≤ 100)
    (q : ∀ D H', (∀ b o, H b = some o → H' b = some o) → H' D = some (.lst ((pickS (ns ++ xs) bs).map V.str)) → Q (.ref D) H') : tKlc K xs [some (.ref a), some (.ref l), some (.ref ln), none, none] H Q := by
  have line : (100 : Nat) < sizeLine := by rw [sizeLine_eq]; omega
  refine ⟨.ref ln, rfl, fun p hp => ⟨ln, p, ns.map V.str, xs.map V.str, rfl, rfl, .inl (.inl ?_), .inl (.inl upd_same), by simp; omega, fun r hr => ?_⟩⟩
  · rw [upd_ne (ne_of_none hn hp)]; exact hn
  refine ⟨.ref l, rfl, r, l, (ns ++ xs).map V.str, bs.map V.bl, rfl, .inl (.inl (by rw [upd_same, List.map_append])), ?_, ?_⟩
  · refine .inl (.inl ?_)
    have h1 : (upd H p (.lst (xs.map V.str))) l = some (.lst (bs.map V.bl)) := by rw [upd_ne (ne_of_none hl hp)]; exact hl
    rw [upd_ne (ne_of_none h1 hr)]; exact h1
  generalize hH1 : upd (upd H p (.lst (xs.map V.str))) r (.lst (ns.map V.str ++ xs.map V.str)) = H1
  have up : ∀ b o, H b = some o → H1 b = some o := fun b o e => by
    have h1 : (upd H p (.lst (xs.map V.str))) b = some o := by rw [upd_ne (ne_of_none e hp)]; exact e
    rw [← hH1, upd_ne (ne_of_none h1 hr)]; exact h1
  have hr1 : H1 r = some (.lst ((ns ++ xs).map V.str)) := by rw [← hH1, upd_same, List.map_append]
  have hl1 := up l _ hl
  intro D hD
  have hlen : (ns ++ xs).length = bs.length := by rw [List.length_append]; omega
  refine ⟨fun i m H' => m = bs.length - i ∧ i ≤ bs.length ∧ (∀ b o, H1 b = some o → H' b = some o) ∧ H' D = some (.lst ((pickS ((ns ++ xs).take i) (bs.take i)).map V.str)), ⟨bs.length, by omega, by omega, fun b o e => by rw [upd_ne (ne_of_none e hD)]; exact e, by rw [upd_same]; rfl⟩, fun i m H' ⟨hm, hi, upi, hDi⟩ => ?_⟩
  by_cases hs : i = bs.length
  · refine .inl ⟨⟨(ns ++ xs).map V.str, bs.map V.bl, .inl (.inl (upi _ _ hr1)), .inl (.inl (upi _ _ hl1)), by rw [List.length_map]; omega, by rw [List.length_map]; omega, .inr (by rw [List.length_map]; exact hs)⟩, q D H' (fun b o e => upi b o (up b o e)) ?_⟩
    rw [hDi, List.take_of_length_le (by omega), List.take_of_length_le (by omega)]
  · have hi' : i < bs.length := by omega
    obtain ⟨x, hx⟩ : ∃ x, (ns ++ xs)[i]? = some x := ⟨_, List.getElem?_eq_getElem (by omega)⟩
    obtain ⟨b, hbi⟩ : ∃ b, bs[i]? = some b := ⟨_, List.getElem?_eq_getElem hi'⟩
    have ex : ((ns ++ xs).map V.str)[i]? = some (.str x) := by rw [List.getElem?_map, hx]; rfl
    have eb : (bs.map V.bl)[i]? = some (.bl b) := by rw [List.getElem?_map, hbi]; rfl
    refine .inr ⟨⟨_, _, _, _, .inl (.inl (upi _ _ hr1)), .inl (.inl (upi _ _ hl1)), ex, eb⟩, fun H2 => bs.length - (i + 1) = bs.length - (i + 1) ∧ i + 1 ≤ bs.length ∧ (∀ b o, H1 b = some o → H2 b = some o) ∧ H2 D = some (.lst ((pickS ((ns ++ xs).take (i + 1)) (bs.take (i + 1))).map V.str)), fun H2 h2 => ⟨bs.length - (i + 1), by omega, h2⟩, fun v H2 hy => ?_⟩
    obtain ⟨T, x', y', rfl, hT, rfl, h1, h2⟩ := hy
    have e1 := h1 _ (.inl (.inl (upi _ _ hr1)))
    rw [ex] at e1; cases e1
    have e2 := h2 _ (.inl (.inl (upi _ _ hl1)))
    rw [eb] at e2; cases e2
    refine ⟨T, [.str x, .bl b], rfl, .inl (.inl upd_same), rfl, .str x, [.bl b], rfl, .bl b, [], rfl, rfl, ?_⟩
    have upT : ∀ c o, H1 c = some o → (upd H' T (.tup [.str x, .bl b])) c = some o := fun c o e => by
      have := upi c o e
      rw [upd_ne (ne_of_none this hT)]; exact this
    have hDT : (upd H' T (.tup [.str x, .bl b])) D = some (.lst ((pickS ((ns ++ xs).take i) (bs.take i)).map V.str)) := by rw [upd_ne (ne_of_none hDi hT)]; exact hDi
    refine ⟨by simp [wipe], .bl b, by simp [wipe], b, rfl, ?_⟩
    have ps := pick_succ hx hbi
    cases b with
    | false =>
      simp only [Bool.false_eq_true, if_false] at ps ⊢
      exact ⟨by trivial, by omega, upT, by rw [hDT, ps, List.append_nil]⟩
    | true =>
      simp only [if_true] at ps ⊢
      refine ⟨.str x, by simp [wipe], _, hDT, ?_, by trivial, by omega, fun c o e => ?_, ?_⟩
      · rw [List.length_map]
        have : (pickS ((ns ++ xs).take i) (bs.take i)).length ≤ bs.length := by
          unfold pickS
          rw [List.length_map]
          refine Nat.le_trans (List.length_filter_le _ _) ?_
          rw [List.length_zip, List.length_take, List.length_take]; omega
        omega
      · have hne : c ≠ D := fun z => by subst z; rw [hD] at e; cases e
        rw [upd_ne hne]; exact upT c o e
      · rw [upd_same, ps, List.map_append]; rfl
end DL

/-! ## DL3 -/
/-! DL3: _law_kin as a def that is called while an exception is handled; _law_try. -/
namespace DL
open PySem PySem.Spec PyProof.Rows L2
/-- what a def promises while p's exception is handled -/
structure FnP (P : Program) (w : World) (K : PySem.W.Frag) (mg : Str → Option Value) (base : Heap) (CX : CXT) (k : Nat) (f : Addr) (fd : FuncData) (ps : List Str) (sp : Sp) (p : Addr × Obj) : Prop where
  len : ∀ vs H Q E, sp vs H Q E → vs.length = ps.length
  run : ∀ (A : Around) (outer : List Env) (s : Shared) (H : Hp) (args : Args) (us : List Value) (vs : List V) (Q : VK) (E : XK), L2H.RoomH k A → L2H.Hot1 A p → L2H.PinOk outer H s p → Env0 P w K mg base A outer s H → BindsTo s fd args (ps.zip us) → Vals vs us → sp vs H Q E →
    codeAny (model P w) A (.call (.ref f) args) (CR CX outer P w H s Q E) s
theorem fn_ofP {CX : CXT} {P : Program} {w : World} {K : PySem.W.Frag} {mg : Str → Option Value} {base : Heap} {k : Nat} {x qual : Str} {st : Stmt} {f : Addr} {fd : FuncData} {N ps : List Str} {sp : Sp} {p : Addr × Obj} (F : Fun K x qual st f fd) (S : FnScope N ps (defScope st))
    (len : ∀ vs H Q E, sp vs H Q E → vs.length = ps.length)
    (hbody : ∀ (cdv : Value) (A : Around) (outer : List Env) (s : Shared) (H : Hp) (vs : List V) (Q : VK) (E : XK), L2H.Hot1 A p → L2H.RoomH k (A.deeper (envOfC qual (defScope st) s.heap.objs.size f cdv)) → sp vs H Q E →
      ∃ t, PSs (L2H.cxH CX P w K mg base N qual (defScope st) f cdv A outer s H E p) (defBody st) t ∧ t { nx := fun _ H' => Q .non H', rt := Q } (L2.start N vs) H) :
    FnP P w K mg base CX (k + 1) f fd ps sp p := by
  obtain ⟨oc, od, kV, doc, pm, an, cdv, ct, osl, rfl, lk, hcd⟩ := F.ex
  refine ⟨len, fun A outer s H args us vs Q E hr hot hpin e0 hb r hsp => ?_⟩
  have hl := len _ _ _ _ hsp
  have KX : K.In s.heap := e0.mod.kin.keeps fun b o e => (e0.bs b o e).1
  have lim : s.heap.NoLimit := e0.mod.nolimit.keeps fun b o e => (e0.bs b o e).1
  have hkind : ∀ y ∈ ps.zip us, (defScope st).names.lookup y.1 = some .local ∨ ((defScope st).names.lookup y.1 = some .cell ∧ ((cellsFrom (s.heap.objs.size + 1) (defScope st).names []).lookup y.1).isSome = true) := fun ⟨n, v⟩ hy => by
    rcases S.par n (List.of_mem_zip hy).1 with q | q
    · exact .inl q
    · exact .inr ⟨q, PySem.W.cellsFrom_some _ _ _ (.inl q)⟩
  refine codeAny_call_function hr.depth (KX _ _ lk) rfl S.co S.gen rfl (PySem.W.codeRec_of KX hcd) (hb _ _ _ _ ?_)
  refine wpAny_newFunctionEnv_cells S.kind hkind fun env he s1 x => ?_
  subst he
  refine ⟨lim.keeps x.toInCall.keep, codeAny_func ?_⟩
  obtain ⟨t, ht, hq⟩ := hbody cdv A outer s H vs Q E hot (hr.deeper _) hsp
  have I := L2H.inv_startH (CX := CX) (E := E) (qual := qual) (f := f) (cd := cdv) S hpin e0 hl r x
  refine wpAny_mono (ht.run [] s1 (L2.start N vs) H _ I hq) (fun fl s' hs => ?_) fun e s' hs => hs
  cases fl with
  | ret u =>
    obtain ⟨v, σ', H', J, rv, q⟩ := hs
    exact ⟨v, H', J.os, J.bare, J.base, J.hok, rv, q⟩
  | next =>
    obtain ⟨σ', H', J, q⟩ := hs
    exact ⟨.non, H', J.os, J.bare, J.base, J.hok, rfl, q⟩
  | brk =>
    obtain ⟨_, _, _, q⟩ := hs
    exact False.elim q
  | cont =>
    obtain ⟨_, _, _, q⟩ := hs
    exact False.elim q
section
variable {X : Cx} {CX : CXT} {k : Nat} {f : Addr} {fd : FuncData} {ps : List Str} {sp : Sp} {x : Str} {q pos : Pos} {e : Expr} {es : List Expr} {t : TA} {p : Addr × Obj}
theorem pe_callP {E : L2.St → XK} (F : FnP X.prog X.w X.K X.mg X.base CX k f fd ps sp p) (hr : L2H.RoomH k X.A) (hp : p ∈ X.pn) (hot : L2H.Hot1 X.A p) (hg : Gl X x) (hm : X.mg x = some (.ref f)) (hk : PySem.W.keepIn X.K (.ref f) = true) (hb : Binds X.K fd ps []) (hx : ∀ σ, PassesAt CX X σ (E σ))
    (ha : PA X (e :: es) t) (hdb : (x == ("__debug__" : Str)) = false := by decide) (he : starEach (e :: es) X.env = (false, eval e X.env) :: starEach es X.env := by rfl) (hpl : (backTo pos (starEach es X.env)).any (·.1) = false := by rfl) :
    PE X (.Call (.Name x q) (e :: es) [] pos) (tCallS sp E t) := by
  refine ⟨fun pins s σ H Q I h => ?_⟩
  refine wpAny_Call_Name_kw (ld_glob I hg hm ?_ hdb)
  refine PySem.W.callWith_K (h₀ := X.base) I.ok.mod.kin hk (thn (ha.run pos pins s σ H _ I h) fun us s1 ⟨vs, H1, I1, r, q⟩ => ⟨I1.kIn, ?_⟩) he hpl
  have hl : us.length = ps.length := by rw [← r.length]; exact F.len _ _ _ _ q
  have b := hb s1 us I1.kIn (by rw [List.append_nil]; exact hl)
  rw [List.append_nil] at b
  have P1 := I1.pin p (List.mem_append_left _ hp)
  have hpin : L2H.PinOk X.stack H1 s1 p := ⟨P1.1, P1.2.1, fun hm => (List.mem_cons.mp (I1.stkSub p.1 hm)).elim P1.2.2.1 P1.2.2.2.1, P1.2.2.2.2⟩
  refine wpAny_call (codeAny_mono (F.run X.A X.stack s1 H1 ⟨us, []⟩ us vs Q (E σ) hr hot hpin I1.env0 b r q) fun r' s' hq => ?_)
  cases r' with
  | error e => exact hx σ pins H1 s1 e s' I1 hq
  | ok fl =>
    cases fl with
    | ret u => exact I1.after hq
    | next => exact False.elim hq
    | brk => exact False.elim hq
    | cont => exact False.elim hq
end
/-! ### _law_kin -/
abbrev kinNm : List Str := ["e", "kinds_met", "names", "name", "good"]
def kd (c : Str) (ys : List Str) : List Bool := ys.map fun y => decide (c = y)
abbrev kn1 : List Str := ["NoBook", "NoRoom", "NoWinter", "NoSpan"]
abbrev kn2 : List Str := ["NoPrices", "NoSize", "NoSizes"]
abbrev kn3 : List Str := ["NotServed", "Unlike", "Full"]
abbrev kn4 : List Str := ["NoChild", "NoCoat"]
abbrev knA : List Str := ["NoBook", "NoRoom", "NoWinter", "NoSpan", "NoPrices", "NoSize", "NoSizes", "NotServed", "Unlike", "Full"]
abbrev knB : List Str := ["NoChild", "NoCoat", "+"]
def tKin (K : PySem.W.Frag) (a : Addr) (c : Str) : TS := tSeq (tAsg (tKL a (kd c kn1)) (gName 1)) (tSeq (tKadd K a (kd c kn2)) (tSeq (tKadd K a (kd c kn3)) (tSeq (tKadd K a (kd c kn4 ++ [true])) (tSeq (tAsg (tSL knA) (gName 2)) (tRet (tKjoin K (tKlc K knB)))))))
def spKin (a : Addr) (c : Str) : Sp := fun vs H Q E => vs = [.ref a] ∧ ∀ H', (∀ b o, H b = some o → H' b = some o) → Q (.str (kinS c)) H'
theorem kadd_run {K : PySem.W.Frag} {a l : Addr} {bs cs : List Bool} {r : L2.St} {H : Hp} {D : Ends} (hl : H l = some (.lst (bs.map V.bl))) (hz : bs.length + cs.length ≤ 100)
    (q : ∀ l' H', (∀ b o, H b = some o → H' b = some o) → H' l' = some (.lst ((bs ++ cs).map V.bl)) → D.nx (some (.ref a) :: some (.ref l') :: r) H') : tKadd K a cs D (some (.ref a) :: some (.ref l) :: r) H := by
  have line : (100 : Nat) < sizeLine := by rw [sizeLine_eq]; omega
  refine ⟨.ref l, rfl, rfl, fun p hp => ⟨l, p, bs.map V.bl, cs.map V.bl, rfl, rfl, .inl (.inl ?_), .inl (.inl upd_same), by simp; omega, fun l' hl' => ?_⟩⟩
  · rw [upd_ne (ne_of_none hl hp)]; exact hl
  · refine q l' _ (fun b o e => ?_) (by rw [upd_same, List.map_append])
    have h1 : (upd H p (.lst (cs.map V.bl))) b = some o := by rw [upd_ne (ne_of_none e hp)]; exact e
    rw [upd_ne (ne_of_none h1 hl')]; exact h1
theorem pick_small {ns : List Str} {bs : List Bool} (h : ∀ x ∈ ns, x.length ≤ 20) (hl : ns.length ≤ 20) : ((pickS ns bs).map (·.length)).sum ≤ 400 := by
  have h2 : ∀ (l : List Str), (∀ x ∈ l, x.length ≤ 20) → (l.map (·.length)).sum ≤ 20 * l.length := fun l => by
    induction l with
    | nil => simp
    | cons x l ih =>
      intro h
      have := ih fun y hy => h y (List.mem_cons_of_mem _ hy)
      have := h x List.mem_cons_self
      simp; omega
  have h3 : (pickS ns bs).length ≤ ns.length := by
    unfold pickS
    rw [List.length_map]
    refine Nat.le_trans (List.length_filter_le _ _) ?_
    rw [List.length_zip]; omega
  have := h2 (pickS ns bs) fun x hx => by
    unfold pickS at hx
    obtain ⟨p, hp, rfl⟩ := List.mem_map.mp hx
    exact h _ (List.of_mem_zip (a := p.1) (b := p.2) (List.mem_filter.mp hp).1).1
  omega
theorem kin_run {K : PySem.W.Frag} {a : Addr} {c : Str} {H : Hp} {Q : VK} {E : XK} (h : spKin a c [.ref a] H Q E) : tKin K a c { nx := fun _ H' => Q .non H', rt := Q } (L2.start kinNm [.ref a]) H := by
  obtain ⟨_, q⟩ := h
  refine ⟨rfl, fun l1 h1 => ?_⟩
  refine kadd_run (r := [none, none, none]) (bs := kd c kn1) upd_same (by simp [kd]) fun l2 H2 u2 e2 => ?_
  refine kadd_run (r := [none, none, none]) e2 (by simp [kd]) fun l3 H3 u3 e3 => ?_
  refine kadd_run (r := [none, none, none]) e3 (by simp [kd]) fun l4 H4 u4 e4 => ?_
  refine fun l5 h5 => ?_
  refine ⟨⟨_, rfl⟩, klc_run (ns := knA) (xs := knB) (by rw [upd_ne (ne_of_none e4 h5)]; exact e4) upd_same (by simp [kd]) (by simp [kd]) fun D H6 u6 e6 => ?_⟩
  refine ⟨_, D, _, rfl, rfl, .inl (.inl (.inl e6)), ?_, q H6 fun b o e => ?_⟩
  · have := pick_small (ns := knA ++ knB) (bs := ((kd c kn1 ++ kd c kn2) ++ kd c kn3) ++ (kd c kn4 ++ [true])) (by decide) (by decide)
    show _ + _ * 0 ≤ _
    omega
  · have k1 : (upd H l1 (.lst ((kd c kn1).map V.bl))) b = some o := by rw [upd_ne (ne_of_none e h1)]; exact e
    have k4 := u4 b o (u3 b o (u2 b o k1))
    exact u6 b o (by rw [upd_ne (ne_of_none k4 h5)]; exact k4)
end DL

/-! ## DL4 -/
/-! DL4: _law_try(lambda: e): what e tells, or the name of its refusal. -/
namespace DL
open PySem PySem.Spec PyProof.Rows L2
/-! ### the lambda's body, its exceptions' context told -/
def lamCxN (X : Cx) (A : Around) (outer : List Env) (s : Shared) (H : Hp) (E : XK) (scope : Scope) (f c' : Addr) : Cx :=
  { LamX.lamCx X A outer s H E scope f c' with
    xe := fun e s' => wpAny (model X.prog X.w) (A.deeper (LamX.lamEnv X scope s.heap.objs.size f c')) (leaving (LamX.lamEnv X scope s.heap.objs.size f c') e) (fun _ s'' => L2N.CX X.prog X.w outer H s E e s'') (fun e' s'' => L2N.CX X.prog X.w outer H s E e' s'') s' }
section
variable {X : Cx} {pins : List (Addr × Obj)} {σ : L2.St} {H HZ : Hp} {s s1 : Shared}
theorem lam_startN {A : Around} {outer : List Env} {E : XK} {scope : Scope} {f c' : Addr} {h₁ : Heap} {tk : Nat} (I : Inv X pins σ H s) (L : LamX.LamS X.env.scope scope) (e0 : Env0 X.prog X.w X.K X.mg X.base A outer s1 HZ) (hd : A.handled = none)
    (un : Un (frs X.stack) [] H HZ s.heap s1.heap) (hns : h₁.Ns s1.heap.objs.size fun y => ([] : List (Str × Value)).reverse.lookup y) (kp : ∀ b o, s1.heap.get? b = some o → h₁.get? b = some o) :
    Inv (lamCxN X A outer s1 HZ E scope f c') [] σ HZ { s1 with heap := h₁, toks := tk } := by
  obtain ⟨⟨o1, o2, o3, o4, o5, o6, o7, o8, o9, o10, o11, o12, o13, o14, o15, o16, o17, o18⟩, i2, i3, i4, i5, i6, i7, i8, i9, i10, i11⟩ := LamX.lam_start2 (E := E) (f := f) (c' := c') (tk := tk) I L e0 hd un hns kp
  exact ⟨⟨o1, o2, o3, o4, o5, o6, o7, o8, o9, o10, o11, o12, o13, o14, o15, o16, o17, o18⟩, i2, i3, i4, i5, i6, i7, i8, i9, i10, i11⟩
theorem pe_actN {CXg : CXT} {Eg : XK} {Ng : List Str} {qg : Str} {sg : Scope} {g f c' : Addr} {cdg pm ctv : Value} {params : Arguments} {body : Expr} {scope : Scope} {k i : Nat} {a : Str} {pn : List (Addr × Obj)} {xe : Value → Shared → Prop} {W : WX} {E : XK} {tb : TE} {p1 p2 : Pos}
    (I : Inv X pins σ H s) (L : LamX.LamS X.env.scope scope) (hf : s.heap.get? f = some (PySem.W.kla_obj "<lambda>" (X.env.qual ++ "<lambda>") params body scope (cloFrom X.env.cells scope.names []) pm c' ctv)) (hfn : H f = none) (hfr : f ∉ frs X.stack)
    (hbind : bindArgs (PySem.W.kla_fn "<lambda>" (X.env.qual ++ "<lambda>") params body scope (cloFrom X.env.cells scope.names []) pm (.ref c') ctv) ⟨[], []⟩ = pure [])
    (tk : L2N.Takes ((cxOf CXg X.prog X.w X.K X.mg X.base Ng qg sg g cdg X.A X.stack s H Eg).tr pn xe) W) (hW : ∀ cls d σ' H', E cls d H' → W cls d σ' H') (hr : Room (k + 1) (X.A.deeper (envOfC qg sg s.heap.objs.size g cdg)))
    (hbody : ∀ (A : Around) (outer : List Env) (s : Shared) (H : Hp), Room k (A.deeper (LamX.lamEnv X scope s.heap.objs.size f c')) → PE (lamCxN X A outer s H E scope f c') body tb)
    (hN : Ng[i]? = some a) (hv : Vis sg a) (hd : (a == ("__debug__" : Str)) = false := by decide) (hcd : (a == ("__classdict__" : Str)) = false := by decide) :
    PE ((cxOf CXg X.prog X.w X.K X.mg X.base Ng qg sg g cdg X.A X.stack s H Eg).tr pn xe) (.Call (.Name a p1) [] [] p2)
      (fun σZ HZ Q => σZ[i]? = some (some (.ref f)) ∧ HZ c' = some (LamX.CodeO c' (X.env.qual ++ "<lambda>")) ∧ tb σ HZ Q) := by
  refine ⟨fun pinsZ sZ σZ HZ Q IZ ⟨hs, hc, ht⟩ => ?_⟩
  refine wpAny_Call_Name_kw (thn ((pe_var (pos := p1) (i := i) hN hv hd hcd).run pinsZ sZ σZ HZ (fun v H1 => v = .ref f ∧ H1 = HZ) IZ ⟨.ref f, hs, rfl, rfl⟩) fun u s1 ⟨v, H1, I1, r1, ev, eH⟩ => ?_)
  subst ev
  rw [eH] at I1
  obtain rfl : u = Value.ref f := r1
  have of1 := I1.base.keep f _ hf hfn hfr (fun z => nomatch (show f ∈ ([] : List Addr) from z))
  refine PySem.W.callWith_F0 ⟨_, _, _, _, of1⟩ ?_
  have un : Un (frs X.stack) [] H HZ s.heap s1.heap := I1.base
  obtain ⟨⟨oc, vs, t, hoc, hdc, hvc⟩, _, _⟩ := I1.hok c' _ hc
  have rc : codeAny (model X.prog X.w) (X.A.deeper (envOfC qg sg s.heap.objs.size g cdg)) (.call (.ref f) ⟨[], []⟩) (CR (L2N.CX X.prog X.w) (envOfC qg sg s.heap.objs.size g cdg :: X.stack) X.prog X.w HZ s1 Q E) s1 := by
    refine PySem.W.kla_callFunE hr.depth of1 rfl L.co L.gen rfl ⟨c', oc, vs, t, rfl, hoc, hdc, hvc⟩ ?_
    rw [hbind]
    refine wpAny_pure (wpAny_newFunctionEnv (fun y hy => (L.own y hy).2) (fun y hy => absurd hy (by simp)) (fun h₁ hns hsb => ⟨I1.nolimit.fresh _ hsb, ?_⟩) L.kind)
    show codeAny _ _ (.expr body (LamX.lamEnv X scope s1.heap.objs.size f c')) _ _
    have kp : ∀ b o, s1.heap.get? b = some o → h₁.get? b = some o := fun b o e => hsb.extBut b o (Nat.ne_of_lt (Heap.lt_size e)) (Heap.get?_push_of_some _ e)
    have J := lam_startN (A := X.A.deeper (envOfC qg sg s.heap.objs.size g cdg)) (outer := envOfC qg sg s.heap.objs.size g cdg :: X.stack) (E := E) (f := f) (c' := c') (tk := s1.toks + ([] : List (Str × Value)).length) I L I1.env0 hr.hd un hns kp
    refine PySem.W.kla_codeExpr (wpAny_mono ((hbody _ _ s1 HZ (hr.deeper _)).run [] _ _ HZ Q J ht) (fun v s' hq => ?_) fun e s' hq => hq)
    obtain ⟨w', H', J', rv, q⟩ := hq
    exact ⟨w', H', J'.os, J'.bare, J'.base, J'.hok, rv, q⟩
  have hx := L2N.passes_call tk fun cls d σ' H' h => hW cls d σ' H' h
  refine wpAny_call (codeAny_mono rc fun r s' hq => ?_)
  cases r with
  | error e => exact hx pinsZ σZ HZ s1 e s' I1 hq
  | ok fl =>
    cases fl with
    | ret u => exact I1.after hq
    | next => exact False.elim hq
    | brk => exact False.elim hq
    | cont => exact False.elim hq
end
/-- the def that calls what it got: TT what it makes of the lambda's reading -/
def GivesN (X : Cx) (Ng : List Str) (x : Str) (sg : Scope) (g : Addr) (cdg : Value) (bg : List Stmt) (a : Str) (q : Str) (TT : (XK → Hp → VK → Prop) → Hp → VK → Prop) : Prop :=
  ∀ (f c' : Addr) (s : Shared) (H : Hp) (Q : VK) (tl : XK → Hp → VK → Prop),
    (∀ (W : WX) (pn : List (Addr × Obj)) (xe : Value → Shared → Prop) (E : XK) (p1 p2 : Pos), L2N.Takes ((cxOf C8.CX0 X.prog X.w X.K X.mg X.base Ng x sg g cdg X.A X.stack s H C8.E0).tr pn xe) W → (∀ cls d σ' H', E cls d H' → W cls d σ' H') →
      PE ((cxOf C8.CX0 X.prog X.w X.K X.mg X.base Ng x sg g cdg X.A X.stack s H C8.E0).tr pn xe) (.Call (.Name a p1) [] [] p2) (fun σZ HZ Q => σZ[0]? = some (some (.ref f)) ∧ HZ c' = some (LamX.CodeO c' q) ∧ tl E HZ Q)) →
    H c' = some (LamX.CodeO c' q) → TT tl H Q →
    ∃ t, PSs (cxOf C8.CX0 X.prog X.w X.K X.mg X.base Ng x sg g cdg X.A X.stack s H C8.E0).nox bg t ∧ t { nx := fun _ H' => Q .non H', rt := Q } (L2.start Ng [.ref f]) H
end DL

/-! ## DL5 -/
/-! DL5: _law_try(lambda: e): what e tells, or the name of its refusal. -/
namespace DL
open PySem PySem.Spec PyProof.Rows L2
/-- the refusals that are told by their names -/
def KinE (K : PySem.W.Frag) (Q : VK) : XK := fun cls d H' => ∃ c ∈ kinN, cls = .ref (He.ga K c) ∧ d = none ∧ ∀ H'', (∀ b o, H' b = some o → H'' b = some o) → Q (.str (kinS c)) H''
/-- what _law_try makes of the lambda's reading -/
def TTry (K : PySem.W.Frag) : (XK → Hp → VK → Prop) → Hp → VK → Prop := fun tl H Q =>
  ∀ Qn : VK, (∀ v H', (∀ p, H' p = none → Q (.ref p) (upd H' p (.tup [.str "told", v]))) → Qn v H') → tl (KinE K Q) H Qn
/-- what the suite of _law_try does -/
def tsTry (K : PySem.W.Frag) : Addr → Value → Option Addr → TS := fun a cls d D σ H => σ.length = 3 → ∃ c, c ∈ kinN ∧ cls = .ref (He.ga K c) ∧ d = none ∧ tAsg (tCallS (spKin a c) (fun _ => C8.E0) (tCons (tVar 2) tNil)) (gName 1) D σ H
abbrev tryNm : List Str := ["door", "found", "e"]
section
variable {X : Cx}
theorem try_gives {k : Nat} {q : Str} {sg : Scope} {g : Addr} {cdg : Value} {fk : Addr} {fdk : FuncData} {j j0 j1 : Nat} {n1 n2 n3 n4 n5 n6 n7 n8 n9 n10 n11 n12 n13 n14 n15 n16 n17 n18 n19 : Pos} (M : KinF X.K X.mg) (hge : sg.names.lookup ("CoatError" : Str) = some .globalImplicit) (hgk : sg.names.lookup ("_law_kin" : Str) = some .globalImplicit)
    (hd1 : sg.names.lookup ("found" : Str) = some .local) (hd2 : sg.names.lookup ("e" : Str) = some .local)
    (hmk : X.mg "_law_kin" = some (.ref fk)) (hkk : PySem.W.keepIn X.K (.ref fk) = true) (hbk : Binds X.K fdk ["e"] []) (hr : ∀ s : Shared, L2H.RoomH k (X.A.deeper (envOfC "_law_try" sg s.heap.objs.size g cdg)))
    (hkin : ∀ (p : Addr × Obj) (c : Str), c ∈ kinN → Zc (.ref (He.ga X.K c)) none p.2 → (∃ vs, p.2.data = .fields vs) → FnP X.prog X.w X.K X.mg X.base C8.CX0 k fk fdk ["e"] (spKin p.1 c) p) :
    GivesN X tryNm "_law_try" sg g cdg [.Assign [.Name "found" n1] (.Constant .none j0 n2) n3, .Try [.Assign [.Name "found" n4] (.Tuple [.Constant (.str "told") j n5, .Call (.Name "door" n6) [] [] n7] j1 n8) n9] [.ExceptHandler (some (.Name "CoatError" n10)) (some "e") [.Assign [.Name "found" n11] (.Call (.Name "_law_kin" n12) [.Name "e" n13] [] n14) n15] n16] [] [] n17, .Return (some (.Name "found" n18)) n19] "door" q (TTry X.K) := by
  intro f c' s H Q tl act hc h
  have nd : tryNm.Nodup := by decide
  have hT := L2N.ps_try_as (X := (cxOf C8.CX0 X.prog X.w X.K X.mg X.base tryNm "_law_try" sg g cdg X.A X.stack s H C8.E0).nox) (i := 2) (n := "e") (x := "CoatError") (c := .ref (He.ga X.K "CoatError")) (ts := tsTry X.K) (Wout := fun _ _ _ _ => False) (np := n10) (pos := n17) (pos' := n16)
    (body := [.Assign [.Name "found" n4] (.Tuple [.Constant (.str "told") j n5, .Call (.Name "door" n6) [] [] n7] j1 n8) n9]) (b₀ := .Assign [.Name "found" n11] (.Call (.Name "_law_kin" n12) [.Name "e" n13] [] n14) n15) (suite := [])
    (tb := fun W D σ H => ∃ Ech : XK, (∀ cls d σ' H', Ech cls d H' → W cls d σ' H') ∧ σ[0]? = some (some (.ref f)) ∧ H c' = some (LamX.CodeO c' q) ∧ tl Ech H (fun v H' => [V.str "told", v].length ≤ sizeLine ∧ ∀ p, H' p = none → D.nx (σ.set 1 (some (.ref p))) (upd H' p (.tup [.str "told", v]))))
    rfl rfl nd rfl hd2 ⟨hge, by decide, .inl M.coat⟩ takesN0 (fun W pn xe tk _ => ⟨fun pins s' σ H' D I h' => ?_⟩) (fun a oe cls d pn hz hf => ⟨fun pins s' σ H' D I h' => ?_⟩)
  · refine ⟨_, pss_cons (ps_asg (pos := n3) pe_non (pg_name (i := 1) (x := "found") (pos := n1) nd rfl (.inl hd1))) (pss_cons hT (pss_one (ps_ret (pos := n19) (pe_var (i := 1) (x := "found") rfl (.inl hd1))))), ?_⟩
    refine ⟨KinE X.K Q, fun cls d σ' H' ⟨c, hcm, e1, e2, hq⟩ => ⟨true, by rw [e1]; exact M.exm c hcm, fun _ a na hl => ⟨c, hcm, e1, e2, ?_⟩, fun z => by cases z⟩, rfl, hc, h _ fun v H' hv => ⟨by show 2 ≤ sizeLine; rw [sizeLine_eq]; omega, fun p hp => ⟨_, rfl, hv p hp⟩⟩⟩
    rw [List.length_set] at hl
    match σ', hl with
    | [x, y, z], _ => exact ⟨.ref a, rfl, rfl, fun H'' ext => ⟨_, rfl, hq H'' ext⟩⟩
  · obtain ⟨Ech, hW, h1, h2, h3⟩ := h'
    have hp := act W pn xe Ech n6 n7 tk hW
    have hq := pss_one (ps_asg (pos := n9) (pe_tup (x1 := j1) (pos := n8) (pa_cons (pe_str (x := "told") (j := j) (pos := n5)) (pa_cons hp pa_nil))) (pg_name (i := 1) (x := "found") (pos := n4) nd rfl (.inl hd1)))
    exact hq.run pins s' σ H' D I ⟨h1, h2, h3⟩
  · obtain ⟨c, hcm, rfl, rfl, h2⟩ := h' I.len
    have F := hkin (a, oe) c hcm hz.zc hf
    have hot : L2H.Hot1 ((cxOf C8.CX0 X.prog X.w X.K X.mg X.base tryNm "_law_try" sg g cdg X.A X.stack s H C8.E0).nox.suite a ((a, oe) :: pn)).A (a, oe) := ⟨rfl, let ⟨vs, hv⟩ := hf; ⟨vs, hv, hz.2.2 vs hv⟩⟩
    have hr' := hr s
    have hq := pss_one (ps_asg (pos := n15) (pe_callP (X := (cxOf C8.CX0 X.prog X.w X.K X.mg X.base tryNm "_law_try" sg g cdg X.A X.stack s H C8.E0).nox.suite a ((a, oe) :: pn)) (E := fun _ => C8.E0) (q := n12) (pos := n14) F ⟨hr'.dp, hr'.un⟩ List.mem_cons_self hot hgk hmk hkk hbk (fun _ _ _ _ _ _ _ z => z.elim) (pa_cons (pe_var (pos := n13) (i := 2) (x := "e") rfl (.inl hd2)) pa_nil)) (pg_name (i := 1) (x := "found") (pos := n11) nd rfl (.inl hd1)))
    exact hq.run pins s' σ H' D I h2
end
def tLamN (T : List (Addr × Str)) (TT : (XK → Hp → VK → Prop) → Hp → VK → Prop) (t : XK → TE) : TE := fun σ H Q => LamX.Tabs T H ∧ ∀ H1, XN H H1 → (∀ b o, H b = some o → ∃ o', H1 b = some o') → LamX.Tabs T H1 → TT (fun E H' Q' => t E σ H' Q') H1 Q
section
variable {X : Cx}
/-- x(lambda: body) -/
theorem pe_lamcallN {T : List (Addr × Str)} {TT : (XK → Hp → VK → Prop) → Hp → VK → Prop} {x a : Str} {g c P : Addr} {k : Nat} {pg : Arguments} {bg : List Stmt} {sg : Scope} {dV kV doc pm cdv ct oc : Value} {an od : Option Addr} {osl : Array (Option Value)} {Ng : List Str}
    {params : Arguments} {body : Expr} {scope : Scope} {t : XK → TE} {p lpos pos : Pos} (hg : Gl X x) (hm : X.mg x = some (.ref g)) (hk : PySem.W.keepIn X.K (.ref g) = true)
    (lk : X.K.lookup g = some ⟨oc, od, .func (PySem.W.fnOf x x pg bg sg dV kV doc pm an cdv ct), osl⟩) (hcg : PySem.W.codeIn X.K cdv x = true) (hb : L2.Binds X.K (PySem.W.fnOf x x pg bg sg dV kV doc pm an cdv ct) [a] []) (Sg : FnScope Ng [a] sg) (hNg : Ng[0]? = some a) (hva : Vis sg a)
    (hG : GivesN X Ng x sg g cdv bg a (X.env.qual ++ "<lambda>") TT)
    (TB : LamX.TabB X.base X.mg c P) (hcode : X.env.code = .ref c) (hmT : (P, X.env.qual ++ "<lambda>") ∈ T) (hu : ∀ p ∈ T, p.1 = P → p.2 = X.env.qual ++ "<lambda>") (hr : Room (k + 2) X.A) (L : LamX.LamS X.env.scope scope) (hdef : defaultsOf params X.env = ([], []))
    (hbind : ∀ (q : Str) (cl : List (Str × Addr)) (pm cv ctv : Value), bindArgs (PySem.W.kla_fn "<lambda>" q params body scope cl pm cv ctv) ⟨[], []⟩ = pure [])
    (hbody : ∀ (A : Around) (outer : List Env) (s : Shared) (H : Hp) (E : XK) (f c' : Addr), Room k (A.deeper (LamX.lamEnv X scope s.heap.objs.size f c')) → PE (lamCxN X A outer s H E scope f c') body (t E))
    (hdb : (x == ("__debug__" : Str)) = false := by decide) (hd : (a == ("__debug__" : Str)) = false := by decide) (hcd : (a == ("__classdict__" : Str)) = false := by decide) :
    PE X (.Call (.Name x p) [.Lambda params body scope lpos] [] pos) (tLamN T TT t) := by
  refine ⟨fun pins s σ H Q I ⟨hT, h⟩ => ?_⟩
  refine wpAny_Call_Name_kw (ld_glob I hg hm ?_ hdb)
  refine PySem.W.callWith_K (h₀ := X.base) I.ok.mod.kin hk ?_ (by rfl) (by rfl)
  show wpAny _ _ (spliced ((false, eval (.Lambda params body scope lpos) X.env) :: backTo pos (starEach [] X.env))) _ _ s
  refine Calls.spliced_cons (lam_new I TB hcode hmT hu hT hdef (L.has I.ok) fun f c' pm' ctv H1 s' I1 eN dm T1 hf hfn hfr hco => Calls.spliced_nil ⟨I1.kIn, ?_⟩)
  have rc : codeAny (model X.prog X.w) X.A (.call (.ref g) ⟨[.ref f], []⟩) (CR C8.CX0 X.stack X.prog X.w H1 s' Q C8.E0) s' := by
    refine LamX.run_ofS (N := Ng) (ps := [a]) (us := [.ref f]) (vs := [.ref f]) lk hcg Sg hr I1.env0 (hb s' [.ref f] I1.kIn rfl) (.cons rfl .nil) rfl fun hr' => ?_
    obtain ⟨t', ht', hq'⟩ := hG f c' s' H1 Q (fun E H' Q' => t E σ H' Q') (fun W pn xe E p1 p2 tk hW => pe_actN (i := 0) I1 L hf hfn hfr (hbind _ _ _ _ _) tk hW hr' (fun A outer s H hr2 => hbody A outer s H E f c' hr2) hNg hva hd hcd) hco (h H1 eN dm T1)
    exact ⟨t', ht'.nox, hq'⟩
  refine wpAny_call (codeAny_mono rc fun r s2 hq => ?_)
  cases r with
  | error e => exact (show False from hq).elim
  | ok fl =>
    cases fl with
    | ret u => exact I1.after hq
    | next => exact False.elim hq
    | brk => exact False.elim hq
    | cont => exact False.elim hq
end
/-! ### by value -/
def noOwn : En → Bool
  | [] => true
  | .own _ :: _ => false
  | _ :: r => noOwn r
theorem noOwn_get : ∀ {env : En}, noOwn env = true → ∀ (i : Nat) (d : D), env[i]? ≠ some (Sl.own d)
  | [], _, i, d, q => by simp at q
  | .no :: r, h, i, d, q => by
    cases i with
    | zero => simp at q
    | succ i => exact noOwn_get (env := r) h i d (by simpa using q)
  | .val x :: r, h, i, d, q => by
    cases i with
    | zero => simp at q
    | succ i => exact noOwn_get (env := r) h i d (by simpa using q)
def eTry (f : Den) : Den := fun env => match f env with
  | .ok p => .ok (.tup false [.str "told", p.1], p.2)
  | .err c => if kinN.contains c && noOwn env then .ok (.str (kinS c), env) else .stk
  | .stk => .stk
theorem rd_try {K : PySem.W.Frag} {mg : Str → Option Value} {W : WD} {F : Den} {σ : L2.St} {H : Hp} {Q : VK} (M : KinF K mg) (h : RdE K W (eTry F) σ H Q) : tLamN W.T (TTry K) (fun E => RdE K (WE W.T mg E) F) σ H Q := by
  obtain ⟨io, env, r, w⟩ := h
  refine ⟨r.tab, fun H1 xn dm T1 Qn hQn => ?_⟩
  have r1 := r.extN xn T1
  have ev1 : EvE env σ H env H1 := EvE.extN xn dm
  refine ⟨io, env, r1, ?_⟩
  unfold eTry at w
  cases z : F env with
  | stk => rw [z] at w; exact w
  | ok p =>
    rw [z] at w
    intro b H' e' r' p'
    refine hQn b H' fun a na => ?_
    refine w (.ref a) _ ((ev1.trans e').trans (EvE.ext (Ext.new na))) (r'.ext (Ext.new na)) ?_
    show Rp K _ (.tup false [.str "told", p.1]) (.ref a)
    simp only [Rp]
    exact ⟨a, _, rfl, upd_same, .str "told", [b], rfl, rfl, ⟨b, [], rfl, Rp.ext (Ext.new na).fx _ _ p', rfl⟩⟩
  | err c =>
    rw [z] at w
    dsimp only at w
    intro env' H' e' t' C hC
    by_cases q : (kinN.contains c && noOwn env) = true
    · rw [if_pos q] at w
      rw [Bool.and_eq_true] at q
      have hcm : c ∈ kinN := List.contains_iff_mem.mp q.1
      rw [M.glo c hcm] at hC
      refine ⟨c, hcm, ?_, rfl, fun H'' ext => ?_⟩
      · injection hC with hC; exact hC.symm
      · have no : ∀ b, ¬ OwnA env σ b := fun b ⟨i, d, h1, _⟩ => noOwn_get q.2 i d h1
        have xn2 : XN H1 H'' := fun b o hb nt => ext b o (e'.kp b o hb nt (no b))
        have dm2 : ∀ b o, H1 b = some o → ∃ o', H'' b = some o' := fun b o hb => let ⟨o', h'⟩ := e'.dom b o hb; ⟨o', ext b o' h'⟩
        refine w (.str (kinS c)) H'' (ev1.trans (EvE.extN xn2 dm2)) (r1.extN xn2 (t'.ext ext)) ?_
        show Rp K H'' (.str (kinS c)) (.str (kinS c))
        simp only [Rp]
    · rw [if_neg q] at w
      exact (show False from w).elim
end DL

/-! ## DL6 -/
/-! DL6: the rule for _law_try(lambda: e); the head with the classes of refusals. -/
namespace DL
open PySem PySem.Spec PyProof.Rows L2
section
variable {X : Cx} {p : Addr × Obj}
theorem pvX (i : Nat) {x : Str} {pos : Pos} (hN : X.N[i]? = some x := by rfl) (hv : Vis X.env.scope x := by first | exact Or.inl rfl | exact Or.inr (Or.inl rfl) | exact Or.inr (Or.inr rfl)) (hd : (x == ("__debug__" : Str)) = false := by decide)
    (hcd : (x == ("__classdict__" : Str)) = false := by decide) : PE X (.Name x pos) (tVar i) := pe_var hN hv hd hcd
theorem pgX (i : Nat) {x : Str} {pos : Pos} (hN : X.N.Nodup) (hi : X.N[i]? = some x := by rfl) (hx : Loc X.env.scope x := by first | exact Or.inl rfl | exact Or.inr rfl) (hf : X.fn x = true ∨ X.env.scope.names.lookup x = some .local := by first | exact .inl rfl | exact .inr rfl) : PG X (.Name x pos) (gName i) := pg_name hN hi hx hf
theorem pe_isC {c y : Str} {p1 p2 p3 pos : Pos} (hp : p ∈ X.pn) (M : KinF X.K X.mg) (hc : c ∈ kinN) (hz : Zc (.ref (He.ga X.K c)) none p.2) (hf : ∃ vs, p.2.data = .fields vs) (hy : y ∈ kinN) (hg : Gl X "isinstance") (hm : X.mg "isinstance" = none) (hg2 : Gl X y) (hdb : (y == ("__debug__" : Str)) = false := by decide)
    (hN : X.N[0]? = some ("e" : Str) := by rfl) (hv : Vis X.env.scope ("e" : Str) := by first | exact Or.inl rfl | exact Or.inr (Or.inl rfl) | exact Or.inr (Or.inr rfl)) :
    PE X (.Call (.Name "isinstance" p1) [.Name "e" p2, .Name y p3] [] pos) (tKb p.1 (decide (c = y))) :=
  pe_isK hp (M.exc c hc) hz hf hg hm (pe_glob (v := .ref (He.ga X.K y)) hg2 (M.glo y hy) rfl hdb) (fun u h => h) (M.kit c hc y hy) hN hv
theorem pe_isV {c : Str} {p1 p2 p3 pos : Pos} (hp : p ∈ X.pn) (M : KinF X.K X.mg) (hc : c ∈ kinN) (hz : Zc (.ref (He.ga X.K c)) none p.2) (hf : ∃ vs, p.2.data = .fields vs) (hg : Gl X "isinstance") (hm : X.mg "isinstance" = none) (hg2 : Gl X "ValueError") (hm2 : X.mg "ValueError" = none)
    (hN : X.N[0]? = some ("e" : Str) := by rfl) (hv : Vis X.env.scope ("e" : Str) := by first | exact Or.inl rfl | exact Or.inr (Or.inl rfl) | exact Or.inr (Or.inr rfl)) :
    PE X (.Call (.Name "isinstance" p1) [.Name "e" p2, .Name "ValueError" p3] [] pos) (tKb p.1 true) :=
  pe_isK hp (M.exc c hc) hz hf hg hm (pe_bltn (v := .ty "ValueError") (u := .type "ValueError") hg2 hm2 (by rfl) rfl) (fun u h => h) (M.val c hc) hN hv
/-- _law_try(lambda: e) -/
theorem de_try {W : WD} {F : Den} {st : Stmt} {g : Addr} {fd : FuncData} {k : Nat} {params : Arguments} {body : Expr} {scope : Scope} {q lpos pos : Pos} (M : KinF X.K X.mg) (hg : Gl X "_law_try") (hm : X.mg "_law_try" = some (.ref g)) (Ft : Fun X.K "_law_try" "_law_try" st g fd) (hb : Binds X.K fd ["door"] []) (Sg : FnScope tryNm ["door"] (defScope st))
    (hva : (defScope st).names.lookup ("door" : Str) = some .local) (hG : ∀ cdg : Value, GivesN X tryNm "_law_try" (defScope st) g cdg (defBody st) "door" (X.env.qual ++ "<lambda>") (TTry X.K))
    (L : LamAt X W.T) (hr : Room (k + 2) X.A) (LS : LamX.LamS X.env.scope scope) (hdef : defaultsOf params X.env = ([], []))
    (hbind : ∀ (q : Str) (cl : List (Str × Addr)) (pm cv ctv : Value), bindArgs (PySem.W.kla_fn "<lambda>" q params body scope cl pm cv ctv) ⟨[], []⟩ = pure [])
    (hbody : ∀ (A : Around) (outer : List Env) (s : Shared) (H : Hp) (E : XK) (f c' : Addr), Room k (A.deeper (LamX.lamEnv X scope s.heap.objs.size f c')) → L2N.Takes (lamCxN X A outer s H E scope f c') (WT X.mg (WE W.T X.mg E)) → DE (lamCxN X A outer s H E scope f c') (WE W.T X.mg E) body F) :
    DE X W (.Call (.Name "_law_try" q) [.Lambda params body scope lpos] [] pos) (eTry F) := by
  obtain ⟨c, P, hcode, TB, hmT, hu⟩ := L.ex
  obtain ⟨oc, od, kV, doc, pm, an, cdv, ct, osl, rfl, lk, hcd⟩ := Ft.ex
  exact pe_imp (pe_lamcallN (t := fun E => RdE X.K (WE W.T X.mg E) F) (TT := TTry X.K) hg hm Ft.kp lk hcd hb Sg rfl (.inl hva) (hG cdv) TB hcode hmT hu hr LS hdef hbind
    fun A outer s H E f c' hr2 => hbody A outer s H E f c' hr2 (tk_def (X := lamCxN X A outer s H E scope f c') (L2N.takes_of rfl rfl rfl rfl))) fun σ H Q h => rd_try M h
end
@[simp] theorem v_try {f : Den} {env : En} : eTry f env = match f env with
  | .ok p => .ok (.tup false [.str "told", p.1], p.2)
  | .err c => if kinN.contains c && noOwn env then .ok (.str (kinS c), env) else .stk
  | .stk => .stk := rfl
/-- the two defs of a law's text -/
structure TryH (P : Program) (w : World) (K : PySem.W.Frag) (mg : Str → Option Value) (base : Heap) (st : Stmt) where
  g : Addr
  fd : FuncData
  fk : Addr
  fdk : FuncData
  M : KinF K mg
  m : mg "_law_try" = some (.ref g)
  F : Fun K "_law_try" "_law_try" st g fd
  b : Binds K fd ["door"] []
  mkin : mg "_law_kin" = some (.ref fk)
  kk : PySem.W.keepIn K (.ref fk) = true
  bk : Binds K fdk ["e"] []
  kin : ∀ (p : Addr × Obj) (c : Str), c ∈ kinN → Zc (.ref (He.ga K c)) none p.2 → (∃ vs, p.2.data = .fields vs) → FnP P w K mg base C8.CX0 1 fk fdk ["e"] (spKin p.1 c) p
end DL

/-! ## F -/
namespace DL
open PySem PySem.Spec PyProof.Rows L2

def b_is_from (m : Bool) : DenS := (sRet (eAnd (eIsT "int" (eVar 0)) (eAnd (eNot (eIsT "bool" (eVar 0))) (eChain pLe pLe (eVar 1) (eVar 0) (eVar 2)))))
def f_is_from (m : Bool) : DenF := runF false false 0 (b_is_from m)
def b_is_rising (m : Bool) : DenS := (sRet (eN pAll (aCons (fComp (itZip (aCons (eVar 0) (aCons (eSl (eVar 0) (oS (eC (.int 1))) oN) aNil))) (.tu [(.nm 1), (.nm 2)]) [1, 2] tT (e2 pLt (eVar 1) (eVar 2))) aNil)))
def f_is_rising (m : Bool) : DenF := runF false false 2 (b_is_rising m)
def b_are_tuples (m : Bool) : DenS := (sRet (eAnd (eIsT "tuple" (eVar 0)) (eN pAll (aCons (fComp (itS (eVar 0)) (.nm 2) [2] tT (eAnd (eIsT "tuple" (eVar 2)) (e2 pEq (eN pLen (aCons (eVar 2) aNil)) (eVar 1)))) aNil))))
def f_are_tuples (m : Bool) : DenF := runF false false 1 (b_are_tuples m)
def b_is_span (m : Bool) : DenS := (sSeq (sIf (tOrD (tNotD (tst (eIsT "tuple" (eVar 1)))) (tOrD (tst (e2 pNe (eN pLen (aCons (eVar 1) aNil)) (eC (.int 2)))) (tNotD (tst (eCall 3 (f_is_from m) (aCons (e2 pIx (eVar 1) (eC (.int 0))) (aCons (eC (.int 1)) (aCons (eVar 0) aNil)))))))) (sRet (eC (.bl false))) sNx) (sRet (eCall 3 (f_is_from m) (aCons (e2 pIx (eVar 1) (eC (.int 1))) (aCons (e2 pIx (eVar 1) (eC (.int 0))) (aCons (eVar 0) aNil))))))
def f_is_span (m : Bool) : DenF := runF false false 0 (b_is_span m)
def b_is_winter (m : Bool) : DenS := (sRet (eAnd (eIsT "tuple" (eVar 1)) (eAnd (e2 pLe (eN pLen (aCons (eVar 1) aNil)) (eC (.int 8))) (eN pAll (aCons (fComp (itS (eVar 1)) (.nm 2) [2] tT (eCall 2 (f_is_span m) (aCons (eVar 0) (aCons (eVar 2) aNil)))) aNil)))))
def f_is_winter (m : Bool) : DenF := runF false false 1 (b_is_winter m)
def b_is_book (m : Bool) : DenS := (sSeq (sIf (tOrD (tNotD (tst (eIsT "tuple" (eVar 0)))) (tOrD (tst (e2 pNe (eN pLen (aCons (eVar 0) aNil)) (eC (.int 2)))) (tNotD (tst (eCall 3 (f_is_from m) (aCons (e2 pIx (eVar 0) (eC (.int 0))) (aCons (eC (.int 1)) (aCons (eC (.int 16)) aNil)))))))) (sRet (eC (.bl false))) sNx) (sSeq (sIf (tOrD (tNotD (tst (eIsT "tuple" (e2 pIx (eVar 0) (eC (.int 1)))))) (tNotD (tst (eChain pLe pLe (eC (.int 1)) (eN pLen (aCons (e2 pIx (eVar 0) (eC (.int 1))) aNil)) (eC (.int 5)))))) (sRet (eC (.bl false))) sNx) (sRet (eN pAll (aCons (fComp (itS (e2 pIx (eVar 0) (eC (.int 1)))) (.nm 1) [1] tT (eCall 2 (f_is_winter m) (aCons (e2 pIx (eVar 0) (eC (.int 0))) (aCons (eVar 1) aNil)))) aNil)))))
def f_is_book (m : Bool) : DenF := runF false false 1 (b_is_book m)
def b_need_book (m : Bool) : DenS := (sIf (tNotD (tst (eCall 1 (f_is_book m) (aCons (eVar 0) aNil)))) (sErr "NoBook") sNx)
def f_need_book (m : Bool) : DenF := runF false false 0 (b_need_book m)
def b_is_stock (m : Bool) : DenS := (sSeq (sIf (tNotD (tst (eCall 2 (f_are_tuples m) (aCons (eVar 1) (aCons (eC (.int 2)) aNil))))) (sRet (eC (.bl false))) sNx) (sSeq (sIf (tNotD (tst (eN pAll (aCons (fComp (itS (eVar 1)) (.nm 2) [2] tT (eAnd (eCall 3 (f_is_from m) (aCons (e2 pIx (eVar 2) (eC (.int 0))) (aCons (eC (.int 1)) (aCons (e2 pIx (eVar 0) (eC (.int 0))) aNil)))) (eCall 3 (f_is_from m) (aCons (e2 pIx (eVar 2) (eC (.int 1))) (aCons (eC (.int 1)) (aCons (eC (.int 99)) aNil)))))) aNil)))) (sRet (eC (.bl false))) sNx) (sRet (eCall 1 (f_is_rising m) (aCons (fComp (itS (eVar 1)) (.nm 2) [2] tT (e2 pIx (eVar 2) (eC (.int 0)))) aNil)))))
def f_is_stock (m : Bool) : DenF := runF false false 1 (b_is_stock m)
def b_need_room (m : Bool) : DenS := (sSeq (sExp (eCall 1 (f_need_book m) (aCons (eVar 0) aNil))) (sIf (tNotD (tst (eCall 2 (f_is_stock m) (aCons (eVar 0) (aCons (eVar 1) aNil))))) (sErr "NoRoom") sNx))
def f_need_room (m : Bool) : DenF := runF false false 0 (b_need_room m)
def b_need_winter (m : Bool) : DenS := (sIf (tNotD (tst (eCall 3 (f_is_from m) (aCons (eVar 1) (aCons (eC (.int 0)) (aCons (e2 pSub (eN pLen (aCons (e2 pIx (eVar 0) (eC (.int 1))) aNil)) (eC (.int 1))) aNil)))))) (sErr "NoWinter") sNx)
def f_need_winter (m : Bool) : DenF := runF false false 0 (b_need_winter m)
def b_coats_of (m : Bool) : DenS := (sSeq (sSet 2 (eN pDict (aCons (eVar 1) aNil))) (sRet (fComp (itR2 (aCons (eC (.int 1)) (aCons (e2 pAdd (e2 pIx (eVar 0) (eC (.int 0))) (eC (.int 1))) aNil))) (.nm 3) [3] tT (eGet (eVar 2) (eVar 3) (eC (.int 0))))))
def f_coats_of (m : Bool) : DenF := runF false true 2 (b_coats_of m)
def b_windows_of (m : Bool) : DenS := (sRet (fComp2 (itR2 (aCons (eC (.int 1)) (aCons (e2 pAdd (eVar 0) (eC (.int 1))) aNil))) (.nm 1) [1, 2] (itR2 (aCons (eVar 1) (aCons (e2 pAdd (eVar 0) (eC (.int 1))) aNil))) (.nm 2) [2] (eTup m (aCons (eVar 1) (aCons (eVar 2) aNil)))))
def f_windows_of (m : Bool) : DenF := runF false true 2 (b_windows_of m)
def b_within (m : Bool) : DenS := (sRet (eN pLen (aCons (fComp (itS (eVar 0)) (.nm 3) [3] (tAndD (tst (e2 pLe (eVar 1) (e2 pIx (eVar 3) (eC (.int 0))))) (tst (e2 pLe (e2 pIx (eVar 3) (eC (.int 1))) (eVar 2)))) (eVar 3)) aNil)))
def f_within (m : Bool) : DenF := runF false false 1 (b_within m)
def b_has (m : Bool) : DenS := (sRet (eN pSum (aCons (eSl (eVar 0) (oS (e2 pSub (eVar 1) (eC (.int 1)))) (oS (eVar 2))) aNil)))
def f_has (m : Bool) : DenF := runF false false 0 (b_has m)
def b_clothes (m : Bool) : DenS := (sRet (eN pAll (aCons (fComp (itS (eCall 1 (f_windows_of m) (aCons (eVar 0) aNil))) (.tu [(.nm 3), (.nm 4)]) [3, 4] tT (e2 pLe (eCall 3 (f_within m) (aCons (eVar 2) (aCons (eVar 3) (aCons (eVar 4) aNil)))) (eCall 3 (f_has m) (aCons (eVar 1) (aCons (eVar 3) (aCons (eVar 4) aNil)))))) aNil)))
def f_clothes (m : Bool) : DenF := runF false false 2 (b_clothes m)
def b_least_giving (m : Bool) : DenS := (sSeq (sOwn 3 (eN pList (aCons (eVar 1) aNil))) (sSeq (sIf (tNotD (tst (eLock 3 (eCall 3 (f_clothes m) (aCons (eVar 0) (aCons (eVar 3) (aCons (eVar 2) aNil))))))) (sRet (eC .non)) sNx) (sSeq (sOwn 4 (fLst aNil)) (sSeq (sSeq (sSeq (sFor (itEnum (aCons (eVar 2) aNil)) (.tu [(.nm 5), (.tu [(.nm 7), (.nm 8)])]) (sFor (itR2 (aCons (eVar 7) (aCons (e2 pAdd (eVar 8) (eC (.int 1))) aNil))) (.nm 6) (sIf (tst (e2 pGt (eIxO 3 (e2 pSub (eVar 6) (eC (.int 1)))) (eC (.int 0)))) (sSeq (sAugL 3 (· - ·) (e2 pSub (eVar 6) (eC (.int 1))) (eC (.int 1))) (sSeq (sIf (tst (eLock 3 (eCall 3 (f_clothes m) (aCons (eVar 0) (aCons (eVar 3) (aCons (eSl (eVar 2) (oS (e2 pAdd (eVar 5) (eC (.int 1)))) oN) aNil)))))) (sSeq (sApp 4 (eVar 6)) sBrk) sNx) (sAugL 3 (· + ·) (e2 pSub (eVar 6) (eC (.int 1))) (eC (.int 1))))) sNx))) (sFz 4)) (sFz 3)) (sRet (eN (pTuple m) (aCons (eVar 4) aNil)))))))
def f_least_giving (m : Bool) : DenF := runF false false 6 (b_least_giving m)
def b_giving (m : Bool) : DenS := (sSeq (sExp (eCall 2 (f_need_room m) (aCons (eVar 0) (aCons (eVar 1) aNil)))) (sSeq (sExp (eCall 2 (f_need_winter m) (aCons (eVar 0) (aCons (eVar 2) aNil)))) (sRet (eCall 3 (f_least_giving m) (aCons (e2 pIx (eVar 0) (eC (.int 0))) (aCons (eCall 2 (f_coats_of m) (aCons (eVar 0) (aCons (eVar 1) aNil))) (aCons (e2 pIx (e2 pIx (eVar 0) (eC (.int 1))) (eVar 2)) aNil)))))))
def f_giving (m : Bool) : DenF := runF false false 0 (b_giving m)
def b_serving (m : Bool) : DenS := (sSeq (sSet 2 (eCall 2 (f_coats_of m) (aCons (eVar 0) (aCons (eVar 1) aNil)))) (sRet (eN pAll (aCons (fComp (itS (e2 pIx (eVar 0) (eC (.int 1)))) (.nm 3) [3] tT (eCall 3 (f_clothes m) (aCons (e2 pIx (eVar 0) (eC (.int 0))) (aCons (eVar 2) (aCons (eVar 3) aNil))))) aNil))))
def f_serving (m : Bool) : DenF := runF false false 2 (b_serving m)
def b_serves (m : Bool) : DenS := (sSeq (sExp (eCall 2 (f_need_room m) (aCons (eVar 0) (aCons (eVar 1) aNil)))) (sRet (eCall 2 (f_serving m) (aCons (eVar 0) (aCons (eVar 1) aNil)))))
def f_serves (m : Bool) : DenF := runF false false 0 (b_serves m)
def b_is_giving (m : Bool) : DenS := (sSeq (sExp (eCall 2 (f_need_room m) (aCons (eVar 0) (aCons (eVar 1) aNil)))) (sSeq (sExp (eCall 2 (f_need_winter m) (aCons (eVar 0) (aCons (eVar 2) aNil)))) (sSeq (sSet 4 (e2 pIx (e2 pIx (eVar 0) (eC (.int 1))) (eVar 2))) (sSeq (sIf (tOrD (tNotD (tst (eIsT "tuple" (eVar 3)))) (tst (e2 pNe (eN pLen (aCons (eVar 3) aNil)) (eN pLen (aCons (eVar 4) aNil))))) (sRet (eC (.bl false))) sNx) (sSeq (sIf (tNotD (tst (eN pAll (aCons (fComp (itZip (aCons (eVar 3) (aCons (eVar 4) aNil))) (.tu [(.nm 6), (.nm 7)]) [6, 7] tT (eCall 3 (f_is_from m) (aCons (eVar 6) (aCons (e2 pIx (eVar 7) (eC (.int 0))) (aCons (e2 pIx (eVar 7) (eC (.int 1))) aNil))))) aNil)))) (sRet (eC (.bl false))) sNx) (sSeq (sSet 5 (eCall 2 (f_coats_of m) (aCons (eVar 0) (aCons (eVar 1) aNil)))) (sRet (eN pAll (aCons (fComp (itS (eVar 3)) (.nm 6) [6] tT (e2 pLe (eCount (eVar 3) (eVar 6)) (e2 pIx (eVar 5) (e2 pSub (eVar 6) (eC (.int 1)))))) aNil)))))))))
def f_is_giving (m : Bool) : DenF := runF false false 4 (b_is_giving m)
def b__law_deck (m : Bool) : DenS := (sSeq (sIf (tst (e2 pGe (eVar 0) (e2 pPow (eC (.int 10)) (eC (.int 18))))) (sRet (fLst (aCons (e2 pSub (eVar 0) (e2 pPow (eC (.int 10)) (eC (.int 18)))) (aCons (e2 pMod (eVar 0) (eC (.int 2147483579))) (aCons (eVar 1) aNil))))) sNx) (sRet (fLst (aCons (eC (.int 0)) (aCons (e2 pMod (eVar 0) (eC (.int 2147483579))) (aCons (eVar 1) aNil))))))
def f__law_deck (m : Bool) : DenF := runF false true 0 (b__law_deck m)
def b__law_pick (m : Bool) : DenS := (sSeq (sIf (tst (e2 pGt (eIxO 0 (eC (.int 0))) (eC (.int 1)))) (sSeq (sSet 3 (e2 pMod (eIxO 0 (eC (.int 0))) (eVar 1))) (sSeq (sPut 0 (eC (.int 0)) (e2 pDiv (eIxO 0 (eC (.int 0))) (eVar 1))) (sRet (eVar 3)))) sNx) (sSeq (sPut 0 (eC (.int 2)) (e2 pAdd (eIxO 0 (eC (.int 2))) (eC (.int 1)))) (sSeq (sSet 2 (e2 pMod (e2 pPow (e2 pAdd (eIxO 0 (eC (.int 1))) (e2 pMulI (eC (.int 15485867)) (eIxO 0 (eC (.int 2))))) (eC (.int 5))) (eC (.int 2147483647)))) (sSeq (sSet 3 (e2 pDiv (e2 pMod (e2 pPow (e2 pAdd (eVar 2) (e2 pMulI (eC (.int 7919)) (eIxO 0 (eC (.int 2))))) (eC (.int 3))) (eC (.int 2147483629))) (eC (.int 32)))) (sRet (e2 pMod (eVar 3) (eVar 1)))))))
def f__law_pick (m : Bool) : DenF := runF true false 2 (b__law_pick m)
def b__law_whole (m : Bool) : DenS := (sRet (eAnd (eIsT "int" (eVar 0)) (eNot (eIsT "bool" (eVar 0)))))
def f__law_whole (m : Bool) : DenF := runF false false 0 (b__law_whole m)
def b__law_one (m : Bool) : DenS := (sRet (e2 pIx (eVar 1) (eCallO 0 2 (f__law_pick m) (aCons (eN pLen (aCons (eVar 1) aNil)) aNil))))
def f__law_one (m : Bool) : DenF := runF true false 0 (b__law_one m)
def b__law_sort (m : Bool) : DenS := (sSeq (sIf (tst (eIsT "bool" (eVar 0))) (sRet (eC (.int 1))) sNx) (sSeq (sIf (tst (eIsT "int" (eVar 0))) (sRet (eC (.int 2))) sNx) (sSeq (sIf (tst (eIsT "str" (eVar 0))) (sRet (eC (.int 3))) sNx) (sSeq (sIf (tst (eIsT "list" (eVar 0))) (sRet (eC (.int 4))) sNx) (sRet (eIf (tst (eIsT "tuple" (eVar 0))) (eC (.int 5)) (eC (.int 6))))))))
def f__law_sort (m : Bool) : DenF := runF false false 0 (b__law_sort m)
def b__law_same (m : Bool) (SELF : DenF) : DenS := (sSeq (sIf (tst (e2 pNe (eCall 1 (f__law_sort m) (aCons (eVar 0) aNil)) (eCall 1 (f__law_sort m) (aCons (eVar 1) aNil)))) (sRet (eC (.bl false))) sNx) (sSeq (sIf (tAndD (tst (e2 pGt (eCall 1 (f__law_sort m) (aCons (eVar 0) aNil)) (eC (.int 3)))) (tst (e2 pLt (eCall 1 (f__law_sort m) (aCons (eVar 0) aNil)) (eC (.int 6))))) (sSeq (sIf (tst (e2 pNe (eN pLen (aCons (eVar 0) aNil)) (eN pLen (aCons (eVar 1) aNil)))) (sRet (eC (.bl false))) sNx) (sRet (e2 pEq (fComp (itEnum (aCons (eVar 0) aNil)) (.tu [(.nm 2), (.nm 3)]) [2, 3] (tNotD (tst (eCall 2 SELF (aCons (eVar 3) (aCons (e2 pIx (eVar 1) (eVar 2)) aNil))))) (eVar 2)) (fLst aNil)))) sNx) (sRet (e2 pEq (eVar 0) (eVar 1)))))
def fr__law_same (m : Bool) : Nat → DenF
  | 0 => fun _ => .stk
  | k + 1 => runF false false 2 (b__law_same m (fr__law_same m k))
def f__law_same (m : Bool) : DenF := fr__law_same m 12
def b__law_odd (m : Bool) : DenS := (sSeq (sSet 1 (fLst (aCons (eC .non) (aCons (eC (.bl true)) (aCons (eC (.str (Str.ofString ""))) (aCons (eC (.str (Str.ofString "a"))) (aCons (eTup m aNil) (aCons (fLst aNil) (aCons (eTup m (aCons (eTup m aNil) aNil)) (aCons (eC (.int 7)) (aCons (e1 pNeg (eC (.int 1))) (aCons (e2 pPow (eC (.int 10)) (eC (.int 30))) (aCons (eTup m (aCons (eC (.int 1)) (aCons (eC (.int 2)) aNil))) (aCons (eTup m (aCons (eTup m (aCons (eC (.int 1)) (aCons (eC (.int 1)) aNil))) aNil)) (aCons (fLst (aCons (eTup m (aCons (eC (.int 1)) (aCons (eC (.int 1)) aNil))) aNil)) (aCons (eTup m (aCons (eTup m (aCons (eC (.int 2)) (aCons (eC (.int 1)) aNil))) (aCons (eTup m (aCons (eC (.int 1)) (aCons (eC (.int 1)) aNil))) aNil))) aNil)))))))))))))))) (sRet (eCallO 0 2 (f__law_one m) (aCons (eVar 1) aNil))))
def f__law_odd (m : Bool) : DenF := runF true false 1 (b__law_odd m)
def b__law_spoilt (m : Bool) (SELF : DenF) : DenS := (sSeq (sIf (tAndD (tst (eIsT2 "tuple" "list" (eVar 1))) (tAndD (tst (e2 pGt (eN pLen (aCons (eVar 1) aNil)) (eC (.int 0)))) (tst (e2 pGt (eCallO 0 2 (f__law_pick m) (aCons (eC (.int 5)) aNil)) (eC (.int 0)))))) (sSeq (sOwn 2 (eN pList (aCons (eVar 1) aNil))) (sSeq (sSet 3 (eCallO 0 2 (f__law_pick m) (aCons (eLock 2 (eN pLen (aCons (eVar 2) aNil))) aNil))) (sSeq (sSeq (sPut 2 (eVar 3) (eCallO 0 2 SELF (aCons (eIxO 2 (eVar 3)) aNil))) (sFz 2)) (sRet (eIf (tst (eIsT "tuple" (eVar 1))) (eN (pTuple m) (aCons (eVar 2) aNil)) (eVar 2)))))) sNx) (sSeq (sIf (tst (eIsT2 "tuple" "list" (eVar 1))) (sSeq (sSet 4 (eIf (tst (eIsT "tuple" (eVar 1))) (eN pList (aCons (eVar 1) aNil)) (eN (pTuple m) (aCons (eVar 1) aNil)))) (sRet (e2 pIx (fLst (aCons (eVar 4) (aCons (e2 pAdd (eVar 1) (eSl (eVar 1) oN (oS (eC (.int 1))))) (aCons (eSl (eVar 1) (oS (eC (.int 1))) oN) (aCons (eRev (eVar 1)) (aCons (eC .non) aNil)))))) (eCallO 0 2 (f__law_pick m) (aCons (eC (.int 5)) aNil))))) sNx) (sSeq (sIf (tst (eIsT "int" (eVar 1))) (sRet (e2 pIx (fLst (aCons (e2 pAdd (eVar 1) (eC (.int 1))) (aCons (e2 pSub (eVar 1) (eC (.int 1))) (aCons (eC (.bl true)) (aCons (eC .non) (aCons (eC (.int 0)) (aCons (eC (.int 16)) (aCons (eN pStr (aCons (eVar 1) aNil)) aNil)))))))) (eCallO 0 2 (f__law_pick m) (aCons (eC (.int 7)) aNil)))) sNx) (sRet (e2 pIx (fLst (aCons (eC .non) (aCons (eC (.int 7)) (aCons (eC (.str (Str.ofString "n"))) (aCons (eC (.str (Str.ofString ""))) (aCons (eC (.str (Str.ofString "A"))) (aCons (eC (.str (Str.ofString "abcdefghi"))) (aCons (eC (.str (Str.ofString "a"))) (aCons (eC (.str (Str.ofString "row"))) aNil))))))))) (eCallO 0 2 (f__law_pick m) (aCons (eC (.int 8)) aNil)))))))
def fr__law_spoilt (m : Bool) : Nat → DenF
  | 0 => fun _ => .stk
  | k + 1 => runF true false 3 (b__law_spoilt m (fr__law_spoilt m k))
def f__law_spoilt (m : Bool) : DenF := fr__law_spoilt m 12
def b__law_span (m : Bool) : DenS := (sSeq (sSet 2 (e2 pAdd (eC (.int 1)) (eCallO 0 2 (f__law_pick m) (aCons (eVar 1) aNil)))) (sSeq (sSet 3 (eN pMin (aCons (eVar 1) (aCons (e2 pAdd (eVar 2) (eCallO 0 2 (f__law_one m) (aCons (fLst (aCons (eC (.int 0)) (aCons (eC (.int 0)) (aCons (eC (.int 1)) (aCons (eC (.int 2)) (aCons (eCallO 0 2 (f__law_pick m) (aCons (eVar 1) aNil)) aNil)))))) aNil))) aNil)))) (sRet (eTup m (aCons (eVar 2) (aCons (eVar 3) aNil))))))
def f__law_span (m : Bool) : DenF := runF true false 2 (b__law_span m)
def b__law_book (m : Bool) : DenS := (sSeq (sSet 4 (e2 pAdd (eC (.int 1)) (eCallO 0 2 (f__law_pick m) (aCons (eVar 1) aNil)))) (sSeq (sOwn 5 (fLst aNil)) (sSeq (sSeq (sFor (itR1 (aCons (e2 pAdd (eC (.int 1)) (eCallO 0 2 (f__law_pick m) (aCons (eVar 2) aNil))) aNil)) (.nm 6) (sApp 5 (eN (pTuple m) (aCons (fComp (itR1 (aCons (eCallO 0 2 (f__law_pick m) (aCons (e2 pAdd (eVar 3) (eC (.int 1))) aNil)) aNil)) (.nm 7) [7] tT (eCallO 0 2 (f__law_span m) (aCons (eVar 4) aNil))) aNil)))) (sFz 5)) (sRet (eTup m (aCons (eVar 4) (aCons (eN (pTuple m) (aCons (eVar 5) aNil)) aNil)))))))
def f__law_book (m : Bool) : DenF := runF true false 4 (b__law_book m)
def b__law_room_of (m : Bool) : DenS := (sRet (eN (pTuple true) (aCons (fComp (itEnum (aCons (eVar 0) aNil)) (.tu [(.nm 1), (.nm 2)]) [1, 2] (tst (e2 pGt (eVar 2) (eC (.int 0)))) (eTup m (aCons (e2 pAdd (eVar 1) (eC (.int 1))) (aCons (eVar 2) aNil)))) aNil)))
def f__law_room_of (m : Bool) : DenF := runF false false 2 (b__law_room_of m)
def b__law_coats (m : Bool) : DenS := (sSeq (sSet 2 (eN pDict (aCons (eVar 1) aNil))) (sRet (fComp (itR2 (aCons (eC (.int 1)) (aCons (e2 pAdd (e2 pIx (eVar 0) (eC (.int 0))) (eC (.int 1))) aNil))) (.nm 3) [3] tT (eGet (eVar 2) (eVar 3) (eC (.int 0))))))
def f__law_coats (m : Bool) : DenF := runF false true 2 (b__law_coats m)
def b__law_room (m : Bool) : DenS := (sRet (eCall 1 (f__law_room_of m) (aCons (fComp (itR1 (aCons (e2 pIx (eVar 1) (eC (.int 0))) aNil)) (.nm 3) [3] tT (eCallO 0 2 (f__law_one m) (aCons (fLst (aCons (eC (.int 0)) (aCons (eC (.int 0)) (aCons (eC (.int 1)) (aCons (eC (.int 1)) (aCons (eCallO 0 2 (f__law_pick m) (aCons (e2 pAdd (eVar 2) (eC (.int 1))) aNil)) aNil)))))) aNil))) aNil)))
def f__law_room (m : Bool) : DenF := runF true false 1 (b__law_room m)
def b__law_clothed (m : Bool) : DenS := (sSeq (sOwn 2 (eN pList (aCons (eVar 0) aNil))) (sSeq (sSeq (sFor (itS (eSortKey (aCons (eVar 1) aNil))) (.tu [(.nm 3), (.nm 4)]) (sSeq (sSet 5 (fComp (itR2 (aCons (eVar 3) (aCons (e2 pAdd (eVar 4) (eC (.int 1))) aNil))) (.nm 6) [6] (tst (e2 pGt (eIxO 2 (e2 pSub (eVar 6) (eC (.int 1)))) (eC (.int 0)))) (eVar 6))) (sSeq (sIf (tst (e2 pEq (eVar 5) (fLst aNil))) (sRet (eC (.bl false))) sNx) (sPut 2 (e2 pSub (e2 pIx (eVar 5) (eC (.int 0))) (eC (.int 1))) (e2 pSub (eIxO 2 (e2 pSub (e2 pIx (eVar 5) (eC (.int 0))) (eC (.int 1)))) (eC (.int 1))))))) (sFz 2)) (sRet (eC (.bl true)))))
def f__law_clothed (m : Bool) : DenF := runF false false 5 (b__law_clothed m)
def b__law_serves (m : Bool) : DenS := (sRet (e2 pEq (fComp (itS (e2 pIx (eVar 0) (eC (.int 1)))) (.nm 2) [2] (tNotD (tst (eCall 2 (f__law_clothed m) (aCons (eVar 1) (aCons (eVar 2) aNil))))) (eVar 2)) (fLst aNil)))
def f__law_serves (m : Bool) : DenF := runF false false 1 (b__law_serves m)
def b__law_givings (m : Bool) : DenS := (sSeq (sSet 2 (fLst (aCons (eTup m aNil) aNil))) (sSeq (sFor (itS (eVar 1)) (.tu [(.nm 3), (.nm 4)]) (sSeq (sSet 5 (fLst aNil)) (sSeq (sFor (itS (eVar 2)) (.nm 6) (sFor (itR2 (aCons (eVar 3) (aCons (e2 pAdd (eVar 4) (eC (.int 1))) aNil))) (.nm 7) (sSet 5 (e2 pAdd (eVar 5) (fRep (fLst (aCons (e2 pAdd (eVar 6) (eTup m (aCons (eVar 7) aNil))) aNil)) (eN pInt (aCons (e2 pLt (eCount (eVar 6) (eVar 7)) (e2 pIx (eVar 0) (e2 pSub (eVar 7) (eC (.int 1))))) aNil))))))) (sSet 2 (eVar 5))))) (sRet (eVar 2))))
def f__law_givings (m : Bool) : DenF := runF false false 6 (b__law_givings m)
def b__law_least (m : Bool) : DenS := (sSeq (sPar2 2 3 (aCons (eN pList (aCons (eVar 0) aNil)) (aCons (eTup m aNil) aNil))) (sSeq (sIf (tNotD (tst (eCall 2 (f__law_clothed m) (aCons (eVar 2) (aCons (eVar 1) aNil))))) (sRet (eC .non)) sNx) (sSeq (sFor (itEnum (aCons (eVar 1) aNil)) (.tu [(.nm 4), (.tu [(.nm 6), (.nm 7)])]) (sFor (itR2 (aCons (eVar 6) (aCons (e2 pAdd (eVar 7) (eC (.int 1))) aNil))) (.nm 5) (sIf (tAndD (tst (e2 pEq (eN pLen (aCons (eVar 3) aNil)) (eVar 4))) (tst (e2 pGt (e2 pIx (eVar 2) (e2 pSub (eVar 5) (eC (.int 1)))) (eC (.int 0))))) (sSeq (sSet 8 (e2 pAdd (e2 pAdd (eSl (eVar 2) oN (oS (e2 pSub (eVar 5) (eC (.int 1))))) (fLst (aCons (e2 pSub (e2 pIx (eVar 2) (e2 pSub (eVar 5) (eC (.int 1)))) (eC (.int 1))) aNil))) (eSl (eVar 2) (oS (eVar 5)) oN))) (sIf (tst (eCall 2 (f__law_clothed m) (aCons (eVar 8) (aCons (eSl (eVar 1) (oS (e2 pAdd (eVar 4) (eC (.int 1)))) oN) aNil)))) (sPar2 3 2 (aCons (e2 pAdd (eVar 3) (eTup m (aCons (eVar 5) aNil))) (aCons (eVar 8) aNil))) sNx)) sNx))) (sRet (eVar 3)))))
def f__law_least (m : Bool) : DenF := runF false false 7 (b__law_least m)
def b__law_is (m : Bool) : DenS := (sSeq (sIf (tOrD (tNotD (tst (eIsT "tuple" (eVar 2)))) (tst (e2 pNe (eN pLen (aCons (eVar 2) aNil)) (eN pLen (aCons (eVar 1) aNil))))) (sRet (eC (.bl false))) sNx) (sSeq (sFor (itEnum (aCons (eVar 2) aNil)) (.tu [(.nm 3), (.nm 4)]) (sSeq (sIf (tOrD (tNotD (tst (eCall 1 (f__law_whole m) (aCons (eVar 4) aNil)))) (tNotD (tst (eChain pLe pLe (e2 pIx (e2 pIx (eVar 1) (eVar 3)) (eC (.int 0))) (eVar 4) (e2 pIx (e2 pIx (eVar 1) (eVar 3)) (eC (.int 1))))))) (sRet (eC (.bl false))) sNx) (sIf (tst (e2 pGt (eCount (eVar 2) (eVar 4)) (e2 pIx (eVar 0) (e2 pSub (eVar 4) (eC (.int 1)))))) (sRet (eC (.bl false))) sNx))) (sRet (eC (.bl true)))))
def f__law_is (m : Bool) : DenF := runF false false 2 (b__law_is m)
def b_need_span (m : Bool) : DenS := (sIf (tNotD (tst (eCall 2 (f_is_span m) (aCons (eVar 0) (aCons (eTup m (aCons (eVar 1) (aCons (eVar 2) aNil))) aNil))))) (sErr "NoSpan") sNx)
def f_need_span (m : Bool) : DenF := runF false false 0 (b_need_span m)
def b_first_asker (m : Bool) : DenS := (sSeq (sSet 3 (fComp (itS (e2 pIx (eVar 0) (eC (.int 1)))) (.nm 4) [4] tT (eCall 3 (f_within m) (aCons (eVar 4) (aCons (eVar 1) (aCons (eVar 2) aNil)))))) (sRet (eTup m (aCons (eN pMax (aCons (eVar 3) aNil)) (aCons (eIndex (eVar 3) (eN pMax (aCons (eVar 3) aNil))) aNil)))))
def f_first_asker (m : Bool) : DenF := runF false false 2 (b_first_asker m)
def b_asked (m : Bool) : DenS := (sSeq (sExp (eCall 1 (f_need_book m) (aCons (eVar 0) aNil))) (sSeq (sExp (eCall 3 (f_need_span m) (aCons (e2 pIx (eVar 0) (eC (.int 0))) (aCons (eVar 1) (aCons (eVar 2) aNil))))) (sRet (eCall 3 (f_first_asker m) (aCons (eVar 0) (aCons (eVar 1) (aCons (eVar 2) aNil)))))))
def f_asked (m : Bool) : DenF := runF false false 0 (b_asked m)
def b_is_short (m : Bool) : DenS := (sRet (e2 pGt (eCall 3 (f_within m) (aCons (e2 pIx (e2 pIx (eVar 0) (eC (.int 1))) (eVar 2)) (aCons (eVar 3) (aCons (eVar 4) aNil)))) (eCall 3 (f_has m) (aCons (eVar 1) (aCons (eVar 3) (aCons (eVar 4) aNil))))))
def f_is_short (m : Bool) : DenF := runF false false 0 (b_is_short m)
def b_unserved (m : Bool) : DenS := (sSeq (sExp (eCall 2 (f_need_room m) (aCons (eVar 0) (aCons (eVar 1) aNil)))) (sSeq (sSet 2 (eCall 2 (f_coats_of m) (aCons (eVar 0) (aCons (eVar 1) aNil)))) (sSeq (sFor (itR1 (aCons (eN pLen (aCons (e2 pIx (eVar 0) (eC (.int 1))) aNil)) aNil)) (.nm 3) (sFor (itS (eCall 1 (f_windows_of m) (aCons (e2 pIx (eVar 0) (eC (.int 0))) aNil))) (.tu [(.nm 4), (.nm 5)]) (sIf (tst (eCall 5 (f_is_short m) (aCons (eVar 0) (aCons (eVar 2) (aCons (eVar 3) (aCons (eVar 4) (aCons (eVar 5) aNil))))))) (sRet (eTup m (aCons (eVar 3) (aCons (eVar 4) (aCons (eVar 5) aNil))))) sNx))) (sRet (eC .non)))))
def f_unserved (m : Bool) : DenF := runF false false 4 (b_unserved m)
def b_shows_unserved (m : Bool) : DenS := (sSeq (sExp (eCall 2 (f_need_room m) (aCons (eVar 0) (aCons (eVar 1) aNil)))) (sSeq (sIf (tOrD (tNotD (tst (eIsT "tuple" (eVar 2)))) (tOrD (tst (e2 pNe (eN pLen (aCons (eVar 2) aNil)) (eC (.int 3)))) (tNotD (tst (eCall 3 (f_is_from m) (aCons (e2 pIx (eVar 2) (eC (.int 0))) (aCons (eC (.int 0)) (aCons (e2 pSub (eN pLen (aCons (e2 pIx (eVar 0) (eC (.int 1))) aNil)) (eC (.int 1))) aNil)))))))) (sRet (eC (.bl false))) sNx) (sRet (eAnd (eCall 2 (f_is_span m) (aCons (e2 pIx (eVar 0) (eC (.int 0))) (aCons (eSl (eVar 2) (oS (eC (.int 1))) oN) aNil))) (eCall 5 (f_is_short m) (aCons (eVar 0) (aCons (eCall 2 (f_coats_of m) (aCons (eVar 0) (aCons (eVar 1) aNil))) (aCons (e2 pIx (eVar 2) (eC (.int 0))) (aCons (e2 pIx (eVar 2) (eC (.int 1))) (aCons (e2 pIx (eVar 2) (eC (.int 2))) aNil))))))))))
def f_shows_unserved (m : Bool) : DenF := runF false false 0 (b_shows_unserved m)
def b__law_within (m : Bool) : DenS := (sRet (eN pLen (aCons (fComp (itS (eVar 0)) (.nm 3) [3] (tAndD (tst (e2 pLe (eVar 1) (e2 pIx (eVar 3) (eC (.int 0))))) (tst (e2 pLe (e2 pIx (eVar 3) (eC (.int 1))) (eVar 2)))) (eVar 3)) aNil)))
def f__law_within (m : Bool) : DenF := runF false false 1 (b__law_within m)
def b__law_has (m : Bool) : DenS := (sRet (eN pSum (aCons (eSl (eVar 0) (oS (e2 pSub (eVar 1) (eC (.int 1)))) (oS (eVar 2))) aNil)))
def f__law_has (m : Bool) : DenF := runF false false 0 (b__law_has m)
def b__law_windows (m : Bool) : DenS := (sSeq (sSet 1 (fLst aNil)) (sSeq (sFor (itR2 (aCons (eC (.int 1)) (aCons (e2 pAdd (eVar 0) (eC (.int 1))) aNil))) (.nm 2) (sSet 1 (e2 pAdd (eVar 1) (fComp (itR2 (aCons (eVar 2) (aCons (e2 pAdd (eVar 0) (eC (.int 1))) aNil))) (.nm 3) [3] tT (eTup m (aCons (eVar 2) (aCons (eVar 3) aNil))))))) (sRet (eVar 1))))
def f__law_windows (m : Bool) : DenF := runF false false 3 (b__law_windows m)
def b__law_shows (m : Bool) : DenS := (sSeq (sIf (tOrD (tNotD (tst (eIsT "tuple" (eVar 2)))) (tOrD (tst (e2 pNe (eN pLen (aCons (eVar 2) aNil)) (eC (.int 3)))) (tst (e2 pNe (fComp (itS (eVar 2)) (.nm 6) [6] (tNotD (tst (eCall 1 (f__law_whole m) (aCons (eVar 6) aNil)))) (eVar 6)) (fLst aNil))))) (sRet (eC (.bl false))) sNx) (sSeq (sTgt (.tu [(.nm 3), (.nm 4), (.nm 5)]) (eVar 2)) (sSeq (sIf (tOrD (tNotD (tst (eChain pLe pLt (eC (.int 0)) (eVar 3) (eN pLen (aCons (e2 pIx (eVar 0) (eC (.int 1))) aNil))))) (tNotD (tst (eChain3 pLe pLe pLe (eC (.int 1)) (eVar 4) (eVar 5) (e2 pIx (eVar 0) (eC (.int 0))))))) (sRet (eC (.bl false))) sNx) (sRet (e2 pGt (eCall 3 (f__law_within m) (aCons (e2 pIx (e2 pIx (eVar 0) (eC (.int 1))) (eVar 3)) (aCons (eVar 4) (aCons (eVar 5) aNil)))) (eCall 3 (f__law_has m) (aCons (eVar 1) (aCons (eVar 4) (aCons (eVar 5) aNil)))))))))
def f__law_shows (m : Bool) : DenF := runF false false 4 (b__law_shows m)
end DL

/-! ## DLn -/
/-! DLn: a dict made by a comprehension whose keys are pairs of ints. -/
namespace DL
open PySem PySem.Spec PyProof.Rows L2
section
variable {X : Cx} {pins : List (Addr × Obj)} {σ : L2.St} {H H' : Hp} {s : Shared} {a : Addr} {y v : V} {u r : Value} {E : Value → Shared → Prop}
/-- a comprehension's store under a tuple -/
theorem dput_set {Q : Unit → Shared → Prop} (hu : X.A.units + 1 < cLine) (I : Inv X pins σ H s) (g : ∃ kvs k b, H a = some (.dT kvs) ∧ y = .ref b ∧ H b = some (.tup (k.map kV)) ∧ kvs.length < sizeLine ∧ H' = upd H a (.dT (putK kvs k v))) (ry : RelV y u) (rv : RelV v r) (h : ∀ s', Inv X pins σ H' s' → Q () s') :
    wpAny (model X.prog X.w) X.A (dictSet a u r) Q E s := by
  obtain ⟨kvs, k, b, e, ey, eb, l, eH⟩ := g
  subst ey eH
  cases (show u = Value.ref b from ry)
  obtain ⟨z, hd, xs, rel, dd⟩ := dt_of I.hok e
  have lx : xs.length = kvs.length := (Paired.length rel).symm
  have lp := length_putK kvs k v
  refine wpAny_dictSet_heap (hsz := by omega) (show X.A.units < cLine from Nat.lt_of_succ_lt hu) (key_of I.hok eb) dd fun h' dd' hs => h _ ?_
  obtain ⟨q, es, ep, hq, h2, h3, h4, _, h5⟩ := dd'
  refine d_write I (by rw [e]; exact True.intro) hs ⟨q, hq⟩ ⟨by omega, hd, _, (rel.put k eb rv).keeps fun c ys ec => ?_, q, es, ep, hq, h2, h3, h4, h5⟩
  have nc : c ≠ a := fun z => by rw [z, e] at ec; cases ec
  rw [upd_ne nc]
  exact ec
end
section
variable {X : Cx}
def tDcT (wi : TI) (g : TG) (tk tv : TE) (vs : List Nat) : TE := fun σ H Q => wi σ H fun J H1 => ∀ L, H1 L = none → ∃ W : Nat → Nat → Hp → Prop, (∃ m, W 0 m (upd H1 L (.dT []))) ∧ ∀ i m H, W i m H →
  (J.stop i H ∧ Q (.ref L) H) ∨ (J.go i H ∧ ∃ Nx : Hp → Prop, (∀ H', Nx H' → ∃ m', m' < m ∧ W (i + 1) m' H') ∧ ∀ x H', J.yld i H x H' → g x (wipe σ vs) H' fun σ2 H2 => wipe σ2 vs = wipe σ vs ∧ tk σ2 H2 fun y H4 => tv σ2 H4 fun z H5 =>
    ∃ H6, (∃ kvs k b, H5 L = some (.dT kvs) ∧ y = .ref b ∧ H5 b = some (.tup (k.map kV)) ∧ kvs.length < sizeLine ∧ H6 = upd H5 L (.dT (putK kvs k z))) ∧ Nx H6)
theorem pe_dcT {kx vx tg iter : Expr} {scope : Scope} {own : List (Str × Nat)} {pos : Pos} {wi : TI} {g : TG} {tk tv : TE} (hu : X.A.units + 1 < cLine) (hc : X.calm = true) (hN : X.N.Nodup) (hi : PI X tg iter wi) (ok : BlkOk X.N X.env.scope scope own)
    (hg : Bl X scope fun Y => PG Y tg g) (hk : Bl X scope fun Y => PE Y kx tk) (he : Bl X scope fun Y => PE Y vx tv) (hs : ∀ x, foldedSetIterable iter X.env x = pure x := by intro _; rfl) :
    PE X (.DictComp kx vx [⟨tg, iter, [], 0⟩] scope pos) (tDcT wi g tk tv (own.map (·.2))) := by
  refine ⟨fun pins s σ H Q I h => ?_⟩
  rw [arm_eval_DictComp]
  -- the closure's names stand
  have names : ∀ n ∈ scope.names, n.2 = .free → ∃ c, X.env.cells.lookup n.1 = some c := fun n hn e => by
    rcases ok.free n hn e with q | q
    · exact I.ok.has _ (.inl q)
    · exact I.ok.has _ (.inr q)
  refine wpAny_comprehension_free (use := none) rfl hs (closure_ok names) ok.kind (fun n hn e => by rw [ok.uniq n hn, e]) (thn (hi.run pins s σ H _ I h) fun xv s1 hx => thn hx fun itv s2 h2 => ?_)
  obtain ⟨it, fp, tn, J, H2, eit, I2, T, st2, f2, q⟩ := h2
  subst eit
  refine wpAny_newObj_type (newEnv_comp ?_)
  generalize hL : s2.heap.objs.size = L
  have fresh : H2 L = none := I2.hok.fresh (Nat.le_of_eq hL)
  obtain ⟨W, ⟨m0, w0⟩, turn⟩ := q L fresh
  have below : ∀ b ∈ fp, b < L := fun b hb => by
    obtain ⟨o, e, _⟩ := T.obj _ _ st2 b hb
    rw [← hL]; exact Heap.lt_size e
  -- the new dict is laid
  generalize hs3 : ({ s2 with heap := s2.heap.push { cls := .type "dict", data := .dict #[] } } : Shared) = s3
  have heap3 : s3.heap = s2.heap.push { cls := .type "dict", data := .dict #[] } := by rw [← hs3]
  have I3 : Inv X pins σ (upd H2 L (.dT [])) s3 := by
    rw [← hs3]
    refine I2.laid (t' := s2.toks) (fun b o e => Heap.get?_push_of_some _ e) (Nat.le_of_eq hL) ?_
    rw [← hL]
    exact dt_empty s2.heap I2.big
  have keep3 : ∀ b o, s2.heap.get? b = some o → s3.heap.get? b = some o := fun b o e => by rw [heap3]; exact Heap.get?_push_of_some _ e
  have f3 : ∀ b ∈ fp, FpOk X pins (upd H2 L (.dT [])) b ∧ b < s3.heap.objs.size := fun b hb => by
    refine ⟨⟨?_, (f2 b hb).2⟩, ?_⟩
    · rw [upd_ne (Nat.ne_of_lt (below b hb))]; exact (f2 b hb).1
    · rw [heap3, Heap.size_push]
      exact Nat.lt_succ_of_lt (by rw [hL]; exact below b hb)
  have st3 : tn 0 s3.heap := T.keep _ _ _ st2 fun b _ o e => keep3 b o e
  have I4 := block_start I3 ok hN f3
  have pg := hg s3 (upd H2 L (.dT [])) s3.heap.objs.size (cellsFrom (s3.heap.objs.size + 1) scope.names (cloFrom X.env.cells scope.names [])) fp
  have pk := hk s3 (upd H2 L (.dT [])) s3.heap.objs.size (cellsFrom (s3.heap.objs.size + 1) scope.names (cloFrom X.env.cells scope.names [])) fp
  have pv := he s3 (upd H2 L (.dT [])) s3.heap.objs.size (cellsFrom (s3.heap.objs.size + 1) scope.names (cloFrom X.env.cells scope.names [])) fp
  show codeAny _ _ (.compStart (.DictComp kx vx [⟨tg, iter, [], 0⟩] scope pos) 0 (.ref it) (.ref L) (compEnvC scope (cellsFrom (s3.heap.objs.size + 1) scope.names (cloFrom X.env.cells scope.names [])) s3.heap.objs.size X.env)) (compPost (model X.prog X.w) X.A X.xe none _ (.ref L) s3.heap.objs.size) { s3 with heap := pushCells (s3.heap.push { cls := .type "dict", data := .dict #[] }) scope.names }
  have free3 : ∀ b ∈ fp, (upd H2 L (.dT [])) b = none := fun b hb => (f3 b hb).1.1
  generalize hce : compEnvC scope (cellsFrom (s3.heap.objs.size + 1) scope.names (cloFrom X.env.cells scope.names [])) s3.heap.objs.size X.env = ce at I4 pg pk pv ⊢
  have loc : ce.locals = s3.heap.objs.size := by subst hce; rfl
  generalize hH3 : upd H2 L (.dT []) = H3 at I3 I4 pg pk pv w0 free3 f3
  generalize hs4 : ({ s3 with heap := pushCells (s3.heap.push { cls := .type "dict", data := .dict #[] }) scope.names } : Shared) = s4 at I4 ⊢
  have st4 : tn 0 s4.heap := T.keep _ _ _ st3 fun b _ o e => by rw [← hs4]; exact pushCells_keeps _ _ _ _ (Heap.get?_push_of_some _ e)
  have still : ∀ {σ' : L2.St} {H' : Hp} {s' : Shared}, Inv (X.blk s3 H3 scope ce fp) [] σ' H' s' → (∀ b ∈ fp, H' b = none) → ∀ b ∈ fp, FpOk (X.blk s3 H3 scope ce fp) [] H' b := fun {σ' H' s'} I' n b hb =>
    ⟨n b hb, (I'.ok.exf b hb).1, I'.ok.exfs b hb, .inl hb, fun x c e => (I'.ok.exf b hb).2 x c e, fun p hp => absurd (show p ∈ ([] : List (Addr × Obj)) ++ [] from hp) (by simp)⟩
  refine codeAny_compStart_dict ?loop (T.self X.A 0 _ _ _ st4 ?loop)
  refine compLoop_anyD (fun n s' => ∃ i H', Inv (X.blk s3 H3 scope ce fp) [] (wipe σ (own.map (·.2))) H' s' ∧ tn i s'.heap ∧ (∀ b ∈ fp, H' b = none) ∧ W i n H') ?_ m0 ⟨0, H3, I4, st4, free3, w0⟩
  rintro n s5 ⟨i, H5, I5, st5, n5, w5⟩
  rcases turn i n H5 w5 with ⟨stop, done⟩ | ⟨go, Nx, next, step⟩
  · refine thnF (T.done (X.blk s3 H3 scope ce fp) rfl rfl rfl hc i [] s5 _ H5 (fun _ _ => False) I5 (still I5 n5) st5 stop) fun r s6 ⟨hr, I6⟩ => ?_
    subst hr
    have I7 : Inv X pins σ H5 s6 := I3.call' (ch := fp) I6.os I6.base I6.hok I6.bare fun b hb => ⟨(f3 b hb).1.2.2.2.1, (f3 b hb).1.2.1, (f3 b hb).1.2.2.2.2.1, (f3 b hb).1.2.2.2.2.2⟩
    have nC : H5 s3.heap.objs.size = none := by rw [← loc]; exact I6.free
    obtain ⟨m, hn, _⟩ := I6.loc
    have hn : s6.heap.Ns ce.locals m := hn
    rw [loc] at hn
    obtain ⟨g0, g1, g2, g3, g4, g5⟩ := I3.fpOk (Nat.le_refl _) nC
    exact ⟨m, hn, fun h'' sb => ⟨.ref L, H5, I7.turned (t' := s6.toks) (fun b o hb e => (sb.2 b hb).trans e) g0 g1 g3 g4 g5, rfl, done⟩⟩
  · refine thnF (T.item (X.blk s3 H3 scope ce fp) rfl rfl rfl hc i [] s5 _ H5 (fun _ _ => False) I5 (still I5 n5) st5 go) fun r s6 ⟨u, hr, h6⟩ => ?_
    subst hr
    refine thnF h6 fun _ s7 ⟨x, H7, I7, r7, y7, st7, n7⟩ => ?_
    refine thnF (pg.run _ s7 _ H7 x u _ (I7.pinned (still I7 n7) (T.obj _ _ st7)) r7 (step x H7 y7)) fun _ s8 ⟨σ8, H8, I8, hw8, q8⟩ => ?_
    show wpAny _ _ (pure true) _ _ s8
    refine wpAny_pure ?_
    simp only [if_true]
    refine thnF (pk.run _ s8 σ8 H8 _ I8 q8) fun z s10 ⟨yk, H10, I10, r10, q10⟩ => ?_
    refine thnF (pv.run _ s10 σ8 H10 _ I10 q10) fun z2 s11 ⟨yv, H11, I11, r11, H12, hput, nx⟩ => ?_
    refine dput_set (X := X.blk s3 H3 scope ce fp) hu I11 hput r10 r11 fun s12 I12 => ?_
    obtain ⟨m', hm, w'⟩ := next H12 nx
    have pinned : ∀ b ∈ fp, ∀ o, s7.heap.get? b = some o → s12.heap.get? b = some o ∧ H12 b = none := fun b hb o e =>
      let z := I12.pin (b, o) (List.mem_append_right _ (List.mem_append_right _ (mem_pinsAt hb e)))
      ⟨z.1, z.2.1⟩
    have hl : (wipe σ (own.map (·.2))).length = σ8.length := by rw [← hw8, wipe_length]
    refine ⟨m', hm, i + 1, H12, (I12.unpinned (pins := [])).weak hl (fun j v e => ?_), T.keep _ _ _ st7 fun b hb o e => (pinned b hb o e).1, fun b hb => ?_, w'⟩
    · rw [← hw8] at e
      exact (wipe_some e).1
    · obtain ⟨o, e, _⟩ := T.obj _ _ st7 b hb
      exact (pinned b hb o e).2
end
/-! ### its function -/
def putT (kvs : List ((Int × Int) × Int)) (k : Int × Int) (n : Int) : List ((Int × Int) × Int) :=
  if kvs.any fun p => decide (p.1 = k) then kvs.map fun p => if p.1 = k then (p.1, n) else p else kvs ++ [(k, n)]
theorem keyL_eq {i j k l : Int} : ([.inl i, .inl j] : List Key) = [.inl k, .inl l] ↔ ((i, j) : Int × Int) = (k, l) := by
  simp [Prod.ext_iff]
theorem putT_put (kvs : List ((Int × Int) × Int)) (i j n : Int) : putK (kvs.map tdV) [.inl i, .inl j] (.int n) = (putT kvs (i, j) n).map tdV := by
  have e : ((kvs.map tdV).any fun kv => decide (kv.1 = [.inl i, .inl j])) = kvs.any fun p => decide (p.1 = (i, j)) := by
    rw [List.any_map]
    congr 1
    funext p
    exact decide_eq_decide.mpr keyL_eq
  unfold putK putT
  rw [e]
  by_cases q : (kvs.any fun p => decide (p.1 = (i, j))) = true
  · rw [if_pos q, if_pos q, List.map_map, List.map_map]
    refine List.map_congr_left fun p _ => ?_
    simp only [Function.comp]
    by_cases z : p.1 = (i, j)
    · rw [if_pos z, if_pos (show (tdV p).1 = _ from keyL_eq.mpr z)]; rfl
    · rw [if_neg z, if_neg (show ¬ (tdV p).1 = _ from fun w => z (keyL_eq.mp w))]
  · rw [if_neg q, if_neg q, List.map_append]; rfl
theorem putT_len (kvs : List ((Int × Int) × Int)) (k : Int × Int) (n : Int) : (putT kvs k n).length ≤ kvs.length + 1 := by
  unfold putT
  split <;> simp
def loopD (p : Pt) (vs : List Nat) (fk fv : Den) (env : En) : List D → List ((Int × Int) × Int) → R (List ((Int × Int) × Int))
  | [], acc => .ok acc
  | x :: xs, acc => (R.of (p.asg x (wipeE env vs))).bind fun e1 => (fk e1).hush.bind fun k => (fv k.2).hush.bind fun v => match k.1, v.1 with
    | .tup false [.int i, .int j], .int n => if acc.length < big then loopD p vs fk fv env xs (putT acc (i, j) n) else .stk
    | _, _ => .stk
def fDictT (it : DenL) (p : Pt) (vs : List Nat) (fk fv : Den) : Den := fun env =>
  if ownless env then (it env).bind fun x => (loopD p vs fk fv x.2 x.1 []).bind fun kvs => R.ok (D.dt kvs, x.2) else .stk
theorem loopD_ok {p : Pt} {vs : List Nat} {fk fv : Den} {env : En} : ∀ (xs : List D) (acc : List ((Int × Int) × Int)), (∃ o, loopD p vs fk fv env xs acc = .ok o) ∨ loopD p vs fk fv env xs acc = .stk
  | [], acc => .inl ⟨acc, rfl⟩
  | x :: xs, acc => by
    unfold loopD
    cases p.asg x (wipeE env vs) with
    | none => exact .inr rfl
    | some e1 =>
      rw [R.of_some, R.bind_ok]
      cases fk e1 with
      | stk => exact .inr rfl
      | err c => exact .inr rfl
      | ok k =>
        rw [R.hush_ok, R.bind_ok]
        cases fv k.2 with
        | stk => exact .inr rfl
        | err c => exact .inr rfl
        | ok v =>
          rw [R.hush_ok, R.bind_ok]
          split
          · split
            · exact loopD_ok xs _
            · exact .inr rfl
          · exact .inr rfl
theorem rd_dcT {K : PySem.W.Frag} {W : WD} {it : DenL} {p : Pt} {vs : List Nat} {fk fv : Den} {σ : L2.St} {H : Hp} {Q : VK} (hps : ∀ j ∈ p.slots, j ∈ vs) (h : RdF K W (fDictT it p vs fk fv) σ H Q) :
    tDcT (RdI K W it) (RdG K p) (RdE K (WF W.T) fk) (RdE K (WF W.T) fv) vs σ H Q := by
  obtain ⟨io, env, hr, h⟩ := h
  unfold fDictT at h
  by_cases hown : ownless env = true
  · rw [if_pos hown] at h
    refine ⟨io, env, hr, Wp.bind h fun x J H1 q0 ev1 r1 wk h1 => ?_⟩
    clear q0
    obtain ⟨xs, env1⟩ := x
    dsimp only at ev1 r1 wk h1
    obtain ⟨rfl, xn1⟩ := ownless_eq hown ev1
    rcases loopD_ok (p := p) (vs := vs) (fk := fk) (fv := fv) (env := env1) xs [] with ⟨out, hout⟩ | z
    · rw [hout, R.bind_ok] at h1
      intro L hL
      have x0 : Ext H1 (upd H1 L (.dT [])) := Ext.new hL
      have neL : ∀ b o, H1 b = some o → b ≠ L := fun b o q z => by rw [z, hL] at q; cases q
      let KP : Hp → List ((Int × Int) × Int) → Prop := fun H2 acc => XN H1 H2 ∧ (∀ b o, H1 b = some o → ∃ o', H2 b = some o') ∧ LamX.Tabs W.T H2 ∧ H2 L = some (.dT (acc.map tdV))
      refine ⟨fun i m H2 => m = xs.length - i ∧ i ≤ xs.length ∧ ∃ acc, KP H2 acc ∧ loopD p vs fk fv env1 (xs.drop i) acc = .ok out,
        ⟨_, rfl, Nat.zero_le _, [], ⟨x0.xn, fun b o q => ⟨o, x0 _ _ q⟩, r1.tab.ext x0, upd_same⟩, hout⟩, ?_⟩
      rintro i m H2 ⟨rfl, hi, acc, ⟨k1, k2, k3, k4⟩, hl1⟩
      have r2 : Rel K W.T io env1 σ H2 := r1.extN k1 k3
      obtain ⟨w1, w2, w3⟩ := wk H2 k1.fx
      by_cases hl : i < xs.length
      · rw [drop_cons hl] at hl1
        unfold loopD at hl1
        obtain ⟨eA, hA, hl1⟩ := of_some' hl1
        obtain ⟨qk, hqk, hl2⟩ := hush_some hl1
        obtain ⟨qv, hqv, hl3⟩ := hush_some hl2
        clear hl1 hl2
        refine .inr ⟨w1 i hl, fun H' => ∃ acc, KP H' acc ∧ loopD p vs fk fv env1 (xs.drop (i + 1)) acc = .ok out, fun H' ⟨acc, g1, g2⟩ => ⟨xs.length - (i + 1), by omega, rfl, hl, acc, g1, g2⟩, fun v H3 y => ?_⟩
        obtain ⟨x3, rp⟩ := w3 i xs[i] v H3 (by simp [hl]) y
        have r3 := r2.ext x3
        refine ⟨W.T, io, _, _, eA, r3.wiped (ownless_has hown), rp, hA, fun σA rA evA offA => ?_⟩
        have offs : ∀ j, j ∉ vs → σA[j]? = σ[j]? := fun j hj => by rw [offA.2 j fun z => hj (hps j z), wipe_out hj]
        have ownA : ownless eA = true := by
          unfold ownless
          rw [List.all_eq_true]
          intro s hs
          obtain ⟨j, hj⟩ := List.getElem?_of_mem hs
          cases s with
          | own d =>
            obtain ⟨_, o2, _⟩ := asg_out _ _ _ _ hA
            exact absurd (o2 j d hj) (ownless_get (ownless_wipe hown) j d)
          | _ => rfl
        refine ⟨wipe_eq (by rw [offA.1, wipe_length]) offs, io, eA, rA, ?_⟩
        rw [hqk]
        intro yk H4 e4 r4 p4
        obtain ⟨kd, ke⟩ := qk
        dsimp only at e4 r4 p4 hl3 hqv
        obtain ⟨rfl, xn4⟩ := ownless_eq ownA e4
        refine ⟨io, ke, r4, ?_⟩
        rw [hqv]
        intro yv H5 e5 r5 p5
        obtain ⟨vd, ve⟩ := qv
        dsimp only at e5 r5 p5 hl3
        obtain ⟨rfl, xn5⟩ := ownless_eq ownA e5
        split at hl3
        · rename_i i0 j0 n0
          split at hl3
          · rename_i hbig
            have n25 : XN H2 H5 := (x3.xn.trans xn4).trans xn5
            have L5 : H5 L = some (.dT (acc.map tdV)) := n25 _ _ k4 trivial
            have p4' : Rp K H5 (.tup false [.int i0, .int j0]) yk := Rp.ext xn5.fx _ _ p4
            obtain ⟨b, vs0, rfl, g1, g2⟩ := rp_tup p4'
            obtain ⟨z1, z2, rfl, e1, e2⟩ := rp2 g2
            rw [rp_int e1, rp_int e2] at g1
            rw [rp_int p5]
            have upL : ∀ b o, H5 b = some o → b ≠ L → upd H5 L (.dT ((putT acc (i0, j0) n0).map tdV)) b = some o := fun b o hb n => by rw [upd_ne n]; exact hb
            have t5 : LamX.Tabs W.T (upd H5 L (.dT ((putT acc (i0, j0) n0).map tdV))) := tabs_upd r5.tab fun o z => by rw [L5] at z; cases z; exact trivial
            refine ⟨_, ⟨acc.map tdV, [.inl i0, .inl j0], b, L5, rfl, g1, by rw [List.length_map]; exact big_lt hbig, rfl⟩, putT acc (i0, j0) n0, ⟨?_, ?_, ?_, ?_⟩, hl3⟩
            · rw [putT_put]
              exact fun c o hc ht => upL c o (n25 _ _ (k1 c o hc ht) ht) (neL c o hc)
            · rw [putT_put]
              intro c o hc
              obtain ⟨o2, h2⟩ := k2 c o hc
              obtain ⟨o4, h4⟩ := e4.dom c o2 (x3 c o2 h2)
              obtain ⟨o5, h5⟩ := e5.dom c o4 h4
              exact ⟨o5, upL c o5 h5 (neL c o hc)⟩
            · rw [putT_put]; exact t5
            · rw [putT_put]; exact upd_same
          · cases hl3
        · cases hl3
      · have e : i = xs.length := by omega
        subst e
        rw [List.drop_length] at hl1
        have eo : acc = out := by simpa [loopD] using hl1
        subst eo
        exact .inl ⟨w2, h1 (.ref L) H2 (EvE.extN k1 k2) r2 ⟨L, rfl, free_back ev1.dom hL, .dT (acc.map tdV), k4, rfl⟩⟩
    · rw [z] at h1; exact (show False from h1).elim
  · rw [if_neg hown] at h; exact (show False from h).elim
section
variable {X : Cx} {W : WD} {kx vx tg iter : Expr} {scope : Scope} {own : List (Str × Nat)} {it : DenL} {p : Pt} {fk fv : Den} {pos : Pos}
theorem df_dictT (hu : X.A.units + 1 < cLine) (hN : X.N.Nodup) (hi : DI X W tg iter it) (ok : BlkOk X.N X.env.scope scope own) (hg : Bl X scope fun Y => DG Y tg p) (hk : Bl X scope fun Y => DE Y (WF W.T) kx fk) (he : Bl X scope fun Y => DE Y (WF W.T) vx fv)
    (hps : ∀ j ∈ p.slots, j ∈ own.map (·.2)) (hc : X.calm = true := by rfl) (hs : ∀ x, foldedSetIterable iter X.env x = pure x := by intro _; rfl) :
    DF X W (.DictComp kx vx [⟨tg, iter, [], 0⟩] scope pos) (fDictT it p (own.map (·.2)) fk fv) :=
  pe_imp (pe_dcT hu hc hN hi ok hg hk he hs) fun σ H Q h => rd_dcT hps h
end
end DL

/-! ## DLo -/
/-! DLo: x, y = [..], e where x is an own thing. -/
namespace DL
open PySem PySem.Spec PyProof.Rows L2
def sParO (i j : Nat) (fa fb : Den) : DenS := fun env => (fa env).bind fun x => (fb x.2).bind fun y => (R.of ((putO i x.1 y.2).bind fun e1 => putV j y.1 e1)).bind fun e2 => .ok (.nx, e2)
section
variable {X : Cx} {W : WD} {fr : Bool} {x y : Str} {a b : Expr} {fa fb : Den} {px py pt pos : Pos} {kt k2 pt2}
theorem ds_parO (i j : Nat) (hN : X.N.Nodup) (ha : DF X W a fa) (hb : DE X W b fb) (hc : X.calm = true := by rfl) (h0 : i ≠ 0 := by decide) (hi : X.N[i]? = some x := by rfl) (hj : X.N[j]? = some y := by rfl) (hij : i ≠ j := by decide)
    (hx : X.env.scope.names.lookup x = some .local := by rfl) (hy : X.env.scope.names.lookup y = some .local := by rfl)
    (hw : swappedStores [.Tuple [.Name x px, .Name y py] kt pt] (.Tuple [a, b] k2 pt2) X.env = pure (some [x, y]) := by rfl)
    (hs : swapsWithSole [.Tuple [.Name x px, .Name y py] kt pt] (.Tuple [a, b] k2 pt2) pos.line X.env = pure false := by rfl)
    (s1 : starEach [b] X.env = (false, eval b X.env) :: starEach [] X.env := by rfl) (s2 : starEach [a, b] X.env = (false, eval a X.env) :: starEach [b] X.env := by rfl) :
    DS X W fr (.Assign [.Tuple [.Name x px, .Name y py] kt pt] (.Tuple [a, b] k2 pt2) pos) (sParO i j fa fb) := by
  refine ps_imp (ps_par hc hN hi hj hij hx hy (pa_cons ha (pa_cons hb pa_nil s1) s2) hw hs) fun D σ H q => ?_
  obtain ⟨io, env, r, q⟩ := q
  unfold sParO at q
  refine ⟨io, env, r, ?_⟩
  cases z : fa env with
  | stk => rw [z] at q; exact q
  | err c => rw [z] at q; exact fun env' H' ev t' => q env' σ H' ev.ev t'
  | ok p =>
    rw [z, R.bind_ok] at q
    intro v H1 ev1 r1 p1
    obtain ⟨l, rfl, nl, ow⟩ := p1
    refine ⟨io, p.2, r1, ?_⟩
    cases z2 : fb p.2 with
    | stk => rw [z2] at q; exact q
    | err c => rw [z2] at q; exact fun env' H' ev t' => q env' σ H' (ev1.trans ev).ev t'
    | ok u =>
      rw [z2, R.bind_ok] at q
      intro w H2 ev2 r2 p2
      refine ⟨.ref l, w, rfl, ?_⟩
      cases zz : (putO i p.1 u.2).bind fun e1 => putV j u.1 e1 with
      | none => rw [zz] at q; exact (show False from q).elim
      | some e2 =>
        rw [zz] at q
        cases z3 : putO i p.1 u.2 with
        | none => rw [z3] at zz; cases zz
        | some e1 =>
          rw [z3] at zz
          obtain ⟨hc1, hc2, rfl⟩ := putO_some z3
          obtain ⟨n2, rfl⟩ := putV_some (show putV j u.1 _ = some e2 from zz)
          have ev := ev1.trans ev2
          have no1 : ¬ OwnA p.2 σ l := fun ⟨k, d, h1, h2⟩ => by
            obtain ⟨d0, h0⟩ := ev1.shp.back h1
            obtain ⟨b, g1, ⟨t, g2, _⟩, _⟩ := r.own k d0 h0
            rw [h2] at g1; cases g1
            rw [nl] at g2; cases g2
          have ow2 : ROwn X.K H2 p.1 l := by
            obtain ⟨t, g2, g3⟩ := ow
            exact ⟨t, ev2.kp l t g2 g3.nt no1, g3.ext (r1.fx ev2)⟩
          have na : ∀ (k : Nat) (d : DL.D), u.2[k]? = some (Sl.own d) → σ[k]? ≠ some (some (.ref l)) := fun k d h1 h2 => by
            obtain ⟨d0, h0⟩ := ev2.shp.back h1
            exact no1 ⟨k, d0, h0, h2⟩
          have r3 := r2.setO hc2 h0 hc1 ow2 na
          obtain ⟨r4, e4⟩ := r3.setV n2 p2
          have e3 : Ev env σ H (u.2.set i (.own p.1)) (σ.set i (some (.ref l))) H2 := by
            refine ⟨fun b o hb hn => ⟨fun t => ev.kp b o hb t hn, fun y => ?_⟩, ev.dom⟩
            rcases own_set_sub hc2 r2.len y with rfl | y
            · rw [nl] at hb; cases hb
            · exact hn (ev.shp.ownA.mp y)
          exact q _ H2 (e3.trans e4) r4
def sPar3 (i j l : Nat) (F : DenL) : DenS := fun env => (F env).bind fun x => match x.1 with
  | [d, e, g] => (R.of ((putV i d x.2).bind fun e1 => (putV j e e1).bind fun e2 => putV l g e2)).bind fun e3 => .ok (.nx, e3)
  | _ => .stk
theorem ds_par3 (i j l : Nat) {z : Str} {c : Expr} {F : DenL} {pz : Pos} (hN : X.N.Nodup) (ha : DA X W [a, b, c] F) (hc : X.calm = true := by rfl) (hi : X.N[i]? = some x := by rfl) (hj : X.N[j]? = some y := by rfl) (hl : X.N[l]? = some z := by rfl) (hij : i ≠ j := by decide) (hil : i ≠ l := by decide) (hjl : j ≠ l := by decide)
    (hx : X.env.scope.names.lookup x = some .local := by rfl) (hy : X.env.scope.names.lookup y = some .local := by rfl) (hz : X.env.scope.names.lookup z = some .local := by rfl)
    (hw : swappedStores [.Tuple [.Name x px, .Name y py, .Name z pz] kt pt] (.Tuple [a, b, c] k2 pt2) X.env = pure (some [x, y, z]) := by rfl)
    (hs : swapsWithSole [.Tuple [.Name x px, .Name y py, .Name z pz] kt pt] (.Tuple [a, b, c] k2 pt2) pos.line X.env = pure false := by rfl) :
    DS X W fr (.Assign [.Tuple [.Name x px, .Name y py, .Name z pz] kt pt] (.Tuple [a, b, c] k2 pt2) pos) (sPar3 i j l F) := by
  refine ps_imp (ps_par3 hc hN hi hj hl hij hil hjl hx hy hz ha hw hs) fun D σ H q => ?_
  obtain ⟨io, env, r, q⟩ := q
  refine ⟨io, env, r, WpS.bindE q fun p vs H1 ev1 r1 p1' q1 => ?_⟩
  obtain ⟨pd, pe⟩ := p
  dsimp only at q1 r1 p1'
  split at q1
  · rename_i d e g
    simp only [RpL] at p1'
    obtain ⟨v, rest, rfl, rv, w, rest', rfl, rw', u, rest'', rfl, ru, rfl⟩ := p1'
    cases zz : (putV i d pe).bind fun e1 => (putV j e e1).bind fun e2 => putV l g e2 with
    | none => rw [zz] at q1; exact (show False from q1).elim
    | some e3 =>
      rw [zz] at q1
      cases z1 : putV i d pe with
      | none => rw [z1] at zz; cases zz
      | some e1 =>
        rw [z1] at zz
        have zz : (putV j e e1).bind (fun e2 => putV l g e2) = some e3 := zz
        cases z2 : putV j e e1 with
        | none => rw [z2] at zz; cases zz
        | some e2 =>
          rw [z2] at zz
          obtain ⟨n1, rfl⟩ := putV_some z1
          obtain ⟨n2, rfl⟩ := putV_some z2
          obtain ⟨n3, rfl⟩ := putV_some (show putV l g _ = some e3 from zz)
          obtain ⟨a1, a2⟩ := r1.setV n1 rv
          obtain ⟨b1, b2⟩ := a1.setV n2 rw'
          obtain ⟨c1, c2⟩ := b1.setV n3 ru
          exact ⟨v, w, u, rfl, q1 _ H1 ((a2.trans b2).trans c2) c1⟩
  · exact (show False from q1).elim
end
end DL

/-! ## DLm -/
/-! DLm: sorted(a list of tuples of whole numbers). -/
namespace DL
open PySem PySem.Spec PyProof.Rows L2

abbrev TlV := V × List Int
def tlE (ns : List Int) : PyData := .tuple (ns.map PyData.int)
def tleI (x y : List Int) : Bool := PySem.W.dataLe false tlE x y
def TupI (K : PySem.W.Frag) (H : Hp) (v : V) (ns : List Int) : Prop := ∃ t, v = .ref t ∧ SqT K H t (ns.map V.int)
theorem reads_ints {h : Heap} : ∀ {ns : List Int} {its : List Value}, Vals (ns.map V.int) its → ReadsAll h its (ns.map PyData.int) []
  | [], its, r => by cases r; exact .nil
  | n :: ns, its, r => by
    rw [List.map_cons] at r
    cases r with
    | cons a b =>
      obtain ⟨t, rfl⟩ := a
      exact .cons (as := []) (.int n t) (reads_ints b)
open PySem.W in
theorem each_ofT : ∀ {bs : List TlV} {its : List Value}, Vals (bs.map (·.1)) its → EachIs (fun v b => L2.RelV b.1 v ∧ b ∈ bs) its bs
  | [], its, h => by cases h; exact .nil
  | b :: bs, its, h => by
    rw [List.map_cons] at h
    cases h with
    | cons r rr => exact .cons ⟨r, List.mem_cons_self⟩ ((each_ofT rr).mono fun v b h => ⟨h.1, List.mem_cons_of_mem _ h.2⟩)
open PySem.W in
theorem each_valsT {R : Value → TlV → Prop} (k : ∀ v b, R v b → L2.RelV b.1 v) : ∀ {bs : List TlV} {its : List Value}, EachIs R its bs → Vals (bs.map (·.1)) its
  | _, _, .nil => .nil
  | _, _, .cons h t => .cons (k _ _ h) (each_valsT k t)
def tSortT (K : PySem.W.Frag) (te : TE) : TE := fun σ H Q => te σ H fun v H1 => ∃ (a : Addr) (bs : List TlV), v = .ref a ∧ SqL K H1 a (bs.map (·.1)) ∧ (∀ b ∈ bs, TupI K H1 b.1 b.2 ∧ b.2 ≠ []) ∧
  ∀ p : Addr, H1 p = none → Q (.ref p) (upd H1 p (.lst ((bs.mergeSort fun x y => tleI x.2 y.2).map (·.1))))
section
variable {X : Cx}
theorem pe_sortT {k : Nat} {e : Expr} {te : TE} {p pos : Pos} (hg : Gl X "sorted") (hm : X.mg "sorted" = none) (hr : Room k X.A) (he : PE X e te)
    (na : starEach [e] X.env = (false, eval e X.env) :: starEach [] X.env := by rfl) : PE X (.Call (.Name "sorted" p) [e] [] pos) (tSortT X.K te) := by
  refine ⟨fun pins s σ H Q I h => ?_⟩
  unfold tSortT at h
  refine Call_ (ld_blt I hg hm boot_sorted ?_)
  refine PyProof.Rows.callWith_builtin1 (PyProof.Rows.args_cons (thn (he.run pins s σ H _ I h) fun v s1 ⟨x, H1, I1, r1, a, bs, ex, hsq, hpr, q⟩ => PyProof.Rows.args_nil ?_) na) na rfl
  subst ex
  cases r1
  obtain ⟨its, rv, pl, hz⟩ := I1.list hsq
  rw [List.length_map] at hz
  have un := hr.un
  have rd : ∀ b ∈ bs, ∀ v, L2.RelV b.1 v → Reads s1.heap v (tlE b.2) [] := fun b hb v hv => by
    obtain ⟨⟨t, et, hq⟩, _⟩ := hpr b hb
    obtain ⟨its2, r2, ⟨ot, hot, hct, nt, hdt⟩, _⟩ := I1.tuple hq
    have hv' : v = .ref t := by
      rw [et] at hv
      exact hv
    rw [hv']
    exact .tuple hot hct hdt (reads_ints r2)
  refine PySem.W.sorted_data (β := TlV) (enc := fun b : TlV => tlE b.2) (R := fun v b => L2.RelV b.1 v ∧ b ∈ bs) pl.isList (each_ofT rv) ((each_ofT rv).mono fun v b hb => ⟨[], rd b hb.2 v hb.1⟩) (PySem.W.AllAlike.of fun b b' => ?_) (.inl fun d hd => ?_) hz (fun b _ => ?_) fun out ho eo => ?_
  · have := PySem.W.alike_ints b.2 b'.2
    simpa [PySem.W.alike, tlE] using this
  · obtain ⟨b, hb, rfl⟩ := List.mem_map.mp hd
    have hne := (hpr b hb).2
    cases z : b.2 with
    | nil => exact absurd z hne
    | cons n ns => exact ⟨.int n, ns.map PyData.int, by simp [tlE, z]⟩
  · have hdp : (tlE b.2).depth = 1 := by
      have := PySem.W.depth_ints b.2
      simp [tlE, PyData.depth, this]
    omega
  · obtain ⟨c, hc⟩ := sortedAll_at s1.heap its out.toArray
    have rv2 : Vals ((bs.mergeSort fun x y => tleI x.2 y.2).map (·.1)) out := each_valsT (fun v b h => h.1) eo
    have hlen : ((bs.mergeSort fun x y => tleI x.2 y.2).map (·.1)).length ≤ sizeLine := by
      rw [List.length_map, List.length_mergeSort]; exact hz
    exact ⟨.ref (s1.heap.objs.size + 1), _, I1.laid (t' := s1.toks) (fun _ _ => sortedAll_old) (Nat.le_succ _) (show ObjOk X.prog X.w _ _ _ (.lst _) from ⟨hlen, out, c, rv2, hc⟩), rfl, q _ (I1.hok.fresh (Nat.le_succ _))⟩
end

/-- a tuple of whole numbers, not empty -/
def tlI : D → Option (List Int)
  | .tup _ (d :: ds) => asI (d :: ds)
  | _ => none
def tls : List D → Option (List (D × List Int))
  | [] => some []
  | d :: ds => (tlI d).bind fun p => (tls ds).map ((d, p) :: ·)
def srtT (bs : List (D × List Int)) : List D := (bs.mergeSort fun x y => tleI x.2 y.2).map (·.1)
def eSortT (f : Den) : Den := fun env => (f env).bind fun x => match x.1 with
  | .lst ds => (R.of (tls ds)).bind fun bs => .ok (.lst (srtT bs), x.2)
  | _ => .stk
theorem tlI_at {K : PySem.W.Frag} {H : Hp} {d : D} {v : V} {ns : List Int} (h : tlI d = some ns) (r : Rp K H d v) : TupI K H v ns ∧ ns ≠ [] := by
  unfold tlI at h
  split at h
  · rename_i b d ds
    have e := asI_some h
    obtain ⟨a, vs, rfl, h1, h2⟩ := rp_tup r
    rw [e] at h2
    have := RpL.ints h2
    subst this
    refine ⟨⟨a, rfl, h1.sq⟩, fun z => ?_⟩
    rw [z] at e
    cases e
  · cases h
theorem tls_tri {K : PySem.W.Frag} {H : Hp} : ∀ {ds : List D} {vs : List V} {bs : List (D × List Int)}, RpL K H ds vs → tls ds = some bs →
    ∃ tl : List (D × TlV), tl.map (fun t => (t.1, t.2.2)) = bs ∧ tl.map (fun t => t.2.1) = vs ∧ ∀ t ∈ tl, Rp K H t.1 t.2.1 ∧ TupI K H t.2.1 t.2.2 ∧ t.2.2 ≠ []
  | [], vs, bs, r, h => by
    simp only [RpL] at r
    simp only [tls, Option.some.injEq] at h
    subst r; subst h
    exact ⟨[], rfl, rfl, fun t ht => by cases ht⟩
  | d :: ds, vs, bs, r, h => by
    simp only [RpL] at r
    obtain ⟨v, r', e1, h1, h2⟩ := r
    simp only [tls] at h
    cases z : tlI d with
    | none => rw [z] at h; cases h
    | some p =>
      rw [z] at h
      cases z2 : tls ds with
      | none => rw [z2] at h; cases h
      | some bs2 =>
        rw [z2] at h
        cases h
        obtain ⟨tl, t1, t2, t3⟩ := tls_tri h2 z2
        refine ⟨(d, v, p) :: tl, by rw [List.map_cons, t1], by rw [List.map_cons, t2, e1], fun t ht => ?_⟩
        rcases List.mem_cons.mp ht with e | ht
        · rw [e]; exact ⟨h1, tlI_at z h1⟩
        · exact t3 t ht
section
variable {X : Cx} {W : WD}
theorem df_sortT {k : Nat} {e : Expr} {f : Den} {p pos : Pos} (hg : Gl X "sorted") (hm : X.mg "sorted" = none) (hr : Room k X.A) (he : DE X W e f)
    (na : starEach [e] X.env = (false, eval e X.env) :: starEach [] X.env := by rfl) : DF X W (.Call (.Name "sorted" p) [e] [] pos) (eSortT f) := by
  refine pe_imp (pe_sortT hg hm hr he na) fun σ H Q hq => ?_
  obtain ⟨io, env, hrl, hq⟩ := hq
  refine ⟨io, env, hrl, Wp.bind hq fun x v H1 q0 e1 r1 p1 h1 => ?_⟩
  clear q0
  obtain ⟨xd, xe⟩ := x
  dsimp only at h1 p1
  split at h1
  · rename_i ds
    cases q1 : tls ds with
    | none => rw [q1] at h1; exact (show False from h1).elim
    | some bs =>
      rw [q1] at h1
      obtain ⟨l, vs, rfl, g1, g2⟩ := rp_lst p1
      obtain ⟨tl, t1, t2, t3⟩ := tls_tri g2 q1
      have em : (tl.map (·.2)).map (·.1) = vs := by rw [List.map_map]; exact t2
      refine ⟨l, tl.map (·.2), rfl, by rw [em]; exact g1.sq, fun b hb => ?_, fun p np => ?_⟩
      · obtain ⟨t, ht, rfl⟩ := List.mem_map.mp hb
        exact (t3 t ht).2
      · have s1 : ((tl.map (·.2)).mergeSort fun x y => tleI x.2 y.2) = (tl.mergeSort fun x y => tleI x.2.2 y.2.2).map (·.2) := (List.map_mergeSort (f := fun t : D × TlV => t.2) (r := fun x y => tleI x.2.2 y.2.2) (s := fun x y => tleI x.2 y.2) fun a _ b _ => rfl).symm
        have s2 : (bs.mergeSort fun x y => tleI x.2 y.2) = (tl.mergeSort fun x y => tleI x.2.2 y.2.2).map (fun t => (t.1, t.2.2)) := by
          rw [← t1]; exact (List.map_mergeSort (f := fun t : D × TlV => (t.1, t.2.2)) (r := fun x y => tleI x.2.2 y.2.2) (s := fun x y => tleI x.2 y.2) fun a _ b _ => rfl).symm
        have x2 : Ext H1 (upd H1 p (.lst (((tl.map (·.2)).mergeSort fun x y => tleI x.2 y.2).map (·.1)))) := Ext.new np
        refine h1 (.ref p) _ (EvE.ext x2) (r1.ext x2) ⟨p, rfl, free_back e1.dom np, .lst _, upd_same, ?_⟩
        refine RpL.ext x2.fx _ _ ?_
        show RpL X.K H1 (srtT bs) _
        unfold srtT
        rw [s1, s2, List.map_map, List.map_map]
        exact rpL_map fun t ht => (t3 t (List.mem_mergeSort.mp ht)).1
  · exact (show False from h1).elim
end
theorem srtT_perm {bs : List (D × List Int)} : (srtT bs).Perm (bs.map (·.1)) := (List.mergeSort_perm _ _).map _
@[simp] theorem v_sortT {f : Den} {env : En} : eSortT f env = (f env).bind fun x => match x.1 with
  | .lst ds => (R.of (tls ds)).bind fun bs => .ok (.lst (srtT bs), x.2)
  | _ => .stk := rfl
end DL

/-! ## F2 -/
namespace DL
open PySem PySem.Spec PyProof.Rows L2

def b_room_of (m : Bool) : DenS := (sRet (eN (pTuple true) (aCons (fComp (itEnum (aCons (eVar 0) aNil)) (.tu [(.nm 1), (.nm 2)]) [1, 2] (tst (e2 pGt (eVar 2) (eC (.int 0)))) (eTup m (aCons (e2 pAdd (eVar 1) (eC (.int 1))) (aCons (eVar 2) aNil)))) aNil)))
def f_room_of (m : Bool) : DenF := runF false false 2 (b_room_of m)
def b_asks_of (m : Bool) : DenS := (sRet (fDictT (itS (eCall 1 (f_windows_of m) (aCons (e2 pIx (eVar 0) (eC (.int 0))) aNil))) (.nm 1) [1] (eVar 1) (eN pMax (aCons (fComp (itS (e2 pIx (eVar 0) (eC (.int 1)))) (.nm 2) [2] tT (eCall 3 (f_within m) (aCons (eVar 2) (aCons (e2 pIx (eVar 1) (eC (.int 0))) (aCons (e2 pIx (eVar 1) (eC (.int 1))) aNil))))) aNil))))
def f_asks_of (m : Bool) : DenF := runF false true 2 (b_asks_of m)
def b_heights (m : Bool) : DenS := (sSeq (sSet 2 (eCall 1 (f_asks_of m) (aCons (eVar 0) aNil))) (sSeq (sOwn 3 (fLst (aCons (eC (.int 0)) aNil))) (sSeq (sOwn 4 (fLst (aCons (eC .non) aNil))) (sSeq (sSeq (sSeq (sFor (itR2 (aCons (eC (.int 1)) (aCons (e2 pAdd (e2 pIx (eVar 0) (eC (.int 0))) (eC (.int 1))) aNil))) (.nm 5) (sSeq (sPar2 7 8 (aCons (eIxO 3 (e1 pNeg (eC (.int 1)))) (aCons (eC .non) aNil))) (sSeq (sFor (itR2 (aCons (eC (.int 1)) (aCons (e2 pAdd (eVar 5) (eC (.int 1))) aNil))) (.nm 6) (sSeq (sSet 9 (e2 pSub (eGetI (eVar 2) (eTup m (aCons (eVar 6) (aCons (eVar 5) aNil)))) (eCall 3 (f_has m) (aCons (eVar 1) (aCons (eVar 6) (aCons (eVar 5) aNil)))))) (sIf (tst (e2 pGt (e2 pAdd (eIxO 3 (e2 pSub (eVar 6) (eC (.int 1)))) (eVar 9)) (eVar 7))) (sPar2 7 8 (aCons (e2 pAdd (eIxO 3 (e2 pSub (eVar 6) (eC (.int 1)))) (eVar 9)) (aCons (eTup m (aCons (eVar 6) (aCons (eVar 5) aNil))) aNil))) sNx))) (sSeq (sApp 3 (eVar 7)) (sApp 4 (eVar 8)))))) (sFz 3)) (sFz 4)) (sRet (eTup m (aCons (eVar 3) (aCons (eVar 4) aNil))))))))
def f_heights (m : Bool) : DenF := runF false false 8 (b_heights m)
def b_fewest_more (m : Bool) : DenS := (sSeq (sSet 2 (e2 pIx (eCall 2 (f_heights m) (aCons (eVar 0) (aCons (eVar 1) aNil))) (eC (.int 0)))) (sRet (fComp (itZip (aCons (eVar 2) (aCons (eSl (eVar 2) (oS (eC (.int 1))) oN) aNil))) (.tu [(.nm 3), (.nm 4)]) [3, 4] tT (e2 pSub (eVar 4) (eVar 3)))))
def f_fewest_more (m : Bool) : DenF := runF false true 3 (b_fewest_more m)
def b_to_buy (m : Bool) : DenS := (sSeq (sExp (eCall 2 (f_need_room m) (aCons (eVar 0) (aCons (eVar 1) aNil)))) (sRet (eCall 1 (f_room_of m) (aCons (eCall 2 (f_fewest_more m) (aCons (eVar 0) (aCons (eCall 2 (f_coats_of m) (aCons (eVar 0) (aCons (eVar 1) aNil))) aNil))) aNil))))
def f_to_buy (m : Bool) : DenF := runF false false 0 (b_to_buy m)
def b_apart (m : Bool) : DenS := (sSeq (sExp (eCall 2 (f_need_room m) (aCons (eVar 0) (aCons (eVar 1) aNil)))) (sSeq (sSet 2 (e2 pIx (eCall 2 (f_heights m) (aCons (eVar 0) (aCons (eCall 2 (f_coats_of m) (aCons (eVar 0) (aCons (eVar 1) aNil))) aNil))) (eC (.int 1)))) (sSeq (sOwn 3 (fLst aNil)) (sSeq (sSet 4 (e2 pIx (eVar 0) (eC (.int 0)))) (sSeq (sSeq (sWhile (tst (e2 pGt (eVar 4) (eC (.int 0)))) (sIf (tst (e2 pIsN (e2 pIx (eVar 2) (eVar 4)) (eC .non))) (sAug 4 (· - ·) (eC (.int 1))) (sSeq (sTgt (.tu [(.nm 5), (.nm 6)]) (e2 pIx (eVar 2) (eVar 4))) (sSeq (sApp 3 (eTup m (aCons (eVar 5) (aCons (eVar 6) (aCons (e2 pIx (eCall 3 (f_first_asker m) (aCons (eVar 0) (aCons (eVar 5) (aCons (eVar 6) aNil)))) (eC (.int 1))) aNil))))) (sSet 4 (e2 pSub (eVar 5) (eC (.int 1))))))) 1000000) (sFz 3)) (sRet (eN (pTuple m) (aCons (eRev (eVar 3)) aNil))))))))
def f_apart (m : Bool) : DenF := runF false false 5 (b_apart m)
def b_are_apart (m : Bool) : DenS := (sSeq (sIf (tNotD (tst (eCall 2 (f_are_tuples m) (aCons (eVar 1) (aCons (eC (.int 3)) aNil))))) (sRet (eC (.bl false))) sNx) (sSeq (sIf (tNotD (tst (eN pAll (aCons (fComp (itS (eVar 1)) (.nm 2) [2] tT (eAnd (eCall 2 (f_is_span m) (aCons (e2 pIx (eVar 0) (eC (.int 0))) (aCons (eSl (eVar 2) oN (oS (eC (.int 2)))) aNil))) (eCall 3 (f_is_from m) (aCons (e2 pIx (eVar 2) (eC (.int 2))) (aCons (eC (.int 0)) (aCons (e2 pSub (eN pLen (aCons (e2 pIx (eVar 0) (eC (.int 1))) aNil)) (eC (.int 1))) aNil)))))) aNil)))) (sRet (eC (.bl false))) sNx) (sRet (eN pAll (aCons (fComp (itZip (aCons (eVar 1) (aCons (eSl (eVar 1) (oS (eC (.int 1))) oN) aNil))) (.tu [(.nm 3), (.nm 4)]) [3, 4] tT (e2 pLt (e2 pIx (eVar 3) (eC (.int 1))) (e2 pIx (eVar 4) (eC (.int 0))))) aNil)))))
def f_are_apart (m : Bool) : DenF := runF false false 3 (b_are_apart m)
def b_apart_show (m : Bool) : DenS := (sSeq (sExp (eCall 2 (f_need_room m) (aCons (eVar 0) (aCons (eVar 1) aNil)))) (sSeq (sIf (tNotD (tst (eCall 2 (f_are_apart m) (aCons (eVar 0) (aCons (eVar 2) aNil))))) (sRet (eC .non)) sNx) (sSeq (sSet 3 (eCall 2 (f_coats_of m) (aCons (eVar 0) (aCons (eVar 1) aNil)))) (sRet (eN pSum (aCons (fComp (itS (eVar 2)) (.tu [(.nm 4), (.nm 5), (.nm 6)]) [4, 5, 6] tT (e2 pSub (eCall 3 (f_within m) (aCons (e2 pIx (e2 pIx (eVar 0) (eC (.int 1))) (eVar 6)) (aCons (eVar 4) (aCons (eVar 5) aNil)))) (eCall 3 (f_has m) (aCons (eVar 3) (aCons (eVar 4) (aCons (eVar 5) aNil)))))) aNil))))))
def f_apart_show (m : Bool) : DenF := runF false false 4 (b_apart_show m)
def b__law_shown (m : Bool) : DenS := (sSeq (sIf (tNotD (tst (eIsT "tuple" (eVar 2)))) (sRet (eC .non)) sNx) (sSeq (sTgt (.tu [(.nm 4), (.nm 5)]) (eTup m (aCons (eC (.int 0)) (aCons (eC (.int 0)) aNil)))) (sSeq (sFor (itS (eVar 2)) (.nm 3) (sSeq (sIf (tOrD (tNotD (tst (eIsT "tuple" (eVar 3)))) (tOrD (tst (e2 pNe (eN pLen (aCons (eVar 3) aNil)) (eC (.int 3)))) (tst (e2 pNe (fComp (itS (eVar 3)) (.nm 9) [9] (tNotD (tst (eCall 1 (f__law_whole m) (aCons (eVar 9) aNil)))) (eVar 9)) (fLst aNil))))) (sRet (eC .non)) sNx) (sSeq (sTgt (.tu [(.nm 6), (.nm 7), (.nm 8)]) (eVar 3)) (sSeq (sIf (tOrD (tNotD (tst (eChain3 pLt pLe pLe (eVar 5) (eVar 6) (eVar 7) (e2 pIx (eVar 0) (eC (.int 0)))))) (tNotD (tst (eChain pLe pLt (eC (.int 0)) (eVar 8) (eN pLen (aCons (e2 pIx (eVar 0) (eC (.int 1))) aNil)))))) (sRet (eC .non)) sNx) (sPar2 4 5 (aCons (e2 pSub (e2 pAdd (eVar 4) (eCall 3 (f__law_within m) (aCons (e2 pIx (e2 pIx (eVar 0) (eC (.int 1))) (eVar 8)) (aCons (eVar 6) (aCons (eVar 7) aNil))))) (eCall 3 (f__law_has m) (aCons (eVar 1) (aCons (eVar 6) (aCons (eVar 7) aNil))))) (aCons (eVar 7) aNil))))))) (sRet (eVar 4)))))
def f__law_shown (m : Bool) : DenF := runF false false 7 (b__law_shown m)
def b__law_drawn (m : Bool) : DenS := (sSeq (sParO 2 3 (fLst aNil) (e2 pAdd (eC (.int 1)) (eCallO 0 2 (f__law_pick m) (aCons (eC (.int 3)) aNil)))) (sSeq (sWhile (tst (e2 pLe (eVar 3) (e2 pIx (eVar 1) (eC (.int 0))))) (sSeq (sSet 4 (eN pMin (aCons (e2 pIx (eVar 1) (eC (.int 0))) (aCons (e2 pAdd (eVar 3) (eCallO 0 2 (f__law_pick m) (aCons (eC (.int 4)) aNil))) aNil)))) (sSeq (sApp 2 (eTup m (aCons (eVar 3) (aCons (eVar 4) (aCons (eCallO 0 2 (f__law_pick m) (aCons (eN pLen (aCons (e2 pIx (eVar 1) (eC (.int 1))) aNil)) aNil)) aNil))))) (sSeq (sSet 3 (e2 pAdd (eVar 4) (eCallO 0 2 (f__law_one m) (aCons (fLst (aCons (eC (.int 1)) (aCons (eC (.int 1)) (aCons (eC (.int 2)) (aCons (eC (.int 3)) (aCons (eC (.int 0)) aNil)))))) aNil)))) (sIf (tst (e2 pGt (eLock 2 (eN pLen (aCons (eVar 2) aNil))) (eC (.int 20)))) (sRet (eLock 2 (eN (pTuple m) (aCons (eVar 2) aNil)))) sNx)))) 1000000) (sRet (eLock 2 (eN (pTuple m) (aCons (eVar 2) aNil))))))
def f__law_drawn (m : Bool) : DenF := runF true false 3 (b__law_drawn m)
end DL

/-! ## F3 -/
namespace DL
open PySem PySem.Spec PyProof.Rows L2

def b_is_room (m : Bool) : DenS := (sSeq (sExp (eCall 1 (f_need_book m) (aCons (eVar 0) aNil))) (sRet (eCall 2 (f_is_stock m) (aCons (eVar 0) (aCons (eVar 1) aNil)))))
def f_is_room (m : Bool) : DenF := runF false false 0 (b_is_room m)
def b__law_rooms (m : Bool) : DenS := (sSeq (sSet 2 (fLst (aCons (eTup m (aCons (eTup m aNil) (aCons (eVar 1) aNil))) aNil))) (sSeq (sFor (itR1 (aCons (e2 pSub (eVar 0) (eC (.int 1))) aNil)) (.nm 3) (sSeq (sSet 4 (fLst aNil)) (sSeq (sFor (itS (eVar 2)) (.tu [(.nm 5), (.nm 6)]) (sSet 4 (e2 pAdd (eVar 4) (fComp (itR1 (aCons (e2 pAdd (eVar 6) (eC (.int 1))) aNil)) (.nm 7) [7] tT (eTup m (aCons (e2 pAdd (eVar 5) (eTup m (aCons (eVar 7) aNil))) (aCons (e2 pSub (eVar 6) (eVar 7)) aNil))))))) (sSet 2 (eVar 4))))) (sRet (eSortT (fComp (itS (eVar 2)) (.tu [(.nm 5), (.nm 6)]) [5, 6] tT (e2 pAdd (eVar 5) (eTup m (aCons (eVar 6) aNil))))))))
def f__law_rooms (m : Bool) : DenF := runF false false 6 (b__law_rooms m)
end DL

/-! ## F4 -/
namespace DL
open PySem PySem.Spec PyProof.Rows L2

def b_borne (m : Bool) : DenS := (sSeq (sExp (eCall 2 (f_need_room m) (aCons (eVar 0) (aCons (eVar 1) aNil)))) (sSeq (sExp (eCall 2 (f_need_winter m) (aCons (eVar 0) (aCons (eVar 2) aNil)))) (sSeq (sIf (tNotD (tst (eCall 2 (f_serving m) (aCons (eVar 0) (aCons (eVar 1) aNil))))) (sErr "NotServed") sNx) (sSeq (sTgt (.tu [(.nm 5), (.nm 6)]) (eTup m (aCons (eCall 2 (f_coats_of m) (aCons (eVar 0) (aCons (eVar 1) aNil))) (aCons (e2 pIx (e2 pIx (eVar 0) (eC (.int 1))) (eVar 2)) aNil)))) (sSeq (sSet 3 (fComp (itS (eCall 1 (f_windows_of m) (aCons (e2 pIx (eVar 0) (eC (.int 0))) aNil))) (.nm 9) [9] (tst (e2 pEq (eCall 3 (f_within m) (aCons (eVar 6) (aCons (e2 pIx (eVar 9) (eC (.int 0))) (aCons (e2 pIx (eVar 9) (eC (.int 1))) aNil)))) (eCall 3 (f_has m) (aCons (eVar 5) (aCons (e2 pIx (eVar 9) (eC (.int 0))) (aCons (e2 pIx (eVar 9) (eC (.int 1))) aNil)))))) (eVar 9))) (sSeq (sOwn 4 (fLst aNil)) (sSeq (sFor (itS (eCall 1 (f_windows_of m) (aCons (e2 pIx (eVar 0) (eC (.int 0))) aNil))) (.tu [(.nm 7), (.nm 8)]) (sIf (tNotD (tst (eN pAny (aCons (fComp (itS (eVar 3)) (.nm 9) [9] tT (eAnd (e2 pLe (e2 pIx (eVar 9) (eC (.int 0))) (eVar 7)) (e2 pLe (eVar 8) (e2 pIx (eVar 9) (eC (.int 1)))))) aNil)))) (sApp 4 (eTup m (aCons (eVar 7) (aCons (eVar 8) aNil)))) sNx)) (sRetO 4))))))))
def f_borne (m : Bool) : DenF := runF false true 7 (b_borne m)
end DL

/-! ## G08 -/
namespace DL
open PySem PySem.Spec PyProof.Rows L2

def topS (i : Nat) : Stmt := PySem.Challenge.pw_allwinters_k08_whole_who_may_still_come.main.body.getD i (.Pass ⟨0, 0, 0, 0⟩)
def b_law (m : Bool) : DenS := (sSeq (sFor (itS (eSl (e2 pAdd (fLst (aCons (eC (.int 0)) aNil)) (eVar 0)) oN (oS (eC (.int 10))))) (.nm 1) (sSeq (sOwn 2 (eCall 2 (f__law_deck m) (aCons (eVar 1) (aCons (eC (.int 8)) aNil)))) (sSeq (sSet 3 (eCallO 2 4 (f__law_book m) (aCons (eCallO 2 2 (f__law_one m) (aCons (fLst (aCons (eC (.int 4)) (aCons (eC (.int 16)) aNil))) aNil)) (aCons (eC (.int 4)) (aCons (eC (.int 7)) aNil))))) (sSeq (sSeq (sSet 4 (eCallO 2 3 (f__law_room m) (aCons (eVar 3) (aCons (eC (.int 2)) aNil)))) (sFz 2)) (sSeq (sSet 5 (fComp (itZip (aCons (eCall 2 (f__law_coats m) (aCons (eVar 3) (aCons (eVar 4) aNil))) (aCons (eCall 2 (f__law_coats m) (aCons (eVar 3) (aCons (eCall 2 (f_to_buy m) (aCons (eVar 3) (aCons (eVar 4) aNil))) aNil))) aNil))) (.tu [(.nm 12), (.nm 13)]) [12, 13] tT (e2 pAdd (eVar 12) (eVar 13)))) (sSeq (sSet 6 (eCall 1 (f__law_room_of m) (aCons (eVar 5) aNil))) (sSeq (sFor (itEnum (aCons (e2 pIx (eVar 3) (eC (.int 1))) aNil)) (.tu [(.nm 8), (.nm 9)]) (sSeq (sSet 10 (fComp (itS (eCall 1 (f__law_windows m) (aCons (e2 pIx (eVar 3) (eC (.int 0))) aNil))) (.nm 14) [14] (tst (eCall 2 (f__law_clothed m) (aCons (eVar 5) (aCons (e2 pAdd (eVar 9) (eTup m (aCons (eVar 14) aNil))) aNil)))) (eVar 14))) (sSeq (sOwn 11 (eCall 3 (f_borne m) (aCons (eVar 3) (aCons (eVar 6) (aCons (eVar 8) aNil))))) (sSeq (sIf (tNotD (tst (eLock 11 (eCall 2 (f__law_same m) (aCons (eVar 11) (aCons (eVar 10) aNil)))))) (sRet (eC (.bl false))) sNx) (sSeq (sApp 11 (eC (.int 1))) (sFz 11)))))) (sSeq (sFor (itS (fLst (aCons (eC .non) (aCons (eC (.bl true)) (aCons (e1 pNeg (eC (.int 1))) (aCons (eN pLen (aCons (e2 pIx (eVar 3) (eC (.int 1))) aNil)) aNil)))))) (.nm 7) (sIf (tst (e2 pNe (eTry (eCall 3 (f_borne m) (aCons (eVar 3) (aCons (eVar 6) (aCons (eVar 7) aNil))))) (eC (.str (Str.ofString "NoWinter+"))))) (sRet (eC (.bl false))) sNx)) (sIf (tAndD (tNotD (tst (eCall 2 (f__law_serves m) (aCons (eVar 3) (aCons (eCall 2 (f__law_coats m) (aCons (eVar 3) (aCons (eVar 4) aNil))) aNil))))) (tst (e2 pNe (eTry (eCall 3 (f_borne m) (aCons (eVar 3) (aCons (eVar 4) (aCons (eC (.int 0)) aNil))))) (eC (.str (Str.ofString "NotServed+")))))) (sRet (eC (.bl false))) sNx))))))))) (sRet (eC (.bl true))))
def f_law (m : Bool) : DenF := runF false false 14 (b_law m)
structure Tops (K : PySem.W.Frag) (mg : Str → Option Value) : Prop where
  b_ValueError : mg "ValueError" = none
  b_all : mg "all" = none
  b_any : mg "any" = none
  b_bool : mg "bool" = none
  b_dict : mg "dict" = none
  b_enumerate : mg "enumerate" = none
  b_int : mg "int" = none
  b_isinstance : mg "isinstance" = none
  b_len : mg "len" = none
  b_list : mg "list" = none
  b_max : mg "max" = none
  b_min : mg "min" = none
  b_range : mg "range" = none
  b_sorted : mg "sorted" = none
  b_str : mg "str" = none
  b_sum : mg "sum" = none
  b_tuple : mg "tuple" = none
  b_zip : mg "zip" = none
  c_MOST_CHILDREN : TopI mg "MOST_CHILDREN" 8
  c_MOST_COATS : TopI mg "MOST_COATS" 99
  c_MOST_SIZES : TopI mg "MOST_SIZES" 16
  c_MOST_WINTERS : TopI mg "MOST_WINTERS" 5
  x_NoBook : TopX K mg "NoBook"
  x_NoRoom : TopX K mg "NoRoom"
  x_NoWinter : TopX K mg "NoWinter"
  x_NotServed : TopX K mg "NotServed"
section
variable {P : Program} {w : World} {K : PySem.W.Frag} {TT : List (Addr × Str)} {mg : Str → Option Value} {base : Heap}
abbrev st_is_from : Stmt := topS 19
theorem sc_is_from : FnScope ["thing", "low", "high"] ["thing", "low", "high"] (defScope st_is_from) := ⟨rfl, rfl, rfl, by decide +kernel, rfl, by decide +kernel, by decide +kernel⟩
theorem ok_is_from {f : Addr} {fd : FuncData} (F : Fun K "is_from" "is_from" st_is_from f fd) (T : Tops K mg)  : FnOk P w K mg base (L2N.CX P w) 1 f fd ["thing", "low", "high"] (spD K TT mg false false 3 (f_is_from false)) :=
  den_okC (N := ["thing", "low", "high"]) false false F sc_is_from fun cdv hc A outer s H E hr tk => (dss_one (ds_ret (de_and (de_isT (by decide) (by rfl) T.b_isinstance (by rfl) T.b_int (by decide +kernel) (de_var 0) (by decide +kernel)) (de_and (de_not (de_isT (by decide) (by rfl) T.b_isinstance (by rfl) T.b_bool (by decide +kernel) (de_var 0) (by decide +kernel))) (de_one (de_chain pr_le pr_le op_le op_le (de_var 1) (de_var 0) (de_var 2)))))))
abbrev st_is_rising : Stmt := topS 20
theorem sc_is_rising : FnScope ["things", "one", "other"] ["things"] (defScope st_is_rising) := ⟨rfl, rfl, rfl, by decide +kernel, rfl, by decide +kernel, by decide +kernel⟩
theorem ok_is_rising {f : Addr} {fd : FuncData} (F : Fun K "is_rising" "is_rising" st_is_rising f fd) (T : Tops K mg)  : FnOk P w K mg base (L2N.CX P w) 1 f fd ["things"] (spD K TT mg false false 1 (f_is_rising false)) :=
  den_okC (N := ["things", "one", "other"]) false false F sc_is_rising fun cdv hc A outer s H E hr tk => (dss_one (ds_ret (de_cb pr_all (cr_all rfl) (by rfl) T.b_all (by decide +kernel) (da_cons (DF.fz (df_comp sc_is_rising.nd (di_zip (by rfl) T.b_zip (da_cons (de_var 0) (da_cons (DM.fz (dm_slice (de_var 0) (do_s de_int) do_n)) da_nil))) (blkOk_by (own := [("one", 1), ("other", 2)]) (by kernel_rfl)) (fun _ _ _ _ _ => (dg_tu rfl (dgs_cons (dg_nm 1 sc_is_rising.nd) (dgs_cons (dg_nm 2 sc_is_rising.nd) dgs_nil)))) (fun _ _ _ _ _ => dts_nil) (fun _ _ _ _ _ => (de_cmp pr_lt (op_ltA hr.units0) (de_var 1) (de_var 2) (nomark _))) (by decide))) da_nil))))
abbrev st_are_tuples : Stmt := topS 21
theorem sc_are_tuples : FnScope ["thing", "size", "row"] ["thing", "size"] (defScope st_are_tuples) := ⟨rfl, rfl, rfl, by decide +kernel, rfl, by decide +kernel, by decide +kernel⟩
theorem ok_are_tuples {f : Addr} {fd : FuncData} (F : Fun K "are_tuples" "are_tuples" st_are_tuples f fd) (T : Tops K mg)  : FnOk P w K mg base (L2N.CX P w) 1 f fd ["thing", "size"] (spD K TT mg false false 2 (f_are_tuples false)) :=
  den_okC (N := ["thing", "size", "row"]) false false F sc_are_tuples fun cdv hc A outer s H E hr tk => (dss_one (ds_ret (de_and (de_isT (by decide) (by rfl) T.b_isinstance (by rfl) T.b_tuple (by decide +kernel) (de_var 0) (by decide +kernel)) (de_one (de_cb pr_all (cr_all rfl) (by rfl) T.b_all (by decide +kernel) (da_cons (DF.fz (df_comp sc_are_tuples.nd (di_seq (de_var 0)) (blkOk_by (own := [("row", 2)]) (by kernel_rfl)) (fun _ _ _ _ _ => (dg_nm 2 sc_are_tuples.nd)) (fun _ _ _ _ _ => dts_nil) (fun _ _ _ _ _ => (de_and (de_isT (by decide) (by rfl) T.b_isinstance (by rfl) T.b_tuple (by decide +kernel) (de_var 2) (by decide +kernel)) (de_one (de_cmp pr_eq (op_eqA hr.units) (de_cb pr_len call_len (by rfl) T.b_len (by decide +kernel) (da_cons (de_var 2) da_nil)) (de_var 1) (nomark _))))) (by decide))) da_nil))))))
abbrev st_is_span : Stmt := topS 22
theorem sc_is_span : FnScope ["sizes", "thing"] ["sizes", "thing"] (defScope st_is_span) := ⟨rfl, rfl, rfl, by decide +kernel, rfl, by decide +kernel, by decide +kernel⟩
theorem ok_is_span {f : Addr} {fd : FuncData} (F : Fun K "is_span" "is_span" st_is_span f fd) (T : Tops K mg) (C_is_from : Cal P w K TT mg base 1 "is_from" false false 3 (f_is_from false)) : FnOk P w K mg base (L2N.CX P w) 2 f fd ["sizes", "thing"] (spD K TT mg false false 2 (f_is_span false)) :=
  den_okC (N := ["sizes", "thing"]) false false F sc_is_span fun cdv hc A outer s H E hr tk => (dss_cons (ds_if (PW.pt (dw_or (dt_not (dt_val (de_isT (by decide) (by rfl) T.b_isinstance (by rfl) T.b_tuple (by decide +kernel) (de_var 1) (by decide +kernel)))) (dw_or (dt_cmp pr_ne (op_neA hr.units) (de_cb pr_len call_len (by rfl) T.b_len (by decide +kernel) (da_cons (de_var 1) da_nil)) de_int (nomark _)) (dw_or1 (dt_not (dt_val (de_callC C_is_from (hr.mono (by omega)) tk (by rfl) (da_cons (de_ix pr_ix ix_A (de_var 1) de_int) (da_cons de_int (da_cons (de_var 0) da_nil)))))))))) (dss_one (ds_ret de_bl)) dss_nil) (dss_one (ds_ret (de_callC C_is_from (hr.mono (by omega)) tk (by rfl) (da_cons (de_ix pr_ix ix_A (de_var 1) de_int) (da_cons (de_ix pr_ix ix_A (de_var 1) de_int) (da_cons (de_var 0) da_nil)))))))
abbrev st_is_winter : Stmt := topS 23
theorem sc_is_winter : FnScope ["sizes", "thing", "span"] ["sizes", "thing"] (defScope st_is_winter) := ⟨rfl, rfl, rfl, by decide +kernel, rfl, by decide +kernel, by decide +kernel⟩
theorem ok_is_winter {f : Addr} {fd : FuncData} (F : Fun K "is_winter" "is_winter" st_is_winter f fd) (T : Tops K mg) (C_is_span : Cal P w K TT mg base 2 "is_span" false false 2 (f_is_span false)) : FnOk P w K mg base (L2N.CX P w) 3 f fd ["sizes", "thing"] (spD K TT mg false false 2 (f_is_winter false)) :=
  den_okC (N := ["sizes", "thing", "span"]) false false F sc_is_winter fun cdv hc A outer s H E hr tk => (dss_one (ds_ret (de_and (de_isT (by decide) (by rfl) T.b_isinstance (by rfl) T.b_tuple (by decide +kernel) (de_var 1) (by decide +kernel)) (de_and (de_cmp pr_le op_le (de_cb pr_len call_len (by rfl) T.b_len (by decide +kernel) (da_cons (de_var 1) da_nil)) (de_topI (by rfl) T.c_MOST_CHILDREN) (nomark _)) (de_one (de_cb pr_all (cr_all rfl) (by rfl) T.b_all (by decide +kernel) (da_cons (DF.fz (df_comp sc_is_winter.nd (di_seq (de_var 1)) (blkOk_by (own := [("span", 2)]) (by kernel_rfl)) (fun _ _ _ _ _ => (dg_nm 2 sc_is_winter.nd)) (fun _ _ _ _ _ => dts_nil) (fun _ _ _ _ _ => (de_callC C_is_span (hr.mono (by omega)) tk_blk (by rfl) (da_cons (de_var 0) (da_cons (de_var 2) da_nil)))) (by decide))) da_nil)))))))
abbrev st_is_book : Stmt := topS 24
theorem sc_is_book : FnScope ["thing", "winter"] ["thing"] (defScope st_is_book) := ⟨rfl, rfl, rfl, by decide +kernel, rfl, by decide +kernel, by decide +kernel⟩
theorem ok_is_book {f : Addr} {fd : FuncData} (F : Fun K "is_book" "is_book" st_is_book f fd) (T : Tops K mg) (C_is_from : Cal P w K TT mg base 1 "is_from" false false 3 (f_is_from false)) (C_is_winter : Cal P w K TT mg base 3 "is_winter" false false 2 (f_is_winter false)) : FnOk P w K mg base (L2N.CX P w) 4 f fd ["thing"] (spD K TT mg false false 1 (f_is_book false)) :=
  den_okC (N := ["thing", "winter"]) false false F sc_is_book fun cdv hc A outer s H E hr tk => (dss_cons (ds_if (PW.pt (dw_or (dt_not (dt_val (de_isT (by decide) (by rfl) T.b_isinstance (by rfl) T.b_tuple (by decide +kernel) (de_var 0) (by decide +kernel)))) (dw_or (dt_cmp pr_ne (op_neA hr.units) (de_cb pr_len call_len (by rfl) T.b_len (by decide +kernel) (da_cons (de_var 0) da_nil)) de_int (nomark _)) (dw_or1 (dt_not (dt_val (de_callC C_is_from (hr.mono (by omega)) tk (by rfl) (da_cons (de_ix pr_ix ix_A (de_var 0) de_int) (da_cons de_int (da_cons (de_topI (by rfl) T.c_MOST_SIZES) da_nil)))))))))) (dss_one (ds_ret de_bl)) dss_nil) (dss_cons (ds_if (PW.pt (dw_or (dt_not (dt_val (de_isT (by decide) (by rfl) T.b_isinstance (by rfl) T.b_tuple (by decide +kernel) (de_ix pr_ix ix_A (de_var 0) de_int) (by decide +kernel)))) (dw_or1 (dt_not (dt_chain pr_le pr_le op_le op_le de_int (de_cb pr_len call_len (by rfl) T.b_len (by decide +kernel) (da_cons (de_ix pr_ix ix_A (de_var 0) de_int) da_nil)) (de_topI (by rfl) T.c_MOST_WINTERS)))))) (dss_one (ds_ret de_bl)) dss_nil) (dss_one (ds_ret (de_cb pr_all (cr_all rfl) (by rfl) T.b_all (by decide +kernel) (da_cons (DF.fz (df_comp sc_is_book.nd (di_seq (de_ix pr_ix ix_A (de_var 0) de_int)) (blkOk_by (own := [("winter", 1)]) (by kernel_rfl)) (fun _ _ _ _ _ => (dg_nm 1 sc_is_book.nd)) (fun _ _ _ _ _ => dts_nil) (fun _ _ _ _ _ => (de_callC C_is_winter (hr.mono (by omega)) tk_blk (by rfl) (da_cons (de_ix pr_ix ix_A (de_var 0) de_int) (da_cons (de_var 1) da_nil)))) (by decide))) da_nil))))))
abbrev st_need_book : Stmt := topS 25
theorem sc_need_book : FnScope ["book"] ["book"] (defScope st_need_book) := ⟨rfl, rfl, rfl, by decide +kernel, rfl, by decide +kernel, by decide +kernel⟩
theorem ok_need_book {f : Addr} {fd : FuncData} (F : Fun K "need_book" "need_book" st_need_book f fd) (T : Tops K mg) (C_is_book : Cal P w K TT mg base 4 "is_book" false false 1 (f_is_book false)) : FnOk P w K mg base (L2N.CX P w) 5 f fd ["book"] (spD K TT mg false false 1 (f_need_book false)) :=
  den_okC (N := ["book"]) false false F sc_need_book fun cdv hc A outer s H E hr tk => (dss_one (ds_if (dt_not (dt_val (de_callC C_is_book (hr.mono (by omega)) tk (by rfl) (da_cons (de_var 0) da_nil)))) (dss_one (ds_raiseT rfl tk T.x_NoBook (by rfl))) dss_nil))
abbrev st_is_stock : Stmt := topS 26
theorem sc_is_stock : FnScope ["book", "thing", "row"] ["book", "thing"] (defScope st_is_stock) := ⟨rfl, rfl, rfl, by decide +kernel, rfl, by decide +kernel, by decide +kernel⟩
theorem ok_is_stock {f : Addr} {fd : FuncData} (F : Fun K "is_stock" "is_stock" st_is_stock f fd) (T : Tops K mg) (C_are_tuples : Cal P w K TT mg base 1 "are_tuples" false false 2 (f_are_tuples false)) (C_is_from : Cal P w K TT mg base 1 "is_from" false false 3 (f_is_from false)) (C_is_rising : Cal P w K TT mg base 1 "is_rising" false false 1 (f_is_rising false)) : FnOk P w K mg base (L2N.CX P w) 2 f fd ["book", "thing"] (spD K TT mg false false 2 (f_is_stock false)) :=
  den_okC (N := ["book", "thing", "row"]) false false F sc_is_stock fun cdv hc A outer s H E hr tk => (dss_cons (ds_if (dt_not (dt_val (de_callC C_are_tuples (hr.mono (by omega)) tk (by rfl) (da_cons (de_var 1) (da_cons de_int da_nil))))) (dss_one (ds_ret de_bl)) dss_nil) (dss_cons (ds_if (dt_not (dt_val (de_cb pr_all (cr_all rfl) (by rfl) T.b_all (by decide +kernel) (da_cons (DF.fz (df_comp sc_is_stock.nd (di_seq (de_var 1)) (blkOk_by (own := [("row", 2)]) (by kernel_rfl)) (fun _ _ _ _ _ => (dg_nm 2 sc_is_stock.nd)) (fun _ _ _ _ _ => dts_nil) (fun _ _ _ _ _ => (de_and (de_callC C_is_from (hr.mono (by omega)) tk_blk (by rfl) (da_cons (de_ix pr_ix ix_A (de_var 2) de_int) (da_cons de_int (da_cons (de_ix pr_ix ix_A (de_var 0) de_int) da_nil)))) (de_one (de_callC C_is_from (hr.mono (by omega)) tk_blk (by rfl) (da_cons (de_ix pr_ix ix_A (de_var 2) de_int) (da_cons de_int (da_cons (de_topI (by rfl) T.c_MOST_COATS) da_nil))))))) (by decide))) da_nil)))) (dss_one (ds_ret de_bl)) dss_nil) (dss_one (ds_ret (de_callC C_is_rising (hr.mono (by omega)) tk (by rfl) (da_cons (DF.fz (df_comp sc_is_stock.nd (di_seq (de_var 1)) (blkOk_by (own := [("row", 2)]) (by kernel_rfl)) (fun _ _ _ _ _ => (dg_nm 2 sc_is_stock.nd)) (fun _ _ _ _ _ => dts_nil) (fun _ _ _ _ _ => (de_ix pr_ix ix_A (de_var 2) de_int)) (by decide))) da_nil))))))
abbrev st_need_room : Stmt := topS 27
theorem sc_need_room : FnScope ["book", "room"] ["book", "room"] (defScope st_need_room) := ⟨rfl, rfl, rfl, by decide +kernel, rfl, by decide +kernel, by decide +kernel⟩
theorem ok_need_room {f : Addr} {fd : FuncData} (F : Fun K "need_room" "need_room" st_need_room f fd) (T : Tops K mg) (C_is_stock : Cal P w K TT mg base 2 "is_stock" false false 2 (f_is_stock false)) (C_need_book : Cal P w K TT mg base 5 "need_book" false false 1 (f_need_book false)) : FnOk P w K mg base (L2N.CX P w) 6 f fd ["book", "room"] (spD K TT mg false false 2 (f_need_room false)) :=
  den_okC (N := ["book", "room"]) false false F sc_need_room fun cdv hc A outer s H E hr tk => (dss_cons (ds_expr (de_callC C_need_book (hr.mono (by omega)) tk (by rfl) (da_cons (de_var 0) da_nil))) (dss_one (ds_if (dt_not (dt_val (de_callC C_is_stock (hr.mono (by omega)) tk (by rfl) (da_cons (de_var 0) (da_cons (de_var 1) da_nil))))) (dss_one (ds_raiseT rfl tk T.x_NoRoom (by rfl))) dss_nil)))
abbrev st_need_winter : Stmt := topS 28
theorem sc_need_winter : FnScope ["book", "winter"] ["book", "winter"] (defScope st_need_winter) := ⟨rfl, rfl, rfl, by decide +kernel, rfl, by decide +kernel, by decide +kernel⟩
theorem ok_need_winter {f : Addr} {fd : FuncData} (F : Fun K "need_winter" "need_winter" st_need_winter f fd) (T : Tops K mg) (C_is_from : Cal P w K TT mg base 1 "is_from" false false 3 (f_is_from false)) : FnOk P w K mg base (L2N.CX P w) 2 f fd ["book", "winter"] (spD K TT mg false false 2 (f_need_winter false)) :=
  den_okC (N := ["book", "winter"]) false false F sc_need_winter fun cdv hc A outer s H E hr tk => (dss_one (ds_if (dt_not (dt_val (de_callC C_is_from (hr.mono (by omega)) tk (by rfl) (da_cons (de_var 1) (da_cons de_int (da_cons (de_bin pr_sub op_subB (de_cb pr_len call_len (by rfl) T.b_len (by decide +kernel) (da_cons (de_ix pr_ix ix_A (de_var 0) de_int) da_nil)) de_int) da_nil)))))) (dss_one (ds_raiseT rfl tk T.x_NoWinter (by rfl))) dss_nil))
abbrev st_coats_of : Stmt := topS 29
theorem sc_coats_of : FnScope ["book", "room", "table", "size"] ["book", "room"] (defScope st_coats_of) := ⟨rfl, rfl, rfl, by decide +kernel, rfl, by decide +kernel, by decide +kernel⟩
theorem ok_coats_of {f : Addr} {fd : FuncData} (F : Fun K "coats_of" "coats_of" st_coats_of f fd) (T : Tops K mg)  : FnOk P w K mg base (L2N.CX P w) 1 f fd ["book", "room"] (spD K TT mg false true 2 (f_coats_of false)) :=
  den_okC (N := ["book", "room", "table", "size"]) false true F sc_coats_of fun cdv hc A outer s H E hr tk => (dss_cons (ds_set 2 sc_coats_of.nd (DF.fz (df_ct pr_dict (call_dictT rfl) (by rfl) T.b_dict (by decide +kernel) (da_cons (de_var 1) da_nil)))) (dss_one (ds_retF (df_comp sc_coats_of.nd (di_range2 (by rfl) T.b_range (da_cons de_int (da_cons (DM.fz (dm_bin pr_add op_addA (de_ix pr_ix ix_A (de_var 0) de_int) de_int)) da_nil))) (blkOk_by (own := [("size", 3)]) (by kernel_rfl)) (fun _ _ _ _ _ => (dg_nm 3 sc_coats_of.nd)) (fun _ _ _ _ _ => dts_nil) (fun _ _ _ _ _ => (de_get (hu_of hr) (de_var 2) (de_var 3) de_int ⟨by rfl, by rfl, by rfl, by rfl⟩)) (by decide)))))
abbrev st_room_of : Stmt := topS 30
theorem sc_room_of : FnScope ["coats", "at", "many"] ["coats"] (defScope st_room_of) := ⟨rfl, rfl, rfl, by decide +kernel, rfl, by decide +kernel, by decide +kernel⟩
theorem ok_room_of {f : Addr} {fd : FuncData} (F : Fun K "room_of" "room_of" st_room_of f fd) (T : Tops K mg)  : FnOk P w K mg base (L2N.CX P w) 1 f fd ["coats"] (spD K TT mg false false 1 (f_room_of false)) :=
  den_okC (N := ["coats", "at", "many"]) false false F sc_room_of fun cdv hc A outer s H E hr tk => (dss_one (ds_ret (de_ct (pr_tuple true) call_tupleB (by rfl) T.b_tuple (by decide +kernel) (da_cons (DF.fz (df_comp sc_room_of.nd (di_enum (by rfl) T.b_enumerate (da_cons (de_var 0) da_nil)) (blkOk_by (own := [("at", 1), ("many", 2)]) (by kernel_rfl)) (fun _ _ _ _ _ => (dg_tu rfl (dgs_cons (dg_nm 1 sc_room_of.nd) (dgs_cons (dg_nm 2 sc_room_of.nd) dgs_nil)))) (fun _ _ _ _ _ => dts_one (dt_cmp pr_gt op_gt (de_var 2) de_int (nomark _))) (fun _ _ _ _ _ => (de_tup false (da_cons (DM.fz (dm_bin pr_add op_addA (de_var 1) de_int)) (da_cons (de_var 2) da_nil)))) (by decide))) da_nil))))
abbrev st_windows_of : Stmt := topS 31
theorem sc_windows_of : FnScope ["sizes", "low", "high"] ["sizes"] (defScope st_windows_of) := ⟨rfl, rfl, rfl, by decide +kernel, rfl, by decide +kernel, by decide +kernel⟩
theorem ok_windows_of {f : Addr} {fd : FuncData} (F : Fun K "windows_of" "windows_of" st_windows_of f fd) (T : Tops K mg)  : FnOk P w K mg base (L2N.CX P w) 1 f fd ["sizes"] (spD K TT mg false true 1 (f_windows_of false)) :=
  den_okC (N := ["sizes", "low", "high"]) false true F sc_windows_of fun cdv hc A outer s H E hr tk => (dss_one (ds_retF (df_comp2 (vs1 := [2]) sc_windows_of.nd (di_range2 (by rfl) T.b_range (da_cons de_int (da_cons (DM.fz (dm_bin pr_add op_addA (de_var 0) de_int)) da_nil))) (blkOk_by (own := [("low", 1), ("high", 2)]) (by kernel_rfl)) (fun _ _ _ _ _ => (dg_nm 1 sc_windows_of.nd)) (fun _ _ _ _ _ => (di_range2 (by rfl) T.b_range (da_cons (de_var 1) (da_cons (DM.fz (dm_bin pr_add op_addA (de_var 0) de_int)) da_nil)))) (fun _ _ _ _ _ => (dg_nm 2 sc_windows_of.nd)) (fun _ _ _ _ _ => (de_tup false (da_cons (de_var 1) (da_cons (de_var 2) da_nil)))) (by decide) (by decide) (by decide))))
abbrev st_within : Stmt := topS 32
theorem sc_within : FnScope ["spans", "low", "high", "span"] ["spans", "low", "high"] (defScope st_within) := ⟨rfl, rfl, rfl, by decide +kernel, rfl, by decide +kernel, by decide +kernel⟩
theorem ok_within {f : Addr} {fd : FuncData} (F : Fun K "within" "within" st_within f fd) (T : Tops K mg)  : FnOk P w K mg base (L2N.CX P w) 1 f fd ["spans", "low", "high"] (spD K TT mg false false 3 (f_within false)) :=
  den_okC (N := ["spans", "low", "high", "span"]) false false F sc_within fun cdv hc A outer s H E hr tk => (dss_one (ds_ret (de_cb pr_len call_len (by rfl) T.b_len (by decide +kernel) (da_cons (DF.fz (df_comp sc_within.nd (di_seq (de_var 0)) (blkOk_by (own := [("span", 3)]) (by kernel_rfl)) (fun _ _ _ _ _ => (dg_nm 3 sc_within.nd)) (fun _ _ _ _ _ => dts_one (PW.pt (dw_and (dt_cmp pr_le op_le (de_var 1) (de_ix pr_ix ix_A (de_var 3) de_int) (nomark _)) (dw_and1 (dt_cmp pr_le op_le (de_ix pr_ix ix_A (de_var 3) de_int) (de_var 2) (nomark _)))))) (fun _ _ _ _ _ => (de_var 3)) (by decide))) da_nil))))
abbrev st_asks_of : Stmt := topS 33
theorem sc_asks_of : FnScope ["book", "window", "spans"] ["book"] (defScope st_asks_of) := ⟨rfl, rfl, rfl, by decide +kernel, rfl, by decide +kernel, by decide +kernel⟩
theorem ok_asks_of {f : Addr} {fd : FuncData} (F : Fun K "asks_of" "asks_of" st_asks_of f fd) (T : Tops K mg) (C_windows_of : Cal P w K TT mg base 1 "windows_of" false true 1 (f_windows_of false)) (C_within : Cal P w K TT mg base 1 "within" false false 3 (f_within false)) : FnOk P w K mg base (L2N.CX P w) 2 f fd ["book"] (spD K TT mg false true 1 (f_asks_of false)) :=
  den_okC (N := ["book", "window", "spans"]) false true F sc_asks_of fun cdv hc A outer s H E hr tk => (dss_one (ds_retF (df_dictT (hu_of hr) sc_asks_of.nd (di_seq (DF.fz (df_callC C_windows_of (hr.mono (by omega)) tk (by rfl) (da_cons (de_ix pr_ix ix_A (de_var 0) de_int) da_nil)))) (blkOk_by (own := [("window", 1)]) (by kernel_rfl)) (fun _ _ _ _ _ => (dg_nm 1 sc_asks_of.nd)) (fun _ _ _ _ _ => (de_var 1)) (fun _ _ _ _ _ => (de_cb pr_max (cr_maxA rfl) (by rfl) T.b_max (by decide +kernel) (da_cons (DF.fz (df_comp sc_asks_of.nd (di_seq (de_ix pr_ix ix_A (de_var 0) de_int)) (blkOk_by (own := [("spans", 2)]) (by kernel_rfl)) (fun _ _ _ _ _ => (dg_nm 2 sc_asks_of.nd)) (fun _ _ _ _ _ => dts_nil) (fun _ _ _ _ _ => (de_callC C_within (hr.mono (by omega)) tk_blk (by rfl) (da_cons (de_var 2) (da_cons (de_ix pr_ix ix_A (de_var 1) de_int) (da_cons (de_ix pr_ix ix_A (de_var 1) de_int) da_nil))))) (by decide))) da_nil))) (by decide))))
abbrev st_has : Stmt := topS 34
theorem sc_has : FnScope ["coats", "low", "high"] ["coats", "low", "high"] (defScope st_has) := ⟨rfl, rfl, rfl, by decide +kernel, rfl, by decide +kernel, by decide +kernel⟩
theorem ok_has {f : Addr} {fd : FuncData} (F : Fun K "has" "has" st_has f fd) (T : Tops K mg)  : FnOk P w K mg base (L2N.CX P w) 1 f fd ["coats", "low", "high"] (spD K TT mg false false 3 (f_has false)) :=
  den_okC (N := ["coats", "low", "high"]) false false F sc_has fun cdv hc A outer s H E hr tk => (dss_one (ds_ret (de_cb pr_sum (cr_sum rfl) (by rfl) T.b_sum (by decide +kernel) (da_cons (DM.fz (dm_slice (de_var 0) (do_s (de_bin pr_sub op_subB (de_var 1) de_int)) (do_s (de_var 2)))) da_nil))))
abbrev st_clothes : Stmt := topS 36
theorem sc_clothes : FnScope ["sizes", "coats", "spans", "low", "high"] ["sizes", "coats", "spans"] (defScope st_clothes) := ⟨rfl, rfl, rfl, by decide +kernel, rfl, by decide +kernel, by decide +kernel⟩
theorem ok_clothes {f : Addr} {fd : FuncData} (F : Fun K "clothes" "clothes" st_clothes f fd) (T : Tops K mg) (C_has : Cal P w K TT mg base 1 "has" false false 3 (f_has false)) (C_windows_of : Cal P w K TT mg base 1 "windows_of" false true 1 (f_windows_of false)) (C_within : Cal P w K TT mg base 1 "within" false false 3 (f_within false)) : FnOk P w K mg base (L2N.CX P w) 2 f fd ["sizes", "coats", "spans"] (spD K TT mg false false 3 (f_clothes false)) :=
  den_okC (N := ["sizes", "coats", "spans", "low", "high"]) false false F sc_clothes fun cdv hc A outer s H E hr tk => (dss_one (ds_ret (de_cb pr_all (cr_all rfl) (by rfl) T.b_all (by decide +kernel) (da_cons (DF.fz (df_comp sc_clothes.nd (di_seq (DF.fz (df_callC C_windows_of (hr.mono (by omega)) tk (by rfl) (da_cons (de_var 0) da_nil)))) (blkOk_by (own := [("low", 3), ("high", 4)]) (by kernel_rfl)) (fun _ _ _ _ _ => (dg_tu rfl (dgs_cons (dg_nm 3 sc_clothes.nd) (dgs_cons (dg_nm 4 sc_clothes.nd) dgs_nil)))) (fun _ _ _ _ _ => dts_nil) (fun _ _ _ _ _ => (de_cmp pr_le op_le (de_callC C_within (hr.mono (by omega)) tk_blk (by rfl) (da_cons (de_var 2) (da_cons (de_var 3) (da_cons (de_var 4) da_nil)))) (de_callC C_has (hr.mono (by omega)) tk_blk (by rfl) (da_cons (de_var 1) (da_cons (de_var 3) (da_cons (de_var 4) da_nil)))) (nomark _))) (by decide))) da_nil))))
abbrev st_serving : Stmt := topS 37
theorem sc_serving : FnScope ["book", "room", "coats", "spans"] ["book", "room"] (defScope st_serving) := ⟨rfl, rfl, rfl, by decide +kernel, rfl, by decide +kernel, by decide +kernel⟩
theorem ok_serving {f : Addr} {fd : FuncData} (F : Fun K "serving" "serving" st_serving f fd) (T : Tops K mg) (C_clothes : Cal P w K TT mg base 2 "clothes" false false 3 (f_clothes false)) (C_coats_of : Cal P w K TT mg base 1 "coats_of" false true 2 (f_coats_of false)) : FnOk P w K mg base (L2N.CX P w) 3 f fd ["book", "room"] (spD K TT mg false false 2 (f_serving false)) :=
  den_okC (N := ["book", "room", "coats", "spans"]) false false F sc_serving fun cdv hc A outer s H E hr tk => (dss_cons (ds_set 2 sc_serving.nd (DF.fz (df_callC C_coats_of (hr.mono (by omega)) tk (by rfl) (da_cons (de_var 0) (da_cons (de_var 1) da_nil))))) (dss_one (ds_ret (de_cb pr_all (cr_all rfl) (by rfl) T.b_all (by decide +kernel) (da_cons (DF.fz (df_comp sc_serving.nd (di_seq (de_ix pr_ix ix_A (de_var 0) de_int)) (blkOk_by (own := [("spans", 3)]) (by kernel_rfl)) (fun _ _ _ _ _ => (dg_nm 3 sc_serving.nd)) (fun _ _ _ _ _ => dts_nil) (fun _ _ _ _ _ => (de_callC C_clothes (hr.mono (by omega)) tk_blk (by rfl) (da_cons (de_ix pr_ix ix_A (de_var 0) de_int) (da_cons (de_var 2) (da_cons (de_var 3) da_nil))))) (by decide))) da_nil)))))
abbrev st_borne : Stmt := topS 39
theorem sc_borne : FnScope ["book", "room", "winter", "full", "found", "coats", "spans", "low", "high", "one"] ["book", "room", "winter"] (defScope st_borne) := ⟨rfl, rfl, rfl, by decide +kernel, rfl, by decide +kernel, by decide +kernel⟩
theorem ok_borne {f : Addr} {fd : FuncData} (F : Fun K "borne" "borne" st_borne f fd) (T : Tops K mg) (C_coats_of : Cal P w K TT mg base 1 "coats_of" false true 2 (f_coats_of false)) (C_has : Cal P w K TT mg base 1 "has" false false 3 (f_has false)) (C_need_room : Cal P w K TT mg base 6 "need_room" false false 2 (f_need_room false)) (C_need_winter : Cal P w K TT mg base 2 "need_winter" false false 2 (f_need_winter false)) (C_serving : Cal P w K TT mg base 3 "serving" false false 2 (f_serving false)) (C_windows_of : Cal P w K TT mg base 1 "windows_of" false true 1 (f_windows_of false)) (C_within : Cal P w K TT mg base 1 "within" false false 3 (f_within false)) : FnOk P w K mg base (L2N.CX P w) 7 f fd ["book", "room", "winter"] (spD K TT mg false true 3 (f_borne false)) :=
  den_okC (N := ["book", "room", "winter", "full", "found", "coats", "spans", "low", "high", "one"]) false true F sc_borne fun cdv hc A outer s H E hr tk => (dss_cons (ds_expr (de_callC C_need_room (hr.mono (by omega)) tk (by rfl) (da_cons (de_var 0) (da_cons (de_var 1) da_nil)))) (dss_cons (ds_expr (de_callC C_need_winter (hr.mono (by omega)) tk (by rfl) (da_cons (de_var 0) (da_cons (de_var 2) da_nil)))) (dss_cons (ds_if (dt_not (dt_val (de_callC C_serving (hr.mono (by omega)) tk (by rfl) (da_cons (de_var 0) (da_cons (de_var 1) da_nil))))) (dss_one (ds_raiseT rfl tk T.x_NotServed (by rfl))) dss_nil) (dss_cons (ds_tgt (de_tup false (da_cons (DF.fz (df_callC C_coats_of (hr.mono (by omega)) tk (by rfl) (da_cons (de_var 0) (da_cons (de_var 1) da_nil)))) (da_cons (de_ix pr_ix ix_A (de_ix pr_ix ix_A (de_var 0) de_int) (de_var 2)) da_nil))) (dg_tu rfl (dgs_cons (dg_nm 5 sc_borne.nd) (dgs_cons (dg_nm 6 sc_borne.nd) dgs_nil)))) (dss_cons (ds_setLc 3 sc_borne.nd (di_seq (DF.fz (df_callC C_windows_of (hr.mono (by omega)) tk (by rfl) (da_cons (de_ix pr_ix ix_A (de_var 0) de_int) da_nil)))) (blkOk_by (own := [("one", 9)]) (by kernel_rfl)) (fun _ _ _ _ _ => (dg_nm 9 sc_borne.nd)) (fun _ _ _ _ _ => dts_one (dt_cmp pr_eq (op_eqA hr.units) (de_callC C_within (hr.mono (by omega)) tk_blk (by rfl) (da_cons (de_var 6) (da_cons (de_ix pr_ix ix_A (de_var 9) de_int) (da_cons (de_ix pr_ix ix_A (de_var 9) de_int) da_nil)))) (de_callC C_has (hr.mono (by omega)) tk_blk (by rfl) (da_cons (de_var 5) (da_cons (de_ix pr_ix ix_A (de_var 9) de_int) (da_cons (de_ix pr_ix ix_A (de_var 9) de_int) da_nil)))) (nomark _))) (fun _ _ _ _ _ => (de_var 9)) (by decide) (sw_true rfl rfl rfl (by decide +kernel))) (dss_cons (ds_own 4 sc_borne.nd (df_lst da_nil)) (dss_cons (ds_for (passes_of rfl) rfl (di_seq (DF.fz (df_callC C_windows_of (hr.mono (by omega)) tk (by rfl) (da_cons (de_ix pr_ix ix_A (de_var 0) de_int) da_nil)))) (dg_tu rfl (dgs_cons (dg_nm 7 sc_borne.nd) (dgs_cons (dg_nm 8 sc_borne.nd) dgs_nil))) (dss_one (ds_if (dt_not (dt_val (de_cb pr_any (cr_any rfl) (by rfl) T.b_any (by decide +kernel) (da_cons (DF.fz (df_comp sc_borne.nd (di_seq (de_var 3)) (blkOk_by (own := [("one", 9)]) (by kernel_rfl)) (fun _ _ _ _ _ => (dg_nm 9 sc_borne.nd)) (fun _ _ _ _ _ => dts_nil) (fun _ _ _ _ _ => (de_and (de_cmp pr_le op_le (de_ix pr_ix ix_A (de_var 9) de_int) (de_var 7) (nomark _)) (de_one (de_cmp pr_le op_le (de_var 8) (de_ix pr_ix ix_A (de_var 9) de_int) (nomark _))))) (by decide))) da_nil)))) (dss_one (ds_append 4 (pe_bm PySem.F.plainAttrs_list PySem.F.slot_list_append PySem.F.type_list_append mt_append (pv 4) (pa_cons (de_tup false (da_cons (de_var 7) (da_cons (de_var 8) da_nil))) pa_nil)))) dss_nil))) (dss_one (ds_retO 4)))))))))
abbrev st_heights : Stmt := topS 41
theorem sc_heights : FnScope ["book", "coats", "asks", "high_so", "last", "high", "low", "best", "made", "lack"] ["book", "coats"] (defScope st_heights) := ⟨rfl, rfl, rfl, by decide +kernel, rfl, by decide +kernel, by decide +kernel⟩
theorem ok_heights {f : Addr} {fd : FuncData} (F : Fun K "heights" "heights" st_heights f fd) (T : Tops K mg) (C_asks_of : Cal P w K TT mg base 2 "asks_of" false true 1 (f_asks_of false)) (C_has : Cal P w K TT mg base 1 "has" false false 3 (f_has false)) : FnOk P w K mg base (L2N.CX P w) 3 f fd ["book", "coats"] (spD K TT mg false false 2 (f_heights false)) :=
  den_okC (N := ["book", "coats", "asks", "high_so", "last", "high", "low", "best", "made", "lack"]) false false F sc_heights fun cdv hc A outer s H E hr tk => (dss_cons (ds_set 2 sc_heights.nd (DF.fz (df_callC C_asks_of (hr.mono (by omega)) tk (by rfl) (da_cons (de_var 0) da_nil)))) (dss_cons (ds_own 3 sc_heights.nd (df_lst (da_cons de_int da_nil))) (dss_cons (ds_own 4 sc_heights.nd (df_lst (da_cons de_non da_nil))) (dss_cons (ds_fz 4 (ds_fz 3 (ds_for (passes_of rfl) rfl (di_range2 (by rfl) T.b_range (da_cons de_int (da_cons (DM.fz (dm_bin pr_add op_addA (de_ix pr_ix ix_A (de_var 0) de_int) de_int)) da_nil))) (dg_nm 5 sc_heights.nd) (dss_cons (ds_par2 7 8 sc_heights.nd (da_cons (de_ixO 3 (de_un pr_neg un_neg de_int)) (da_cons de_non da_nil))) (dss_cons (ds_for (passes_of rfl) rfl (di_range2 (by rfl) T.b_range (da_cons de_int (da_cons (DM.fz (dm_bin pr_add op_addA (de_var 5) de_int)) da_nil))) (dg_nm 6 sc_heights.nd) (dss_cons (ds_set 9 sc_heights.nd (de_bin pr_sub op_subB (de_getI (hu_of hr) (de_var 2) (de_tup false (da_cons (de_var 6) (da_cons (de_var 5) da_nil))) (fun _ _ => rfl)) (de_callC C_has (hr.mono (by omega)) tk (by rfl) (da_cons (de_var 1) (da_cons (de_var 6) (da_cons (de_var 5) da_nil)))))) (dss_one (ds_if (dt_cmp pr_gt op_gt (DM.fz (dm_bin pr_add op_addA (de_ixO 3 (de_bin pr_sub op_subB (de_var 6) de_int)) (de_var 9))) (de_var 7) (nomark _)) (dss_one (ds_par2 7 8 sc_heights.nd (da_cons (DM.fz (dm_bin pr_add op_addA (de_ixO 3 (de_bin pr_sub op_subB (de_var 6) de_int)) (de_var 9))) (da_cons (de_tup false (da_cons (de_var 6) (da_cons (de_var 5) da_nil))) da_nil)))) dss_nil)))) (dss_cons (ds_append 3 (pe_bm PySem.F.plainAttrs_list PySem.F.slot_list_append PySem.F.type_list_append mt_append (pv 3) (pa_cons (de_var 7) pa_nil))) (dss_one (ds_append 4 (pe_bm PySem.F.plainAttrs_list PySem.F.slot_list_append PySem.F.type_list_append mt_append (pv 4) (pa_cons (de_var 8) pa_nil)))))))))) (dss_one (ds_ret (de_tup false (da_cons (de_var 3) (da_cons (de_var 4) da_nil)))))))))
abbrev st_fewest_more : Stmt := topS 42
theorem sc_fewest_more : FnScope ["book", "coats", "high_so", "one", "other"] ["book", "coats"] (defScope st_fewest_more) := ⟨rfl, rfl, rfl, by decide +kernel, rfl, by decide +kernel, by decide +kernel⟩
theorem ok_fewest_more {f : Addr} {fd : FuncData} (F : Fun K "fewest_more" "fewest_more" st_fewest_more f fd) (T : Tops K mg) (C_heights : Cal P w K TT mg base 3 "heights" false false 2 (f_heights false)) : FnOk P w K mg base (L2N.CX P w) 4 f fd ["book", "coats"] (spD K TT mg false true 2 (f_fewest_more false)) :=
  den_okC (N := ["book", "coats", "high_so", "one", "other"]) false true F sc_fewest_more fun cdv hc A outer s H E hr tk => (dss_cons (ds_set 2 sc_fewest_more.nd (de_ix pr_ix ix_A (de_callC C_heights (hr.mono (by omega)) tk (by rfl) (da_cons (de_var 0) (da_cons (de_var 1) da_nil))) de_int)) (dss_one (ds_retF (df_comp sc_fewest_more.nd (di_zip (by rfl) T.b_zip (da_cons (de_var 2) (da_cons (DM.fz (dm_slice (de_var 2) (do_s de_int) do_n)) da_nil))) (blkOk_by (own := [("one", 3), ("other", 4)]) (by kernel_rfl)) (fun _ _ _ _ _ => (dg_tu rfl (dgs_cons (dg_nm 3 sc_fewest_more.nd) (dgs_cons (dg_nm 4 sc_fewest_more.nd) dgs_nil)))) (fun _ _ _ _ _ => dts_nil) (fun _ _ _ _ _ => (de_bin pr_sub op_subB (de_var 4) (de_var 3))) (by decide)))))
abbrev st_to_buy : Stmt := topS 43
theorem sc_to_buy : FnScope ["book", "room"] ["book", "room"] (defScope st_to_buy) := ⟨rfl, rfl, rfl, by decide +kernel, rfl, by decide +kernel, by decide +kernel⟩
theorem ok_to_buy {f : Addr} {fd : FuncData} (F : Fun K "to_buy" "to_buy" st_to_buy f fd) (T : Tops K mg) (C_coats_of : Cal P w K TT mg base 1 "coats_of" false true 2 (f_coats_of false)) (C_fewest_more : Cal P w K TT mg base 4 "fewest_more" false true 2 (f_fewest_more false)) (C_need_room : Cal P w K TT mg base 6 "need_room" false false 2 (f_need_room false)) (C_room_of : Cal P w K TT mg base 1 "room_of" false false 1 (f_room_of false)) : FnOk P w K mg base (L2N.CX P w) 7 f fd ["book", "room"] (spD K TT mg false false 2 (f_to_buy false)) :=
  den_okC (N := ["book", "room"]) false false F sc_to_buy fun cdv hc A outer s H E hr tk => (dss_cons (ds_expr (de_callC C_need_room (hr.mono (by omega)) tk (by rfl) (da_cons (de_var 0) (da_cons (de_var 1) da_nil)))) (dss_one (ds_ret (de_callC C_room_of (hr.mono (by omega)) tk (by rfl) (da_cons (DF.fz (df_callC C_fewest_more (hr.mono (by omega)) tk (by rfl) (da_cons (de_var 0) (da_cons (DF.fz (df_callC C_coats_of (hr.mono (by omega)) tk (by rfl) (da_cons (de_var 0) (da_cons (de_var 1) da_nil)))) da_nil)))) da_nil)))))
abbrev st__law_deck : Stmt := topS 45
theorem sc__law_deck : FnScope ["cell", "turn"] ["cell", "turn"] (defScope st__law_deck) := ⟨rfl, rfl, rfl, by decide +kernel, rfl, by decide +kernel, by decide +kernel⟩
theorem ok__law_deck {f : Addr} {fd : FuncData} (F : Fun K "_law_deck" "_law_deck" st__law_deck f fd) (T : Tops K mg)  : FnOk P w K mg base (L2N.CX P w) 1 f fd ["cell", "turn"] (spD K TT mg false true 2 (f__law_deck false)) :=
  den_okC (N := ["cell", "turn"]) false true F sc__law_deck fun cdv hc A outer s H E hr tk => (dss_cons (ds_if (dt_cmp pr_ge op_ge (de_var 0) (de_bin pr_pow op_pow de_int de_int) (nomark _)) (dss_one (ds_retF (df_lst (da_cons (de_bin pr_sub op_subB (de_var 0) (de_bin pr_pow op_pow de_int de_int)) (da_cons (de_bin pr_mod op_mod (de_var 0) de_int) (da_cons (de_var 1) da_nil)))))) dss_nil) (dss_one (ds_retF (df_lst (da_cons de_int (da_cons (de_bin pr_mod op_mod (de_var 0) de_int) (da_cons (de_var 1) da_nil)))))))
abbrev st__law_pick : Stmt := topS 46
theorem sc__law_pick : FnScope ["deck", "size", "number", "found"] ["deck", "size"] (defScope st__law_pick) := ⟨rfl, rfl, rfl, by decide +kernel, rfl, by decide +kernel, by decide +kernel⟩
theorem ok__law_pick {f : Addr} {fd : FuncData} (F : Fun K "_law_pick" "_law_pick" st__law_pick f fd) (T : Tops K mg)  : FnOk P w K mg base (L2N.CX P w) 1 f fd ["deck", "size"] (spD K TT mg true false 2 (f__law_pick false)) :=
  den_okC (N := ["deck", "size", "number", "found"]) true false F sc__law_pick fun cdv hc A outer s H E hr tk => (dss_cons (ds_if (dt_cmp pr_gt op_gt (de_ixO 0 de_int) de_int (nomark _)) (dss_cons (ds_set 3 sc__law_pick.nd (de_bin pr_mod op_mod (de_ixO 0 de_int) (de_var 1))) (dss_cons (ds_put 0 (de_bin pr_div op_fdiv (de_ixO 0 de_int) (de_var 1)) de_int) (dss_one (ds_ret (de_var 3))))) dss_nil) (dss_cons (ds_put 0 (DM.fz (dm_bin pr_add op_addA (de_ixO 0 de_int) de_int)) de_int) (dss_cons (ds_set 2 sc__law_pick.nd (de_bin pr_mod op_mod (de_bin pr_pow op_pow (DM.fz (dm_bin pr_add op_addA (de_ixO 0 de_int) (de_bin pr_mulI op_mul de_int (de_ixO 0 de_int)))) de_int) de_int)) (dss_cons (ds_set 3 sc__law_pick.nd (de_bin pr_div op_fdiv (de_bin pr_mod op_mod (de_bin pr_pow op_pow (DM.fz (dm_bin pr_add op_addA (de_var 2) (de_bin pr_mulI op_mul de_int (de_ixO 0 de_int)))) de_int) de_int) de_int)) (dss_one (ds_ret (de_bin pr_mod op_mod (de_var 3) (de_var 1))))))))
abbrev st__law_one : Stmt := topS 47
theorem sc__law_one : FnScope ["deck", "some"] ["deck", "some"] (defScope st__law_one) := ⟨rfl, rfl, rfl, by decide +kernel, rfl, by decide +kernel, by decide +kernel⟩
theorem ok__law_one {f : Addr} {fd : FuncData} (F : Fun K "_law_one" "_law_one" st__law_one f fd) (T : Tops K mg) (C__law_pick : Cal P w K TT mg base 1 "_law_pick" true false 2 (f__law_pick false)) : FnOk P w K mg base (L2N.CX P w) 2 f fd ["deck", "some"] (spD K TT mg true false 2 (f__law_one false)) :=
  den_okC (N := ["deck", "some"]) true false F sc__law_one fun cdv hc A outer s H E hr tk => (dss_one (ds_ret (de_ix pr_ix ix_A (de_var 1) (de_callOC 0 C__law_pick (hr.mono (by omega)) tk (by rfl) (da_cons (de_cb pr_len call_len (by rfl) T.b_len (by decide +kernel) (da_cons (de_var 1) da_nil)) da_nil)))))
abbrev st__law_kin : Stmt := topS 48
theorem sc__law_kin : FnScope ["e", "kinds_met", "names", "name", "good"] ["e"] (defScope st__law_kin) := ⟨rfl, rfl, rfl, by decide +kernel, rfl, by decide +kernel, by decide +kernel⟩
theorem ok__law_kin {f : Addr} {fd : FuncData} (F : Fun K "_law_kin" "_law_kin" st__law_kin f fd) (T : Tops K mg) (M : KinF K mg) (p : Addr × Obj) (c : Str) (hc : c ∈ kinN) (hz : Zc (.ref (He.ga K c)) none p.2) (hf : ∃ vs, p.2.data = .fields vs) : FnP P w K mg base C8.CX0 1 f fd ["e"] (spKin p.1 c) p :=
  fn_ofP (N := kinNm) F sc__law_kin (fun vs H Q E q => by rw [q.1]; rfl) fun cdv A outer s H vs Q E hot hr q0 => by
    have hp : p ∈ (L2H.cxH C8.CX0 P w K mg base kinNm "_law_kin" (defScope st__law_kin) f cdv A outer s H E p).pn := List.mem_cons_self
    have ht : L2H.Hot1 (L2H.cxH C8.CX0 P w K mg base kinNm "_law_kin" (defScope st__law_kin) f cdv A outer s H E p).A p := ⟨hot.1, hot.2⟩
    refine ⟨tKin K p.1 c, (pss_cons (ps_asg (pe_kl (pa_kc (pe_isC hp M hc hz hf (y := "NoBook") (by decide) (by rfl) T.b_isinstance (by rfl)) (pa_kc (pe_isC hp M hc hz hf (y := "NoRoom") (by decide) (by rfl) T.b_isinstance (by rfl)) (pa_kc (pe_isC hp M hc hz hf (y := "NoWinter") (by decide) (by rfl) T.b_isinstance (by rfl)) (pa_kc (pe_isC hp M hc hz hf (y := "NoSpan") (by decide) (by rfl) T.b_isinstance (by rfl)) pa_kn)))) (by simp [kd])) (pgX 1 sc__law_kin.nd)) (pss_cons (ps_asg (pe_op op_catS (pvX 1) (pe_kl (pa_kc (pe_isC hp M hc hz hf (y := "NoPrices") (by decide) (by rfl) T.b_isinstance (by rfl)) (pa_kc (pe_isC hp M hc hz hf (y := "NoSize") (by decide) (by rfl) T.b_isinstance (by rfl)) (pa_kc (pe_isC hp M hc hz hf (y := "NoSizes") (by decide) (by rfl) T.b_isinstance (by rfl)) pa_kn))) (by simp [kd]))) (pgX 1 sc__law_kin.nd)) (pss_cons (ps_asg (pe_op op_catS (pvX 1) (pe_kl (pa_kc (pe_isC hp M hc hz hf (y := "NotServed") (by decide) (by rfl) T.b_isinstance (by rfl)) (pa_kc (pe_isC hp M hc hz hf (y := "Unlike") (by decide) (by rfl) T.b_isinstance (by rfl)) (pa_kc (pe_isC hp M hc hz hf (y := "Full") (by decide) (by rfl) T.b_isinstance (by rfl)) pa_kn))) (by simp [kd]))) (pgX 1 sc__law_kin.nd)) (pss_cons (ps_asg (pe_op op_catS (pvX 1) (pe_kl (pa_kc (pe_isC hp M hc hz hf (y := "NoChild") (by decide) (by rfl) T.b_isinstance (by rfl)) (pa_kc (pe_isC hp M hc hz hf (y := "NoCoat") (by decide) (by rfl) T.b_isinstance (by rfl)) (pa_kc (pe_isV hp M hc hz hf (by rfl) T.b_isinstance (by rfl) T.b_ValueError) pa_kn))) (by simp [kd]))) (pgX 1 sc__law_kin.nd)) (pss_cons (ps_asg (pe_sl (pa_sc (pa_sc (pa_sc (pa_sc (pa_sc (pa_sc (pa_sc (pa_sc (pa_sc (pa_sc pa_sn))))))))))) (pgX 2 sc__law_kin.nd)) (pss_one (ps_ret (pe_join pe_str (pe_lcA hp ht sc__law_kin.nd (pi_zipA (pin_lt hp) (by rfl) T.b_zip (pa_cons (pe_op op_catS (pvX 2) (pe_sl (pa_sc (pa_sc (pa_sc pa_sn))))) (pa_cons (pvX 1) pa_nil))) (blkOk_by (own := [("name", 3), ("good", 4)]) (by kernel_rfl)) (fun _ _ _ _ _ B => pg_tupA (hot_blk ht B) (pgs_cons (pgX 3 sc__law_kin.nd) (pgs_cons (pgX 4 sc__law_kin.nd) pgs_nil))) (fun _ _ _ _ _ => pts_one (pt_val (pvX 4))) (fun _ _ _ _ _ => pvX 3)))))))))), ?_⟩
    obtain ⟨rfl, q2⟩ := q0
    exact kin_run (E := E) ⟨rfl, q2⟩
abbrev st__law_try : Stmt := topS 49
theorem sc__law_try : FnScope ["door", "found", "e"] ["door"] (defScope st__law_try) := ⟨rfl, rfl, rfl, by decide +kernel, rfl, by decide +kernel, by decide +kernel⟩
abbrev st__law_sort : Stmt := topS 50
theorem sc__law_sort : FnScope ["thing"] ["thing"] (defScope st__law_sort) := ⟨rfl, rfl, rfl, by decide +kernel, rfl, by decide +kernel, by decide +kernel⟩
theorem ok__law_sort {f : Addr} {fd : FuncData} (F : Fun K "_law_sort" "_law_sort" st__law_sort f fd) (T : Tops K mg)  : FnOk P w K mg base (L2N.CX P w) 1 f fd ["thing"] (spD K TT mg false false 1 (f__law_sort false)) :=
  den_okC (N := ["thing"]) false false F sc__law_sort fun cdv hc A outer s H E hr tk => (dss_cons (ds_if (dt_val (de_isT (by decide) (by rfl) T.b_isinstance (by rfl) T.b_bool (by decide +kernel) (de_var 0) (by decide +kernel))) (dss_one (ds_ret de_int)) dss_nil) (dss_cons (ds_if (dt_val (de_isT (by decide) (by rfl) T.b_isinstance (by rfl) T.b_int (by decide +kernel) (de_var 0) (by decide +kernel))) (dss_one (ds_ret de_int)) dss_nil) (dss_cons (ds_if (dt_val (de_isT (by decide) (by rfl) T.b_isinstance (by rfl) T.b_str (by decide +kernel) (de_var 0) (by decide +kernel))) (dss_one (ds_ret de_int)) dss_nil) (dss_cons (ds_if (dt_val (de_isT (by decide) (by rfl) T.b_isinstance (by rfl) T.b_list (by decide +kernel) (de_var 0) (by decide +kernel))) (dss_one (ds_ret de_int)) dss_nil) (dss_one (ds_ret (de_if (dt_val (de_isT (by decide) (by rfl) T.b_isinstance (by rfl) T.b_tuple (by decide +kernel) (de_var 0) (by decide +kernel))) de_int de_int)))))))
abbrev st__law_same : Stmt := topS 51
theorem sc__law_same : FnScope ["told", "due", "k", "part"] ["told", "due"] (defScope st__law_same) := ⟨rfl, rfl, rfl, by decide +kernel, rfl, by decide +kernel, by decide +kernel⟩
theorem ok__law_same {f : Addr} {fd : FuncData} (F : Fun K "_law_same" "_law_same" st__law_same f fd) (T : Tops K mg) (C__law_sort : Cal P w K TT mg base 1 "_law_sort" false false 1 (f__law_sort false)) (g : mg "_law_same" = some (.ref f)) (b : Binds K fd ["told", "due"] []) (m : Nat) : FnOk P w K mg base (L2N.CX P w) (1 + m) f fd ["told", "due"] (spD K TT mg false false 2 (fr__law_same false m)) := by
  induction m with
  | zero => exact fnNone
  | succ m ih =>
    have C__law_same : Cal P w K TT mg base (1 + m) "_law_same" false false 2 (fr__law_same false m) := ⟨f, fd, _, g, F.kp, b, ih⟩
    exact den_okC (k := 1 + m) (N := ["told", "due", "k", "part"]) false false F sc__law_same fun cdv hc A outer s H E hr tk => (dss_cons (ds_if (dt_cmp pr_ne (op_neA hr.units) (de_callC C__law_sort (hr.mono (by omega)) tk (by rfl) (da_cons (de_var 0) da_nil)) (de_callC C__law_sort (hr.mono (by omega)) tk (by rfl) (da_cons (de_var 1) da_nil)) (nomark _)) (dss_one (ds_ret de_bl)) dss_nil) (dss_cons (ds_if (PW.pt (dw_and (dt_cmp pr_gt op_gt (de_callC C__law_sort (hr.mono (by omega)) tk (by rfl) (da_cons (de_var 0) da_nil)) de_int (nomark _)) (dw_and1 (dt_cmp pr_lt (op_ltA hr.units0) (de_callC C__law_sort (hr.mono (by omega)) tk (by rfl) (da_cons (de_var 0) da_nil)) de_int (nomark _))))) (dss_cons (ds_if (dt_cmp pr_ne (op_neA hr.units) (de_cb pr_len call_len (by rfl) T.b_len (by decide +kernel) (da_cons (de_var 0) da_nil)) (de_cb pr_len call_len (by rfl) T.b_len (by decide +kernel) (da_cons (de_var 1) da_nil)) (nomark _)) (dss_one (ds_ret de_bl)) dss_nil) (dss_one (ds_ret (de_cmp pr_eq (op_eqA hr.units) (DF.fz (df_comp sc__law_same.nd (di_enum (by rfl) T.b_enumerate (da_cons (de_var 0) da_nil)) (blkOk_by (own := [("k", 2), ("part", 3)]) (by kernel_rfl)) (fun _ _ _ _ _ => (dg_tu rfl (dgs_cons (dg_nm 2 sc__law_same.nd) (dgs_cons (dg_nm 3 sc__law_same.nd) dgs_nil)))) (fun _ _ _ _ _ => dts_one (dt_not (dt_val (de_callC C__law_same (hr.mono (by omega)) tk_blk (by rfl) (da_cons (de_var 3) (da_cons (de_ix pr_ix ix_A (de_var 1) (de_var 2)) da_nil)))))) (fun _ _ _ _ _ => (de_var 2)) (by decide))) (DF.fz (df_lst da_nil)) (nomark _))))) dss_nil) (dss_one (ds_ret (de_cmp pr_eq (op_eqA hr.units) (de_var 0) (de_var 1) (nomark _))))))
abbrev st__law_span : Stmt := topS 52
theorem sc__law_span : FnScope ["deck", "sizes", "low", "high"] ["deck", "sizes"] (defScope st__law_span) := ⟨rfl, rfl, rfl, by decide +kernel, rfl, by decide +kernel, by decide +kernel⟩
theorem ok__law_span {f : Addr} {fd : FuncData} (F : Fun K "_law_span" "_law_span" st__law_span f fd) (T : Tops K mg) (C__law_one : Cal P w K TT mg base 2 "_law_one" true false 2 (f__law_one false)) (C__law_pick : Cal P w K TT mg base 1 "_law_pick" true false 2 (f__law_pick false)) : FnOk P w K mg base (L2N.CX P w) 3 f fd ["deck", "sizes"] (spD K TT mg true false 2 (f__law_span false)) :=
  den_okC (N := ["deck", "sizes", "low", "high"]) true false F sc__law_span fun cdv hc A outer s H E hr tk => (dss_cons (ds_set 2 sc__law_span.nd (DM.fz (dm_bin pr_add op_addA de_int (de_callOC 0 C__law_pick (hr.mono (by omega)) tk (by rfl) (da_cons (de_var 1) da_nil))))) (dss_cons (ds_set 3 sc__law_span.nd (de_cb pr_min (cr_minA rfl) (by rfl) T.b_min (by decide +kernel) (da_cons (de_var 1) (da_cons (DM.fz (dm_bin pr_add op_addA (de_var 2) (de_callOC 0 C__law_one (hr.mono (by omega)) tk (by rfl) (da_cons (DF.fz (df_lst (da_cons de_int (da_cons de_int (da_cons de_int (da_cons de_int (da_cons (de_callOC 0 C__law_pick (hr.mono (by omega)) tk (by rfl) (da_cons (de_var 1) da_nil)) da_nil))))))) da_nil)))) da_nil)))) (dss_one (ds_ret (de_tup false (da_cons (de_var 2) (da_cons (de_var 3) da_nil)))))))
abbrev st__law_book : Stmt := topS 53
theorem sc__law_book : FnScope ["deck", "sizes_so", "winters_so", "children", "sizes", "winters", "turn", "k"] ["deck", "sizes_so", "winters_so", "children"] (defScope st__law_book) := ⟨rfl, rfl, rfl, by decide +kernel, rfl, by decide +kernel, by decide +kernel⟩
theorem ok__law_book {f : Addr} {fd : FuncData} (F : Fun K "_law_book" "_law_book" st__law_book f fd) (T : Tops K mg) (C__law_pick : Cal P w K TT mg base 1 "_law_pick" true false 2 (f__law_pick false)) (C__law_span : Cal P w K TT mg base 3 "_law_span" true false 2 (f__law_span false)) : FnOk P w K mg base (L2N.CX P w) 4 f fd ["deck", "sizes_so", "winters_so", "children"] (spD K TT mg true false 4 (f__law_book false)) :=
  den_okC (N := ["deck", "sizes_so", "winters_so", "children", "sizes", "winters", "turn", "k"]) true false F sc__law_book fun cdv hc A outer s H E hr tk => (dss_cons (ds_set 4 sc__law_book.nd (DM.fz (dm_bin pr_add op_addA de_int (de_callOC 0 C__law_pick (hr.mono (by omega)) tk (by rfl) (da_cons (de_var 1) da_nil))))) (dss_cons (ds_own 5 sc__law_book.nd (df_lst da_nil)) (dss_cons (ds_fz 5 (ds_for (passes_of rfl) rfl (di_range1 (by rfl) T.b_range (da_cons (DM.fz (dm_bin pr_add op_addA de_int (de_callOC 0 C__law_pick (hr.mono (by omega)) tk (by rfl) (da_cons (de_var 2) da_nil)))) da_nil)) (dg_nm 6 sc__law_book.nd) (dss_one (ds_append 5 (pe_bm PySem.F.plainAttrs_list PySem.F.slot_list_append PySem.F.type_list_append mt_append (pv 5) (pa_cons (de_ct (pr_tuple false) call_tupleB (by rfl) T.b_tuple (by decide +kernel) (da_cons (DF.fz (df_comp sc__law_book.nd (di_range1 (by rfl) T.b_range (da_cons (de_callOC 0 C__law_pick (hr.mono (by omega)) tk (by rfl) (da_cons (DM.fz (dm_bin pr_add op_addA (de_var 3) de_int)) da_nil)) da_nil)) (blkOk_by (own := [("k", 7)]) (by kernel_rfl)) (fun _ _ _ _ _ => (dg_nm 7 sc__law_book.nd)) (fun _ _ _ _ _ => dts_nil) (fun _ _ _ _ _ => (de_callOC 0 C__law_span (hr.mono (by omega)) tk_blk (by rfl) (da_cons (de_var 4) da_nil))) (by decide))) da_nil)) pa_nil)))))) (dss_one (ds_ret (de_tup false (da_cons (de_var 4) (da_cons (de_ct (pr_tuple false) call_tupleB (by rfl) T.b_tuple (by decide +kernel) (da_cons (de_var 5) da_nil)) da_nil))))))))
abbrev st__law_room_of : Stmt := topS 54
theorem sc__law_room_of : FnScope ["coats", "at", "many"] ["coats"] (defScope st__law_room_of) := ⟨rfl, rfl, rfl, by decide +kernel, rfl, by decide +kernel, by decide +kernel⟩
theorem ok__law_room_of {f : Addr} {fd : FuncData} (F : Fun K "_law_room_of" "_law_room_of" st__law_room_of f fd) (T : Tops K mg)  : FnOk P w K mg base (L2N.CX P w) 1 f fd ["coats"] (spD K TT mg false false 1 (f__law_room_of false)) :=
  den_okC (N := ["coats", "at", "many"]) false false F sc__law_room_of fun cdv hc A outer s H E hr tk => (dss_one (ds_ret (de_ct (pr_tuple true) call_tupleB (by rfl) T.b_tuple (by decide +kernel) (da_cons (DF.fz (df_comp sc__law_room_of.nd (di_enum (by rfl) T.b_enumerate (da_cons (de_var 0) da_nil)) (blkOk_by (own := [("at", 1), ("many", 2)]) (by kernel_rfl)) (fun _ _ _ _ _ => (dg_tu rfl (dgs_cons (dg_nm 1 sc__law_room_of.nd) (dgs_cons (dg_nm 2 sc__law_room_of.nd) dgs_nil)))) (fun _ _ _ _ _ => dts_one (dt_cmp pr_gt op_gt (de_var 2) de_int (nomark _))) (fun _ _ _ _ _ => (de_tup false (da_cons (DM.fz (dm_bin pr_add op_addA (de_var 1) de_int)) (da_cons (de_var 2) da_nil)))) (by decide))) da_nil))))
abbrev st__law_coats : Stmt := topS 55
theorem sc__law_coats : FnScope ["book", "room", "table", "size"] ["book", "room"] (defScope st__law_coats) := ⟨rfl, rfl, rfl, by decide +kernel, rfl, by decide +kernel, by decide +kernel⟩
theorem ok__law_coats {f : Addr} {fd : FuncData} (F : Fun K "_law_coats" "_law_coats" st__law_coats f fd) (T : Tops K mg)  : FnOk P w K mg base (L2N.CX P w) 1 f fd ["book", "room"] (spD K TT mg false true 2 (f__law_coats false)) :=
  den_okC (N := ["book", "room", "table", "size"]) false true F sc__law_coats fun cdv hc A outer s H E hr tk => (dss_cons (ds_set 2 sc__law_coats.nd (DF.fz (df_ct pr_dict (call_dictT rfl) (by rfl) T.b_dict (by decide +kernel) (da_cons (de_var 1) da_nil)))) (dss_one (ds_retF (df_comp sc__law_coats.nd (di_range2 (by rfl) T.b_range (da_cons de_int (da_cons (DM.fz (dm_bin pr_add op_addA (de_ix pr_ix ix_A (de_var 0) de_int) de_int)) da_nil))) (blkOk_by (own := [("size", 3)]) (by kernel_rfl)) (fun _ _ _ _ _ => (dg_nm 3 sc__law_coats.nd)) (fun _ _ _ _ _ => dts_nil) (fun _ _ _ _ _ => (de_get (hu_of hr) (de_var 2) (de_var 3) de_int ⟨by rfl, by rfl, by rfl, by rfl⟩)) (by decide)))))
abbrev st__law_room : Stmt := topS 56
theorem sc__law_room : FnScope ["deck", "book", "most", "size"] ["deck", "book", "most"] (defScope st__law_room) := ⟨rfl, rfl, rfl, by decide +kernel, rfl, by decide +kernel, by decide +kernel⟩
theorem ok__law_room {f : Addr} {fd : FuncData} (F : Fun K "_law_room" "_law_room" st__law_room f fd) (T : Tops K mg) (C__law_one : Cal P w K TT mg base 2 "_law_one" true false 2 (f__law_one false)) (C__law_pick : Cal P w K TT mg base 1 "_law_pick" true false 2 (f__law_pick false)) (C__law_room_of : Cal P w K TT mg base 1 "_law_room_of" false false 1 (f__law_room_of false)) : FnOk P w K mg base (L2N.CX P w) 3 f fd ["deck", "book", "most"] (spD K TT mg true false 3 (f__law_room false)) :=
  den_okC (N := ["deck", "book", "most", "size"]) true false F sc__law_room fun cdv hc A outer s H E hr tk => (dss_one (ds_ret (de_callC C__law_room_of (hr.mono (by omega)) tk (by rfl) (da_cons (DF.fz (df_comp sc__law_room.nd (di_range1 (by rfl) T.b_range (da_cons (de_ix pr_ix ix_A (de_var 1) de_int) da_nil)) (blkOk_by (own := [("size", 3)]) (by kernel_rfl)) (fun _ _ _ _ _ => (dg_nm 3 sc__law_room.nd)) (fun _ _ _ _ _ => dts_nil) (fun _ _ _ _ _ => (de_callOC 0 C__law_one (hr.mono (by omega)) tk_blk (by rfl) (da_cons (DF.fz (df_lst (da_cons de_int (da_cons de_int (da_cons de_int (da_cons de_int (da_cons (de_callOC 0 C__law_pick (hr.mono (by omega)) tk_blk (by rfl) (da_cons (DM.fz (dm_bin pr_add op_addA (de_var 2) de_int)) da_nil)) da_nil))))))) da_nil))) (by decide))) da_nil))))
abbrev st__law_windows : Stmt := topS 57
theorem sc__law_windows : FnScope ["sizes", "found", "low", "high"] ["sizes"] (defScope st__law_windows) := ⟨rfl, rfl, rfl, by decide +kernel, rfl, by decide +kernel, by decide +kernel⟩
theorem ok__law_windows {f : Addr} {fd : FuncData} (F : Fun K "_law_windows" "_law_windows" st__law_windows f fd) (T : Tops K mg)  : FnOk P w K mg base (L2N.CX P w) 1 f fd ["sizes"] (spD K TT mg false false 1 (f__law_windows false)) :=
  den_okC (N := ["sizes", "found", "low", "high"]) false false F sc__law_windows fun cdv hc A outer s H E hr tk => (dss_cons (ds_set 1 sc__law_windows.nd (DF.fz (df_lst da_nil))) (dss_cons (ds_for (passes_of rfl) rfl (di_range2 (by rfl) T.b_range (da_cons de_int (da_cons (DM.fz (dm_bin pr_add op_addA (de_var 0) de_int)) da_nil))) (dg_nm 2 sc__law_windows.nd) (dss_one (ds_set 1 sc__law_windows.nd (DM.fz (dm_bin pr_add op_addA (de_var 1) (DF.fz (df_comp sc__law_windows.nd (di_range2 (by rfl) T.b_range (da_cons (de_var 2) (da_cons (DM.fz (dm_bin pr_add op_addA (de_var 0) de_int)) da_nil))) (blkOk_by (own := [("high", 3)]) (by kernel_rfl)) (fun _ _ _ _ _ => (dg_nm 3 sc__law_windows.nd)) (fun _ _ _ _ _ => dts_nil) (fun _ _ _ _ _ => (de_tup false (da_cons (de_var 2) (da_cons (de_var 3) da_nil)))) (by decide)))))))) (dss_one (ds_ret (de_var 1)))))
abbrev st__law_clothed : Stmt := topS 58
theorem sc__law_clothed : FnScope ["coats", "spans", "left", "low", "high", "fit", "size"] ["coats", "spans"] (defScope st__law_clothed) := ⟨rfl, rfl, rfl, by decide +kernel, rfl, by decide +kernel, by decide +kernel⟩
theorem ok__law_clothed {f : Addr} {fd : FuncData} (F : Fun K "_law_clothed" "_law_clothed" st__law_clothed f fd) (T : Tops K mg) (L : LamHyp mg base TT (("_law_clothed" : Str) ++ ".<locals>." ++ "<lambda>") fd)  : FnOk P w K mg base (L2N.CX P w) 1 f fd ["coats", "spans"] (spD K TT mg false false 2 (f__law_clothed false)) :=
  den_okC (N := ["coats", "spans", "left", "low", "high", "fit", "size"]) false false F sc__law_clothed fun cdv hc A outer s H E hr tk => (dss_cons (ds_own 2 sc__law_clothed.nd (df_ct pr_list call_list_of (by rfl) T.b_list (by decide +kernel) (da_cons (de_var 0) da_nil))) (dss_cons (ds_fz 2 (ds_for (passes_of rfl) rfl (di_seq (DF.fz (df_sortKey (x := "span") (by rfl) T.b_sorted ⟨L cdv hc⟩ hr (da_cons (de_var 1) da_nil) rfl rfl rfl rfl rfl rfl (by decide) (fun _ _ _ _ _ _ => rfl) (by rfl) (by rfl) (by rfl) (by rfl) (by rfl)))) (dg_tu rfl (dgs_cons (dg_nm 3 sc__law_clothed.nd) (dgs_cons (dg_nm 4 sc__law_clothed.nd) dgs_nil))) (dss_cons (ds_setLc 5 sc__law_clothed.nd (di_range2 (by rfl) T.b_range (da_cons (de_var 3) (da_cons (DM.fz (dm_bin pr_add op_addA (de_var 4) de_int)) da_nil))) (blkOk_by (own := [("size", 6)]) (by kernel_rfl)) (fun _ _ _ _ _ => (dg_nm 6 sc__law_clothed.nd)) (fun _ _ _ _ _ => dts_one (dt_cmp pr_gt op_gt (de_ixO 2 (de_bin pr_sub op_subB (de_var 6) de_int)) de_int (nomark _))) (fun _ _ _ _ _ => (de_var 6)) (by decide) (sw_true rfl rfl rfl (by decide +kernel))) (dss_cons (ds_if (dt_cmp pr_eq (op_eqA hr.units) (de_var 5) (DF.fz (df_lst da_nil)) (nomark _)) (dss_one (ds_ret de_bl)) dss_nil) (dss_one (ds_put 2 (de_bin pr_sub op_subB (de_ixO 2 (de_bin pr_sub op_subB (de_ix pr_ix ix_A (de_var 5) de_int) de_int)) de_int) (de_bin pr_sub op_subB (de_ix pr_ix ix_A (de_var 5) de_int) de_int))))))) (dss_one (ds_ret de_bl))))
abbrev st__law_serves : Stmt := topS 59
theorem sc__law_serves : FnScope ["book", "coats", "spans"] ["book", "coats"] (defScope st__law_serves) := ⟨rfl, rfl, rfl, by decide +kernel, rfl, by decide +kernel, by decide +kernel⟩
theorem ok__law_serves {f : Addr} {fd : FuncData} (F : Fun K "_law_serves" "_law_serves" st__law_serves f fd) (T : Tops K mg) (C__law_clothed : Cal P w K TT mg base 1 "_law_clothed" false false 2 (f__law_clothed false)) : FnOk P w K mg base (L2N.CX P w) 2 f fd ["book", "coats"] (spD K TT mg false false 2 (f__law_serves false)) :=
  den_okC (N := ["book", "coats", "spans"]) false false F sc__law_serves fun cdv hc A outer s H E hr tk => (dss_one (ds_ret (de_cmp pr_eq (op_eqA hr.units) (DF.fz (df_comp sc__law_serves.nd (di_seq (de_ix pr_ix ix_A (de_var 0) de_int)) (blkOk_by (own := [("spans", 2)]) (by kernel_rfl)) (fun _ _ _ _ _ => (dg_nm 2 sc__law_serves.nd)) (fun _ _ _ _ _ => dts_one (dt_not (dt_val (de_callC C__law_clothed (hr.mono (by omega)) tk_blk (by rfl) (da_cons (de_var 1) (da_cons (de_var 2) da_nil)))))) (fun _ _ _ _ _ => (de_var 2)) (by decide))) (DF.fz (df_lst da_nil)) (nomark _))))
abbrev st_law : Stmt := topS 60
theorem sc_law : FnScope ["script", "cell", "deck", "book", "room", "coats", "full", "odd", "winter", "spans", "due", "told", "a", "b", "span"] ["script"] (defScope st_law) := ⟨rfl, rfl, rfl, by decide +kernel, rfl, by decide +kernel, by decide +kernel⟩
theorem ok_law {f : Addr} {fd : FuncData} (F : Fun K "law" "law" st_law f fd) (T : Tops K mg) (L : LamHyp mg base TT (("law" : Str) ++ ".<locals>." ++ "<lambda>") fd) (TR : TryH P w K mg base st__law_try) (C__law_book : Cal P w K TT mg base 4 "_law_book" true false 4 (f__law_book false)) (C__law_clothed : Cal P w K TT mg base 1 "_law_clothed" false false 2 (f__law_clothed false)) (C__law_coats : Cal P w K TT mg base 1 "_law_coats" false true 2 (f__law_coats false)) (C__law_deck : Cal P w K TT mg base 1 "_law_deck" false true 2 (f__law_deck false)) (C__law_one : Cal P w K TT mg base 2 "_law_one" true false 2 (f__law_one false)) (C__law_room : Cal P w K TT mg base 3 "_law_room" true false 3 (f__law_room false)) (C__law_room_of : Cal P w K TT mg base 1 "_law_room_of" false false 1 (f__law_room_of false)) (C__law_same : Cal P w K TT mg base 13 "_law_same" false false 2 (f__law_same false)) (C__law_serves : Cal P w K TT mg base 2 "_law_serves" false false 2 (f__law_serves false)) (C__law_windows : Cal P w K TT mg base 1 "_law_windows" false false 1 (f__law_windows false)) (C_borne : Cal P w K TT mg base 7 "borne" false true 3 (f_borne false)) (C_to_buy : Cal P w K TT mg base 7 "to_buy" false false 2 (f_to_buy false)) : FnOk P w K mg base (L2N.CX P w) 14 f fd ["script"] (spL K TT mg (f_law false)) :=
  den_okL (N := ["script", "cell", "deck", "book", "room", "coats", "full", "odd", "winter", "spans", "due", "told", "a", "b", "span"]) F sc_law fun cdv hc A outer s H E hr tk => (dss_cons (ds_for (passes_of rfl) rfl (di_seq (DM.fz (dm_slice (DM.fz (dm_bin pr_add op_addA (DF.fz (df_lst (da_cons de_int da_nil))) (de_var 0))) do_n (do_s de_int)))) (dg_nm 1 sc_law.nd) (dss_cons (ds_own 2 sc_law.nd (df_callC C__law_deck (hr.mono (by omega)) tk (by rfl) (da_cons (de_var 1) (da_cons de_int da_nil)))) (dss_cons (ds_set 3 sc_law.nd (de_callOC 2 C__law_book (hr.mono (by omega)) tk (by rfl) (da_cons (de_callOC 2 C__law_one (hr.mono (by omega)) tk (by rfl) (da_cons (DF.fz (df_lst (da_cons de_int (da_cons de_int da_nil)))) da_nil)) (da_cons de_int (da_cons de_int da_nil))))) (dss_cons (ds_fz 2 (ds_set 4 sc_law.nd (de_callOC 2 C__law_room (hr.mono (by omega)) tk (by rfl) (da_cons (de_var 3) (da_cons de_int da_nil))))) (dss_cons (ds_set 5 sc_law.nd (DF.fz (df_comp sc_law.nd (di_zip (by rfl) T.b_zip (da_cons (DF.fz (df_callC C__law_coats (hr.mono (by omega)) tk (by rfl) (da_cons (de_var 3) (da_cons (de_var 4) da_nil)))) (da_cons (DF.fz (df_callC C__law_coats (hr.mono (by omega)) tk (by rfl) (da_cons (de_var 3) (da_cons (de_callC C_to_buy (hr.mono (by omega)) tk (by rfl) (da_cons (de_var 3) (da_cons (de_var 4) da_nil))) da_nil)))) da_nil))) (blkOk_by (own := [("a", 12), ("b", 13)]) (by kernel_rfl)) (fun _ _ _ _ _ => (dg_tu rfl (dgs_cons (dg_nm 12 sc_law.nd) (dgs_cons (dg_nm 13 sc_law.nd) dgs_nil)))) (fun _ _ _ _ _ => dts_nil) (fun _ _ _ _ _ => (DM.fz (dm_bin pr_add op_addA (de_var 12) (de_var 13)))) (by decide)))) (dss_cons (ds_set 6 sc_law.nd (de_callC C__law_room_of (hr.mono (by omega)) tk (by rfl) (da_cons (de_var 5) da_nil))) (dss_cons (ds_for (passes_of rfl) rfl (di_enum (by rfl) T.b_enumerate (da_cons (de_ix pr_ix ix_A (de_var 3) de_int) da_nil)) (dg_tu rfl (dgs_cons (dg_nm 8 sc_law.nd) (dgs_cons (dg_nm 9 sc_law.nd) dgs_nil))) (dss_cons (ds_setLc 10 sc_law.nd (di_seq (de_callC C__law_windows (hr.mono (by omega)) tk (by rfl) (da_cons (de_ix pr_ix ix_A (de_var 3) de_int) da_nil))) (blkOk_by (own := [("span", 14)]) (by kernel_rfl)) (fun _ _ _ _ _ => (dg_nm 14 sc_law.nd)) (fun _ _ _ _ _ => dts_one (dt_val (de_callC C__law_clothed (hr.mono (by omega)) tk_blk (by rfl) (da_cons (de_var 5) (da_cons (DM.fz (dm_bin pr_add op_addA (de_var 9) (de_tup false (da_cons (de_var 14) da_nil)))) da_nil))))) (fun _ _ _ _ _ => (de_var 14)) (by decide) (sw_true rfl rfl rfl (by decide +kernel))) (dss_cons (ds_own 11 sc_law.nd (df_callC C_borne (hr.mono (by omega)) tk (by rfl) (da_cons (de_var 3) (da_cons (de_var 6) (da_cons (de_var 8) da_nil))))) (dss_cons (ds_if (dt_not (dt_val (de_lock 11 (de_callC C__law_same (hr.mono (by omega)) tk (by rfl) (da_cons (de_var 11) (da_cons (de_var 10) da_nil)))))) (dss_one (ds_ret de_bl)) dss_nil) (dss_one (ds_fz 11 (ds_append 11 (pe_bm PySem.F.plainAttrs_list PySem.F.slot_list_append PySem.F.type_list_append mt_append (pv 11) (pa_cons de_int pa_nil))))))))) (dss_cons (ds_for (passes_of rfl) rfl (di_seq (DF.fz (df_lst (da_cons de_non (da_cons de_bl (da_cons (de_un pr_neg un_neg de_int) (da_cons (de_cb pr_len call_len (by rfl) T.b_len (by decide +kernel) (da_cons (de_ix pr_ix ix_A (de_var 3) de_int) da_nil)) da_nil))))))) (dg_nm 7 sc_law.nd) (dss_one (ds_if (dt_cmp pr_ne (op_neA hr.units) (de_try (k := 7) TR.M (by rfl) TR.m TR.F TR.b sc__law_try (by rfl) (fun cdg => try_gives (k := 1) TR.M rfl rfl rfl rfl TR.mkin TR.kk TR.bk (fun s => L2H.roomH_of (Room.deeper (k := 1) (hr.mono (by omega)) _)) TR.kin) ⟨L cdv hc⟩ (hr.mono (by omega)) (LamX.lamS_by (by rfl)) (by rfl) (fun _ _ _ _ _ => rfl) (fun A outer s H E f c' hr tk => (DF.fz (df_callC C_borne (hr.mono (by omega)) tk (by rfl) (da_cons (de_var 3) (da_cons (de_var 6) (da_cons (de_var 7) da_nil))))))) de_str (nomark _)) (dss_one (ds_ret de_bl)) dss_nil))) (dss_one (ds_if (PW.pt (dw_and (dt_not (dt_val (de_callC C__law_serves (hr.mono (by omega)) tk (by rfl) (da_cons (de_var 3) (da_cons (DF.fz (df_callC C__law_coats (hr.mono (by omega)) tk (by rfl) (da_cons (de_var 3) (da_cons (de_var 4) da_nil)))) da_nil))))) (dw_and1 (dt_cmp pr_ne (op_neA hr.units) (de_try (k := 7) TR.M (by rfl) TR.m TR.F TR.b sc__law_try (by rfl) (fun cdg => try_gives (k := 1) TR.M rfl rfl rfl rfl TR.mkin TR.kk TR.bk (fun s => L2H.roomH_of (Room.deeper (k := 1) (hr.mono (by omega)) _)) TR.kin) ⟨L cdv hc⟩ (hr.mono (by omega)) (LamX.lamS_by (by rfl)) (by rfl) (fun _ _ _ _ _ => rfl) (fun A outer s H E f c' hr tk => (DF.fz (df_callC C_borne (hr.mono (by omega)) tk (by rfl) (da_cons (de_var 3) (da_cons (de_var 4) (da_cons de_int da_nil))))))) de_str (nomark _))))) (dss_one (ds_ret de_bl)) dss_nil)))))))))) (dss_one (ds_ret de_bl)))
end
/-! ### the head -/
def d_is_from : He.DefD := ⟨("is_from", none), "is_from", "is_from", defArgs st_is_from, defBody st_is_from, defScope st_is_from, [], []⟩
def d_is_rising : He.DefD := ⟨("is_rising", none), "is_rising", "is_rising", defArgs st_is_rising, defBody st_is_rising, defScope st_is_rising, [], []⟩
def d_are_tuples : He.DefD := ⟨("are_tuples", none), "are_tuples", "are_tuples", defArgs st_are_tuples, defBody st_are_tuples, defScope st_are_tuples, [], []⟩
def d_is_span : He.DefD := ⟨("is_span", none), "is_span", "is_span", defArgs st_is_span, defBody st_is_span, defScope st_is_span, [], []⟩
def d_is_winter : He.DefD := ⟨("is_winter", none), "is_winter", "is_winter", defArgs st_is_winter, defBody st_is_winter, defScope st_is_winter, [], []⟩
def d_is_book : He.DefD := ⟨("is_book", none), "is_book", "is_book", defArgs st_is_book, defBody st_is_book, defScope st_is_book, [], []⟩
def d_need_book : He.DefD := ⟨("need_book", none), "need_book", "need_book", defArgs st_need_book, defBody st_need_book, defScope st_need_book, [], []⟩
def d_is_stock : He.DefD := ⟨("is_stock", none), "is_stock", "is_stock", defArgs st_is_stock, defBody st_is_stock, defScope st_is_stock, [], []⟩
def d_need_room : He.DefD := ⟨("need_room", none), "need_room", "need_room", defArgs st_need_room, defBody st_need_room, defScope st_need_room, [], []⟩
def d_need_winter : He.DefD := ⟨("need_winter", none), "need_winter", "need_winter", defArgs st_need_winter, defBody st_need_winter, defScope st_need_winter, [], []⟩
def d_coats_of : He.DefD := ⟨("coats_of", none), "coats_of", "coats_of", defArgs st_coats_of, defBody st_coats_of, defScope st_coats_of, [], []⟩
def d_room_of : He.DefD := ⟨("room_of", none), "room_of", "room_of", defArgs st_room_of, defBody st_room_of, defScope st_room_of, [], []⟩
def d_windows_of : He.DefD := ⟨("windows_of", none), "windows_of", "windows_of", defArgs st_windows_of, defBody st_windows_of, defScope st_windows_of, [], []⟩
def d_within : He.DefD := ⟨("within", none), "within", "within", defArgs st_within, defBody st_within, defScope st_within, [], []⟩
def d_asks_of : He.DefD := ⟨("asks_of", none), "asks_of", "asks_of", defArgs st_asks_of, defBody st_asks_of, defScope st_asks_of, [], []⟩
def d_has : He.DefD := ⟨("has", none), "has", "has", defArgs st_has, defBody st_has, defScope st_has, [], []⟩
def d_clothes : He.DefD := ⟨("clothes", none), "clothes", "clothes", defArgs st_clothes, defBody st_clothes, defScope st_clothes, [], []⟩
def d_serving : He.DefD := ⟨("serving", none), "serving", "serving", defArgs st_serving, defBody st_serving, defScope st_serving, [], []⟩
def d_borne : He.DefD := ⟨("borne", none), "borne", "borne", defArgs st_borne, defBody st_borne, defScope st_borne, [], []⟩
def d_heights : He.DefD := ⟨("heights", none), "heights", "heights", defArgs st_heights, defBody st_heights, defScope st_heights, [], []⟩
def d_fewest_more : He.DefD := ⟨("fewest_more", none), "fewest_more", "fewest_more", defArgs st_fewest_more, defBody st_fewest_more, defScope st_fewest_more, [], []⟩
def d_to_buy : He.DefD := ⟨("to_buy", none), "to_buy", "to_buy", defArgs st_to_buy, defBody st_to_buy, defScope st_to_buy, [], []⟩
def d__law_deck : He.DefD := ⟨("_law_deck", none), "_law_deck", "_law_deck", defArgs st__law_deck, defBody st__law_deck, defScope st__law_deck, [], []⟩
def d__law_pick : He.DefD := ⟨("_law_pick", none), "_law_pick", "_law_pick", defArgs st__law_pick, defBody st__law_pick, defScope st__law_pick, [], []⟩
def d__law_one : He.DefD := ⟨("_law_one", none), "_law_one", "_law_one", defArgs st__law_one, defBody st__law_one, defScope st__law_one, [], []⟩
def d__law_kin : He.DefD := ⟨("_law_kin", none), "_law_kin", "_law_kin", defArgs st__law_kin, defBody st__law_kin, defScope st__law_kin, [], []⟩
def d__law_try : He.DefD := ⟨("_law_try", none), "_law_try", "_law_try", defArgs st__law_try, defBody st__law_try, defScope st__law_try, [], []⟩
def d__law_sort : He.DefD := ⟨("_law_sort", none), "_law_sort", "_law_sort", defArgs st__law_sort, defBody st__law_sort, defScope st__law_sort, [], []⟩
def d__law_same : He.DefD := ⟨("_law_same", none), "_law_same", "_law_same", defArgs st__law_same, defBody st__law_same, defScope st__law_same, [], []⟩
def d__law_span : He.DefD := ⟨("_law_span", none), "_law_span", "_law_span", defArgs st__law_span, defBody st__law_span, defScope st__law_span, [], []⟩
def d__law_book : He.DefD := ⟨("_law_book", none), "_law_book", "_law_book", defArgs st__law_book, defBody st__law_book, defScope st__law_book, [], []⟩
def d__law_room_of : He.DefD := ⟨("_law_room_of", none), "_law_room_of", "_law_room_of", defArgs st__law_room_of, defBody st__law_room_of, defScope st__law_room_of, [], []⟩
def d__law_coats : He.DefD := ⟨("_law_coats", none), "_law_coats", "_law_coats", defArgs st__law_coats, defBody st__law_coats, defScope st__law_coats, [], []⟩
def d__law_room : He.DefD := ⟨("_law_room", none), "_law_room", "_law_room", defArgs st__law_room, defBody st__law_room, defScope st__law_room, [], []⟩
def d__law_windows : He.DefD := ⟨("_law_windows", none), "_law_windows", "_law_windows", defArgs st__law_windows, defBody st__law_windows, defScope st__law_windows, [], []⟩
def d__law_clothed : He.DefD := ⟨("_law_clothed", none), "_law_clothed", "_law_clothed", defArgs st__law_clothed, defBody st__law_clothed, defScope st__law_clothed, [], []⟩
def d__law_serves : He.DefD := ⟨("_law_serves", none), "_law_serves", "_law_serves", defArgs st__law_serves, defBody st__law_serves, defScope st__law_serves, [], []⟩
def d_law : He.DefD := ⟨("law", none), "law", "law", defArgs st_law, defBody st_law, defScope st_law, [], []⟩
def fnD : List He.DefD := [d_is_from, d_is_rising, d_are_tuples, d_is_span, d_is_winter, d_is_book, d_need_book, d_is_stock, d_need_room, d_need_winter, d_coats_of, d_room_of, d_windows_of, d_within, d_asks_of, d_has, d_clothes, d_serving, d_borne, d_heights, d_fewest_more, d_to_buy, d__law_deck, d__law_pick, d__law_one, d__law_kin, d__law_try, d__law_sort, d__law_same, d__law_span, d__law_book, d__law_room_of, d__law_coats, d__law_room, d__law_windows, d__law_clothed, d__law_serves, d_law]
def tqD : List (He.Defn × Str) := [(("_law_clothed", none), ("_law_clothed" : Str) ++ ".<locals>." ++ "<lambda>"), (("law", none), ("law" : Str) ++ ".<locals>." ++ "<lambda>")]
def faD : List He.Fa := [.glo "is_from", .glo "is_rising", .glo "are_tuples", .glo "is_span", .glo "is_winter", .glo "is_book", .glo "need_book", .glo "is_stock", .glo "need_room", .glo "need_winter", .glo "coats_of", .glo "room_of", .glo "windows_of", .glo "within", .glo "asks_of", .glo "has", .glo "clothes", .glo "serving", .glo "borne", .glo "heights", .glo "fewest_more", .glo "to_buy", .glo "_law_deck", .glo "_law_pick", .glo "_law_one", .glo "_law_kin", .glo "_law_try", .glo "_law_sort", .glo "_law_same", .glo "_law_span", .glo "_law_book", .glo "_law_room_of", .glo "_law_coats", .glo "_law_room", .glo "_law_windows", .glo "_law_clothed", .glo "_law_serves", .glo "law", .glo "NoBook", .glo "NoRoom", .glo "NoWinter", .glo "NotServed", .free "ValueError", .free "all", .free "any", .free "bool", .free "dict", .free "enumerate", .free "int", .free "isinstance", .free "len", .free "list", .free "max", .free "min", .free "range", .free "sorted", .free "str", .free "sum", .free "tuple", .free "zip", .int "MOST_CHILDREN" 8, .int "MOST_COATS" 99, .int "MOST_SIZES" 16, .int "MOST_WINTERS" 5, .exc "NoBook", .exc "NoRoom", .exc "NoWinter", .exc "NotServed"]
def exD (K : PySem.W.Frag) : Bool := tabsEx tqD K && kinB K
abbrev RR : PySem.W.OpenRow := PySem.W.OpenLaw.row PySem.Challenge.rw_allwinters_k08_whole_who_may_still_come
abbrev hk : PySem.W.Hook := He.hookX 4 faD fnD [] (tqD.map (·.1)) exD
def obD (s : PySem.W.SharedT) : He.AlX := He.obsX 4 faD fnD [] (tqD.map (·.1)) exD (HandSHeadRun.getT s)
theorem obD_eq (s : PySem.W.SharedT) : obD s = hk.obs s.abs := He.obsX_eq (HandSHeadRun.getT_eq s)
def loose : List PySem.Str := (["CoatError", "NoBook", "NoRoom", "NoWinter", "NoSpan", "NoPrices", "NoSize", "NoSizes", "NotServed", "Unlike", "Full", "NoChild", "NoCoat", "MOST_SIZES", "MOST_WINTERS", "MOST_CHILDREN", "MOST_COATS", "is_from", "is_rising", "are_tuples", "is_span", "is_winter", "is_book", "need_book", "is_stock", "need_room", "need_winter", "coats_of", "room_of", "windows_of"] : List PySem.Str) ++ (["within", "asks_of", "has", "clothes", "serving", "borne", "heights", "fewest_more", "to_buy", "_law_deck", "_law_pick", "_law_one", "_law_kin", "_law_try", "_law_sort", "_law_same", "_law_span", "_law_book", "_law_room_of", "_law_coats", "_law_room", "_law_windows", "_law_clothed", "_law_serves"] : List PySem.Str)
theorem run (w : World) : HandSHeadRun.RunEq RR (PySem.W.view RR.prog [60]) hk obD 6000 loose w := by
  intro os
  kernel_rfl
theorem facts {P : Program} {w : World} {K : PySem.W.Frag} {h : Heap} {mg : Str → Option Value} {f : Addr} (X : K.In h) (G : h.Ns mainGlobals mg) (hfa : mg ("law" : Str) = some (.ref f)) (c : He.SaysD faD fnD K) (ex0 : exD K = true) :
    ∃ fd : FuncData, (∀ (s : Shared) (v : Value), BindsTo s fd ⟨[v], []⟩ [("script", v)]) ∧ ∀ base : Heap, K.In base → base.Ns mainGlobals mg → (∀ p ∈ tqD.map (fun p => He.cT K p.1), LamX.TabB base mg p.1 p.2) → FnOk P w K mg base (L2N.CX P w) 14 f fd ["script"] (spL K (tabsK K tqD) mg (f_law false)) := by
  have ex : tabsEx tqD K = true := (Bool.and_eq_true_iff.mp ex0).1
  have M : KinF K mg := kinF_of X G (Bool.and_eq_true_iff.mp ex0).2
  have T : Tops K mg := ⟨He.free_ok X G (c.fact 42 (f := .free "ValueError") rfl), He.free_ok X G (c.fact 43 (f := .free "all") rfl), He.free_ok X G (c.fact 44 (f := .free "any") rfl), He.free_ok X G (c.fact 45 (f := .free "bool") rfl), He.free_ok X G (c.fact 46 (f := .free "dict") rfl), He.free_ok X G (c.fact 47 (f := .free "enumerate") rfl), He.free_ok X G (c.fact 48 (f := .free "int") rfl), He.free_ok X G (c.fact 49 (f := .free "isinstance") rfl), He.free_ok X G (c.fact 50 (f := .free "len") rfl), He.free_ok X G (c.fact 51 (f := .free "list") rfl), He.free_ok X G (c.fact 52 (f := .free "max") rfl), He.free_ok X G (c.fact 53 (f := .free "min") rfl), He.free_ok X G (c.fact 54 (f := .free "range") rfl), He.free_ok X G (c.fact 55 (f := .free "sorted") rfl), He.free_ok X G (c.fact 56 (f := .free "str") rfl), He.free_ok X G (c.fact 57 (f := .free "sum") rfl), He.free_ok X G (c.fact 58 (f := .free "tuple") rfl), He.free_ok X G (c.fact 59 (f := .free "zip") rfl), ⟨He.int_ok X G (c.fact 60 (f := .int "MOST_CHILDREN" 8) rfl)⟩, ⟨He.int_ok X G (c.fact 61 (f := .int "MOST_COATS" 99) rfl)⟩, ⟨He.int_ok X G (c.fact 62 (f := .int "MOST_SIZES" 16) rfl)⟩, ⟨He.int_ok X G (c.fact 63 (f := .int "MOST_WINTERS" 5) rfl)⟩, topX_of X G (c.fact 64 (f := .exc "NoBook") rfl) (c.fact 38 (f := .glo "NoBook") rfl), topX_of X G (c.fact 65 (f := .exc "NoRoom") rfl) (c.fact 39 (f := .glo "NoRoom") rfl), topX_of X G (c.fact 66 (f := .exc "NoWinter") rfl) (c.fact 40 (f := .glo "NoWinter") rfl), topX_of X G (c.fact 67 (f := .exc "NotServed") rfl) (c.fact 41 (f := .glo "NotServed") rfl)⟩
  obtain ⟨fd_is_from, G_is_from⟩ := c.def_ 0 (d := d_is_from) rfl
  have F_is_from : Fun K "is_from" "is_from" st_is_from (He.fAd K ("is_from", none)) fd_is_from := fun_of G_is_from
  have m_is_from := He.glo_ok X G (c.fact 0 (f := .glo "is_from") rfl)
  have b_is_from : Binds K fd_is_from ["thing", "low", "high"] [] := F_is_from.binds (ps := ["thing", "low", "high"]) fun _ _ _ _ _ _ us hl => match us, hl with | [_, _, _], _ => rfl
  obtain ⟨fd_is_rising, G_is_rising⟩ := c.def_ 1 (d := d_is_rising) rfl
  have F_is_rising : Fun K "is_rising" "is_rising" st_is_rising (He.fAd K ("is_rising", none)) fd_is_rising := fun_of G_is_rising
  have m_is_rising := He.glo_ok X G (c.fact 1 (f := .glo "is_rising") rfl)
  have b_is_rising : Binds K fd_is_rising ["things"] [] := F_is_rising.binds (ps := ["things"]) fun _ _ _ _ _ _ us hl => match us, hl with | [_], _ => rfl
  obtain ⟨fd_are_tuples, G_are_tuples⟩ := c.def_ 2 (d := d_are_tuples) rfl
  have F_are_tuples : Fun K "are_tuples" "are_tuples" st_are_tuples (He.fAd K ("are_tuples", none)) fd_are_tuples := fun_of G_are_tuples
  have m_are_tuples := He.glo_ok X G (c.fact 2 (f := .glo "are_tuples") rfl)
  have b_are_tuples : Binds K fd_are_tuples ["thing", "size"] [] := F_are_tuples.binds (ps := ["thing", "size"]) fun _ _ _ _ _ _ us hl => match us, hl with | [_, _], _ => rfl
  obtain ⟨fd_is_span, G_is_span⟩ := c.def_ 3 (d := d_is_span) rfl
  have F_is_span : Fun K "is_span" "is_span" st_is_span (He.fAd K ("is_span", none)) fd_is_span := fun_of G_is_span
  have m_is_span := He.glo_ok X G (c.fact 3 (f := .glo "is_span") rfl)
  have b_is_span : Binds K fd_is_span ["sizes", "thing"] [] := F_is_span.binds (ps := ["sizes", "thing"]) fun _ _ _ _ _ _ us hl => match us, hl with | [_, _], _ => rfl
  obtain ⟨fd_is_winter, G_is_winter⟩ := c.def_ 4 (d := d_is_winter) rfl
  have F_is_winter : Fun K "is_winter" "is_winter" st_is_winter (He.fAd K ("is_winter", none)) fd_is_winter := fun_of G_is_winter
  have m_is_winter := He.glo_ok X G (c.fact 4 (f := .glo "is_winter") rfl)
  have b_is_winter : Binds K fd_is_winter ["sizes", "thing"] [] := F_is_winter.binds (ps := ["sizes", "thing"]) fun _ _ _ _ _ _ us hl => match us, hl with | [_, _], _ => rfl
  obtain ⟨fd_is_book, G_is_book⟩ := c.def_ 5 (d := d_is_book) rfl
  have F_is_book : Fun K "is_book" "is_book" st_is_book (He.fAd K ("is_book", none)) fd_is_book := fun_of G_is_book
  have m_is_book := He.glo_ok X G (c.fact 5 (f := .glo "is_book") rfl)
  have b_is_book : Binds K fd_is_book ["thing"] [] := F_is_book.binds (ps := ["thing"]) fun _ _ _ _ _ _ us hl => match us, hl with | [_], _ => rfl
  obtain ⟨fd_need_book, G_need_book⟩ := c.def_ 6 (d := d_need_book) rfl
  have F_need_book : Fun K "need_book" "need_book" st_need_book (He.fAd K ("need_book", none)) fd_need_book := fun_of G_need_book
  have m_need_book := He.glo_ok X G (c.fact 6 (f := .glo "need_book") rfl)
  have b_need_book : Binds K fd_need_book ["book"] [] := F_need_book.binds (ps := ["book"]) fun _ _ _ _ _ _ us hl => match us, hl with | [_], _ => rfl
  obtain ⟨fd_is_stock, G_is_stock⟩ := c.def_ 7 (d := d_is_stock) rfl
  have F_is_stock : Fun K "is_stock" "is_stock" st_is_stock (He.fAd K ("is_stock", none)) fd_is_stock := fun_of G_is_stock
  have m_is_stock := He.glo_ok X G (c.fact 7 (f := .glo "is_stock") rfl)
  have b_is_stock : Binds K fd_is_stock ["book", "thing"] [] := F_is_stock.binds (ps := ["book", "thing"]) fun _ _ _ _ _ _ us hl => match us, hl with | [_, _], _ => rfl
  obtain ⟨fd_need_room, G_need_room⟩ := c.def_ 8 (d := d_need_room) rfl
  have F_need_room : Fun K "need_room" "need_room" st_need_room (He.fAd K ("need_room", none)) fd_need_room := fun_of G_need_room
  have m_need_room := He.glo_ok X G (c.fact 8 (f := .glo "need_room") rfl)
  have b_need_room : Binds K fd_need_room ["book", "room"] [] := F_need_room.binds (ps := ["book", "room"]) fun _ _ _ _ _ _ us hl => match us, hl with | [_, _], _ => rfl
  obtain ⟨fd_need_winter, G_need_winter⟩ := c.def_ 9 (d := d_need_winter) rfl
  have F_need_winter : Fun K "need_winter" "need_winter" st_need_winter (He.fAd K ("need_winter", none)) fd_need_winter := fun_of G_need_winter
  have m_need_winter := He.glo_ok X G (c.fact 9 (f := .glo "need_winter") rfl)
  have b_need_winter : Binds K fd_need_winter ["book", "winter"] [] := F_need_winter.binds (ps := ["book", "winter"]) fun _ _ _ _ _ _ us hl => match us, hl with | [_, _], _ => rfl
  obtain ⟨fd_coats_of, G_coats_of⟩ := c.def_ 10 (d := d_coats_of) rfl
  have F_coats_of : Fun K "coats_of" "coats_of" st_coats_of (He.fAd K ("coats_of", none)) fd_coats_of := fun_of G_coats_of
  have m_coats_of := He.glo_ok X G (c.fact 10 (f := .glo "coats_of") rfl)
  have b_coats_of : Binds K fd_coats_of ["book", "room"] [] := F_coats_of.binds (ps := ["book", "room"]) fun _ _ _ _ _ _ us hl => match us, hl with | [_, _], _ => rfl
  obtain ⟨fd_room_of, G_room_of⟩ := c.def_ 11 (d := d_room_of) rfl
  have F_room_of : Fun K "room_of" "room_of" st_room_of (He.fAd K ("room_of", none)) fd_room_of := fun_of G_room_of
  have m_room_of := He.glo_ok X G (c.fact 11 (f := .glo "room_of") rfl)
  have b_room_of : Binds K fd_room_of ["coats"] [] := F_room_of.binds (ps := ["coats"]) fun _ _ _ _ _ _ us hl => match us, hl with | [_], _ => rfl
  obtain ⟨fd_windows_of, G_windows_of⟩ := c.def_ 12 (d := d_windows_of) rfl
  have F_windows_of : Fun K "windows_of" "windows_of" st_windows_of (He.fAd K ("windows_of", none)) fd_windows_of := fun_of G_windows_of
  have m_windows_of := He.glo_ok X G (c.fact 12 (f := .glo "windows_of") rfl)
  have b_windows_of : Binds K fd_windows_of ["sizes"] [] := F_windows_of.binds (ps := ["sizes"]) fun _ _ _ _ _ _ us hl => match us, hl with | [_], _ => rfl
  obtain ⟨fd_within, G_within⟩ := c.def_ 13 (d := d_within) rfl
  have F_within : Fun K "within" "within" st_within (He.fAd K ("within", none)) fd_within := fun_of G_within
  have m_within := He.glo_ok X G (c.fact 13 (f := .glo "within") rfl)
  have b_within : Binds K fd_within ["spans", "low", "high"] [] := F_within.binds (ps := ["spans", "low", "high"]) fun _ _ _ _ _ _ us hl => match us, hl with | [_, _, _], _ => rfl
  obtain ⟨fd_asks_of, G_asks_of⟩ := c.def_ 14 (d := d_asks_of) rfl
  have F_asks_of : Fun K "asks_of" "asks_of" st_asks_of (He.fAd K ("asks_of", none)) fd_asks_of := fun_of G_asks_of
  have m_asks_of := He.glo_ok X G (c.fact 14 (f := .glo "asks_of") rfl)
  have b_asks_of : Binds K fd_asks_of ["book"] [] := F_asks_of.binds (ps := ["book"]) fun _ _ _ _ _ _ us hl => match us, hl with | [_], _ => rfl
  obtain ⟨fd_has, G_has⟩ := c.def_ 15 (d := d_has) rfl
  have F_has : Fun K "has" "has" st_has (He.fAd K ("has", none)) fd_has := fun_of G_has
  have m_has := He.glo_ok X G (c.fact 15 (f := .glo "has") rfl)
  have b_has : Binds K fd_has ["coats", "low", "high"] [] := F_has.binds (ps := ["coats", "low", "high"]) fun _ _ _ _ _ _ us hl => match us, hl with | [_, _, _], _ => rfl
  obtain ⟨fd_clothes, G_clothes⟩ := c.def_ 16 (d := d_clothes) rfl
  have F_clothes : Fun K "clothes" "clothes" st_clothes (He.fAd K ("clothes", none)) fd_clothes := fun_of G_clothes
  have m_clothes := He.glo_ok X G (c.fact 16 (f := .glo "clothes") rfl)
  have b_clothes : Binds K fd_clothes ["sizes", "coats", "spans"] [] := F_clothes.binds (ps := ["sizes", "coats", "spans"]) fun _ _ _ _ _ _ us hl => match us, hl with | [_, _, _], _ => rfl
  obtain ⟨fd_serving, G_serving⟩ := c.def_ 17 (d := d_serving) rfl
  have F_serving : Fun K "serving" "serving" st_serving (He.fAd K ("serving", none)) fd_serving := fun_of G_serving
  have m_serving := He.glo_ok X G (c.fact 17 (f := .glo "serving") rfl)
  have b_serving : Binds K fd_serving ["book", "room"] [] := F_serving.binds (ps := ["book", "room"]) fun _ _ _ _ _ _ us hl => match us, hl with | [_, _], _ => rfl
  obtain ⟨fd_borne, G_borne⟩ := c.def_ 18 (d := d_borne) rfl
  have F_borne : Fun K "borne" "borne" st_borne (He.fAd K ("borne", none)) fd_borne := fun_of G_borne
  have m_borne := He.glo_ok X G (c.fact 18 (f := .glo "borne") rfl)
  have b_borne : Binds K fd_borne ["book", "room", "winter"] [] := F_borne.binds (ps := ["book", "room", "winter"]) fun _ _ _ _ _ _ us hl => match us, hl with | [_, _, _], _ => rfl
  obtain ⟨fd_heights, G_heights⟩ := c.def_ 19 (d := d_heights) rfl
  have F_heights : Fun K "heights" "heights" st_heights (He.fAd K ("heights", none)) fd_heights := fun_of G_heights
  have m_heights := He.glo_ok X G (c.fact 19 (f := .glo "heights") rfl)
  have b_heights : Binds K fd_heights ["book", "coats"] [] := F_heights.binds (ps := ["book", "coats"]) fun _ _ _ _ _ _ us hl => match us, hl with | [_, _], _ => rfl
  obtain ⟨fd_fewest_more, G_fewest_more⟩ := c.def_ 20 (d := d_fewest_more) rfl
  have F_fewest_more : Fun K "fewest_more" "fewest_more" st_fewest_more (He.fAd K ("fewest_more", none)) fd_fewest_more := fun_of G_fewest_more
  have m_fewest_more := He.glo_ok X G (c.fact 20 (f := .glo "fewest_more") rfl)
  have b_fewest_more : Binds K fd_fewest_more ["book", "coats"] [] := F_fewest_more.binds (ps := ["book", "coats"]) fun _ _ _ _ _ _ us hl => match us, hl with | [_, _], _ => rfl
  obtain ⟨fd_to_buy, G_to_buy⟩ := c.def_ 21 (d := d_to_buy) rfl
  have F_to_buy : Fun K "to_buy" "to_buy" st_to_buy (He.fAd K ("to_buy", none)) fd_to_buy := fun_of G_to_buy
  have m_to_buy := He.glo_ok X G (c.fact 21 (f := .glo "to_buy") rfl)
  have b_to_buy : Binds K fd_to_buy ["book", "room"] [] := F_to_buy.binds (ps := ["book", "room"]) fun _ _ _ _ _ _ us hl => match us, hl with | [_, _], _ => rfl
  obtain ⟨fd__law_deck, G__law_deck⟩ := c.def_ 22 (d := d__law_deck) rfl
  have F__law_deck : Fun K "_law_deck" "_law_deck" st__law_deck (He.fAd K ("_law_deck", none)) fd__law_deck := fun_of G__law_deck
  have m__law_deck := He.glo_ok X G (c.fact 22 (f := .glo "_law_deck") rfl)
  have b__law_deck : Binds K fd__law_deck ["cell", "turn"] [] := F__law_deck.binds (ps := ["cell", "turn"]) fun _ _ _ _ _ _ us hl => match us, hl with | [_, _], _ => rfl
  obtain ⟨fd__law_pick, G__law_pick⟩ := c.def_ 23 (d := d__law_pick) rfl
  have F__law_pick : Fun K "_law_pick" "_law_pick" st__law_pick (He.fAd K ("_law_pick", none)) fd__law_pick := fun_of G__law_pick
  have m__law_pick := He.glo_ok X G (c.fact 23 (f := .glo "_law_pick") rfl)
  have b__law_pick : Binds K fd__law_pick ["deck", "size"] [] := F__law_pick.binds (ps := ["deck", "size"]) fun _ _ _ _ _ _ us hl => match us, hl with | [_, _], _ => rfl
  obtain ⟨fd__law_one, G__law_one⟩ := c.def_ 24 (d := d__law_one) rfl
  have F__law_one : Fun K "_law_one" "_law_one" st__law_one (He.fAd K ("_law_one", none)) fd__law_one := fun_of G__law_one
  have m__law_one := He.glo_ok X G (c.fact 24 (f := .glo "_law_one") rfl)
  have b__law_one : Binds K fd__law_one ["deck", "some"] [] := F__law_one.binds (ps := ["deck", "some"]) fun _ _ _ _ _ _ us hl => match us, hl with | [_, _], _ => rfl
  obtain ⟨fd__law_kin, G__law_kin⟩ := c.def_ 25 (d := d__law_kin) rfl
  have F__law_kin : Fun K "_law_kin" "_law_kin" st__law_kin (He.fAd K ("_law_kin", none)) fd__law_kin := fun_of G__law_kin
  have m__law_kin := He.glo_ok X G (c.fact 25 (f := .glo "_law_kin") rfl)
  have b__law_kin : Binds K fd__law_kin ["e"] [] := F__law_kin.binds (ps := ["e"]) fun _ _ _ _ _ _ us hl => match us, hl with | [_], _ => rfl
  obtain ⟨fd__law_try, G__law_try⟩ := c.def_ 26 (d := d__law_try) rfl
  have F__law_try : Fun K "_law_try" "_law_try" st__law_try (He.fAd K ("_law_try", none)) fd__law_try := fun_of G__law_try
  have m__law_try := He.glo_ok X G (c.fact 26 (f := .glo "_law_try") rfl)
  have b__law_try : Binds K fd__law_try ["door"] [] := F__law_try.binds (ps := ["door"]) fun _ _ _ _ _ _ us hl => match us, hl with | [_], _ => rfl
  obtain ⟨fd__law_sort, G__law_sort⟩ := c.def_ 27 (d := d__law_sort) rfl
  have F__law_sort : Fun K "_law_sort" "_law_sort" st__law_sort (He.fAd K ("_law_sort", none)) fd__law_sort := fun_of G__law_sort
  have m__law_sort := He.glo_ok X G (c.fact 27 (f := .glo "_law_sort") rfl)
  have b__law_sort : Binds K fd__law_sort ["thing"] [] := F__law_sort.binds (ps := ["thing"]) fun _ _ _ _ _ _ us hl => match us, hl with | [_], _ => rfl
  obtain ⟨fd__law_same, G__law_same⟩ := c.def_ 28 (d := d__law_same) rfl
  have F__law_same : Fun K "_law_same" "_law_same" st__law_same (He.fAd K ("_law_same", none)) fd__law_same := fun_of G__law_same
  have m__law_same := He.glo_ok X G (c.fact 28 (f := .glo "_law_same") rfl)
  have b__law_same : Binds K fd__law_same ["told", "due"] [] := F__law_same.binds (ps := ["told", "due"]) fun _ _ _ _ _ _ us hl => match us, hl with | [_, _], _ => rfl
  obtain ⟨fd__law_span, G__law_span⟩ := c.def_ 29 (d := d__law_span) rfl
  have F__law_span : Fun K "_law_span" "_law_span" st__law_span (He.fAd K ("_law_span", none)) fd__law_span := fun_of G__law_span
  have m__law_span := He.glo_ok X G (c.fact 29 (f := .glo "_law_span") rfl)
  have b__law_span : Binds K fd__law_span ["deck", "sizes"] [] := F__law_span.binds (ps := ["deck", "sizes"]) fun _ _ _ _ _ _ us hl => match us, hl with | [_, _], _ => rfl
  obtain ⟨fd__law_book, G__law_book⟩ := c.def_ 30 (d := d__law_book) rfl
  have F__law_book : Fun K "_law_book" "_law_book" st__law_book (He.fAd K ("_law_book", none)) fd__law_book := fun_of G__law_book
  have m__law_book := He.glo_ok X G (c.fact 30 (f := .glo "_law_book") rfl)
  have b__law_book : Binds K fd__law_book ["deck", "sizes_so", "winters_so", "children"] [] := F__law_book.binds (ps := ["deck", "sizes_so", "winters_so", "children"]) fun _ _ _ _ _ _ us hl => match us, hl with | [_, _, _, _], _ => rfl
  obtain ⟨fd__law_room_of, G__law_room_of⟩ := c.def_ 31 (d := d__law_room_of) rfl
  have F__law_room_of : Fun K "_law_room_of" "_law_room_of" st__law_room_of (He.fAd K ("_law_room_of", none)) fd__law_room_of := fun_of G__law_room_of
  have m__law_room_of := He.glo_ok X G (c.fact 31 (f := .glo "_law_room_of") rfl)
  have b__law_room_of : Binds K fd__law_room_of ["coats"] [] := F__law_room_of.binds (ps := ["coats"]) fun _ _ _ _ _ _ us hl => match us, hl with | [_], _ => rfl
  obtain ⟨fd__law_coats, G__law_coats⟩ := c.def_ 32 (d := d__law_coats) rfl
  have F__law_coats : Fun K "_law_coats" "_law_coats" st__law_coats (He.fAd K ("_law_coats", none)) fd__law_coats := fun_of G__law_coats
  have m__law_coats := He.glo_ok X G (c.fact 32 (f := .glo "_law_coats") rfl)
  have b__law_coats : Binds K fd__law_coats ["book", "room"] [] := F__law_coats.binds (ps := ["book", "room"]) fun _ _ _ _ _ _ us hl => match us, hl with | [_, _], _ => rfl
  obtain ⟨fd__law_room, G__law_room⟩ := c.def_ 33 (d := d__law_room) rfl
  have F__law_room : Fun K "_law_room" "_law_room" st__law_room (He.fAd K ("_law_room", none)) fd__law_room := fun_of G__law_room
  have m__law_room := He.glo_ok X G (c.fact 33 (f := .glo "_law_room") rfl)
  have b__law_room : Binds K fd__law_room ["deck", "book", "most"] [] := F__law_room.binds (ps := ["deck", "book", "most"]) fun _ _ _ _ _ _ us hl => match us, hl with | [_, _, _], _ => rfl
  obtain ⟨fd__law_windows, G__law_windows⟩ := c.def_ 34 (d := d__law_windows) rfl
  have F__law_windows : Fun K "_law_windows" "_law_windows" st__law_windows (He.fAd K ("_law_windows", none)) fd__law_windows := fun_of G__law_windows
  have m__law_windows := He.glo_ok X G (c.fact 34 (f := .glo "_law_windows") rfl)
  have b__law_windows : Binds K fd__law_windows ["sizes"] [] := F__law_windows.binds (ps := ["sizes"]) fun _ _ _ _ _ _ us hl => match us, hl with | [_], _ => rfl
  obtain ⟨fd__law_clothed, G__law_clothed⟩ := c.def_ 35 (d := d__law_clothed) rfl
  have F__law_clothed : Fun K "_law_clothed" "_law_clothed" st__law_clothed (He.fAd K ("_law_clothed", none)) fd__law_clothed := fun_of G__law_clothed
  have m__law_clothed := He.glo_ok X G (c.fact 35 (f := .glo "_law_clothed") rfl)
  have b__law_clothed : Binds K fd__law_clothed ["coats", "spans"] [] := F__law_clothed.binds (ps := ["coats", "spans"]) fun _ _ _ _ _ _ us hl => match us, hl with | [_, _], _ => rfl
  obtain ⟨fd__law_serves, G__law_serves⟩ := c.def_ 36 (d := d__law_serves) rfl
  have F__law_serves : Fun K "_law_serves" "_law_serves" st__law_serves (He.fAd K ("_law_serves", none)) fd__law_serves := fun_of G__law_serves
  have m__law_serves := He.glo_ok X G (c.fact 36 (f := .glo "_law_serves") rfl)
  have b__law_serves : Binds K fd__law_serves ["book", "coats"] [] := F__law_serves.binds (ps := ["book", "coats"]) fun _ _ _ _ _ _ us hl => match us, hl with | [_, _], _ => rfl
  obtain ⟨fd_law, G_law⟩ := c.def_ 37 (d := d_law) rfl
  have F_law : Fun K "law" "law" st_law (He.fAd K ("law", none)) fd_law := fun_of G_law
  have e := hfa.symm.trans (He.glo_ok X G (c.fact 37 (f := .glo "law") rfl))
  cases e
  have b := FunD.bindsA (ps := ["script"]) G_law fun _ _ _ _ _ _ us hl => match us, hl with | [_], _ => rfl
  refine ⟨fd_law, fun s v => b s [v] rfl, fun base hb hn TB => ?_⟩
  have TR : TryH P w K mg base st__law_try := ⟨_, fd__law_try, _, fd__law_kin, M, m__law_try, F__law_try, b__law_try, m__law_kin, F__law_kin.kp, b__law_kin, ok__law_kin F__law_kin T M⟩
  have C_is_from : Cal P w K (tabsK K tqD) mg base 1 "is_from" false false 3 (f_is_from false) := ⟨_, _, _, m_is_from, F_is_from.kp, b_is_from, ok_is_from F_is_from T ⟩
  have C_is_rising : Cal P w K (tabsK K tqD) mg base 1 "is_rising" false false 1 (f_is_rising false) := ⟨_, _, _, m_is_rising, F_is_rising.kp, b_is_rising, ok_is_rising F_is_rising T ⟩
  have C_are_tuples : Cal P w K (tabsK K tqD) mg base 1 "are_tuples" false false 2 (f_are_tuples false) := ⟨_, _, _, m_are_tuples, F_are_tuples.kp, b_are_tuples, ok_are_tuples F_are_tuples T ⟩
  have C_is_span : Cal P w K (tabsK K tqD) mg base 2 "is_span" false false 2 (f_is_span false) := ⟨_, _, _, m_is_span, F_is_span.kp, b_is_span, ok_is_span F_is_span T C_is_from⟩
  have C_is_winter : Cal P w K (tabsK K tqD) mg base 3 "is_winter" false false 2 (f_is_winter false) := ⟨_, _, _, m_is_winter, F_is_winter.kp, b_is_winter, ok_is_winter F_is_winter T C_is_span⟩
  have C_is_book : Cal P w K (tabsK K tqD) mg base 4 "is_book" false false 1 (f_is_book false) := ⟨_, _, _, m_is_book, F_is_book.kp, b_is_book, ok_is_book F_is_book T C_is_from C_is_winter⟩
  have C_need_book : Cal P w K (tabsK K tqD) mg base 5 "need_book" false false 1 (f_need_book false) := ⟨_, _, _, m_need_book, F_need_book.kp, b_need_book, ok_need_book F_need_book T C_is_book⟩
  have C_is_stock : Cal P w K (tabsK K tqD) mg base 2 "is_stock" false false 2 (f_is_stock false) := ⟨_, _, _, m_is_stock, F_is_stock.kp, b_is_stock, ok_is_stock F_is_stock T C_are_tuples C_is_from C_is_rising⟩
  have C_need_room : Cal P w K (tabsK K tqD) mg base 6 "need_room" false false 2 (f_need_room false) := ⟨_, _, _, m_need_room, F_need_room.kp, b_need_room, ok_need_room F_need_room T C_is_stock C_need_book⟩
  have C_need_winter : Cal P w K (tabsK K tqD) mg base 2 "need_winter" false false 2 (f_need_winter false) := ⟨_, _, _, m_need_winter, F_need_winter.kp, b_need_winter, ok_need_winter F_need_winter T C_is_from⟩
  have C_coats_of : Cal P w K (tabsK K tqD) mg base 1 "coats_of" false true 2 (f_coats_of false) := ⟨_, _, _, m_coats_of, F_coats_of.kp, b_coats_of, ok_coats_of F_coats_of T ⟩
  have C_room_of : Cal P w K (tabsK K tqD) mg base 1 "room_of" false false 1 (f_room_of false) := ⟨_, _, _, m_room_of, F_room_of.kp, b_room_of, ok_room_of F_room_of T ⟩
  have C_windows_of : Cal P w K (tabsK K tqD) mg base 1 "windows_of" false true 1 (f_windows_of false) := ⟨_, _, _, m_windows_of, F_windows_of.kp, b_windows_of, ok_windows_of F_windows_of T ⟩
  have C_within : Cal P w K (tabsK K tqD) mg base 1 "within" false false 3 (f_within false) := ⟨_, _, _, m_within, F_within.kp, b_within, ok_within F_within T ⟩
  have C_asks_of : Cal P w K (tabsK K tqD) mg base 2 "asks_of" false true 1 (f_asks_of false) := ⟨_, _, _, m_asks_of, F_asks_of.kp, b_asks_of, ok_asks_of F_asks_of T C_windows_of C_within⟩
  have C_has : Cal P w K (tabsK K tqD) mg base 1 "has" false false 3 (f_has false) := ⟨_, _, _, m_has, F_has.kp, b_has, ok_has F_has T ⟩
  have C_clothes : Cal P w K (tabsK K tqD) mg base 2 "clothes" false false 3 (f_clothes false) := ⟨_, _, _, m_clothes, F_clothes.kp, b_clothes, ok_clothes F_clothes T C_has C_windows_of C_within⟩
  have C_serving : Cal P w K (tabsK K tqD) mg base 3 "serving" false false 2 (f_serving false) := ⟨_, _, _, m_serving, F_serving.kp, b_serving, ok_serving F_serving T C_clothes C_coats_of⟩
  have C_borne : Cal P w K (tabsK K tqD) mg base 7 "borne" false true 3 (f_borne false) := ⟨_, _, _, m_borne, F_borne.kp, b_borne, ok_borne F_borne T C_coats_of C_has C_need_room C_need_winter C_serving C_windows_of C_within⟩
  have C_heights : Cal P w K (tabsK K tqD) mg base 3 "heights" false false 2 (f_heights false) := ⟨_, _, _, m_heights, F_heights.kp, b_heights, ok_heights F_heights T C_asks_of C_has⟩
  have C_fewest_more : Cal P w K (tabsK K tqD) mg base 4 "fewest_more" false true 2 (f_fewest_more false) := ⟨_, _, _, m_fewest_more, F_fewest_more.kp, b_fewest_more, ok_fewest_more F_fewest_more T C_heights⟩
  have C_to_buy : Cal P w K (tabsK K tqD) mg base 7 "to_buy" false false 2 (f_to_buy false) := ⟨_, _, _, m_to_buy, F_to_buy.kp, b_to_buy, ok_to_buy F_to_buy T C_coats_of C_fewest_more C_need_room C_room_of⟩
  have C__law_deck : Cal P w K (tabsK K tqD) mg base 1 "_law_deck" false true 2 (f__law_deck false) := ⟨_, _, _, m__law_deck, F__law_deck.kp, b__law_deck, ok__law_deck F__law_deck T ⟩
  have C__law_pick : Cal P w K (tabsK K tqD) mg base 1 "_law_pick" true false 2 (f__law_pick false) := ⟨_, _, _, m__law_pick, F__law_pick.kp, b__law_pick, ok__law_pick F__law_pick T ⟩
  have C__law_one : Cal P w K (tabsK K tqD) mg base 2 "_law_one" true false 2 (f__law_one false) := ⟨_, _, _, m__law_one, F__law_one.kp, b__law_one, ok__law_one F__law_one T C__law_pick⟩
  have C__law_sort : Cal P w K (tabsK K tqD) mg base 1 "_law_sort" false false 1 (f__law_sort false) := ⟨_, _, _, m__law_sort, F__law_sort.kp, b__law_sort, ok__law_sort F__law_sort T ⟩
  have C__law_same : Cal P w K (tabsK K tqD) mg base 13 "_law_same" false false 2 (f__law_same false) := ⟨_, _, _, m__law_same, F__law_same.kp, b__law_same, ok__law_same F__law_same T C__law_sort m__law_same b__law_same 12⟩
  have C__law_span : Cal P w K (tabsK K tqD) mg base 3 "_law_span" true false 2 (f__law_span false) := ⟨_, _, _, m__law_span, F__law_span.kp, b__law_span, ok__law_span F__law_span T C__law_one C__law_pick⟩
  have C__law_book : Cal P w K (tabsK K tqD) mg base 4 "_law_book" true false 4 (f__law_book false) := ⟨_, _, _, m__law_book, F__law_book.kp, b__law_book, ok__law_book F__law_book T C__law_pick C__law_span⟩
  have C__law_room_of : Cal P w K (tabsK K tqD) mg base 1 "_law_room_of" false false 1 (f__law_room_of false) := ⟨_, _, _, m__law_room_of, F__law_room_of.kp, b__law_room_of, ok__law_room_of F__law_room_of T ⟩
  have C__law_coats : Cal P w K (tabsK K tqD) mg base 1 "_law_coats" false true 2 (f__law_coats false) := ⟨_, _, _, m__law_coats, F__law_coats.kp, b__law_coats, ok__law_coats F__law_coats T ⟩
  have C__law_room : Cal P w K (tabsK K tqD) mg base 3 "_law_room" true false 3 (f__law_room false) := ⟨_, _, _, m__law_room, F__law_room.kp, b__law_room, ok__law_room F__law_room T C__law_one C__law_pick C__law_room_of⟩
  have C__law_windows : Cal P w K (tabsK K tqD) mg base 1 "_law_windows" false false 1 (f__law_windows false) := ⟨_, _, _, m__law_windows, F__law_windows.kp, b__law_windows, ok__law_windows F__law_windows T ⟩
  have C__law_clothed : Cal P w K (tabsK K tqD) mg base 1 "_law_clothed" false false 2 (f__law_clothed false) := ⟨_, _, _, m__law_clothed, F__law_clothed.kp, b__law_clothed, ok__law_clothed F__law_clothed T (lamHyp F__law_clothed ex (.head _) TB) ⟩
  have C__law_serves : Cal P w K (tabsK K tqD) mg base 2 "_law_serves" false false 2 (f__law_serves false) := ⟨_, _, _, m__law_serves, F__law_serves.kp, b__law_serves, ok__law_serves F__law_serves T C__law_clothed⟩
  exact ok_law F_law T (lamHyp F_law ex (.tail _ (.head _)) TB) TR C__law_book C__law_clothed C__law_coats C__law_deck C__law_one C__law_room C__law_room_of C__law_same C__law_serves C__law_windows C_borne C_to_buy
end DL
open PySem PySem.W PySem.Calls PyProof.Rows
theorem DL.holds_by (plain : ∀ ns : List Int, ns.length ≤ 63 → ∃ d, DL.f_law false [.lst (ns.map DL.D.int)] = .ok (.bl true, d)) : PySem.Challenge.rw_allwinters_k08_whole_who_may_still_come.Holds := by
  w_on; o_law
  refine HandSHeadRun.head_any (r := OpenLaw.row PySem.Challenge.rw_allwinters_k08_whole_who_may_still_come) (q := view (OpenLaw.row PySem.Challenge.rw_allwinters_k08_whole_who_may_still_come).prog [60]) (H := DL.hk) (ob := DL.obD) (M := 6000) (loose := DL.loose) (d := HandSHeadRun.topDef (OpenLaw.row PySem.Challenge.rw_allwinters_k08_whole_who_may_still_come).prog 60) (kwd := []) DL.obD_eq
    (by kernel_rfl) (fun s => by kernel_rfl) DL.run (by kernel_rfl) (by kernel_rfl) (by kernel_rfl) (by rfl) (by first | assumption | decide +kernel) (by decide +kernel) ⟨rfl, rfl, rfl, rfl, rfl, by decide +kernel⟩ ?hw ?hc
  case hw => w_witness2
  case hc =>
    refine DL.walk_T (l := PySem.Challenge.rw_allwinters_k08_whole_who_may_still_come) (n := 63) (k := 14) (x := "script") rfl (by decide) (by kernel_rfl) ⟨rfl, by decide, by decide⟩ plain ?F
    intro w mg fa h K KX c ex G hmg0
    have hmg : mg ("law" : PySem.Str) = some (.ref fa) := by
      have e : (HandSHeadRun.topDef (OpenLaw.row PySem.Challenge.rw_allwinters_k08_whole_who_may_still_come).prog 60).name = ("law" : PySem.Str) := by kernel_rfl
      rw [← e]
      exact hmg0
    exact DL.facts (P := (PySem.Challenge.rw_allwinters_k08_whole_who_may_still_come).prog) (w := w) KX G hmg c ex

/-! ## MA -/
/-! MA: windows, coats, clothing: the plain mathematics of allwinters. -/
namespace AW
abbrev Span := Int × Int
def inW (l h : Int) (s : Span) : Bool := decide (l ≤ s.1) && decide (s.2 ≤ h)
/-- how many spans lie within a window -/
def within (sp : List Span) (l h : Int) : Int := ((sp.filter (inW l h)).length : Int)
/-- how many coats of a size -/
def cf (c : List Int) (s : Int) : Int := if 1 ≤ s then c.getD (s - 1).toNat 0 else 0
def sumF (f : Int → Int) (l : Int) : Nat → Int
  | 0 => 0
  | n + 1 => sumF f l n + f (l + n)
def hasF (f : Int → Int) (l h : Int) : Int := sumF f l (h - l + 1).toNat
def has (c : List Int) (l h : Int) : Int := hasF (cf c) l h

/-! ### sums -/
theorem sumF_congr {f g : Int → Int} {l : Int} : ∀ {n : Nat}, (∀ s, l ≤ s → s < l + n → f s = g s) → sumF f l n = sumF g l n
  | 0, _ => rfl
  | n + 1, h => by
    simp only [sumF]
    rw [sumF_congr fun s h1 h2 => h s h1 (by omega), h (l + n) (by omega) (by omega)]
theorem sumF_split {f : Int → Int} {l : Int} {n : Nat} : ∀ {m : Nat}, sumF f l (n + m) = sumF f l n + sumF f (l + n) m
  | 0 => by simp [sumF]
  | m + 1 => by
    rw [← Nat.add_assoc]
    simp only [sumF]
    rw [sumF_split, show l + (n : Int) + (m : Int) = l + ((n + m : Nat) : Int) by omega]
    omega
theorem sumF_nonneg {f : Int → Int} {l : Int} : ∀ {n : Nat}, (∀ s, l ≤ s → s < l + n → 0 ≤ f s) → 0 ≤ sumF f l n
  | 0, _ => Int.le_refl _
  | n + 1, h => by
    simp only [sumF]
    have h1 := sumF_nonneg (f := f) (l := l) (n := n) fun s h1 h2 => h s h1 (by omega)
    have h2 := h (l + n) (by omega) (by omega)
    omega
theorem sumF_add {f g : Int → Int} {l : Int} : ∀ {n : Nat}, sumF (fun s => f s + g s) l n = sumF f l n + sumF g l n
  | 0 => rfl
  | n + 1 => by
    simp only [sumF]
    rw [sumF_add]; omega
theorem sumF_le {f g : Int → Int} {l : Int} : ∀ {n : Nat}, (∀ s, l ≤ s → s < l + n → f s ≤ g s) → sumF f l n ≤ sumF g l n
  | 0, _ => Int.le_refl _
  | n + 1, h => by
    simp only [sumF]
    have h1 := sumF_le (f := f) (g := g) (l := l) (n := n) fun s h1 h2 => h s h1 (by omega)
    have h2 := h (l + n) (by omega) (by omega)
    omega
theorem sumF_pos {f : Int → Int} {l : Int} : ∀ {n : Nat}, 0 < sumF f l n → ∃ s, l ≤ s ∧ s < l + n ∧ 0 < f s
  | 0, h => by simp [sumF] at h
  | n + 1, h => by
    simp only [sumF] at h
    by_cases q : 0 < f (l + n)
    · exact ⟨l + n, by omega, by omega, q⟩
    · obtain ⟨s, h1, h2, h3⟩ := sumF_pos (f := f) (l := l) (n := n) (by omega)
      exact ⟨s, h1, by omega, h3⟩
theorem sumF_upd {f g : Int → Int} {l t d : Int} (e : ∀ s, g s = if s = t then f s + d else f s) : ∀ {n : Nat}, sumF g l n = sumF f l n + if l ≤ t ∧ t < l + n then d else 0
  | 0 => by simp only [sumF]; rw [if_neg (by omega)]; rfl
  | n + 1 => by
    simp only [sumF]
    rw [sumF_upd e, e (l + n)]
    by_cases h1 : l + (n : Int) = t
    · rw [if_pos h1, if_neg (by omega), if_pos (by omega)]; omega
    · rw [if_neg h1]
      by_cases h2 : l ≤ t ∧ t < l + (n : Int)
      · rw [if_pos h2, if_pos (by omega)]; omega
      · rw [if_neg h2, if_neg (by omega)]; omega
theorem hasF_congr {f g : Int → Int} {l h : Int} (e : ∀ s, l ≤ s → s ≤ h → f s = g s) : hasF f l h = hasF g l h := sumF_congr fun s h1 h2 => e s h1 (by omega)
theorem hasF_split {f : Int → Int} {l k h : Int} (h1 : l ≤ k) (h2 : k ≤ h + 1) : hasF f l h = hasF f l (k - 1) + hasF f k h := by
  unfold hasF
  rw [show (h - l + 1).toNat = (k - 1 - l + 1).toNat + (h - k + 1).toNat by omega, sumF_split, show l + ((k - 1 - l + 1).toNat : Int) = k by omega]
theorem hasF_nonneg {f : Int → Int} {l h : Int} (e : ∀ s, l ≤ s → s ≤ h → 0 ≤ f s) : 0 ≤ hasF f l h := sumF_nonneg fun s h1 h2 => e s h1 (by omega)
theorem hasF_le {f g : Int → Int} {l h : Int} (e : ∀ s, l ≤ s → s ≤ h → f s ≤ g s) : hasF f l h ≤ hasF g l h := sumF_le fun s h1 h2 => e s h1 (by omega)
theorem hasF_add {f g : Int → Int} {l h : Int} : hasF (fun s => f s + g s) l h = hasF f l h + hasF g l h := sumF_add
theorem hasF_pos {f : Int → Int} {l h : Int} (q : 0 < hasF f l h) : ∃ s, l ≤ s ∧ s ≤ h ∧ 0 < f s := by
  obtain ⟨s, h1, h2, h3⟩ := sumF_pos q
  exact ⟨s, h1, by omega, h3⟩
theorem hasF_upd {f g : Int → Int} {l h t d : Int} (e : ∀ s, g s = if s = t then f s + d else f s) : hasF g l h = hasF f l h + if l ≤ t ∧ t ≤ h then d else 0 := by
  unfold hasF
  rw [sumF_upd e]
  by_cases q : l ≤ t ∧ t ≤ h
  · rw [if_pos q, if_pos (by omega)]
  · rw [if_neg q, if_neg (by omega)]
theorem hasF_one {f : Int → Int} {l : Int} : hasF f l l = f l := by
  unfold hasF
  rw [show (l - l + 1).toNat = 1 by omega]
  simp [sumF]
theorem hasF_empty {f : Int → Int} {l h : Int} (q : h < l) : hasF f l h = 0 := by
  unfold hasF
  rw [show (h - l + 1).toNat = 0 by omega]
  rfl

/-! ### counts of coats -/
theorem cf_nil (s : Int) : cf [] s = 0 := by unfold cf; split <;> simp
theorem cf_out {c : List Int} {s : Int} (h : s < 1 ∨ c.length < s) : cf c s = 0 := by
  unfold cf
  split
  · rw [List.getD_eq_getElem?_getD, List.getElem?_eq_none (by omega)]; rfl
  · rfl
theorem cf_in {c : List Int} {s : Int} (h1 : 1 ≤ s) (h2 : s ≤ c.length) : cf c s = c[(s - 1).toNat]'(by omega) := by
  unfold cf
  rw [if_pos h1, List.getD_eq_getElem?_getD, List.getElem?_eq_getElem (by omega)]; rfl
theorem cf_set {c : List Int} {t v : Int} (h1 : 1 ≤ t) (h2 : t ≤ c.length) (s : Int) : cf (c.set (t - 1).toNat v) s = if s = t then v else cf c s := by
  unfold cf
  by_cases h : 1 ≤ s
  · rw [if_pos h, List.getD_eq_getElem?_getD, List.getElem?_set]
    by_cases e : s = t
    · subst e
      rw [if_pos rfl, if_pos (by omega), if_pos rfl]; rfl
    · rw [if_neg (by omega), if_neg e, if_pos h, List.getD_eq_getElem?_getD]
  · rw [if_neg h, if_neg (by omega), if_neg h]
theorem cf_add_set {c : List Int} {t d : Int} (h1 : 1 ≤ t) (h2 : t ≤ c.length) (s : Int) : cf (c.set (t - 1).toNat (cf c t + d)) s = if s = t then cf c s + d else cf c s := by
  rw [cf_set h1 h2]
  by_cases e : s = t
  · rw [if_pos e, if_pos e, e]
  · rw [if_neg e, if_neg e]
theorem has_set {c : List Int} {t d l h : Int} (h1 : 1 ≤ t) (h2 : t ≤ c.length) : has (c.set (t - 1).toNat (cf c t + d)) l h = has c l h + if l ≤ t ∧ t ≤ h then d else 0 := hasF_upd (cf_add_set h1 h2)
/-- no coats less than none -/
def NN (c : List Int) : Prop := ∀ s, 0 ≤ cf c s
theorem NN.mem {c : List Int} (h : ∀ x ∈ c, 0 ≤ x) : NN c := fun s => by
  by_cases q : s < 1 ∨ c.length < s
  · rw [cf_out q]; exact Int.le_refl _
  · rw [cf_in (by omega) (by omega)]
    exact h _ (List.getElem_mem _)
theorem NN.of {c : List Int} (h : NN c) : ∀ x ∈ c, 0 ≤ x := fun x hx => by
  obtain ⟨i, hi, rfl⟩ := List.getElem_of_mem hx
  have := h (i + 1)
  rw [cf_in (by omega) (by omega)] at this
  simpa using this
theorem NN.set {c : List Int} {t d : Int} (h : NN c) (h1 : 1 ≤ t) (h2 : t ≤ c.length) (h3 : 0 ≤ cf c t + d) : NN (c.set (t - 1).toNat (cf c t + d)) := fun s => by
  rw [cf_add_set h1 h2]
  split
  · rename_i e; rw [e]; exact h3
  · exact h s
theorem has_nonneg {c : List Int} (h : NN c) (l k : Int) : 0 ≤ has c l k := hasF_nonneg fun s _ _ => h s

/-! ### spans within windows -/
theorem within_nil (l h : Int) : within [] l h = 0 := rfl
theorem within_cons (s : Span) (sp : List Span) (l h : Int) : within (s :: sp) l h = (if l ≤ s.1 ∧ s.2 ≤ h then 1 else 0) + within sp l h := by
  unfold within inW
  rw [List.filter_cons]
  by_cases q : l ≤ s.1 ∧ s.2 ≤ h
  · rw [if_pos (by simpa using q), if_pos q, List.length_cons]; omega
  · rw [if_neg (by simpa using q), if_neg q]; omega
theorem within_nonneg (sp : List Span) (l h : Int) : 0 ≤ within sp l h := by unfold within; omega
theorem within_append (a b : List Span) (l h : Int) : within (a ++ b) l h = within a l h + within b l h := by
  unfold within
  rw [List.filter_append, List.length_append]; omega
theorem within_perm {a b : List Span} (p : a.Perm b) (l h : Int) : within a l h = within b l h := by
  unfold within
  rw [(p.filter _).length_eq]
theorem within_le_length (sp : List Span) (l h : Int) : within sp l h ≤ sp.length := by
  unfold within
  have := List.length_filter_le (inW l h) sp
  omega
theorem within_mono {sp : List Span} {l h l' h' : Int} (h1 : l' ≤ l) (h2 : h ≤ h') : within sp l h ≤ within sp l' h' := by
  induction sp with
  | nil => exact Int.le_refl _
  | cons s sp ih =>
    rw [within_cons, within_cons]
    by_cases q : l ≤ s.1 ∧ s.2 ≤ h
    · rw [if_pos q, if_pos (by omega)]; omega
    · rw [if_neg q]
      split <;> omega
theorem within_zero {sp : List Span} {l h : Int} (q : ∀ s ∈ sp, ¬ (l ≤ s.1 ∧ s.2 ≤ h)) : within sp l h = 0 := by
  induction sp with
  | nil => rfl
  | cons s sp ih =>
    rw [within_cons, if_neg (q s List.mem_cons_self), ih fun x hx => q x (List.mem_cons_of_mem _ hx)]; rfl
/-- spans of sizes from 1 to m -/
def VS (m : Int) (sp : List Span) : Prop := ∀ s ∈ sp, 1 ≤ s.1 ∧ s.1 ≤ s.2 ∧ s.2 ≤ m
theorem VS.cons {m : Int} {s : Span} {sp : List Span} : VS m (s :: sp) ↔ (1 ≤ s.1 ∧ s.1 ≤ s.2 ∧ s.2 ≤ m) ∧ VS m sp := by
  unfold VS
  simp
theorem VS.perm {m : Int} {a b : List Span} (p : a.Perm b) (h : VS m a) : VS m b := fun s hs => h s (p.mem_iff.mpr hs)
/-- each window has as many coats as are asked -/
def Hall (m : Int) (c : List Int) (sp : List Span) : Prop := ∀ l h, 1 ≤ l → l ≤ h → h ≤ m → within sp l h ≤ has c l h
theorem Hall.perm {m : Int} {c : List Int} {a b : List Span} (p : a.Perm b) (h : Hall m c a) : Hall m c b := fun l k h1 h2 h3 => by
  rw [← within_perm p]; exact h l k h1 h2 h3
theorem Hall.nil {m : Int} {c : List Int} (n : NN c) : Hall m c [] := fun l h _ _ _ => has_nonneg n l h
/-- one span takes a coat, the others are served -/
theorem Hall.put {m : Int} {c : List Int} {s : Span} {sp : List Span} {t : Int} (hs : 1 ≤ s.1 ∧ s.1 ≤ s.2 ∧ s.2 ≤ m) (hm : m ≤ c.length) (h1 : s.1 ≤ t) (h2 : t ≤ s.2) (h : Hall m (c.set (t - 1).toNat (cf c t - 1)) sp) : Hall m c (s :: sp) := fun l k q1 q2 q3 => by
  have := h l k q1 q2 q3
  rw [show cf c t - 1 = cf c t + (-1) by omega, has_set (by omega) (by omega)] at this
  rw [within_cons]
  by_cases e : l ≤ s.1 ∧ s.2 ≤ k
  · rw [if_pos e]
    rw [if_pos (by omega)] at this
    omega
  · rw [if_neg e]
    split at this <;> omega
/-- where each window has enough, the span that ends first may take the least coat that fits -/
theorem Hall.take {m : Int} {c : List Int} {s : Span} {sp : List Span} {t : Int} (n : NN c) (hs : 1 ≤ s.1 ∧ s.1 ≤ s.2 ∧ s.2 ≤ m) (hm : m ≤ c.length) (hf : ∀ x ∈ sp, s.2 ≤ x.2) (h1 : s.1 ≤ t) (h2 : t ≤ s.2) (ht : 0 < cf c t) (hl : ∀ z, s.1 ≤ z → z < t → cf c z = 0)
    (h : Hall m c (s :: sp)) : Hall m (c.set (t - 1).toNat (cf c t - 1)) sp := fun l k q1 q2 q3 => by
  rw [show cf c t - 1 = cf c t + (-1) by omega, has_set (by omega) (by omega)]
  have a := h l k q1 q2 q3
  rw [within_cons] at a
  by_cases e : l ≤ t ∧ t ≤ k
  · rw [if_pos e]
    by_cases e1 : l ≤ s.1 ∧ s.2 ≤ k
    · rw [if_pos e1] at a; omega
    · by_cases e2 : k < s.2
      · rw [within_zero fun x hx z => by have := hf x hx; omega]
        have : has c l k = has c l (t - 1) + has c t k := hasF_split (by omega) (by omega)
        have h5 : has c t k = has c t (t + 1 - 1) + has c (t + 1) k := hasF_split (by omega) (by omega)
        rw [show t + 1 - 1 = t by omega] at h5
        have h6 : has c t t = cf c t := hasF_one
        have h7 := has_nonneg n l (t - 1)
        have h8 := has_nonneg n (t + 1) k
        omega
      · have b := h s.1 k (by omega) (by omega) q3
        rw [within_cons, if_pos (by omega)] at b
        have h5 : has c s.1 k = has c s.1 (l - 1) + has c l k := hasF_split (by omega) (by omega)
        have h6 : has c s.1 (l - 1) = hasF (fun _ => 0) s.1 (l - 1) := hasF_congr fun z z1 z2 => hl z z1 (by omega)
        have h7 : hasF (fun _ => 0) s.1 (l - 1) ≤ 0 := by
          unfold hasF
          generalize (l - 1 - s.1 + 1).toNat = n
          induction n with
          | zero => exact Int.le_refl _
          | succ n ih => simp only [sumF]; omega
        have h8 : within sp l k ≤ within sp s.1 k := within_mono (by omega) (Int.le_refl _)
        omega
  · rw [if_neg e]
    split at a <;> omega
theorem Hall.some_coat {m : Int} {c : List Int} {s : Span} {sp : List Span} (hs : 1 ≤ s.1 ∧ s.1 ≤ s.2 ∧ s.2 ≤ m) (h : Hall m c (s :: sp)) : ∃ z, s.1 ≤ z ∧ z ≤ s.2 ∧ 0 < cf c z := by
  have := h s.1 s.2 hs.1 hs.2.1 hs.2.2
  rw [within_cons, if_pos (by omega)] at this
  have q := within_nonneg sp s.1 s.2
  exact hasF_pos (show 0 < hasF (cf c) s.1 s.2 from by unfold has at this; omega)

/-! ### ranges; clothing whose span ends first -/
def rng (l h : Int) : List Int := (List.range (h - l).toNat).map fun (i : Nat) => l + (i : Int)
theorem rng_nil {l h : Int} (q : h ≤ l) : rng l h = [] := by
  unfold rng
  rw [show (h - l).toNat = 0 by omega]; rfl
theorem rng_cons {l h : Int} (q : l < h) : rng l h = l :: rng (l + 1) h := by
  unfold rng
  rw [show (h - l).toNat = (h - (l + 1)).toNat + 1 by omega, List.range_succ_eq_map, List.map_cons, List.map_map]
  congr 1
  · simp
  · apply List.map_congr_left
    intro i _
    simp only [Function.comp]
    omega
theorem mem_rng {l h x : Int} : x ∈ rng l h ↔ l ≤ x ∧ x < h := by
  unfold rng
  simp only [List.mem_map, List.mem_range]
  constructor
  · rintro ⟨i, h1, rfl⟩; omega
  · rintro ⟨h1, h2⟩; exact ⟨(x - l).toNat, by omega, by omega⟩
theorem rng_len {l h : Int} : (rng l h).length = (h - l).toNat := by unfold rng; simp
theorem rng_snoc {l h : Int} (q : l ≤ h) : rng l (h + 1) = rng l h ++ [h] := by
  unfold rng
  rw [show (h + 1 - l).toNat = (h - l).toNat + 1 by omega, List.range_succ, List.map_append]
  congr 1
  simp
  omega
theorem rng_pairwise (l h : Int) : (rng l h).Pairwise (· < ·) := by
  unfold rng
  rw [List.pairwise_map]
  exact List.pairwise_lt_range.imp fun h => by omega
/-- the sizes of a span of which there are coats -/
def fits (c : List Int) (s : Span) : List Int := (rng s.1 (s.2 + 1)).filter fun z => decide (0 < cf c z)
theorem fits_cons {c : List Int} {s : Span} {t : Int} {r : List Int} (h : fits c s = t :: r) : s.1 ≤ t ∧ t ≤ s.2 ∧ 0 < cf c t ∧ ∀ z, s.1 ≤ z → z < t → ¬ 0 < cf c z := by
  have hm : t ∈ fits c s := by rw [h]; exact List.mem_cons_self
  unfold fits at hm
  rw [List.mem_filter, mem_rng] at hm
  refine ⟨hm.1.1, by omega, by simpa using hm.2, fun z h1 h2 h3 => ?_⟩
  have pw : (fits c s).Pairwise (· < ·) := (rng_pairwise _ _).sublist List.filter_sublist
  have hz : z ∈ fits c s := by
    unfold fits
    rw [List.mem_filter, mem_rng]
    exact ⟨⟨h1, by omega⟩, by simpa using h3⟩
  rw [h] at pw hz
  rcases List.mem_cons.mp hz with rfl | hz
  · omega
  · have := (List.pairwise_cons.mp pw).1 z hz
    omega
theorem fits_nil {c : List Int} {s : Span} (h : fits c s = []) : ∀ z, s.1 ≤ z → z ≤ s.2 → ¬ 0 < cf c z := fun z h1 h2 h3 => by
  have hz : z ∈ fits c s := by
    unfold fits
    rw [List.mem_filter, mem_rng]
    exact ⟨⟨h1, by omega⟩, by simpa using h3⟩
  rw [h] at hz
  cases hz
def clothed (c : List Int) : List Span → Bool
  | [] => true
  | s :: r => match fits c s with
    | [] => false
    | t :: _ => clothed (c.set (t - 1).toNat (cf c t - 1)) r
theorem clothed_iff {m : Int} : ∀ {sp : List Span} {c : List Int}, NN c → m ≤ c.length → VS m sp → sp.Pairwise (fun a b => a.2 ≤ b.2) → (clothed c sp = true ↔ Hall m c sp)
  | [], c, n, _, _, _ => by simp [clothed, Hall.nil n]
  | s :: r, c, n, hm, hv, hp => by
    obtain ⟨hs, hv⟩ := VS.cons.mp hv
    obtain ⟨hf, hp⟩ := List.pairwise_cons.mp hp
    unfold clothed
    split
    · rename_i q
      constructor
      · intro z; cases z
      · intro h
        obtain ⟨z, h1, h2, h3⟩ := h.some_coat hs
        exact absurd h3 (fits_nil q z h1 h2)
    · rename_i t r' q
      obtain ⟨h1, h2, h3, h4⟩ := fits_cons q
      have n' : NN (c.set (t - 1).toNat (cf c t - 1)) := n.set (d := -1) (by omega) (by omega) (by omega)
      rw [clothed_iff n' (by rw [List.length_set]; exact hm) hv hp]
      constructor
      · exact Hall.put hs hm h1 h2
      · exact Hall.take n hs hm hf h1 h2 h3 fun z z1 z2 => by have := h4 z z1 z2; have := n z; omega
end AW

/-! ## MB -/
/-! MB: givings: all of them, the least one. -/
namespace AW
def take1 (c : List Int) (t : Int) : List Int := c.set (t - 1).toNat (cf c t - 1)
theorem take1_len {c : List Int} {t : Int} : (take1 c t).length = c.length := by unfold take1; rw [List.length_set]
theorem cf_take1 {c : List Int} {t : Int} (h1 : 1 ≤ t) (h2 : t ≤ c.length) (s : Int) : cf (take1 c t) s = if s = t then cf c s - 1 else cf c s := by
  unfold take1
  have := cf_add_set (d := -1) h1 h2 s
  rw [show cf c t + -1 = cf c t - 1 by omega] at this
  rw [this]
  split <;> omega
theorem NN.take1 {c : List Int} {t : Int} (n : NN c) (h1 : 1 ≤ t) (h2 : t ≤ c.length) (h : 0 < cf c t) : NN (take1 c t) := fun s => by
  rw [cf_take1 h1 h2]
  split
  · rename_i e; rw [e]; omega
  · exact n s
theorem take1_ext {a b : List Int} (hl : a.length = b.length) (h : ∀ s, cf a s = cf b s) : a = b := by
  refine List.ext_getElem hl fun i h1 h2 => ?_
  have := h (i + 1)
  rw [cf_in (by omega) (by omega), cf_in (by omega) (by omega)] at this
  simpa using this
theorem take1_comm {c : List Int} {t u : Int} (h1 : 1 ≤ t) (h2 : t ≤ c.length) (h3 : 1 ≤ u) (h4 : u ≤ c.length) : take1 (take1 c t) u = take1 (take1 c u) t := by
  refine take1_ext (by simp [take1_len]) fun s => ?_
  rw [cf_take1 h3 (by rw [take1_len]; exact h4), cf_take1 h1 h2, cf_take1 h1 (by rw [take1_len]; exact h2), cf_take1 h3 h4]
  repeat' split
  all_goals omega
/-- each child in turn can be given a coat -/
def Can : List Int → List Span → Prop
  | _, [] => True
  | c, s :: r => ∃ t, s.1 ≤ t ∧ t ≤ s.2 ∧ 0 < cf c t ∧ Can (take1 c t) r
theorem Can.perm {m : Int} {a b : List Span} (p : a.Perm b) : ∀ {c : List Int}, m ≤ c.length → VS m a → Can c a → Can c b := by
  induction p with
  | nil => intro c _ _ h; exact h
  | cons x p ih =>
    intro c hm hv h
    obtain ⟨_, hv⟩ := VS.cons.mp hv
    obtain ⟨t, h1, h2, h3, h4⟩ := h
    exact ⟨t, h1, h2, h3, ih (by rw [take1_len]; exact hm) hv h4⟩
  | swap x y l =>
    intro c hm hv h
    obtain ⟨hy, hv⟩ := VS.cons.mp hv
    obtain ⟨hx, hv⟩ := VS.cons.mp hv
    obtain ⟨t, h1, h2, h3, u, h4, h5, h6, h7⟩ := h
    have a1 : 1 ≤ t := by omega
    have a2 : t ≤ c.length := by omega
    have a3 : 1 ≤ u := by omega
    have a4 : u ≤ c.length := by omega
    rw [cf_take1 a1 a2] at h6
    refine ⟨u, h4, h5, ?_, t, h1, h2, ?_, ?_⟩
    · split at h6 <;> omega
    · rw [cf_take1 a3 a4]
      split at h6 <;> split <;> first | omega | (rename_i e1 e2; subst e2; omega) | (rename_i e1 e2; subst e1; omega)
    · rw [take1_comm a3 a4 a1 a2]; exact h7
  | trans p q ih1 ih2 =>
    intro c hm hv h
    exact ih2 hm (hv.perm p) (ih1 hm hv h)
theorem Can.hall {m : Int} : ∀ {sp : List Span} {c : List Int}, NN c → m ≤ c.length → VS m sp → Can c sp → Hall m c sp
  | [], c, n, _, _, _ => Hall.nil n
  | s :: r, c, n, hm, hv, h => by
    obtain ⟨hs, hv⟩ := VS.cons.mp hv
    obtain ⟨t, h1, h2, h3, h4⟩ := h
    have hm' : m ≤ ((take1 c t).length : Int) := by rw [take1_len]; exact hm
    exact Hall.put hs hm h1 h2 (Can.hall (n.take1 (by omega) (by omega) h3) hm' hv h4)
theorem can_clothed {m : Int} : ∀ {sp : List Span} {c : List Int}, VS m sp → clothed c sp = true → Can c sp
  | [], _, _, _ => trivial
  | s :: r, c, hv, h => by
    obtain ⟨hs, hv⟩ := VS.cons.mp hv
    unfold clothed at h
    split at h
    · cases h
    · rename_i t u q
      obtain ⟨h1, h2, h3, _⟩ := fits_cons q
      exact ⟨t, h1, h2, h3, can_clothed hv h⟩
def leE (x y : Span) : Bool := decide (x.2 < y.2 ∨ (x.2 = y.2 ∧ x.1 ≤ y.1))
theorem can_iff {m : Int} {sp : List Span} {c : List Int} (n : NN c) (hm : m ≤ c.length) (hv : VS m sp) : Can c sp ↔ Hall m c sp := by
  refine ⟨Can.hall n hm hv, fun h => ?_⟩
  have p : (sp.mergeSort leE).Perm sp := List.mergeSort_perm _ _
  have pw : (sp.mergeSort leE).Pairwise fun a b => a.2 ≤ b.2 := by
    refine (List.pairwise_mergeSort (le := leE) (fun a b c h1 h2 => ?_) (fun a b => ?_) sp).imp fun {a b} h => ?_
    · simp only [leE, decide_eq_true_eq] at h1 h2 ⊢; omega
    · simp only [leE, Bool.or_eq_true, decide_eq_true_eq]; omega
    · simp only [leE, decide_eq_true_eq] at h; omega
  have hv2 := hv.perm p.symm
  exact (can_clothed hv2 ((clothed_iff n hm hv2 pw).mpr (h.perm p.symm))).perm p hm hv2
/-! ### all givings -/
def compL : List Int → List Span → List (List Int)
  | _, [] => [[]]
  | c, s :: r => (fits c s).flatMap fun t => (compL (take1 c t) r).map (t :: ·)
theorem mem_fits {c : List Int} {s : Span} {t : Int} : t ∈ fits c s ↔ s.1 ≤ t ∧ t ≤ s.2 ∧ 0 < cf c t := by
  unfold fits
  rw [List.mem_filter, mem_rng, decide_eq_true_eq]
  omega
theorem compL_can : ∀ {sp : List Span} {c : List Int}, compL c sp ≠ [] ↔ Can c sp
  | [], _ => by simp [compL, Can]
  | s :: r, c => by
    constructor
    · intro h
      obtain ⟨g, hg⟩ := List.exists_mem_of_ne_nil _ h
      simp only [compL, List.mem_flatMap, List.mem_map] at hg
      obtain ⟨t, ht, g', hg', _⟩ := hg
      obtain ⟨h1, h2, h3⟩ := mem_fits.mp ht
      exact ⟨t, h1, h2, h3, compL_can.mp fun z => by rw [z] at hg'; cases hg'⟩
    · rintro ⟨t, h1, h2, h3, h4⟩ z
      obtain ⟨g, hg⟩ := List.exists_mem_of_ne_nil _ (compL_can.mpr h4)
      have : t :: g ∈ compL c (s :: r) := by
        simp only [compL, List.mem_flatMap, List.mem_map]
        exact ⟨t, mem_fits.mpr ⟨h1, h2, h3⟩, g, hg, rfl⟩
      rw [z] at this; cases this
theorem compL_mem {m : Int} : ∀ {sp : List Span} {c : List Int} {g : List Int}, VS m sp → g ∈ compL c sp → g.length = sp.length ∧ ∀ t ∈ g, 1 ≤ t ∧ t ≤ m
  | [], _, g, _, h => by
    simp only [compL, List.mem_singleton] at h
    subst h
    exact ⟨rfl, fun t ht => by cases ht⟩
  | s :: r, c, g, hv, h => by
    obtain ⟨hs, hv⟩ := VS.cons.mp hv
    simp only [compL, List.mem_flatMap, List.mem_map] at h
    obtain ⟨t, ht, g', hg', rfl⟩ := h
    obtain ⟨h1, h2, h3⟩ := mem_fits.mp ht
    obtain ⟨q1, q2⟩ := compL_mem hv hg'
    refine ⟨by simp [q1], fun u hu => ?_⟩
    rcases List.mem_cons.mp hu with rfl | hu
    · omega
    · exact q2 u hu
theorem flatMap_len {α β : Type} (k : Nat) (f : α → List β) : ∀ (l : List α), (∀ x ∈ l, (f x).length ≤ k) → (l.flatMap f).length ≤ l.length * k
  | [], _ => by simp
  | x :: l, h => by
    have a := h x List.mem_cons_self
    have b := flatMap_len k f l fun y hy => h y (List.mem_cons_of_mem _ hy)
    rw [List.flatMap_cons, List.length_append, List.length_cons, Nat.add_mul]
    omega
theorem compL_len {k : Nat} : ∀ {sp : List Span} {c : List Int}, (∀ s ∈ sp, (s.2 + 1 - s.1).toNat ≤ k) → (compL c sp).length ≤ k ^ sp.length
  | [], _, _ => by simp [compL]
  | s :: r, c, h => by
    simp only [compL]
    have a : (fits c s).length ≤ k := by
      unfold fits
      refine Nat.le_trans (List.length_filter_le _ _) ?_
      rw [rng_len]
      exact h s List.mem_cons_self
    have b := flatMap_len (k ^ r.length) (fun t => (compL (take1 c t) r).map (t :: ·)) (fits c s) fun t _ => by
      rw [List.length_map]
      exact compL_len fun s hs => h s (List.mem_cons_of_mem _ hs)
    refine Nat.le_trans b ?_
    rw [List.length_cons, Nat.pow_succ, Nat.mul_comm]
    exact Nat.mul_le_mul_left _ a
/-! ### the least -/
def leastL (H : List Int → List Span → Bool) : List Int → List Span → List Int
  | _, [] => []
  | c, s :: r => match (fits c s).find? fun t => H (take1 c t) r with
    | none => []
    | some t => t :: leastL H (take1 c t) r
theorem find_head {α β : Type} (q : α → Bool) (f : α → Option β) (l : List α) (h1 : ∀ x ∈ l, q x = false → f x = none) (h2 : ∀ x ∈ l, q x = true → ∃ y, f x = some y) : l.findSome? f = (l.find? q).bind f := by
  induction l with
  | nil => rfl
  | cons x l ih =>
    have ih := ih (fun y hy => h1 y (List.mem_cons_of_mem _ hy)) (fun y hy => h2 y (List.mem_cons_of_mem _ hy))
    cases z : q x with
    | false => rw [List.findSome?_cons, h1 x List.mem_cons_self z, List.find?_cons, z]; exact ih
    | true =>
      obtain ⟨y, e⟩ := h2 x List.mem_cons_self z
      rw [List.findSome?_cons, e, List.find?_cons, z]; exact e.symm
def HallB (m : Int) (H : List Int → List Span → Bool) : Prop := ∀ c sp, NN c → m ≤ c.length → VS m sp → (H c sp = true ↔ Hall m c sp)
theorem least_some {m : Int} {H : List Int → List Span → Bool} (hH : HallB m H) {s : Span} {r : List Span} {c : List Int} (n : NN c) (hm : m ≤ c.length) (hv : VS m (s :: r)) (h : Hall m c (s :: r)) : ∃ t, (fits c s).find? (fun t => H (take1 c t) r) = some t := by
  obtain ⟨hs, hv'⟩ := VS.cons.mp hv
  obtain ⟨t, h1, h2, h3, h4⟩ := (can_iff n hm hv).mpr h
  have n' := n.take1 (t := t) (by omega) (by omega) h3
  have hm' : m ≤ ((take1 c t).length : Int) := by rw [take1_len]; exact hm
  have ht : H (take1 c t) r = true := (hH _ _ n' hm' hv').mpr (h4.hall n' hm' hv')
  cases q : (fits c s).find? (fun t => H (take1 c t) r) with
  | some t => exact ⟨t, rfl⟩
  | none => exact absurd ht (List.find?_eq_none.mp q t (mem_fits.mpr ⟨h1, h2, h3⟩))
theorem find_fits {c : List Int} {s : Span} {q : Int → Bool} {t : Int} (h : (fits c s).find? q = some t) : s.1 ≤ t ∧ t ≤ s.2 ∧ 0 < cf c t ∧ q t = true := by
  have h1 := mem_fits.mp (List.mem_of_find?_eq_some h)
  exact ⟨h1.1, h1.2.1, h1.2.2, List.find?_some h⟩
theorem compL_head {m : Int} {H : List Int → List Span → Bool} (hH : HallB m H) : ∀ {sp : List Span} {c : List Int}, NN c → m ≤ c.length → VS m sp → Hall m c sp → (compL c sp).head? = some (leastL H c sp)
  | [], _, _, _, _, _ => rfl
  | s :: r, c, n, hm, hv, h => by
    obtain ⟨hs, hv'⟩ := VS.cons.mp hv
    obtain ⟨t, ht⟩ := least_some hH n hm hv h
    have key : (compL c (s :: r)).head? = (fits c s).findSome? fun t => ((compL (take1 c t) r).map (t :: ·)).head? := by
      simp only [compL]
      rw [List.head?_flatMap]
    rw [key, find_head (fun t => H (take1 c t) r)]
    · simp only [leastL]
      rw [ht]
      obtain ⟨h1, h2, h3, h4⟩ := find_fits ht
      have n' := n.take1 (t := t) (by omega) (by omega) h3
      have hm' : m ≤ ((take1 c t).length : Int) := by rw [take1_len]; exact hm
      have ih := compL_head hH n' hm' hv' ((hH _ _ n' hm' hv').mp h4)
      show ((compL (take1 c t) r).map (t :: ·)).head? = _
      rw [List.head?_map, ih]; rfl
    · intro x hx hq
      obtain ⟨h1, h2, h3⟩ := mem_fits.mp hx
      have n' := n.take1 (t := x) (by omega) (by omega) h3
      have hm' : m ≤ ((take1 c x).length : Int) := by rw [take1_len]; exact hm
      have : compL (take1 c x) r = [] := by
        by_cases z : compL (take1 c x) r = []
        · exact z
        · have := (hH _ _ n' hm' hv').mpr ((compL_can.mp z).hall n' hm' hv')
          rw [this] at hq; cases hq
      rw [this]; rfl
    · intro x hx hq
      obtain ⟨h1, h2, h3⟩ := mem_fits.mp hx
      have n' := n.take1 (t := x) (by omega) (by omega) h3
      have hm' : m ≤ ((take1 c x).length : Int) := by rw [take1_len]; exact hm
      have ih := compL_head hH n' hm' hv' ((hH _ _ n' hm' hv').mp hq)
      exact ⟨_, by rw [List.head?_map, ih]; rfl⟩
theorem leastL_len {m : Int} {H : List Int → List Span → Bool} (hH : HallB m H) {sp : List Span} {c : List Int} (n : NN c) (hm : m ≤ c.length) (hv : VS m sp) (h : Hall m c sp) : (leastL H c sp).length = sp.length ∧ ∀ t ∈ leastL H c sp, 1 ≤ t ∧ t ≤ m :=
  compL_mem hv (List.mem_of_head? (compL_head hH n hm hv h))
theorem leastL_two {m : Int} {H H' : List Int → List Span → Bool} (hH : HallB m H) (hH' : HallB m H') {sp : List Span} {c : List Int} (n : NN c) (hm : m ≤ c.length) (hv : VS m sp) (h : Hall m c sp) : leastL H c sp = leastL H' c sp := by
  have := (compL_head hH n hm hv h).symm.trans (compL_head hH' n hm hv h)
  exact Option.some.inj this
/-! ### all givings, child by child -/
def optsR (cs : List Int) (row : List Int) (s : Span) : List Int := (rng s.1 (s.2 + 1)).filter fun z => decide ((row.count z : Int) < cf cs z)
def stepG (cs : List Int) (found : List (List Int)) (s : Span) : List (List Int) := found.flatMap fun row => (optsR cs row s).map fun z => row ++ [z]
def leftR (cs row : List Int) : List Int := row.foldl take1 cs
theorem leftR_len (row : List Int) : ∀ cs : List Int, (leftR cs row).length = cs.length := by
  induction row with
  | nil => intro cs; rfl
  | cons t row ih => intro cs; exact (ih (take1 cs t)).trans take1_len
theorem cf_leftR (row : List Int) : ∀ (cs : List Int), (∀ t ∈ row, 1 ≤ t ∧ t ≤ cs.length) → ∀ z, cf (leftR cs row) z = cf cs z - (row.count z : Int) := by
  induction row with
  | nil => intro cs _ z; simp [leftR]
  | cons t row ih =>
    intro cs h z
    obtain ⟨h1, h2⟩ := h t List.mem_cons_self
    have := ih (take1 cs t) (fun u hu => by rw [take1_len]; exact h u (List.mem_cons_of_mem _ hu)) z
    show cf (leftR (take1 cs t) row) z = _
    rw [this, cf_take1 h1 h2, List.count_cons]
    by_cases e : z = t
    · subst e; simp; omega
    · rw [if_neg e, if_neg (by simpa using fun z' => e z'.symm)]; simp
theorem opts_fits {cs row : List Int} {s : Span} (h : ∀ t ∈ row, 1 ≤ t ∧ t ≤ cs.length) : optsR cs row s = fits (leftR cs row) s := by
  unfold optsR fits
  refine List.filter_congr fun z _ => ?_
  rw [cf_leftR row cs h z]
  exact decide_eq_decide.mpr (by omega)
theorem flatMap_cong {α β : Type} {l : List α} {f g : α → List β} (h : ∀ x ∈ l, f x = g x) : l.flatMap f = l.flatMap g := by
  induction l with
  | nil => rfl
  | cons x l ih => rw [List.flatMap_cons, List.flatMap_cons, h x List.mem_cons_self, ih fun y hy => h y (List.mem_cons_of_mem _ hy)]
theorem foldl_comp {m : Int} {cs : List Int} (hm : m ≤ cs.length) : ∀ {sp : List Span} {found : List (List Int)}, VS m sp → (∀ row ∈ found, ∀ t ∈ row, 1 ≤ t ∧ t ≤ m) → sp.foldl (stepG cs) found = found.flatMap fun row => (compL (leftR cs row) sp).map (row ++ ·)
  | [], found, _, _ => by simp [compL]
  | s :: r, found, hv, hf => by
    obtain ⟨hs, hv'⟩ := VS.cons.mp hv
    rw [List.foldl_cons, foldl_comp hm hv' ?_]
    · unfold stepG
      rw [List.flatMap_assoc]
      have : ∀ row ∈ found, (((optsR cs row s).map fun z => row ++ [z]).flatMap fun row => (compL (leftR cs row) r).map (row ++ ·)) = (compL (leftR cs row) (s :: r)).map (row ++ ·) := fun row hr => by
        rw [opts_fits fun t ht => by have := hf row hr t ht; omega]
        simp only [compL]
        rw [List.flatMap_map, List.map_flatMap]
        congr 1
        funext t
        rw [List.map_map]
        have e : leftR cs (row ++ [t]) = take1 (leftR cs row) t := by unfold leftR; rw [List.foldl_append]; rfl
        rw [e]
        refine List.map_congr_left fun g _ => ?_
        simp
      exact flatMap_cong this
    · intro row hr t ht
      unfold stepG at hr
      simp only [List.mem_flatMap, List.mem_map] at hr
      obtain ⟨row', hr', z, hz, rfl⟩ := hr
      rcases List.mem_append.mp ht with q | q
      · exact hf row' hr' t q
      · rw [List.mem_singleton.mp q]
        have := mem_rng.mp (List.mem_filter.mp hz).1
        omega
theorem givs_comp {m : Int} {cs : List Int} {sp : List Span} (hm : m ≤ cs.length) (hv : VS m sp) : sp.foldl (stepG cs) [[]] = compL cs sp := by
  rw [foldl_comp hm hv (fun row hr t ht => by rw [List.mem_singleton.mp hr] at ht; cases ht)]
  simp [leftR]
end AW

/-! ## MC -/
/-! MC: heights: the fewest coats to buy. -/
namespace AW
/-- one turn of the inner loop -/
def lowS (K : Int → Int → Int) (F : List Int) (h : Int) (b : Int × Option Span) (l : Int) : Int × Option Span :=
  if b.1 < F.getD (l - 1).toNat 0 + K l h then (F.getD (l - 1).toNat 0 + K l h, some (l, h)) else b
def bestOf (K : Int → Int → Int) (F : List Int) (h : Int) : Int × Option Span := (rng 1 (h + 1)).foldl (lowS K F h) (F.getLastD 0, none)
def stepH (K : Int → Int → Int) (a : List Int × List (Option Span)) (h : Int) : List Int × List (Option Span) := (a.1 ++ [(bestOf K a.1 h).1], a.2 ++ [(bestOf K a.1 h).2])
def hts (K : Int → Int → Int) : Nat → List Int × List (Option Span)
  | 0 => ([0], [none])
  | n + 1 => stepH K (hts K n) ((n : Int) + 1)
theorem hts_len (K : Int → Int → Int) : ∀ n, (hts K n).1.length = n + 1 ∧ (hts K n).2.length = n + 1
  | 0 => ⟨rfl, rfl⟩
  | n + 1 => by
    obtain ⟨h1, h2⟩ := hts_len K n
    simp [hts, stepH, h1, h2]
/-- the height at h -/
def ht (K : Int → Int → Int) (h : Nat) : Int := (hts K h).1.getD h 0
def mk1 (K : Int → Int → Int) (h : Nat) : Option Span := (hts K h).2.getD h none
theorem hts_get (K : Int → Int → Int) {h : Nat} : ∀ {n : Nat}, h ≤ n → (hts K n).1.getD h 0 = ht K h ∧ (hts K n).2.getD h none = mk1 K h
  | n, hn => by
    induction n with
    | zero =>
      obtain rfl : h = 0 := by omega
      exact ⟨rfl, rfl⟩
    | succ n ih =>
      rcases Nat.lt_or_ge n h with z | z
      · obtain rfl : h = n + 1 := by omega
        exact ⟨rfl, rfl⟩
      · obtain ⟨h1, h2⟩ := ih z
        obtain ⟨l1, l2⟩ := hts_len K n
        simp only [hts, stepH, List.getD_eq_getElem?_getD] at h1 h2 ⊢
        rw [List.getElem?_append_left (by omega), List.getElem?_append_left (by omega)]
        exact ⟨h1, h2⟩
theorem hts_eq (K : Int → Int → Int) (n : Nat) : (hts K n).1 = (List.range (n + 1)).map (ht K) ∧ (hts K n).2 = (List.range (n + 1)).map (mk1 K) := by
  obtain ⟨l1, l2⟩ := hts_len K n
  constructor
  · refine List.ext_getElem (by simp [l1]) fun i h1 h2 => ?_
    have := (hts_get K (h := i) (n := n) (by omega)).1
    rw [List.getD_eq_getElem?_getD, List.getElem?_eq_getElem h1] at this
    simpa using this
  · refine List.ext_getElem (by simp [l2]) fun i h1 h2 => ?_
    have := (hts_get K (h := i) (n := n) (by omega)).2
    rw [List.getD_eq_getElem?_getD, List.getElem?_eq_getElem h1] at this
    simpa using this
theorem ht_zero (K : Int → Int → Int) : ht K 0 = 0 := rfl
theorem mk_zero (K : Int → Int → Int) : mk1 K 0 = none := rfl
/-- what a fold of the inner loop keeps -/
theorem fold_low (K : Int → Int → Int) (F : List Int) (h : Int) : ∀ (ls : List Int) (b : Int × Option Span),
    b.1 ≤ (ls.foldl (lowS K F h) b).1 ∧ (∀ l ∈ ls, F.getD (l - 1).toNat 0 + K l h ≤ (ls.foldl (lowS K F h) b).1) ∧
      ((ls.foldl (lowS K F h) b) = b ∨ ∃ l ∈ ls, (ls.foldl (lowS K F h) b) = (F.getD (l - 1).toNat 0 + K l h, some (l, h)))
  | [], b => ⟨Int.le_refl _, (fun _ h => by cases h), .inl rfl⟩
  | l :: ls, b => by
    obtain ⟨h1, h2, h3⟩ := fold_low K F h ls (lowS K F h b l)
    simp only [List.foldl_cons]
    have hb : b.1 ≤ (lowS K F h b l).1 ∧ F.getD (l - 1).toNat 0 + K l h ≤ (lowS K F h b l).1 := by
      unfold lowS
      split
      · rename_i q; exact ⟨Int.le_of_lt q, Int.le_refl _⟩
      · rename_i q; exact ⟨Int.le_refl _, by omega⟩
    refine ⟨Int.le_trans hb.1 h1, fun k hk => ?_, ?_⟩
    · rcases List.mem_cons.mp hk with rfl | hk
      · exact Int.le_trans hb.2 h1
      · exact h2 k hk
    · rcases h3 with h3 | ⟨k, hk, h3⟩
      · rw [h3]
        unfold lowS
        split
        · exact .inr ⟨l, List.mem_cons_self, rfl⟩
        · exact .inl rfl
      · exact .inr ⟨k, List.mem_cons_of_mem _ hk, h3⟩
theorem ht_succ (K : Int → Int → Int) (n : Nat) : ht K (n + 1) = (bestOf K (hts K n).1 ((n : Int) + 1)).1 ∧ mk1 K (n + 1) = (bestOf K (hts K n).1 ((n : Int) + 1)).2 := by
  obtain ⟨l1, l2⟩ := hts_len K n
  unfold ht mk1
  simp only [hts, stepH, List.getD_eq_getElem?_getD]
  rw [List.getElem?_append_right (by omega), List.getElem?_append_right (by omega), l1, l2]
  simp
theorem last_ht (K : Int → Int → Int) (n : Nat) : (hts K n).1.getLastD 0 = ht K n := by
  rw [(hts_eq K n).1, List.range_succ, List.map_append]
  simp
theorem ht_mono (K : Int → Int → Int) (n : Nat) : ht K n ≤ ht K (n + 1) := by
  rw [(ht_succ K n).1]
  have := (fold_low K (hts K n).1 ((n : Int) + 1) (rng 1 ((n : Int) + 1 + 1)) ((hts K n).1.getLastD 0, none)).1
  rw [last_ht] at this
  unfold bestOf
  rw [last_ht]
  exact this
theorem ht_lack (K : Int → Int → Int) {l h : Int} {n : Nat} (e : h = (n : Int) + 1) (h1 : 1 ≤ l) (h2 : l ≤ h) : ht K (l - 1).toNat + K l h ≤ ht K (n + 1) := by
  subst e
  rw [(ht_succ K n).1]
  have := (fold_low K (hts K n).1 ((n : Int) + 1) (rng 1 ((n : Int) + 1 + 1)) ((hts K n).1.getLastD 0, none)).2.1 l (mem_rng.mpr ⟨h1, by omega⟩)
  rw [(hts_get K (n := n) (h := (l - 1).toNat) (by omega)).1] at this
  exact this
theorem ht_made (K : Int → Int → Int) (n : Nat) : (mk1 K (n + 1) = none ∧ ht K (n + 1) = ht K n) ∨ ∃ l, mk1 K (n + 1) = some (l, (n : Int) + 1) ∧ 1 ≤ l ∧ l ≤ (n : Int) + 1 ∧ ht K (n + 1) = ht K (l - 1).toNat + K l ((n : Int) + 1) := by
  obtain ⟨e1, e2⟩ := ht_succ K n
  have := (fold_low K (hts K n).1 ((n : Int) + 1) (rng 1 ((n : Int) + 1 + 1)) ((hts K n).1.getLastD 0, none)).2.2
  have eb : bestOf K (hts K n).1 ((n : Int) + 1) = (rng 1 ((n : Int) + 1 + 1)).foldl (lowS K (hts K n).1 ((n : Int) + 1)) ((hts K n).1.getLastD 0, none) := rfl
  rw [← eb] at this
  rcases this with q | ⟨l, hl, q⟩
  · refine .inl ⟨by rw [e2, q], by rw [e1, q, last_ht]⟩
  · have hl := mem_rng.mp hl
    refine .inr ⟨l, by rw [e2, q], hl.1, by omega, ?_⟩
    rw [e1, q]
    show (hts K n).1.getD (l - 1).toNat 0 + _ = _
    rw [(hts_get K (n := n) (h := (l - 1).toNat) (by omega)).1]
theorem ht_le (K : Int → Int → Int) {m n : Nat} (h : m ≤ n) : ht K m ≤ ht K n := by
  induction n with
  | zero =>
    obtain rfl : m = 0 := by omega
    exact Int.le_refl _
  | succ n ih =>
    rcases Nat.lt_or_ge n m with z | z
    · obtain rfl : m = n + 1 := by omega
      exact Int.le_refl _
    · exact Int.le_trans (ih z) (ht_mono K n)
theorem ht_nonneg (K : Int → Int → Int) (n : Nat) : 0 ≤ ht K n := by
  have := ht_le K (Nat.zero_le n)
  rw [ht_zero] at this
  exact this
/-- no step is higher than B where one more size lacks at most B more -/
theorem ht_step (K : Int → Int → Int) {B : Int} (n : Nat) (hB : 0 ≤ B) (h1 : K ((n : Int) + 1) ((n : Int) + 1) ≤ B) (h2 : ∀ l : Int, 1 ≤ l → l ≤ n → K l ((n : Int) + 1) ≤ K l n + B) : ht K (n + 1) ≤ ht K n + B := by
  rcases ht_made K n with ⟨_, e⟩ | ⟨l, _, a, b, e⟩
  · omega
  · rw [e]
    by_cases z : l = (n : Int) + 1
    · subst z
      rw [show ((n : Int) + 1 - 1).toNat = n by omega]
      omega
    · obtain ⟨k, rfl⟩ : ∃ k, n = k + 1 := ⟨n - 1, by omega⟩
      have := ht_lack K (l := l) (h := ((k + 1 : Nat) : Int)) (n := k) (by omega) a (by omega)
      have := h2 l a (by omega)
      omega
/-- the coats to buy -/
def more (K : Int → Int → Int) (s : Nat) : List Int := (List.range s).map fun i => ht K (i + 1) - ht K i
theorem more_len (K : Int → Int → Int) (s : Nat) : (more K s).length = s := by simp [more]
theorem cf_more (K : Int → Int → Int) {s : Nat} {z : Int} (h1 : 1 ≤ z) (h2 : z ≤ s) : cf (more K s) z = ht K z.toNat - ht K (z - 1).toNat := by
  rw [cf_in h1 (by rw [more_len]; exact h2)]
  unfold more
  rw [List.getElem_map, List.getElem_range]
  rw [show (z - 1).toNat + 1 = z.toNat by omega]
theorem sum_more (K : Int → Int → Int) {s : Nat} {l : Int} (h1 : 1 ≤ l) : ∀ {n : Nat}, l + n ≤ (s : Int) + 1 → sumF (cf (more K s)) l n = ht K (l + n - 1).toNat - ht K (l - 1).toNat
  | 0, _ => by simp [sumF]
  | n + 1, h => by
    simp only [sumF]
    rw [sum_more K h1 (by omega), cf_more K (by omega) (by omega)]
    rw [show (l + ((n + 1 : Nat) : Int) - 1).toNat = (l + (n : Int)).toNat by omega]
    omega
theorem has_more (K : Int → Int → Int) {s : Nat} {l h : Int} (h1 : 1 ≤ l) (h2 : l ≤ h + 1) (h3 : h ≤ s) : has (more K s) l h = ht K h.toNat - ht K (l - 1).toNat := by
  unfold has hasF
  rw [sum_more K h1 (by omega)]
  rw [show l + ((h - l + 1).toNat : Int) - 1 = h by omega]
/-- windows apart -/
def apartK (K : Int → Int → Int) (s : Int) : Int → List Span → Prop
  | _, [] => True
  | e, p :: r => e < p.1 ∧ p.1 ≤ p.2 ∧ p.2 ≤ s ∧ apartK K s p.2 r
theorem apart_le (K : Int → Int → Int) {s : Nat} : ∀ (r : List Span) (e : Int), 0 ≤ e → e ≤ s → apartK K s e r → ht K e.toNat + (r.map fun p => K p.1 p.2).sum ≤ ht K s
  | [], e, h0, h1, _ => by simp; exact ht_le K (by omega)
  | p :: r, e, h0, h1, h => by
    obtain ⟨a, b, c, d⟩ := h
    have ih := apart_le K r p.2 (by omega) c d
    obtain ⟨n, hn⟩ : ∃ n : Nat, p.2 = (n : Int) + 1 := ⟨(p.2 - 1).toNat, by omega⟩
    have h1 := ht_lack K (l := p.1) (h := p.2) (n := n) hn (by omega) b
    have h2 := ht_le K (m := e.toNat) (n := (p.1 - 1).toNat) (by omega)
    rw [show p.2.toNat = n + 1 by omega] at ih
    rw [List.map_cons, List.sum_cons]
    omega
end AW

/-! ## DLv -/
/-! DLv: plain evaluation of the functions. -/
namespace DL
open PySem PySem.Spec PyProof.Rows L2
section
variable {f g fa fb fc fi fv : Den} {F Fa : DenL} {t u : DenT} {env : En} {i j n : Nat} {d : D} {s1 s2 : DenS}
@[simp] theorem v_var : eVar i env = (match env[i]? with | some (.val d) => .ok (d, env) | _ => .stk) := rfl
@[simp] theorem v_c : eC d env = .ok (d, env) := rfl
@[simp] theorem v_e2 {p} : e2 p fa fb env = (fa env).bind fun x => (fb x.2).bind fun y => (R.of (p x.1 y.1)).bind fun d => .ok (d, y.2) := rfl
@[simp] theorem v_e1 {p} : e1 p fa env = (fa env).bind fun x => (R.of (p x.1)).bind fun d => .ok (d, x.2) := rfl
@[simp] theorem v_eN {p} : eN p F env = (F env).bind fun x => (R.of (p x.1)).bind fun d => .ok (d, x.2) := rfl
@[simp] theorem v_nil : aNil env = .ok ([], env) := rfl
@[simp] theorem v_cons : aCons f F env = (f env).bind fun x => (F x.2).bind fun y => .ok (x.1 :: y.1, y.2) := rfl
@[simp] theorem v_tst : tst f env = (f env).bind fun p => match p.1 with | .bl b => .ok (b, p.2) | _ => .stk := rfl
@[simp] theorem v_tand : tAndD t u env = (t env).bind fun x => if x.1 then u x.2 else .ok (false, x.2) := rfl
@[simp] theorem v_tor : tOrD t u env = (t env).bind fun x => if x.1 then .ok (true, x.2) else u x.2 := rfl
@[simp] theorem v_tnot : tNotD t env = (t env).bind fun x => .ok (!x.1, x.2) := rfl
@[simp] theorem v_eand : eAnd f g env = (f env).bind fun x => match x.1 with | .bl true => g x.2 | .bl false => .ok (.bl false, x.2) | _ => .stk := rfl
@[simp] theorem v_enot : eNot f env = (f env).bind fun x => match x.1 with | .bl b => .ok (.bl (!b), x.2) | _ => .stk := rfl
@[simp] theorem v_eif : eIf t f g env = (t env).bind fun x => if x.1 then f x.2 else g x.2 := rfl
@[simp] theorem v_chain {p q} : eChain p q fa fb fc env = (fa env).bind fun x => (fb x.2).bind fun y => (R.of (p x.1 y.1)).bind fun d => match d with | .bl true => (fc y.2).bind fun z => (R.of (q y.1 z.1)).bind fun d => .ok (d, z.2) | .bl false => .ok (.bl false, y.2) | _ => .stk := rfl
@[simp] theorem v_lock : eLock i f env = (match env[i]? with | some (.own d) => (f (env.set i (.val d))).bind fun p => if p.1.flat && offF p.2 then .ok (p.1, p.2.set i (.own d)) else .stk | _ => .stk) := rfl
@[simp] theorem v_flock : fLock i f env = (match env[i]? with | some (.own d) => (f (env.set i (.val d))).bind fun p => if p.1.ff && offF p.2 then .ok (p.1, p.2.set i (.own d)) else .stk | _ => .stk) := rfl
@[simp] theorem v_seq : sSeq s1 s2 env = (s1 env).bind fun x => match x.1 with | .nx => s2 x.2 | o => .ok (o, x.2) := rfl
@[simp] theorem v_nx : sNx env = .ok (.nx, env) := rfl
@[simp] theorem v_set : sSet i f env = (f env).bind fun x => (R.of (putV i x.1 x.2)).bind fun e => .ok (.nx, e) := rfl
@[simp] theorem v_putV : putV i d env = if notMy env i then some (env.set i (.val d)) else none := rfl
def Sl.free : Sl → Bool
  | .own _ => false
  | _ => true
@[simp] theorem v_notMy : notMy env i = (match env[i]? with | some s => s.free | none => false) := by
  unfold notMy
  cases env[i]? with
  | none => rfl
  | some s => cases s <;> rfl
@[simp] theorem free_no : Sl.free .no = true := rfl
@[simp] theorem free_val : Sl.free (.val d) = true := rfl
@[simp] theorem free_own : Sl.free (.own d) = false := rfl
@[simp] theorem v_own : sOwn i f env = (f env).bind fun x => (R.of (putO i x.1 x.2)).bind fun e => .ok (.nx, e) := rfl
@[simp] theorem v_putO : putO i d env = if d.fl && decide (i < env.length) then some (env.set i (.own d)) else none := rfl
@[simp] theorem v_exp : sExp f env = (f env).bind fun x => .ok (.nx, x.2) := rfl
@[simp] theorem v_ret : sRet f env = (f env).bind fun x => .ok (.ret x.1, x.2) := rfl
@[simp] theorem v_if : sIf t s1 s2 env = (t env).bind fun x => if x.1 then s1 x.2 else s2 x.2 := rfl
@[simp] theorem v_call {G : DenF} : eCall n G Fa env = (Fa env).bind fun x => if x.1.length = n then (G x.1).bind fun r => .ok (r.1, x.2) else .stk := rfl
@[simp] theorem v_callO {G : DenF} : eCallO i n G Fa env = (match env[i]? with | some (.own _) => (Fa env).bind fun x => (match x.2[i]? with | some (.own d) => if x.1.length + 1 = n then (G (d :: x.1)).bind fun r => .ok (r.1, x.2.set i (.own r.2)) else .stk | _ => .stk) | _ => .stk) := rfl
@[simp] theorem v_put : sPut i fi fv env = (fv env).bind fun x => if isOwn x.2 i then (fi x.2).bind fun k => (match k.1 with
    | .int j => (R.of (chL i (fun ds => (ixN ds.length j).map fun m => ds.set m x.1) k.2)).bind fun e => .ok (.nx, e)
    | _ => .stk) else .stk := rfl
@[simp] theorem v_ixO : eIxO i fi env = if isOwn env i then (fi env).bind fun k => (match k.1, k.2[i]? with
    | .int j, some (.own (.lst ds)) => (R.of (atI ds j)).bind fun d => .ok (d, k.2)
    | _, _ => .stk) else .stk := rfl
@[simp] theorem v_isOwn : isOwn env i = (match env[i]? with | some (.own (.lst _)) => true | _ => false) := rfl
@[simp] theorem v_chL {g : List D → Option (List D)} : chL i g env = (match env[i]? with | some (.own (.lst ds)) => (g ds).map fun es => env.set i (.own (.lst es)) | _ => none) := rfl
@[simp] theorem v_fz : sFz i env = (match env[i]? with | some (.own d) => .ok (.nx, env.set i (.val d)) | _ => .ok (.nx, env)) := rfl
@[simp] theorem v_app : sApp i f env = if isOwn env i then (f env).bind fun x => (R.of (chL i (fun ds => if decide (ds.length < big) then some (ds ++ [x.1]) else none) x.2)).bind fun e => .ok (.nx, e) else .stk := rfl
@[simp] theorem v_tup {tb : Bool} : eTup tb F env = (F env).bind fun x => (R.of ((short x.1).map (D.tup tb))).bind fun d => .ok (d, x.2) := rfl
@[simp] theorem v_lst : fLst F env = (F env).bind fun x => (R.of ((short x.1).map D.lst)).bind fun d => .ok (d, x.2) := rfl
@[simp] theorem outE_false : outE false env = .non := by
  unfold outE
  split <;> rfl
@[simp] theorem outE_true : outE true env = (match env[0]? with | some (Sl.own d) => d | _ => .non) := rfl
theorem v_run {io fr : Bool} {k : Nat} {body : DenS} {ds : List D} : runF io fr k body ds = (body (startE io ds k)).bind fun o => match o.1 with
  | .ret d => .ok (d, outE io o.2)
  | .nx => if fr then .stk else .ok (.non, outE io o.2)
  | _ => .stk := rfl
end
section
variable {i j : Int}
@[simp] theorem p_addI : pAdd (.int i) (.int j) = some (.int (i + j)) := rfl
@[simp] theorem p_sub : pSub (.int i) (.int j) = some (.int (i - j)) := rfl
@[simp] theorem p_addB {b : Bool} : pAdd (.bl b) (.int j) = some (.int ((if b = true then 1 else 0) + j)) := rfl
@[simp] theorem p_subB {b : Bool} : pSub (.bl b) (.int j) = some (.int ((if b = true then 1 else 0) - j)) := rfl
@[simp] theorem v_short {ds : List D} : short ds = if ds.length ≤ 1000000 then some ds else none := rfl
@[simp] theorem p_addL {xs ys : List D} : pAdd (.lst xs) (.lst ys) = if xs.length + ys.length ≤ 1000000 then some (.lst (xs ++ ys)) else none := by
  simp only [pAdd, orD, pAddI, i2, pAddT, pAddL, pAddB, b2, v_short, List.length_append]
  split <;> rfl
@[simp] theorem p_addT {tb : Bool} {xs ys : List D} : pAdd (.tup tb xs) (.tup tb ys) = if xs.length + ys.length ≤ 1000000 then some (.tup tb (xs ++ ys)) else none := by
  have e : pAdd (.tup tb xs) (.tup tb ys) = (pAddT (.tup tb xs) (.tup tb ys)).or none := by
    simp only [pAdd, orD, pAddI, i2, pAddL, pAddB, b2, Option.none_or]
  rw [e]
  simp only [pAddT, if_true, v_short, List.length_append]
  split <;> rfl
@[simp] theorem p_catL {xs ys : List D} : pAddL (.lst xs) (.lst ys) = if xs.length + ys.length ≤ 1000000 then some (.lst (xs ++ ys)) else none := by
  simp only [pAddL, v_short, List.length_append]
  split <;> rfl
@[simp] theorem p_listL {ds : List D} : pList [.lst ds] = some (.lst ds) := rfl
@[simp] theorem p_listT {tb : Bool} {ds : List D} : pList [.tup tb ds] = some (.lst ds) := rfl
@[simp] theorem p_tupL {m : Bool} {ds : List D} : pTuple m [.lst ds] = some (.tup m ds) := rfl
@[simp] theorem p_tupT {m tb : Bool} {ds : List D} : pTuple m [.tup tb ds] = some (.tup tb ds) := rfl
@[simp] theorem p_strI : pStr [.int i] = if i.natAbs.log2 < 1920 then some (.str (toString i)) else none := rfl
@[simp] theorem p_strB {b : Bool} : pStr [.bl b] = some (.str (if b then "True" else "False")) := rfl
@[simp] theorem v_sl {f : Den} {lo hi : DenO} {env : En} : eSl f lo hi env = (f env).bind fun x => (lo x.2).bind fun l => (hi l.2).bind fun u => match x.1 with
  | .lst ds => .ok (.lst (cutD ds l.1 u.1), u.2)
  | .tup tb ds => .ok (.tup tb (cutD ds l.1 u.1), u.2)
  | _ => .stk := rfl
@[simp] theorem v_oN {env : En} : oN env = .ok (none, env) := rfl
@[simp] theorem v_oS {f : Den} {env : En} : oS f env = (f env).bind fun x => match x.1 with
  | .int i => .ok (some i, x.2)
  | _ => .stk := rfl
@[simp] theorem v_rev {f : Den} {env : En} : eRev f env = (f env).bind fun x => match x.1 with
  | .lst ds => .ok (.lst ds.reverse, x.2)
  | .tup tb ds => .ok (.tup tb ds.reverse, x.2)
  | _ => .stk := rfl
@[simp] theorem v_itS {f : Den} {env : En} : itS f env = (f env).bind fun x => match x.1 with
  | .lst ds => .ok (ds, x.2)
  | .tup _ ds => .ok (ds, x.2)
  | _ => .stk := rfl
@[simp] theorem v_itR1 {F : DenL} {env : En} : itR1 F env = (F env).bind fun x => match x.1 with
  | [.int j] => if small j then .ok (rgI 0 j.toNat, x.2) else .stk
  | _ => .stk := rfl
@[simp] theorem fl_lst {ds : List D} : (D.lst ds).fl = true := rfl
@[simp] theorem ff_lst {ds : List D} : (D.lst ds).ff = flatL ds := rfl
@[simp] theorem flat_non : D.non.flat = true := by simp [D.flat]
@[simp] theorem flat_bl {b : Bool} : (D.bl b).flat = true := by simp [D.flat]
@[simp] theorem flat_int {i : Int} : (D.int i).flat = true := by simp [D.flat]
@[simp] theorem flat_str {x : Str} : (D.str x).flat = true := by simp [D.flat]
@[simp] theorem flat_tup {tb : Bool} {ds : List D} : (D.tup tb ds).flat = flatL ds := by simp [D.flat]
@[simp] theorem flatL_nil : flatL [] = true := by simp [flatL]
@[simp] theorem flatL_cons {d : D} {ds : List D} : flatL (d :: ds) = (d.flat && flatL ds) := by simp [flatL]
@[simp] theorem offF_nil : offF [] = true := rfl
@[simp] theorem offF_own {y : D} {e : En} : offF (.own y :: e) = (y.ff && offF e) := rfl
@[simp] theorem offF_val {y : D} {e : En} : offF (.val y :: e) = offF e := rfl
@[simp] theorem offF_no {e : En} : offF (.no :: e) = offF e := rfl
@[simp] theorem p_mul : pMulI (.int i) (.int j) = if mulB i j then some (.int (i * j)) else none := rfl
@[simp] theorem p_div : pDiv (.int i) (.int j) = if divB i j then some (.int (i / j)) else none := rfl
@[simp] theorem p_mod : pMod (.int i) (.int j) = if decide (0 < j) then some (.int (i % j)) else none := rfl
@[simp] theorem p_pow : pPow (.int i) (.int j) = if powB i j then some (.int (i ^ j.toNat)) else none := rfl
@[simp] theorem p_lt : pLt (.int i) (.int j) = some (.bl (decide (i < j))) := rfl
@[simp] theorem p_le : pLe (.int i) (.int j) = some (.bl (decide (i ≤ j))) := rfl
@[simp] theorem p_gt : pGt (.int i) (.int j) = some (.bl (decide (j < i))) := rfl
@[simp] theorem p_ge : pGe (.int i) (.int j) = some (.bl (decide (j ≤ i))) := rfl
@[simp] theorem p_neg : pNeg (.int i) = some (.int (-i)) := rfl
@[simp] theorem p_eqI : pEq (.int i) (.int j) = some (.bl (decide (i = j))) := rfl
@[simp] theorem p_neI : pNe (.int i) (.int j) = some (.bl (!decide (i = j))) := rfl
@[simp] theorem p_eqB {a b : Bool} : pEq (.bl a) (.bl b) = some (.bl (decide (a = b))) := rfl
@[simp] theorem p_neB {a b : Bool} : pNe (.bl a) (.bl b) = some (.bl (!decide (a = b))) := rfl
@[simp] theorem p_lenL {ds : List D} : pLen [.lst ds] = some (.int ds.length) := rfl
@[simp] theorem p_lenT {tb : Bool} {ds : List D} : pLen [.tup tb ds] = some (.int ds.length) := rfl
@[simp] theorem p_ixL {ds : List D} : pIx (.lst ds) (.int j) = atI ds j := rfl
@[simp] theorem p_ixT {tb : Bool} {ds : List D} : pIx (.tup tb ds) (.int j) = atI ds j := rfl
end

@[simp] theorem v_atI {α : Type} {xs : List α} {j : Int} : atI xs j = (ixN xs.length j).bind fun m => xs[m]? := rfl
@[simp] theorem v_ixN {n : Nat} {j : Int} : ixN n j = (if 0 ≤ j then (if j < n then some j.toNat else none) else if -(n : Int) ≤ j then some (j + n).toNat else none) := rfl
@[simp] theorem v_isT {T : String} {f : Den} {env : En} : eIsT T f env = (f env).bind fun x => (R.of (if x.1.plain then some (.bl (x.1.isT T)) else none)).bind fun d => .ok (d, x.2) := rfl
@[simp] theorem v_isT2 {T U : String} {f : Den} {env : En} : eIsT2 T U f env = (f env).bind fun x => (R.of (if x.1.plain then some (.bl (x.1.isT T || x.1.isT U)) else none)).bind fun d => .ok (d, x.2) := rfl
@[simp] theorem plain_non : D.non.plain = true := rfl
@[simp] theorem isT_non_int : D.non.isT "int" = false := by simp [D.isT, D.ty]
@[simp] theorem isT_non_bool : D.non.isT "bool" = false := by simp [D.isT, D.ty]
@[simp] theorem isT_non_str : D.non.isT "str" = false := by simp [D.isT, D.ty]
@[simp] theorem isT_non_tuple : D.non.isT "tuple" = false := by simp [D.isT, D.ty]
@[simp] theorem isT_non_list : D.non.isT "list" = false := by simp [D.isT, D.ty]
@[simp] theorem plain_bl {b : Bool} : (D.bl b).plain = true := rfl
@[simp] theorem isT_bl_int {b : Bool} : (D.bl b).isT "int" = true := by simp [D.isT, D.ty]
@[simp] theorem isT_bl_bool {b : Bool} : (D.bl b).isT "bool" = true := by simp [D.isT, D.ty]
@[simp] theorem isT_bl_str {b : Bool} : (D.bl b).isT "str" = false := by simp [D.isT, D.ty]
@[simp] theorem isT_bl_tuple {b : Bool} : (D.bl b).isT "tuple" = false := by simp [D.isT, D.ty]
@[simp] theorem isT_bl_list {b : Bool} : (D.bl b).isT "list" = false := by simp [D.isT, D.ty]
@[simp] theorem plain_int {i : Int} : (D.int i).plain = true := rfl
@[simp] theorem isT_int_int {i : Int} : (D.int i).isT "int" = true := by simp [D.isT, D.ty]
@[simp] theorem isT_int_bool {i : Int} : (D.int i).isT "bool" = false := by simp [D.isT, D.ty]
@[simp] theorem isT_int_str {i : Int} : (D.int i).isT "str" = false := by simp [D.isT, D.ty]
@[simp] theorem isT_int_tuple {i : Int} : (D.int i).isT "tuple" = false := by simp [D.isT, D.ty]
@[simp] theorem isT_int_list {i : Int} : (D.int i).isT "list" = false := by simp [D.isT, D.ty]
@[simp] theorem plain_str {x : Str} : (D.str x).plain = true := rfl
@[simp] theorem isT_str_int {x : Str} : (D.str x).isT "int" = false := by simp [D.isT, D.ty]
@[simp] theorem isT_str_bool {x : Str} : (D.str x).isT "bool" = false := by simp [D.isT, D.ty]
@[simp] theorem isT_str_str {x : Str} : (D.str x).isT "str" = true := by simp [D.isT, D.ty]
@[simp] theorem isT_str_tuple {x : Str} : (D.str x).isT "tuple" = false := by simp [D.isT, D.ty]
@[simp] theorem isT_str_list {x : Str} : (D.str x).isT "list" = false := by simp [D.isT, D.ty]
@[simp] theorem plain_tup {tb : Bool} {ds : List D} : (D.tup tb ds).plain = true := rfl
@[simp] theorem isT_tup_int {tb : Bool} {ds : List D} : (D.tup tb ds).isT "int" = false := by simp [D.isT, D.ty]
@[simp] theorem isT_tup_bool {tb : Bool} {ds : List D} : (D.tup tb ds).isT "bool" = false := by simp [D.isT, D.ty]
@[simp] theorem isT_tup_str {tb : Bool} {ds : List D} : (D.tup tb ds).isT "str" = false := by simp [D.isT, D.ty]
@[simp] theorem isT_tup_tuple {tb : Bool} {ds : List D} : (D.tup tb ds).isT "tuple" = true := by simp [D.isT, D.ty]
@[simp] theorem isT_tup_list {tb : Bool} {ds : List D} : (D.tup tb ds).isT "list" = false := by simp [D.isT, D.ty]
@[simp] theorem plain_lst {ds : List D} : (D.lst ds).plain = true := rfl
@[simp] theorem isT_lst_int {ds : List D} : (D.lst ds).isT "int" = false := by simp [D.isT, D.ty]
@[simp] theorem isT_lst_bool {ds : List D} : (D.lst ds).isT "bool" = false := by simp [D.isT, D.ty]
@[simp] theorem isT_lst_str {ds : List D} : (D.lst ds).isT "str" = false := by simp [D.isT, D.ty]
@[simp] theorem isT_lst_tuple {ds : List D} : (D.lst ds).isT "tuple" = false := by simp [D.isT, D.ty]
@[simp] theorem isT_lst_list {ds : List D} : (D.lst ds).isT "list" = true := by simp [D.isT, D.ty]
@[simp] theorem plain_dk {l : List (Int × Int)} : (D.dk l).plain = false := rfl
@[simp] theorem plain_dt {l : List ((Int × Int) × Int)} : (D.dt l).plain = false := rfl
/-! ### more constructs -/
section
variable {f g fa fb fc fd fi fk fx : Den} {F : DenL} {env : En} {i j k n : Nat} {d : D}
@[simp] theorem v_eor : eOr f g env = (f env).bind fun x => match x.1 with | .bl true => .ok (.bl true, x.2) | .bl false => g x.2 | _ => .stk := rfl
@[simp] theorem v_chain3 {p q r} : eChain3 p q r fa fb fc fd env = (fa env).bind fun x => (fb x.2).bind fun y => (R.of (p x.1 y.1)).bind fun d => match d with
  | .bl true => (fc y.2).bind fun z => (R.of (q y.1 z.1)).bind fun d => (match d with
    | .bl true => (fd z.2).bind fun u => (R.of (r z.1 u.1)).bind fun d => .ok (d, u.2)
    | .bl false => .ok (.bl false, z.2)
    | _ => .stk)
  | .bl false => .ok (.bl false, y.2)
  | _ => .stk := rfl
@[simp] theorem v_count : eCount fa fb env = (fa env).bind fun x => match x.1 with
  | .tup true ds => (fb x.2).bind fun y => (R.of (cntD ds y.1)).bind fun d => .ok (d, y.2)
  | _ => .stk := rfl
@[simp] theorem v_index : eIndex fa fb env = (fa env).bind fun x => match x.1 with
  | .lst ds => (fb x.2).bind fun y => (R.of (match asI ds, y.1 with | some ns, .int k => (idxI k ns).map fun (j : Nat) => D.int (j : Int) | _, _ => none)).bind fun d => .ok (d, y.2)
  | _ => .stk := rfl
@[simp] theorem v_get : eGet fa fk fx env = (fa env).bind fun x => if x.1.isD then (fk x.2).bind fun k => (fx k.2).bind fun y => (match gtD x.1 k.1, y.1 with
    | some o, .int i => .ok (.int (o.getD i), y.2)
    | _, _ => .stk) else .stk := rfl
@[simp] theorem v_getI : eGetI fa fk env = (fa env).bind fun x => (fk x.2).bind fun y => (R.of ((gtD x.1 y.1).bind fun o => o.map D.int)).bind fun d => .ok (d, y.2) := rfl
@[simp] theorem isD_dk {l : List (Int × Int)} : (D.dk l).isD = true := rfl
@[simp] theorem isD_dt {l : List ((Int × Int) × Int)} : (D.dt l).isD = true := rfl
@[simp] theorem gtD_dk {l : List (Int × Int)} {i : Int} : gtD (.dk l) (.int i) = some (gtI l i) := rfl
@[simp] theorem gtD_dt {l : List ((Int × Int) × Int)} {i j : Int} : gtD (.dt l) (.tup false [.int i, .int j]) = some (gtT l (i, j)) := rfl
@[simp] theorem v_sortKey : eSortKey F env = (F env).bind fun x => match x.1 with
  | [a] => (R.of ((sqD a).bind prs)).bind fun bs => .ok (.lst (srtK bs), x.2)
  | _ => .stk := rfl
@[simp] theorem v_aug {h : Int → Int → Int} : sAug i h f env = (match env[i]? with
  | some (.val (.int a)) => (f env).bind fun x => (match x.1 with
    | .int b => (R.of (putV i (.int (h a b)) x.2)).bind fun e => .ok (.nx, e)
    | _ => .stk)
  | _ => .stk) := rfl
@[simp] theorem v_augL {h : Int → Int → Int} : sAugL i h fi f env = if isOwn env i then (fi env).bind fun k => (match k.1, k.2[i]? with
    | .int j, some (.own (.lst ds)) => (match atI ds j with
      | some (.int a) => (f k.2).bind fun x => (match x.1 with
        | .int b => (R.of (chL i (fun es => (ixN es.length j).map fun m => es.set m (.int (h a b))) x.2)).bind fun e => .ok (.nx, e)
        | _ => .stk)
      | _ => .stk)
    | _, _ => .stk) else .stk := rfl
@[simp] theorem v_par2 : sPar2 i j F env = (F env).bind fun x => match x.1 with
  | [d, e] => (R.of ((putV i d x.2).bind fun e1 => putV j e e1)).bind fun e2 => .ok (.nx, e2)
  | _ => .stk := rfl
@[simp] theorem v_tgt {p : Pt} : sTgt p f env = (f env).bind fun x => (R.of (p.asg x.1 x.2)).bind fun e => .ok (.nx, e) := rfl
@[simp] theorem v_for {it : DenL} {p : Pt} {b : DenS} : sFor it p b env = (it env).bind fun x => sLoop p b x.1 x.2 := rfl
@[simp] theorem v_itR2 : itR2 F env = (F env).bind fun x => match x.1 with
  | [.int i, .int j] => if small i && small j then .ok (rgI i (j - i).toNat, x.2) else .stk
  | _ => .stk := rfl
@[simp] theorem v_itEnum : itEnum F env = (F env).bind fun x => match x.1 with
  | [a] => (R.of (sqD a)).bind fun ds => .ok (enumD ds, x.2)
  | _ => .stk := rfl
@[simp] theorem v_itZip : itZip F env = (F env).bind fun x => match x.1 with
  | [a, b] => (R.of ((sqD a).bind fun xs => (sqD b).bind fun ys => some (zipD xs ys))).bind fun ds => .ok (ds, x.2)
  | _ => .stk := rfl
@[simp] theorem sqD_lst {ds : List D} : sqD (.lst ds) = some ds := rfl
@[simp] theorem sqD_tup {b : Bool} {ds : List D} : sqD (.tup b ds) = some ds := rfl
@[simp] theorem p_sum {ns : List Int} : pSum [.lst (ns.map D.int)] = some (.int ns.sum) := by simp [pSum]
@[simp] theorem p_all {bs : List Bool} : pAll [.lst (bs.map D.bl)] = some (.bl (bs.all id)) := by simp [pAll]
@[simp] theorem p_max2 {i j : Int} : pMax [.int i, .int j] = some (.int (if j > i then j else i)) := rfl
@[simp] theorem p_min2 {i j : Int} : pMin [.int i, .int j] = some (.int (if j < i then j else i)) := rfl
@[simp] theorem p_intI {i : Int} : pInt [.int i] = some (.int i) := rfl
@[simp] theorem p_intB {b : Bool} : pInt [.bl b] = some (.int (if b then 1 else 0)) := rfl
@[simp] theorem p_isNn : pIsN .non .non = some (.bl true) := rfl
@[simp] theorem v_sErr {c : Str} : sErr c env = .err c := rfl
@[simp] theorem v_sBrk : sBrk env = .ok (.brk, env) := rfl
@[simp] theorem v_sCnt : sCnt env = .ok (.cnt, env) := rfl
@[simp] theorem v_sRetO : sRetO i env = (match env[i]? with | some (.own d) => .ok (.ret d, env) | _ => .stk) := rfl
@[simp] theorem v_tT : tT env = .ok (true, env) := rfl
end
/-! ### comprehensions over typed data -/
section
variable {α : Type} {it : DenL} {cond : DenT} {elt : Den} {env env1 : En} {i j : Nat}
theorem set_back {env : En} {i : Nat} {s : Sl} : cp1 i env (env.set i s) = env := by
  unfold cp1
  cases h : env[i]? with
  | none => exact List.set_eq_of_length_le (List.getElem?_eq_none_iff.mp h)
  | some t =>
    show (env.set i s).set i t = env
    rw [List.set_set]
    obtain ⟨hi, e⟩ := List.getElem?_eq_some_iff.mp h
    rw [← e]
    exact List.set_getElem_self hi
theorem free_get {env : En} {i : Nat} {s : Sl} (h : env[i]? = some s) (f : s.free = true) : hasOwn env [i] = false := by
  cases s <;> simp_all [hasOwn]
/-- one name -/
theorem comp_nm (ys : List α) (enc : α → D) (c : α → Bool) (g : α → D) {s : Sl} (hit : it env = .ok (ys.map enc, env1)) (hl : ys.length ≤ big) (hi : env1[i]? = some s) (hf : s.free = true)
    (h : ∀ y ∈ ys, cond (env1.set i (.val (enc y))) = .ok (c y, env1.set i (.val (enc y))) ∧ (c y = true → elt (env1.set i (.val (enc y))) = .ok (g y, env1.set i (.val (enc y))))) :
    fComp it (.nm i) [i] cond elt env = .ok (.lst ((ys.filter c).map g), env1) := by
  have hn := free_get hi hf
  have hlt : i < env1.length := (List.getElem?_eq_some_iff.mp hi).1
  have key : ∀ (zs : List α) (acc : List D), (∀ z ∈ zs, z ∈ ys) → cLoop (.nm i) [i] cond elt (zs.map enc) acc env1 = .ok (acc ++ (zs.filter c).map g, env1) := by
    intro zs
    induction zs with
    | nil => intro acc _; simp [cLoop]
    | cons z zs ih =>
      intro acc hz
      obtain ⟨h1, h2⟩ := h z (hz z List.mem_cons_self)
      have ih := fun acc => ih acc fun y hy => hz y (List.mem_cons_of_mem _ hy)
      have ha : Pt.asg (.nm i) (enc z) (wipeE env1 [i]) = some (env1.set i (.val (enc z))) := by
        simp [Pt.asg, wipeE, hlt, List.getElem?_set_self hlt]
      cases hc : c z with
      | true => simp [cLoop, cTurn, hn, ha, h1, hc, h2 hc, backE, set_back, ih]
      | false => simp [cLoop, cTurn, hn, ha, h1, hc, backE, set_back, ih]
  simp [fComp, hit, hl, key ys [] fun _ h => h]
/-- one name, no if -/
theorem comp_nmT (ys : List α) (enc : α → D) (g : α → D) {s : Sl} (hit : it env = .ok (ys.map enc, env1)) (hl : ys.length ≤ big) (hi : env1[i]? = some s) (hf : s.free = true)
    (h : ∀ y ∈ ys, elt (env1.set i (.val (enc y))) = .ok (g y, env1.set i (.val (enc y)))) :
    fComp it (.nm i) [i] tT elt env = .ok (.lst (ys.map g), env1) := by
  rw [comp_nm ys enc (fun _ => true) g hit hl hi hf fun y hy => ⟨rfl, fun _ => h y hy⟩, List.filter_eq_self.mpr (fun _ _ => rfl)]
/-- two names -/
theorem comp_tu (ys : List α) (e1 e2 : α → D) (tb : α → Bool) (c : α → Bool) (g : α → D) {s t : Sl} (hit : it env = .ok (ys.map (fun y => .tup (tb y) [e1 y, e2 y]), env1)) (hl : ys.length ≤ big) (hij : i ≠ j) (hi : env1[i]? = some s) (hf : s.free = true) (hj : env1[j]? = some t) (ht : t.free = true)
    (h : ∀ y ∈ ys, cond ((env1.set i (.val (e1 y))).set j (.val (e2 y))) = .ok (c y, (env1.set i (.val (e1 y))).set j (.val (e2 y))) ∧ (c y = true → elt ((env1.set i (.val (e1 y))).set j (.val (e2 y))) = .ok (g y, (env1.set i (.val (e1 y))).set j (.val (e2 y))))) :
    fComp it (.tu [.nm i, .nm j]) [i, j] cond elt env = .ok (.lst ((ys.filter c).map g), env1) := by
  have hn : hasOwn env1 [i, j] = false := by
    have a := free_get hi hf; have b := free_get hj ht
    simp [hasOwn] at a b ⊢
    exact ⟨a, b⟩
  have hlt : i < env1.length := (List.getElem?_eq_some_iff.mp hi).1
  have hlj : j < env1.length := (List.getElem?_eq_some_iff.mp hj).1
  have hb : ∀ u v, backE [i, j] env1 ((env1.set i u).set j v) = env1 := fun u v => by
    simp only [backE]
    have : cp1 i env1 ((env1.set i u).set j v) = env1.set j v := by
      unfold cp1
      rw [hi]
      show ((env1.set i u).set j v).set i s = _
      rw [List.set_comm _ _ (Ne.symm hij), List.set_set]
      congr 1
      obtain ⟨h1, e⟩ := List.getElem?_eq_some_iff.mp hi
      rw [← e]
      exact List.set_getElem_self h1
    rw [this, set_back]
  have key : ∀ (zs : List α) (acc : List D), (∀ z ∈ zs, z ∈ ys) → cLoop (.tu [.nm i, .nm j]) [i, j] cond elt (zs.map (fun y => .tup (tb y) [e1 y, e2 y])) acc env1 = .ok (acc ++ (zs.filter c).map g, env1) := by
    intro zs
    induction zs with
    | nil => intro acc _; simp [cLoop]
    | cons z zs ih =>
      intro acc hz
      obtain ⟨h1, h2⟩ := h z (hz z List.mem_cons_self)
      have ih := fun acc => ih acc fun y hy => hz y (List.mem_cons_of_mem _ hy)
      have ha : Pt.asg (.tu [.nm i, .nm j]) (.tup (tb z) [e1 z, e2 z]) (wipeE env1 [i, j]) = some ((env1.set i (.val (e1 z))).set j (.val (e2 z))) := by
        simp [Pt.asg, asgL, wipeE, hlt, hlj, List.getElem?_set, hij, Ne.symm hij]
        rw [List.set_comm _ _ (Ne.symm hij), List.set_set, List.set_set]
      cases hc : c z with
      | true => simp only [List.map_cons, cLoop, cTurn, hn, ha, R.of_some, R.bind_ok, h1, R.hush_ok, hc, h2 hc, hb, ih]; simp [hc, ih]
      | false => simp only [List.map_cons, cLoop, cTurn, hn, ha, R.of_some, R.bind_ok, h1, R.hush_ok, hc, hb, ih]; simp [hc, ih]
  simp [fComp, hit, hl, key ys [] fun _ h => h]
end
/-! ### the laws' decks -/
abbrev dk (a b c : Int) : D := .lst [.int a, .int b, .int c]
def Dk (n : Int) (d : D) : Prop := ∃ a b c, d = dk a b c ∧ 0 ≤ b ∧ b < 2147483579 ∧ 0 ≤ c ∧ c ≤ n
theorem Dk.ff {n : Int} {d : D} (h : Dk n d) : d.ff = true := by
  obtain ⟨_, _, _, rfl, _⟩ := h
  simp
theorem Dk.fl {n : Int} {d : D} (h : Dk n d) : d.fl = true := by
  obtain ⟨_, _, _, rfl, _⟩ := h
  rfl
theorem Dk.mono {n m : Int} {d : D} (h : Dk n d) (e : n ≤ m) : Dk m d := by
  obtain ⟨a, b, c, e1, h1, h2, h3, h4⟩ := h
  exact ⟨a, b, c, e1, h1, h2, h3, by omega⟩

/-! ### loops -/
theorem sLoop_inv {p : Pt} {body : DenS} (I : En → Prop) : ∀ (xs : List D), (∀ x ∈ xs, ∀ env, I env → ∃ e1, p.asg x env = some e1 ∧ ∃ e2, body e1 = .ok (.nx, e2) ∧ I e2) →
    ∀ env, I env → ∃ e2, sLoop p body xs env = .ok (.nx, e2) ∧ I e2
  | [], _, env, hi => ⟨env, rfl, hi⟩
  | x :: xs, h, env, hi => by
    obtain ⟨e1, h1, e2, h2, h3⟩ := h x List.mem_cons_self env hi
    obtain ⟨e3, h4, h5⟩ := sLoop_inv I xs (fun y hy => h y (List.mem_cons_of_mem _ hy)) e2 h3
    exact ⟨e3, by simp [sLoop, h1, h2, h4], h5⟩
/-- a loop whose invariant counts -/
theorem sLoop_cnt {p : Pt} {body : DenS} (I : Nat → En → Prop) (N : Nat) : ∀ (xs : List D) (k : Nat), k + xs.length ≤ N → (∀ x ∈ xs, ∀ j env, j < N → I j env → ∃ e1, p.asg x env = some e1 ∧ ∃ e2, body e1 = .ok (.nx, e2) ∧ I (j + 1) e2) →
    ∀ env, I k env → ∃ e2, sLoop p body xs env = .ok (.nx, e2) ∧ I (k + xs.length) e2
  | [], k, _, _, env, hi => ⟨env, rfl, hi⟩
  | x :: xs, k, hN, h, env, hi => by
    rw [List.length_cons] at hN
    obtain ⟨e1, h1, e2, h2, h3⟩ := h x List.mem_cons_self k env (by omega) hi
    obtain ⟨e3, h4, h5⟩ := sLoop_cnt I N xs (k + 1) (by omega) (fun y hy => h y (List.mem_cons_of_mem _ hy)) e2 h3
    exact ⟨e3, by simp [sLoop, h1, h2, h4], by rw [List.length_cons]; rw [show k + (xs.length + 1) = k + 1 + xs.length by omega]; exact h5⟩
theorem sLoop_ret {p : Pt} {body : DenS} (bad : D → Bool) (r : D) (I : En → Prop) : ∀ (xs : List D),
    (∀ x ∈ xs, ∀ env, I env → ∃ e1, p.asg x env = some e1 ∧ ((bad x = true ∧ ∃ e2, body e1 = .ok (.ret r, e2)) ∨ (bad x = false ∧ ∃ e2, body e1 = .ok (.nx, e2) ∧ I e2))) →
    ∀ env, I env → (xs.any bad = true ∧ ∃ e2, sLoop p body xs env = .ok (.ret r, e2)) ∨ (xs.any bad = false ∧ ∃ e2, sLoop p body xs env = .ok (.nx, e2) ∧ I e2)
  | [], _, env, hi => .inr ⟨rfl, env, rfl, hi⟩
  | x :: xs, h, env, hi => by
    obtain ⟨e1, h1, h2⟩ := h x List.mem_cons_self env hi
    rcases h2 with ⟨hb, e2, h2⟩ | ⟨hb, e2, h2, h3⟩
    · exact .inl ⟨by simp [hb], e2, by simp [sLoop, h1, h2]⟩
    · rcases sLoop_ret bad r I xs (fun y hy => h y (List.mem_cons_of_mem _ hy)) e2 h3 with ⟨q1, e3, q2⟩ | ⟨q1, e3, q2, q3⟩
      · exact .inl ⟨by simp [hb, q1], e3, by simp [sLoop, h1, h2, q2]⟩
      · exact .inr ⟨by simp [hb, q1], e3, by simp [sLoop, h1, h2, q2], q3⟩
theorem cLoop_pure {p : Pt} {vs : List Nat} {cond : DenT} {elt : Den} {env : En} (c : D → Bool) (g : D → D) (ho : hasOwn env vs = false) : ∀ (xs acc : List D),
    (∀ x ∈ xs, ∃ e1, p.asg x (wipeE env vs) = some e1 ∧ ∃ e2, cond e1 = .ok (c x, e2) ∧ (c x = true → ∃ e3, elt e2 = .ok (g x, e3) ∧ backE vs env e3 = env) ∧ (c x = false → backE vs env e2 = env)) →
    cLoop p vs cond elt xs acc env = .ok (acc ++ (xs.filter c).map g, env)
  | [], acc, _ => by simp [cLoop]
  | x :: xs, acc, h => by
    obtain ⟨e1, h1, e2, h2, h3, h4⟩ := h x List.mem_cons_self
    have ih := fun acc => cLoop_pure (cond := cond) (elt := elt) c g ho xs acc fun y hy => h y (List.mem_cons_of_mem _ hy)
    cases hc : c x with
    | true =>
      obtain ⟨e3, h5, h6⟩ := h3 hc
      simp [cLoop, cTurn, ho, h1, h2, hc, h5, h6, ih]
    | false =>
      have h6 := h4 hc
      simp [cLoop, cTurn, ho, h1, h2, hc, h6, ih]
theorem comp_pure {it : DenL} {p : Pt} {vs : List Nat} {cond : DenT} {elt : Den} {env env1 : En} {xs : List D} (c : D → Bool) (g : D → D) (hit : it env = .ok (xs, env1)) (hl : xs.length ≤ big) (ho : hasOwn env1 vs = false)
    (h : ∀ x ∈ xs, ∃ e1, p.asg x (wipeE env1 vs) = some e1 ∧ ∃ e2, cond e1 = .ok (c x, e2) ∧ (c x = true → ∃ e3, elt e2 = .ok (g x, e3) ∧ backE vs env1 e3 = env1) ∧ (c x = false → backE vs env1 e2 = env1)) :
    fComp it p vs cond elt env = .ok (.lst ((xs.filter c).map g), env1) := by
  simp [fComp, hit, hl, cLoop_pure c g ho xs [] h]
theorem comp_map {it : DenL} {p : Pt} {vs : List Nat} {elt : Den} {env env1 : En} {xs : List D} (g : D → D) (hit : it env = .ok (xs, env1)) (hl : xs.length ≤ big) (ho : hasOwn env1 vs = false)
    (h : ∀ x ∈ xs, ∃ e1, p.asg x (wipeE env1 vs) = some e1 ∧ ∃ e3, elt e1 = .ok (g x, e3) ∧ backE vs env1 e3 = env1) : fComp it p vs tT elt env = .ok (.lst (xs.map g), env1) := by
  rw [comp_pure (fun _ => true) g hit hl ho, List.filter_eq_self.mpr (fun _ _ => rfl)]
  intro x hx
  obtain ⟨e1, h1, e3, h2, h3⟩ := h x hx
  exact ⟨e1, h1, e1, rfl, fun _ => ⟨e3, h2, h3⟩, fun z => by cases z⟩
theorem cLoop_inv {p : Pt} {vs : List Nat} {cond : DenT} {elt : Den} (I : Nat → En → Prop) (P : D → Prop) (N : Nat) : ∀ (xs acc : List D) (k : Nat) (env : En), k + xs.length ≤ N →
    (∀ x ∈ xs, ∀ j env, j < N → I j env → hasOwn env vs = false ∧ ∃ e1, p.asg x (wipeE env vs) = some e1 ∧ cond e1 = .ok (true, e1) ∧ ∃ y e3, elt e1 = .ok (y, e3) ∧ P y ∧ I (j + 1) (backE vs env e3)) →
    (∀ y ∈ acc, P y) → I k env → ∃ ys e2, cLoop p vs cond elt xs acc env = .ok (ys, e2) ∧ (∀ y ∈ ys, P y) ∧ ys.length = acc.length + xs.length ∧ I (k + xs.length) e2
  | [], acc, k, env, _, _, ha, hi => ⟨acc, env, rfl, ha, rfl, hi⟩
  | x :: xs, acc, k, env, hN, h, ha, hi => by
    rw [List.length_cons] at hN
    obtain ⟨ho, e1, h1, h2, y, e3, h3, h4, h5⟩ := h x List.mem_cons_self k env (by omega) hi
    obtain ⟨ys, e4, q1, q2, q3, q4⟩ := cLoop_inv (cond := cond) (elt := elt) I P N xs (acc ++ [y]) (k + 1) (backE vs env e3) (by omega) (fun z hz => h z (List.mem_cons_of_mem _ hz)) (fun z hz => by
      rcases List.mem_append.mp hz with hz | hz
      · exact ha z hz
      · rw [List.mem_singleton.mp hz]; exact h4) h5
    refine ⟨ys, e4, by simp [cLoop, cTurn, ho, h1, h2, h3, q1], q2, by rw [q3]; simp; omega, ?_⟩
    rw [List.length_cons, show k + (xs.length + 1) = k + 1 + xs.length by omega]
    exact q4
theorem comp_inv {it : DenL} {p : Pt} {vs : List Nat} {cond : DenT} {elt : Den} {env env1 : En} {xs : List D} (I : Nat → En → Prop) (P : D → Prop) (hit : it env = .ok (xs, env1)) (hl : xs.length ≤ big)
    (h : ∀ x ∈ xs, ∀ j env, j < xs.length → I j env → hasOwn env vs = false ∧ ∃ e1, p.asg x (wipeE env vs) = some e1 ∧ cond e1 = .ok (true, e1) ∧ ∃ y e3, elt e1 = .ok (y, e3) ∧ P y ∧ I (j + 1) (backE vs env e3)) (hi : I 0 env1) :
    ∃ ys e2, fComp it p vs cond elt env = .ok (.lst ys, e2) ∧ (∀ y ∈ ys, P y) ∧ ys.length = xs.length ∧ I xs.length e2 := by
  obtain ⟨ys, e2, q1, q2, q3, q4⟩ := cLoop_inv (cond := cond) (elt := elt) I P xs.length xs [] 0 env1 (by omega) h (fun y hy => by cases hy) hi
  exact ⟨ys, e2, by simp [fComp, hit, hl, q1], q2, by simpa using q3, by simpa using q4⟩

/-! ### things: depth, lengths, ints -/
def Th (m : Nat) (B : Int) : Nat → D → Prop
  | _, .non => True
  | _, .bl _ => True
  | _, .str x => PyData.strOk x = true
  | _, .int i => -B ≤ i ∧ i ≤ B
  | k + 1, .tup _ ds => ds.length ≤ m ∧ ∀ d ∈ ds, Th m B k d
  | k + 1, .lst ds => ds.length ≤ m ∧ ∀ d ∈ ds, Th m B k d
  | _, _ => False
theorem strOk_of (s : String) : PyData.strOk (Str.ofString s) = true := by
  rw [Str.ofString_eq_toList]
  unfold PyData.strOk
  rw [List.all_toArray, List.all_map, List.all_eq_true]
  intro c _
  have h := c.valid
  have e : c.toNat = c.val.toNat := rfl
  simp only [Function.comp, decide_eq_true_eq]
  rw [e]
  rcases h with h | ⟨_, h⟩
  · have : c.val.toNat < 55296 := h
    omega
  · exact h
theorem Th.mono {m m' : Nat} {B B' : Int} (hm : m ≤ m') (hB : B ≤ B') : ∀ {k k' : Nat} {d : D}, k ≤ k' → Th m B k d → Th m' B' k' d := by
  intro k
  induction k with
  | zero =>
    intro k' d hk h
    cases d <;> cases k' <;> simp only [Th] at h ⊢ <;> first | exact h | omega
  | succ k ih =>
    intro k' d hk h
    obtain ⟨k', rfl⟩ : ∃ j, k' = j + 1 := ⟨k' - 1, by omega⟩
    cases d <;> simp only [Th] at h ⊢
    · omega
    · exact h
    · exact ⟨by omega, fun d hd => ih (by omega) (h.2 d hd)⟩
    · exact ⟨by omega, fun d hd => ih (by omega) (h.2 d hd)⟩
theorem Th.plain {m : Nat} {B : Int} {k : Nat} {d : D} (h : Th m B k d) : d.plain = true := by
  cases d <;> cases k <;> simp_all [Th, D.plain]
mutual
theorem canLay_py {m : Nat} {B : Int} : ∀ (d : D) (k : Nat), Th m B k d → ∃ e, d.py = some e ∧ e.canLay0 = true ∧ e.depth ≤ k
  | .non, k, _ => ⟨_, rfl, by simp [PyData.canLay0], by simp [PyData.depth]⟩
  | .bl _, k, _ => ⟨_, rfl, by simp [PyData.canLay0], by simp [PyData.depth]⟩
  | .int _, k, _ => ⟨_, rfl, by simp [PyData.canLay0], by simp [PyData.depth]⟩
  | .str _, k, h => ⟨_, rfl, by cases k <;> simpa [PyData.canLay0, Th] using h, by simp [PyData.depth]⟩
  | .tup tb ds, k, h => by
    cases k with
    | zero => simp [Th] at h
    | succ k =>
      simp only [Th] at h
      obtain ⟨es, h1, h2, h3⟩ := canLay_pyL ds k h.2
      exact ⟨_, by simp only [D.py, h1]; rfl, by simpa [PyData.canLay0] using h2, by simp only [PyData.depth]; omega⟩
  | .lst ds, k, h => by
    cases k with
    | zero => simp [Th] at h
    | succ k =>
      simp only [Th] at h
      obtain ⟨es, h1, h2, h3⟩ := canLay_pyL ds k h.2
      exact ⟨_, by simp only [D.py, h1]; rfl, by simpa [PyData.canLay0] using h2, by simp only [PyData.depth]; omega⟩
  | .dk _, k, h => by cases k <;> simp [Th] at h
  | .dt _, k, h => by cases k <;> simp [Th] at h
theorem canLay_pyL {m : Nat} {B : Int} : ∀ (ds : List D) (k : Nat), (∀ d ∈ ds, Th m B k d) → ∃ es, pyL ds = some es ∧ PyData.canLayAll0 es = true ∧ PyData.depthAll es ≤ k
  | [], k, _ => ⟨[], rfl, by simp [PyData.canLayAll0], by simp [PyData.depthAll]⟩
  | d :: ds, k, h => by
    obtain ⟨e, h1, h2, h3⟩ := canLay_py d k (h d List.mem_cons_self)
    obtain ⟨es, h4, h5, h6⟩ := canLay_pyL ds k fun x hx => h x (List.mem_cons_of_mem _ hx)
    exact ⟨e :: es, by simp only [pyL, h1, h4]; rfl, by simp [PyData.canLayAll0, h2, h5], by simp only [PyData.depthAll]; omega⟩
end
theorem eqD_nil {m : Nat} {B : Int} {k : Nat} {ds : List D} (h : ∀ d ∈ ds, Th m B k d) (hk : k ≤ 60) : pEq (.lst ds) (.lst []) = some (.bl ds.isEmpty) := by
  obtain ⟨es, h1, h2, h3⟩ := canLay_pyL ds k h
  have e1 : (D.lst ds).py = some (.list es) := by simp only [D.py, h1]; rfl
  have e2 : (D.lst []).py = some (.list []) := by simp [D.py, pyL]
  have s1 : SeqAt.shaped (.list es) = true := by
    unfold SeqAt.shaped
    have ed : (PyData.list es).depth = PyData.depthAll es + 1 := by simp [PyData.depth]
    rw [ed]
    simp only [PyData.canLay0, h2, Bool.true_and, decide_eq_true_eq]
    omega
  have s2 : SeqAt.shaped (.list []) = true := by decide
  have e3 : PyData.eqv (.list es) (.list []) = ds.isEmpty := by
    cases ds with
    | nil => simp [pyL] at h1; subst h1; simp [PyData.eqv, PyData.eqvAll]
    | cons d ds =>
      cases es with
      | nil => simp only [pyL] at h1; cases z : d.py with
        | none => rw [z] at h1; cases h1
        | some e => rw [z] at h1; cases z2 : pyL ds with
          | none => rw [z2] at h1; cases h1
          | some es => rw [z2] at h1; cases h1
      | cons e es => simp [PyData.eqv, PyData.eqvAll]
  show ((eqS (.lst ds) (.lst [])).or (eqD (.lst ds) (.lst []))).map D.bl = _
  simp [eqS, eqD, e1, e2, s1, s2, e3]

/-! ### lists of ints: equal, rising -/
theorem pyL_ints : ∀ ns : List Int, pyL (ns.map D.int) = some (ns.map PyData.int)
  | [] => rfl
  | n :: ns => by simp only [List.map_cons, pyL, D.py, pyL_ints ns]; rfl
theorem eqv_ints : ∀ ns ms : List Int, PyData.eqvAll (ns.map PyData.int) (ms.map PyData.int) = decide (ns = ms)
  | [], [] => by simp [PyData.eqvAll]
  | [], m :: ms => by simp [PyData.eqvAll]
  | n :: ns, [] => by simp [PyData.eqvAll]
  | n :: ns, m :: ms => by
    simp only [List.map_cons, PyData.eqvAll, PyData.eqv, eqv_ints ns ms, List.cons.injEq]
    by_cases h : n = m <;> by_cases h2 : ns = ms <;> simp [h, h2]
theorem canLay_ints : ∀ ns : List Int, PyData.canLayAll0 (ns.map PyData.int) = true
  | [] => by simp [PyData.canLayAll0]
  | n :: ns => by simp [PyData.canLayAll0, PyData.canLay0, canLay_ints ns]
theorem depth_ints : ∀ ns : List Int, PyData.depthAll (ns.map PyData.int) = 0
  | [] => by simp [PyData.depthAll]
  | n :: ns => by simp [PyData.depthAll, PyData.depth, depth_ints ns]
theorem shaped_ints (ns : List Int) : SeqAt.shaped (.list (ns.map PyData.int)) = true := by
  unfold SeqAt.shaped
  have e : (PyData.list (ns.map PyData.int)).depth = PyData.depthAll (ns.map PyData.int) + 1 := by simp [PyData.depth]
  rw [e, depth_ints]
  simp [PyData.canLay0, canLay_ints]
theorem p_eqInts (ns ms : List Int) : pEq (.lst (ns.map D.int)) (.lst (ms.map D.int)) = some (.bl (decide (ns = ms))) := by
  have e1 : (D.lst (ns.map D.int)).py = some (.list (ns.map PyData.int)) := by simp only [D.py, pyL_ints]; rfl
  have e2 : (D.lst (ms.map D.int)).py = some (.list (ms.map PyData.int)) := by simp only [D.py, pyL_ints]; rfl
  show ((eqS (.lst _) (.lst _)).or (eqD (.lst _) (.lst _))).map D.bl = _
  simp only [eqS, eqD, e1, e2, shaped_ints, Bool.and_self, if_true, PyData.eqv, eqv_ints]
  rfl
def riseB : List Int → Bool
  | [] => true
  | x :: r => (match r with | [] => true | y :: _ => decide (x < y)) && riseB r
theorem riseB_iff : ∀ ns : List Int, riseB ns = true ↔ ns.Pairwise (· < ·)
  | [] => by simp [riseB]
  | [x] => by simp [riseB]
  | x :: y :: r => by
    have ih := riseB_iff (y :: r)
    unfold riseB
    rw [Bool.and_eq_true, ih, List.pairwise_cons (a := x)]
    simp only [decide_eq_true_eq]
    constructor
    · rintro ⟨h1, h2⟩
      refine ⟨fun z hz => ?_, h2⟩
      rcases List.mem_cons.mp hz with e | e
      · omega
      · have := (List.pairwise_cons.mp h2).1 z e
        omega
    · rintro ⟨h1, h2⟩
      exact ⟨h1 y List.mem_cons_self, h2⟩
theorem rise_sort (ns : List Int) : decide (ns = sortI ns) = riseB ns := by
  rw [Bool.eq_iff_iff, riseB_iff, decide_eq_true_eq]
  constructor
  · intro h
    rw [h]
    exact sortI_rising ns
  · intro h
    exact rising_one h (sortI_rising ns) fun k => (sortI_mem k ns).symm
theorem zip_rise : ∀ ns : List Int, ((ns.zip (ns.drop 1)).all fun p => decide (p.1 < p.2)) = riseB ns
  | [] => rfl
  | [x] => rfl
  | x :: y :: r => by
    have ih := zip_rise (y :: r)
    unfold riseB
    rw [← ih]
    rfl
end DL

/-! ## Q1 -/
/-! Q1: books, rooms, spans: what the package says of any thing. μ: all tuples bear the flag. -/
namespace DL
open PySem PySem.Spec PyProof.Rows L2
section
variable {μ : Bool}
/-! ### whole numbers from, to -/
def fromB (l h : Int) : D → Bool
  | .int i => decide (l ≤ i) && decide (i ≤ h)
  | _ => false
theorem from_ok {x : D} (l h : Int) (hx : x.plain = true) : f_is_from μ [x, .int l, .int h] = .ok (.bl (fromB l h x), .non) := by
  cases x <;> simp [f_is_from, v_run, b_is_from, startE, fromB] at hx ⊢
  rename_i i
  by_cases q : l ≤ i <;> simp [q]
/-! ### books -/
def pairP (x : D) : Bool := match x with | .tup _ [_, _] => true | _ => false
def spanB (s : Int) : D → Bool
  | .tup _ [.int a, .int b] => decide (1 ≤ a) && decide (a ≤ s) && (decide (a ≤ b) && decide (b ≤ s))
  | _ => false
def winterB (s : Int) : D → Bool
  | .tup _ ds => decide (ds.length ≤ 8) && ds.all (spanB s)
  | _ => false
def bookB : D → Bool
  | .tup _ [.int s, .tup _ ws] => decide (1 ≤ s) && decide (s ≤ 16) && (decide (1 ≤ ws.length) && decide (ws.length ≤ 5)) && ws.all (winterB s)
  | _ => false
/-- every shape of a thing, as it matters here -/
theorem shape (x : D) : (∀ tb ds, x ≠ .tup tb ds) ∨ (∃ tb a b, x = .tup tb [a, b]) ∨ ∃ tb ds, x = .tup tb ds ∧ ds.length ≠ 2 := by
  cases x with
  | tup tb ds =>
    match ds with
    | [] => exact .inr (.inr ⟨_, _, rfl, by simp⟩)
    | [a] => exact .inr (.inr ⟨_, _, rfl, by simp⟩)
    | [a, b] => exact .inr (.inl ⟨tb, a, b, rfl⟩)
    | a :: b :: c :: r => exact .inr (.inr ⟨_, _, rfl, by simp⟩)
  | _ => exact .inl fun tb ds => by simp
theorem isT_tupX (x : D) : x.isT "tuple" = (match x with | .tup _ _ => true | _ => false) := by
  cases x <;> simp [D.isT, D.ty]
theorem span_ok {x : D} (s : Int) (m k : Nat) (B : Int) (hx : Th m B k x) : f_is_span μ [.int s, x] = .ok (.bl (spanB s x), .non) := by
  have hp := hx.plain
  rcases shape x with h | ⟨tb, a, b, rfl⟩ | ⟨tb, ds, rfl, h⟩
  · have e1 : x.isT "tuple" = false := by rw [isT_tupX]; cases x <;> first | rfl | exact absurd rfl (h _ _)
    have e2 : spanB s x = false := by cases x <;> first | rfl | exact absurd rfl (h _ _)
    simp [f_is_span, v_run, b_is_span, startE, hp, e1, e2]
  · cases k with
    | zero => simp [Th] at hx
    | succ k =>
      simp only [Th] at hx
      have ha := (hx.2 a (by simp)).plain
      have hb := (hx.2 b (by simp)).plain
      have f1 := from_ok (μ := μ) 1 s ha
      cases q : fromB 1 s a with
      | false =>
        have e2 : spanB s (.tup tb [a, b]) = false := by
          cases a <;> first | rfl | skip
          cases b <;> first | rfl | skip
          simp only [fromB] at q
          simp [spanB, q]
        simp [f_is_span, v_run, b_is_span, startE, f1, q, e2]
      | true =>
        obtain ⟨i, rfl⟩ : ∃ i, a = .int i := by cases a <;> first | exact ⟨_, rfl⟩ | cases q
        have f2 := from_ok (μ := μ) i s hb
        have e2 : spanB s (.tup tb [.int i, b]) = fromB i s b := by
          simp only [fromB] at q
          cases b <;> simp [spanB, fromB, q]
        simp [f_is_span, v_run, b_is_span, startE, f1, q, e2, f2]
  · have e2 : spanB s (.tup tb ds) = false := by
      unfold spanB
      split
      · simp_all
      · rfl
    have e3 : ¬ ((ds.length : Int) = 2) := by omega
    simp [f_is_span, v_run, b_is_span, startE, e2, e3]
theorem bls_all (ds : List D) (q : D → Bool) : asB (ds.map fun x => D.bl (q x)) = some (ds.map q) := by
  have e : (ds.map fun x => D.bl (q x)) = (ds.map q).map D.bl := by rw [List.map_map]; rfl
  rw [e, asB_map]
theorem winter_ok {x : D} (s : Int) (m k : Nat) (B : Int) (hm : m ≤ 1000) (hx : Th m B k x) : f_is_winter μ [.int s, x] = .ok (.bl (winterB s x), .non) := by
  have hp := hx.plain
  by_cases h : ∃ tb ds, x = .tup tb ds
  · obtain ⟨tb, ds, rfl⟩ := h
    cases k with
    | zero => simp [Th] at hx
    | succ k =>
      simp only [Th] at hx
      have hc : fComp (itS (eVar 1)) (.nm 2) [2] tT (eCall 2 (f_is_span μ) (aCons (eVar 0) (aCons (eVar 2) aNil))) [.val (.int s), .val (.tup tb ds), .no] = .ok (.lst (ds.map fun x => .bl (spanB s x)), [.val (.int s), .val (.tup tb ds), .no]) := by
        refine comp_map _ (by simp [itS]) (by unfold big; omega) (by simp [hasOwn]) fun x hd => ?_
        exact ⟨[.val (.int s), .val (.tup tb ds), .val x], by simp [Pt.asg, wipeE], [.val (.int s), .val (.tup tb ds), .val x], by simp [span_ok s m k B (hx.2 x hd)], by simp [backE, cp1]⟩
      simp [f_is_winter, v_run, b_is_winter, startE, hc, pAll, bls_all]
      by_cases q : (ds.length : Int) ≤ 8
      · simp [q, winterB, show ds.length ≤ 8 by omega, hc, pAll, bls_all, List.all_map]
      · simp [q, winterB, show ¬ ds.length ≤ 8 by omega]
  · have e1 : x.isT "tuple" = false := by rw [isT_tupX]; cases x <;> first | rfl | exact absurd ⟨_, _, rfl⟩ h
    have e2 : winterB s x = false := by cases x <;> first | rfl | exact absurd ⟨_, _, rfl⟩ h
    simp [f_is_winter, v_run, b_is_winter, startE, hp, e1, e2]

theorem book_ok {x : D} (m k : Nat) (B : Int) (hm : m ≤ 1000) (hx : Th m B k x) : f_is_book μ [x] = .ok (.bl (bookB x), .non) := by
  have hp := hx.plain
  rcases shape x with h | ⟨tb, a, b, rfl⟩ | ⟨tb, ds, rfl, h⟩
  · have e1 : x.isT "tuple" = false := by rw [isT_tupX]; cases x <;> first | rfl | exact absurd rfl (h _ _)
    have e2 : bookB x = false := by cases x <;> first | rfl | exact absurd rfl (h _ _)
    simp [f_is_book, v_run, b_is_book, startE, hp, e1, e2]
  · cases k with
    | zero => simp [Th] at hx
    | succ k =>
      simp only [Th] at hx
      have ha := (hx.2 a (by simp)).plain
      have thb := hx.2 b (by simp)
      have hb := thb.plain
      have f1 := from_ok (μ := μ) 1 16 ha
      cases q : fromB 1 16 a with
      | false =>
        have e2 : bookB (.tup tb [a, b]) = false := by
          cases a <;> first | rfl | skip
          cases b <;> first | rfl | skip
          simp only [fromB] at q
          simp [bookB, q]
        simp [f_is_book, v_run, b_is_book, startE, f1, q, e2]
      | true =>
        obtain ⟨i, rfl⟩ : ∃ i, a = .int i := by cases a <;> first | exact ⟨_, rfl⟩ | cases q
        by_cases h : ∃ tb ds, b = .tup tb ds
        · obtain ⟨tc, ws, rfl⟩ := h
          cases k with
          | zero => simp [Th] at thb
          | succ k =>
            simp only [Th] at thb
            by_cases q2 : 1 ≤ (ws.length : Int)
            · by_cases q3 : (ws.length : Int) ≤ 5
              · have e2 : bookB (.tup tb [.int i, .tup tc ws]) = ws.all (winterB i) := by
                  simp only [fromB] at q
                  simp [bookB, q, show 1 ≤ ws.length by omega, show ws.length ≤ 5 by omega]
                have hc : fComp (itS (DL.e2 pIx (eVar 0) (eC (.int 1)))) (.nm 1) [1] tT (eCall 2 (f_is_winter μ) (aCons (DL.e2 pIx (eVar 0) (eC (.int 0))) (aCons (eVar 1) aNil))) [.val (.tup tb [.int i, .tup tc ws]), .no] = .ok (.lst (ws.map fun x => .bl (winterB i x)), [.val (.tup tb [.int i, .tup tc ws]), .no]) := by
                  refine comp_map _ (by simp [itS]) (by unfold big; omega) (by simp [hasOwn]) fun x hd => ?_
                  exact ⟨[.val (.tup tb [.int i, .tup tc ws]), .val x], by simp [Pt.asg, wipeE], [.val (.tup tb [.int i, .tup tc ws]), .val x], by simp [winter_ok i m k B hm (thb.2 x hd)], by simp [backE, cp1]⟩
                simp [f_is_book, v_run, b_is_book, startE, f1, q, q2, q3, show ¬ (5 < (ws.length : Int)) by omega, hc, pAll, bls_all, e2]
              · have e2 : bookB (.tup tb [.int i, .tup tc ws]) = false := by
                  simp [bookB, show ¬ ws.length ≤ 5 by omega]
                simp [f_is_book, v_run, b_is_book, startE, f1, q, q2, q3, show (5 < (ws.length : Int)) by omega, e2]
            · have e2 : bookB (.tup tb [.int i, .tup tc ws]) = false := by
                simp [bookB, show ¬ 1 ≤ ws.length by omega]
              simp [f_is_book, v_run, b_is_book, startE, f1, q, q2, e2]
        · have e1 : b.isT "tuple" = false := by rw [isT_tupX]; cases b <;> first | rfl | exact absurd ⟨_, _, rfl⟩ h
          have e2 : bookB (.tup tb [.int i, b]) = false := by cases b <;> first | rfl | exact absurd ⟨_, _, rfl⟩ h
          simp [f_is_book, v_run, b_is_book, startE, hb, f1, q, e1, e2, show (D.tup tb [.int i, b]).plain = true from rfl, show (D.tup tb [.int i, b]).isT "tuple" = true from rfl]
  · have e2 : bookB (.tup tb ds) = false := by
      unfold bookB
      split
      · simp_all
      · rfl
    have e3 : ¬ ((ds.length : Int) = 2) := by omega
    simp [f_is_book, v_run, b_is_book, startE, e2, e3]

def pairsB : D → Bool
  | .tup _ ds => ds.all pairP
  | _ => false
theorem from_iff {l h : Int} {x : D} (q : fromB l h x = true) : ∃ i, x = .int i ∧ l ≤ i ∧ i ≤ h := by
  cases x <;> simp [fromB] at q
  exact ⟨_, rfl, q.1, q.2⟩
theorem tuples_ok {x : D} (m k : Nat) (B : Int) (hm : m ≤ 1000) (hx : Th m B k x) : f_are_tuples μ [x, .int 2] = .ok (.bl (pairsB x), .non) := by
  have hp := hx.plain
  by_cases h : ∃ tb ds, x = .tup tb ds
  · obtain ⟨tb, ds, rfl⟩ := h
    cases k with
    | zero => simp [Th] at hx
    | succ k =>
      simp only [Th] at hx
      have hc : fComp (itS (eVar 0)) (.nm 2) [2] tT (eAnd (eIsT "tuple" (eVar 2)) (e2 pEq (eN pLen (aCons (eVar 2) aNil)) (eVar 1))) [.val (.tup tb ds), .val (.int 2), .no] = .ok (.lst (ds.map fun x => .bl (pairP x)), [.val (.tup tb ds), .val (.int 2), .no]) := by
        refine comp_map _ (by simp [itS]) (by unfold big; omega) (by simp [hasOwn]) fun x hd => ?_
        have px := (hx.2 x hd).plain
        refine ⟨[.val (.tup tb ds), .val (.int 2), .val x], by simp [Pt.asg, wipeE], [.val (.tup tb ds), .val (.int 2), .val x], ?_, by simp [backE, cp1]⟩
        rcases shape x with h | ⟨tb, a, b, rfl⟩ | ⟨tb, es, rfl, h⟩
        · have e1 : x.isT "tuple" = false := by rw [isT_tupX]; cases x <;> first | rfl | exact absurd rfl (h _ _)
          have e3 : pairP x = false := by cases x <;> first | rfl | exact absurd rfl (h _ _)
          simp [px, e1, e3]
        · simp [pairP]
        · have e3 : pairP (.tup tb es) = false := by
            unfold pairP
            split
            · simp_all
            · rfl
          have e4 : ¬ ((es.length : Int) = 2) := by omega
          simp [e3, e4]
      simp [f_are_tuples, v_run, b_are_tuples, startE, hc, pAll, bls_all, pairsB, List.all_map]
      try rfl
  · have e1 : x.isT "tuple" = false := by rw [isT_tupX]; cases x <;> first | rfl | exact absurd ⟨_, _, rfl⟩ h
    have e2 : pairsB x = false := by cases x <;> first | rfl | exact absurd ⟨_, _, rfl⟩ h
    simp [f_are_tuples, v_run, b_are_tuples, startE, hp, e1, e2]
theorem rising_ok (ns : List Int) (hl : ns.length ≤ 1000) : f_is_rising μ [.lst (ns.map D.int)] = .ok (.bl (riseB ns), .non) := by
  have hc : fComp (itZip (aCons (eVar 0) (aCons (eSl (eVar 0) (oS (eC (.int 1))) oN) aNil))) (.tu [(.nm 1), (.nm 2)]) [1, 2] tT (e2 pLt (eVar 1) (eVar 2)) [.val (.lst (ns.map D.int)), .no, .no] = .ok (.lst ((zipD (ns.map D.int) ((ns.drop 1).map D.int)).map fun x => match x with | .tup tb [.int a, .int b] => .bl (decide (a < b)) | _ => .non), [.val (.lst (ns.map D.int)), .no, .no]) := by
    refine comp_map _ ?_ ?_ (by simp [hasOwn]) fun x hd => ?_
    · have e : cutD (ns.map D.int) (some 1) none = (ns.drop 1).map D.int := by
        unfold cutD
        rw [List.length_map, ← List.map_drop]
        cases ns with
        | nil => simp
        | cons n ns =>
          have : HT.sIx (n :: ns).length 0 (some 1) = 1 := by unfold HT.sIx; simp; try omega
          have h2 : HT.sIx (n :: ns).length (n :: ns).length none = (n :: ns).length := rfl
          rw [this, h2]
          simp
          exact List.take_of_length_le (by simp)
      simp [itZip, eSl, oS, oN, sqD, e]
    · unfold big; rw [zipD_len]; simp; omega
    · unfold zipD at hd
      obtain ⟨⟨u, v⟩, h1, rfl⟩ := List.mem_map.mp hd
      have h2 := List.of_mem_zip h1
      obtain ⟨a, _, rfl⟩ := List.mem_map.mp h2.1
      obtain ⟨b, _, rfl⟩ := List.mem_map.mp h2.2
      exact ⟨[.val (.lst (ns.map D.int)), .val (.int a), .val (.int b)], by simp [Pt.asg, asgL, wipeE], [.val (.lst (ns.map D.int)), .val (.int a), .val (.int b)], by simp, by simp [backE, cp1]⟩
  have e : (zipD (ns.map D.int) ((ns.drop 1).map D.int)).map (fun x => match x with | .tup tb [.int a, .int b] => D.bl (decide (a < b)) | _ => D.non) = (ns.zip (ns.drop 1)).map fun p => D.bl (decide (p.1 < p.2)) := by
    unfold zipD
    rw [List.zip_map, List.map_map, List.map_map]
    rfl
  rw [e] at hc
  have eb : asB ((ns.zip (ns.drop 1)).map fun p => D.bl (decide (p.1 < p.2))) = some ((ns.zip (ns.drop 1)).map fun p => decide (p.1 < p.2)) := by
    have : ((ns.zip (ns.drop 1)).map fun p => D.bl (decide (p.1 < p.2))) = ((ns.zip (ns.drop 1)).map fun p => decide (p.1 < p.2)).map D.bl := by rw [List.map_map]; rfl
    rw [this, asB_map]
  have ea : ((ns.zip (ns.drop 1)).map fun p => decide (p.1 < p.2)).all id = riseB ns := by
    rw [List.all_map, ← zip_rise]
    rfl
  simp only [f_is_rising, v_run, b_is_rising, startE, v_ret, v_eN, v_cons, v_nil, List.map_cons, List.map_nil, List.replicate, List.singleton_append, List.cons_append, List.nil_append, hc, R.bind_ok, pAll, eb, Option.map_some, R.of_some, ea, outE_false]
/-! ### rooms -/
def rowB (s : Int) : D → Bool
  | .tup _ [a, b] => fromB 1 s a && fromB 1 99 b
  | _ => false
def fstI : D → Int
  | .tup _ (.int a :: _) => a
  | _ => 0
def roomB (s : Int) : D → Bool
  | .tup _ ds => ds.all (rowB s) && riseB (ds.map fstI)
  | _ => false
theorem row_fst {s : Int} {x : D} (h : rowB s x = true) : ∃ tb a b, x = .tup tb [.int a, b] := by
  unfold rowB at h
  split at h
  · rename_i tb a b
    rw [Bool.and_eq_true] at h
    obtain ⟨i, rfl, _⟩ := from_iff h.1
    exact ⟨tb, i, b, rfl⟩
  · cases h
theorem fst_map {s : Int} {ds : List D} (h : ds.all (rowB s) = true) : ds.map (fun x => (match x with | .tup _ (a :: _) => a | _ => D.non)) = (ds.map fstI).map D.int := by
  rw [List.map_map]
  refine List.map_congr_left fun x hx => ?_
  obtain ⟨tb, a, b, rfl⟩ := row_fst (List.all_eq_true.mp h x hx)
  rfl
theorem pairs_get {tb : Bool} {ds : List D} (h : pairsB (.tup tb ds) = true) {x : D} (hx : x ∈ ds) : ∃ tc a b, x = .tup tc [a, b] := by
  have py : pairP x = true := List.all_eq_true.mp h x hx
  unfold pairP at py
  split at py
  · exact ⟨_, _, _, rfl⟩
  · cases py
theorem stock_ok {tw : Bool} {x w : D} {s : Int} (m k : Nat) (B : Int) (hm : m ≤ 1000) (hx : Th m B k x) : f_is_stock μ [.tup tw [.int s, w], x] = .ok (.bl (roomB s x), .non) := by
  have t1 := tuples_ok (μ := μ) m k B hm hx
  cases q : pairsB x with
  | false =>
    have eb : roomB s x = false := by
      cases x <;> first | rfl | skip
      rename_i tb ds
      simp only [roomB]
      have : ds.all (rowB s) = false := by
        rw [← Bool.not_eq_true]
        intro z
        have : pairsB (.tup tb ds) = true := by
          simp only [pairsB]
          rw [List.all_eq_true]
          intro y hy
          obtain ⟨tc, a, b, rfl⟩ := row_fst (List.all_eq_true.mp z y hy)
          rfl
        rw [this] at q; cases q
      simp [this]
    simp [f_is_stock, v_run, b_is_stock, startE, t1, q, eb]
  | true =>
    obtain ⟨tb, ds, rfl⟩ : ∃ tb ds, x = .tup tb ds := by cases x <;> first | exact ⟨_, _, rfl⟩ | cases q
    cases k with
    | zero => simp [Th] at hx
    | succ k =>
      simp only [Th] at hx
      have hc : fComp (itS (eVar 1)) (.nm 2) [2] tT (eAnd (eCall 3 (f_is_from μ) (aCons (e2 pIx (eVar 2) (eC (.int 0))) (aCons (eC (.int 1)) (aCons (e2 pIx (eVar 0) (eC (.int 0))) aNil)))) (eCall 3 (f_is_from μ) (aCons (e2 pIx (eVar 2) (eC (.int 1))) (aCons (eC (.int 1)) (aCons (eC (.int 99)) aNil))))) [.val (.tup tw [.int s, w]), .val (.tup tb ds), .no] = .ok (.lst (ds.map fun x => .bl (rowB s x)), [.val (.tup tw [.int s, w]), .val (.tup tb ds), .no]) := by
        refine comp_map _ (by simp [itS]) (by unfold big; omega) (by simp [hasOwn]) fun x hd => ?_
        obtain ⟨tc, a, b, rfl⟩ := pairs_get q hd
        have tx := hx.2 _ hd
        cases k with
        | zero => simp [Th] at tx
        | succ k =>
          simp only [Th] at tx
          have f1 := from_ok (μ := μ) 1 s (tx.2 a (by simp)).plain
          have f2 := from_ok (μ := μ) 1 99 (tx.2 b (by simp)).plain
          refine ⟨[.val (.tup tw [.int s, w]), .val (.tup tb ds), .val (.tup tc [a, b])], by simp [Pt.asg, wipeE], [.val (.tup tw [.int s, w]), .val (.tup tb ds), .val (.tup tc [a, b])], ?_, by simp [backE, cp1]⟩
          cases q1 : fromB 1 s a <;> cases q2 : fromB 1 99 b <;> simp [f1, f2, q1, q2, rowB]
      cases q3 : ds.all (rowB s) with
      | false =>
        simp [f_is_stock, v_run, b_is_stock, startE, t1, q, hc, pAll, bls_all, List.all_map, roomB, q3]
      | true =>
        have hc2 : fComp (itS (eVar 1)) (.nm 2) [2] tT (e2 pIx (eVar 2) (eC (.int 0))) [.val (.tup tw [.int s, w]), .val (.tup tb ds), .no] = .ok (.lst ((ds.map fstI).map D.int), [.val (.tup tw [.int s, w]), .val (.tup tb ds), .no]) := by
          rw [← fst_map q3]
          refine comp_map _ (by simp [itS]) (by unfold big; omega) (by simp [hasOwn]) fun x hd => ?_
          obtain ⟨tc, a, b, rfl⟩ := pairs_get q hd
          exact ⟨[.val (.tup tw [.int s, w]), .val (.tup tb ds), .val (.tup tc [a, b])], by simp [Pt.asg, wipeE], [.val (.tup tw [.int s, w]), .val (.tup tb ds), .val (.tup tc [a, b])], by simp, by simp [backE, cp1]⟩
        have hr := rising_ok (μ := μ) (ds.map fstI) (by rw [List.length_map]; omega)
        simp [f_is_stock, v_run, b_is_stock, startE, t1, q, hc, hc2, pAll, bls_all, List.all_map, roomB, q3, hr, -List.map_map]

theorem need_ok {b : D} (m k : Nat) (B : Int) (hm : m ≤ 1000) (hx : Th m B k b) (hb : bookB b = true) : f_need_book μ [b] = .ok (.non, .non) := by
  have h1 := book_ok (μ := μ) m k B hm hx
  simp [f_need_book, v_run, b_need_book, startE, h1, hb]
theorem book_form {b : D} (h : bookB b = true) : ∃ tb s w, b = .tup tb [.int s, w] ∧ 1 ≤ s ∧ s ≤ 16 := by
  unfold bookB at h
  split at h
  · simp only [Bool.and_eq_true, decide_eq_true_eq] at h
    exact ⟨_, _, _, rfl, h.1.1.1, h.1.1.2⟩
  · cases h
end
end DL

/-! ## Q2 -/
/-! Q2: the laws' decks: picks, odd things, spoilt things. -/
namespace DL
open PySem PySem.Spec PyProof.Rows L2
section
variable {μ : Bool}
theorem pick_ok {n : Int} {d : D} {s : Int} (h : Dk n d) (hn : n ≤ 1000000000) (hs : 0 < s) (hs2 : s < 1000000) :
    ∃ r d', f__law_pick μ [d, .int s] = .ok (.int r, d') ∧ 0 ≤ r ∧ r < s ∧ Dk (n + 1) d' := by
  obtain ⟨a, b, c, rfl, hb0, hb1, hc0, hc1⟩ := h
  by_cases ha : 1 < a
  · refine ⟨a % s, dk (a / s) b c, ?_, Int.emod_nonneg _ (by omega), Int.emod_lt_of_pos _ hs, _, _, _, rfl, hb0, hb1, hc0, by omega⟩
    have hd : divB a s = true := by unfold divB; simp; omega
    simp [f__law_pick, v_run, b__law_pick, startE, dk, ha, hs, hd]
  · have hm : mulB 15485867 (c + 1) = true := by unfold mulB; simp
    have hm2 : mulB 7919 (c + 1) = true := by unfold mulB; simp
    have hp : powB (b + 15485867 * (c + 1)) 5 = true := by unfold powB; simp; omega
    have hp2 : powB ((b + 15485867 * (c + 1)) ^ 5 % 2147483647 + 7919 * (c + 1)) 3 = true := by
      unfold powB
      generalize (b + 15485867 * (c + 1)) ^ 5 = z
      simp
      omega
    have hd : divB (((b + 15485867 * (c + 1)) ^ 5 % 2147483647 + 7919 * (c + 1)) ^ 3 % 2147483629) 32 = true := by unfold divB; simp
    refine ⟨((b + 15485867 * (c + 1)) ^ 5 % 2147483647 + 7919 * (c + 1)) ^ 3 % 2147483629 / 32 % s, dk a b (c + 1), ?_, Int.emod_nonneg _ (by omega), Int.emod_lt_of_pos _ hs, _, _, _, rfl, hb0, hb1, by omega, by omega⟩
    simp [f__law_pick, v_run, b__law_pick, startE, dk, ha, hs, hm, hm2, hp, hp2, hd]
theorem one_ok {n : Int} {d : D} {ds : List D} (h : Dk n d) (hn : n ≤ 1000000000) (h0 : ds ≠ []) (h1 : ds.length < 1000000) :
    ∃ x d', f__law_one μ [d, .lst ds] = .ok (x, d') ∧ x ∈ ds ∧ Dk (n + 1) d' := by
  have hl : 0 < ds.length := List.length_pos_iff.mpr h0
  obtain ⟨r, d', e, r0, r1, h'⟩ := pick_ok (μ := μ) h hn (s := (ds.length : Int)) (by omega) (by omega)
  have hr : r.toNat < ds.length := by omega
  refine ⟨ds[r.toNat], d', ?_, List.getElem_mem hr, h'⟩
  simp [f__law_one, v_run, b__law_one, startE, e, r0, r1, hr]
theorem deck_ok (i c : Int) (hc : 0 ≤ c) : ∃ d, f__law_deck μ [.int i, .int c] = .ok (d, .non) ∧ Dk c d := by
  have h1 : powB 10 18 = true := by decide
  by_cases h : (1000000000000000000 : Int) ≤ i
  · refine ⟨dk (i - 1000000000000000000) (i % 2147483579) c, ?_, _, _, _, rfl, by omega, by omega, by omega, by omega⟩
    simp [f__law_deck, v_run, b__law_deck, startE, h1, h, short, big, dk]
  · refine ⟨dk 0 (i % 2147483579) c, ?_, _, _, _, rfl, by omega, by omega, by omega, by omega⟩
    simp [f__law_deck, v_run, b__law_deck, startE, h1, h, short, big, dk]
theorem cut_mem {ds : List D} {lo hi : Option Int} {d : D} (h : d ∈ cutD ds lo hi) : d ∈ ds := List.mem_of_mem_drop (List.mem_of_mem_take h)
theorem cut_len (ds : List D) (lo hi : Option Int) : (cutD ds lo hi).length ≤ ds.length := by
  unfold cutD
  rw [List.length_take, List.length_drop]
  omega
theorem cut_one (ds : List D) : (cutD ds none (some 1)).length ≤ 1 := by
  unfold cutD
  rw [List.length_take]
  have : HT.sIx ds.length ds.length (some 1) ≤ 1 := by unfold HT.sIx; simp; try omega
  omega
def mk (c : Option Bool) (ds : List D) : D := match c with | some b => .tup b ds | none => .lst ds
theorem th_mk {m : Nat} {B : Int} {k : Nat} {c : Option Bool} {ds : List D} : Th m B (k + 1) (mk c ds) ↔ ds.length ≤ m ∧ ∀ d ∈ ds, Th m B k d := by
  cases c <;> simp [mk, Th]
theorem log_small {i : Int} (h1 : -(10 ^ 40) ≤ i) (h2 : i ≤ 10 ^ 40) : i.natAbs.log2 < 1920 := by
  by_cases h : i.natAbs = 0
  · rw [h]; decide
  · rw [Nat.log2_lt h]
    have : i.natAbs ≤ 10 ^ 40 := by omega
    exact Nat.lt_of_le_of_lt this (by decide)
def k1 (μ : Bool) (f__law_spoilt : DenF) : DenS := (sSeq (sOwn 2 (eN pList (aCons (eVar 1) aNil))) (sSeq (sSet 3 (eCallO 0 2 (f__law_pick μ) (aCons (eLock 2 (eN pLen (aCons (eVar 2) aNil))) aNil))) (sSeq (sSeq (sPut 2 (eVar 3) (eCallO 0 2 f__law_spoilt (aCons (eIxO 2 (eVar 3)) aNil))) (sFz 2)) (sRet (eIf (tst (eIsT "tuple" (eVar 1))) (eN (pTuple μ) (aCons (eVar 2) aNil)) (eVar 2))))))
def k2 (μ : Bool) : DenS := (sSeq (sSet 4 (eIf (tst (eIsT "tuple" (eVar 1))) (eN pList (aCons (eVar 1) aNil)) (eN (pTuple μ) (aCons (eVar 1) aNil)))) (sRet (e2 pIx (fLst (aCons (eVar 4) (aCons (e2 pAdd (eVar 1) (eSl (eVar 1) oN (oS (eC (.int 1))))) (aCons (eSl (eVar 1) (oS (eC (.int 1))) oN) (aCons (eRev (eVar 1)) (aCons (eC .non) aNil)))))) (eCallO 0 2 (f__law_pick μ) (aCons (eC (.int 5)) aNil)))))
def k3 (μ : Bool) : DenS := (sRet (e2 pIx (fLst (aCons (e2 pAdd (eVar 1) (eC (.int 1))) (aCons (e2 pSub (eVar 1) (eC (.int 1))) (aCons (eC (.bl true)) (aCons (eC .non) (aCons (eC (.int 0)) (aCons (eC (.int 16)) (aCons (eN pStr (aCons (eVar 1) aNil)) aNil)))))))) (eCallO 0 2 (f__law_pick μ) (aCons (eC (.int 7)) aNil))))
def k4 (μ : Bool) : DenS := (sRet (e2 pIx (fLst (aCons (eC .non) (aCons (eC (.int 7)) (aCons (eC (.str (Str.ofString "n"))) (aCons (eC (.str (Str.ofString ""))) (aCons (eC (.str (Str.ofString "A"))) (aCons (eC (.str (Str.ofString "abcdefghi"))) (aCons (eC (.str (Str.ofString "a"))) (aCons (eC (.str (Str.ofString "row"))) aNil))))))))) (eCallO 0 2 (f__law_pick μ) (aCons (eC (.int 8)) aNil))))
theorem b_spoilt (g : DenF) : b__law_spoilt μ g = sSeq (sIf (tAndD (tst (eIsT2 "tuple" "list" (eVar 1))) (tAndD (tst (e2 pGt (eN pLen (aCons (eVar 1) aNil)) (eC (.int 0)))) (tst (e2 pGt (eCallO 0 2 (f__law_pick μ) (aCons (eC (.int 5)) aNil)) (eC (.int 0)))))) (k1 μ g) sNx) (sSeq (sIf (tst (eIsT2 "tuple" "list" (eVar 1))) (k2 μ) sNx) (sSeq (sIf (tst (eIsT "int" (eVar 1))) (k3 μ) sNx) (k4 μ))) := rfl
def Fg : D → Prop
  | .tup b _ => b = true
  | _ => True
theorem spoilt_tail {m : Nat} {B n : Int} {k : Nat} {b : Option Bool} {ds : List D} {d : D} (hm : m ≤ 1000) (hd : Dk n d) (hn : n ≤ 1000000000) (hx : ds.length ≤ m ∧ ∀ x ∈ ds, Th m B k x) :
    ∃ y d', k2 μ [.own d, .val (mk b ds), .no, .no, .no] = .ok (.ret y, [.own d', .val (mk b ds), .no, .no, .val (mk (match b with | some _ => none | none => some μ) ds)]) ∧ Th (m + 1) B (k + 1) y ∧ Dk (n + 1) d' ∧ (μ = true → Fg (mk b ds) → Fg y) := by
  obtain ⟨r, d', e, r0, r1, h'⟩ := pick_ok (μ := μ) hd hn (s := 5) (by omega) (by omega)
  have l1 := cut_one ds
  have hb : ds.length + (cutD ds none (some 1)).length ≤ 1000000 := by omega
  have h0 : ∀ x ∈ ds, Th (m + 1) B k x := fun x hx' => (hx.2 x hx').mono (by omega) (by omega) (Nat.le_refl _)
  have q1 : ∀ c, Th (m + 1) B (k + 1) (mk c ds) := fun c => th_mk.mpr ⟨by omega, h0⟩
  have q2 : ∀ c, Th (m + 1) B (k + 1) (mk c (ds ++ cutD ds none (some 1))) := fun c => th_mk.mpr ⟨by rw [List.length_append]; omega, fun x hx' => by
    rcases List.mem_append.mp hx' with z | z
    · exact h0 x z
    · exact h0 x (cut_mem z)⟩
  have q3 : ∀ c, Th (m + 1) B (k + 1) (mk c (cutD ds (some 1) none)) := fun c => th_mk.mpr ⟨by have := cut_len ds (some 1) none; omega, fun x hx' => h0 x (cut_mem hx')⟩
  have q4 : ∀ c, Th (m + 1) B (k + 1) (mk c ds.reverse) := fun c => th_mk.mpr ⟨by rw [List.length_reverse]; omega, fun x hx' => h0 x (List.mem_reverse.mp hx')⟩
  have hr : r = 0 ∨ r = 1 ∨ r = 2 ∨ r = 3 ∨ r = 4 := by omega
  cases b with
  | none =>
    rcases hr with rfl | rfl | rfl | rfl | rfl
    · exact ⟨mk (some μ) ds, d', by simp [k2, mk, hb, e], q1 _, h', fun hm hf => by first | exact hf | exact hm | trivial⟩
    · exact ⟨mk none (ds ++ cutD ds none (some 1)), d', by simp [k2, mk, hb, e], q2 _, h', fun hm hf => by first | exact hf | trivial⟩
    · exact ⟨mk none (cutD ds (some 1) none), d', by simp [k2, mk, hb, e], q3 _, h', fun hm hf => by first | exact hf | trivial⟩
    · exact ⟨mk none ds.reverse, d', by simp [k2, mk, hb, e], q4 _, h', fun hm hf => by first | exact hf | trivial⟩
    · exact ⟨.non, d', by simp [k2, mk, hb, e], by simp [Th], h', fun _ _ => trivial⟩
  | some tb =>
    rcases hr with rfl | rfl | rfl | rfl | rfl
    · exact ⟨mk none ds, d', by simp [k2, mk, hb, e], q1 _, h', fun hm hf => by first | exact hf | exact hm | trivial⟩
    · exact ⟨mk (some tb) (ds ++ cutD ds none (some 1)), d', by simp [k2, mk, hb, e], q2 _, h', fun hm hf => by first | exact hf | trivial⟩
    · exact ⟨mk (some tb) (cutD ds (some 1) none), d', by simp [k2, mk, hb, e], q3 _, h', fun hm hf => by first | exact hf | trivial⟩
    · exact ⟨mk (some tb) ds.reverse, d', by simp [k2, mk, hb, e], q4 _, h', fun hm hf => by first | exact hf | trivial⟩
    · exact ⟨.non, d', by simp [k2, mk, hb, e], by simp [Th], h', fun _ _ => trivial⟩

theorem atI_in {ds : List D} {r : Int} (h0 : 0 ≤ r) (h1 : r < ds.length) : ∃ x, atI ds r = some x ∧ x ∈ ds ∧ ds[r.toNat]? = some x := by
  have h : r.toNat < ds.length := by omega
  exact ⟨ds[r.toNat], by simp [h0, h1, h], List.getElem_mem h, List.getElem?_eq_getElem h⟩
theorem Th.up {m : Nat} {B : Int} {k : Nat} {d : D} (h : Th m B k d) : Th (m + 1) (B + 1) k d := h.mono (by omega) (by omega) (Nat.le_refl _)

theorem k3_ok {m : Nat} {B n : Int} {k : Nat} {x d : D} (hB : 16 ≤ B) (hB2 : B ≤ 10 ^ 40) (hd : Dk n d) (hn : n ≤ 1000000000) (hx : Th m B k x) (hi : x.isT "int" = true) :
    ∃ y d', k3 μ [.own d, .val x, .no, .no, .no] = .ok (.ret y, [.own d', .val x, .no, .no, .no]) ∧ Th (m + 1) (B + 1) k y ∧ Dk (n + 1) d' ∧ Fg y := by
  obtain ⟨r, d', e, r0, r1, h'⟩ := pick_ok (μ := μ) hd hn (s := 7) (by omega) (by omega)
  have hr : r = 0 ∨ r = 1 ∨ r = 2 ∨ r = 3 ∨ r = 4 ∨ r = 5 ∨ r = 6 := by omega
  cases x <;> try (simp at hi; done)
  all_goals try (exfalso; cases k <;> simp [Th] at hx; done)
  · rename_i b
    have hb1 : -(B + 1) ≤ ((if b = true then 1 else 0) + 1 : Int) ∧ ((if b = true then 1 else 0) + 1 : Int) ≤ B + 1 := by cases b <;> simp <;> omega
    have hb2 : -(B + 1) ≤ ((if b = true then 1 else 0) - 1 : Int) ∧ ((if b = true then 1 else 0) - 1 : Int) ≤ B + 1 := by cases b <;> simp <;> omega
    rcases hr with rfl | rfl | rfl | rfl | rfl | rfl | rfl
    · exact ⟨.int ((if b = true then 1 else 0) + 1), d', by simp [k3, e], by cases k <;> simpa [Th] using hb1, h', trivial⟩
    · exact ⟨.int ((if b = true then 1 else 0) - 1), d', by simp [k3, e], by cases k <;> simpa [Th] using hb2, h', trivial⟩
    · exact ⟨.bl true, d', by simp [k3, e], by cases k <;> simp [Th], h', trivial⟩
    · exact ⟨.non, d', by simp [k3, e], by cases k <;> simp [Th], h', trivial⟩
    · exact ⟨.int 0, d', by simp [k3, e], by cases k <;> simp [Th] <;> omega, h', trivial⟩
    · exact ⟨.int 16, d', by simp [k3, e], by cases k <;> simp [Th] <;> omega, h', trivial⟩
    · exact ⟨.str (if b then "True" else "False"), d', by simp [k3, e], by cases k <;> simp [Th] <;> cases b <;> exact strOk_of _, h', trivial⟩
  · rename_i i
    have hi' : -B ≤ i ∧ i ≤ B := by cases k <;> simpa [Th] using hx
    have hl := log_small (i := i) (by omega) (by omega)
    rcases hr with rfl | rfl | rfl | rfl | rfl | rfl | rfl
    · exact ⟨.int (i + 1), d', by simp [k3, e, hl], by cases k <;> simp [Th] <;> omega, h', trivial⟩
    · exact ⟨.int (i - 1), d', by simp [k3, e, hl], by cases k <;> simp [Th] <;> omega, h', trivial⟩
    · exact ⟨.bl true, d', by simp [k3, e, hl], by cases k <;> simp [Th], h', trivial⟩
    · exact ⟨.non, d', by simp [k3, e, hl], by cases k <;> simp [Th], h', trivial⟩
    · exact ⟨.int 0, d', by simp [k3, e, hl], by cases k <;> simp [Th] <;> omega, h', trivial⟩
    · exact ⟨.int 16, d', by simp [k3, e, hl], by cases k <;> simp [Th] <;> omega, h', trivial⟩
    · exact ⟨.str (toString i), d', by simp [k3, e, hl], by cases k <;> simp [Th] <;> exact strOk_of _, h', trivial⟩
theorem k4_ok {m : Nat} {B n : Int} {k : Nat} {x d : D} (hB : 16 ≤ B) (hd : Dk n d) (hn : n ≤ 1000000000) :
    ∃ y d', k4 μ [.own d, .val x, .no, .no, .no] = .ok (.ret y, [.own d', .val x, .no, .no, .no]) ∧ Th (m + 1) (B + 1) k y ∧ Dk (n + 1) d' ∧ Fg y := by
  obtain ⟨r, d', e, r0, r1, h'⟩ := pick_ok (μ := μ) hd hn (s := 8) (by omega) (by omega)
  have hr : r = 0 ∨ r = 1 ∨ r = 2 ∨ r = 3 ∨ r = 4 ∨ r = 5 ∨ r = 6 ∨ r = 7 := by omega
  rcases hr with rfl | rfl | rfl | rfl | rfl | rfl | rfl | rfl
  · exact ⟨.non, d', by simp [k4, e], by cases k <;> simp [Th], h', trivial⟩
  · exact ⟨.int 7, d', by simp [k4, e], by cases k <;> simp [Th] <;> omega, h', trivial⟩
  all_goals exact ⟨.str _, d', by simp [k4, e]; rfl, by cases k <;> simp [Th] <;> exact strOk_of _, h', trivial⟩
theorem spoilt_leaf {m : Nat} {B : Int} (hm : m ≤ 1000) (hB : 16 ≤ B) (hB2 : B ≤ 10 ^ 40) (k f : Nat) (n : Int) (x d : D) (hx : Th m B k x) (hd : Dk n d) (hn : n ≤ 1000000000) (h1 : x.isT "tuple" = false) (h2 : x.isT "list" = false) :
    ∃ y d', fr__law_spoilt μ (f + 1) [d, x] = .ok (y, d') ∧ Th (m + 1) (B + 1) k y ∧ Dk (n + 1) d' ∧ Fg y := by
  have hp := hx.plain
  cases h3 : x.isT "int" with
  | true =>
    obtain ⟨y, d', e, ty, hd', hf⟩ := k3_ok (μ := μ) (m := m) (B := B) (k := k) hB hB2 hd hn hx h3
    refine ⟨y, d', ?_, ty, hd', hf⟩
    show runF true false 3 (b__law_spoilt μ (fr__law_spoilt μ f)) _ = _
    simp [v_run, b_spoilt, startE, hp, h1, h2, h3, e]
  | false =>
    obtain ⟨y, d', e, ty, hd', hf⟩ := k4_ok (μ := μ) (m := m) (B := B) (k := k) (x := x) hB hd hn
    refine ⟨y, d', ?_, ty, hd', hf⟩
    show runF true false 3 (b__law_spoilt μ (fr__law_spoilt μ f)) _ = _
    simp [v_run, b_spoilt, startE, hp, h1, h2, h3, e]
@[simp] theorem mk_plain {b : Option Bool} {ds : List D} : (mk b ds).plain = true := by cases b <;> rfl
@[simp] theorem mk_seq {b : Option Bool} {ds : List D} : ((mk b ds).isT "tuple" || (mk b ds).isT "list") = true := by cases b <;> simp [mk]
@[simp] theorem mk_len {b : Option Bool} {ds : List D} : pLen [mk b ds] = some (.int ds.length) := by cases b <;> rfl
@[simp] theorem mk_list {b : Option Bool} {ds : List D} : pList [mk b ds] = some (.lst ds) := by cases b <;> rfl
theorem spoilt_okF {m : Nat} {B : Int} (hm : m ≤ 1000) (hB : 16 ≤ B) (hB2 : B ≤ 10 ^ 40) : ∀ (k f : Nat) (n : Int) (x d : D), k < f → Th m B k x → Dk n d → n + 2 * k + 1 ≤ 1000000000 →
    ∃ y d', fr__law_spoilt μ f [d, x] = .ok (y, d') ∧ Th (m + 1) (B + 1) k y ∧ Dk (n + 2 * k + 1) d' ∧ (μ = true → Fg x → Fg y) := by
  intro k
  induction k with
  | zero =>
    intro f n x d hf hx hd hn
    obtain ⟨f, rfl⟩ : ∃ j, f = j + 1 := ⟨f - 1, by omega⟩
    obtain ⟨y, d', h1, h2, h3, h4⟩ := spoilt_leaf (μ := μ) hm hB hB2 0 f n x d hx hd (by omega) (by cases x <;> simp [Th] at hx ⊢) (by cases x <;> simp [Th] at hx ⊢)
    exact ⟨y, d', h1, h2, h3.mono (by omega), fun _ _ => h4⟩
  | succ k ih =>
    intro f n x d hf hx hd hn
    obtain ⟨f, rfl⟩ : ∃ j, f = j + 1 := ⟨f - 1, by omega⟩
    by_cases hs : ∃ b ds, x = mk b ds
    · obtain ⟨b, ds, rfl⟩ := hs
      have hx' := th_mk.mp hx
      have tail := fun {n : Int} {d : D} (hd : Dk n d) (hn : n ≤ 1000000000) => spoilt_tail (μ := μ) (B := B) (k := k) (b := b) hm hd hn hx'
      by_cases h0 : ds = []
      · obtain ⟨y, d', e, ty, hd', hfg⟩ := tail hd (by omega)
        refine ⟨y, d', ?_, ty.mono (by omega) (by omega) (Nat.le_refl _), hd'.mono (by omega), hfg⟩
        subst h0
        show runF true false 3 (b__law_spoilt μ (fr__law_spoilt μ f)) _ = _
        simp [v_run, b_spoilt, startE, e]
      · have hl : 0 < ds.length := List.length_pos_iff.mpr h0
        obtain ⟨r, d1, e1, r0, r1, hd1⟩ := pick_ok (μ := μ) hd (by omega) (s := 5) (by omega) (by omega)
        by_cases hr : 0 < r
        · obtain ⟨a, d2, e2, a0, a1, hd2⟩ := pick_ok (μ := μ) hd1 (by omega) (s := (ds.length : Int)) (by omega) (by omega)
          have hat : a.toNat < ds.length := by omega
          obtain ⟨y, d3, e3, ty, hd3, _⟩ := ih f (n + 1 + 1) ds[a.toNat] d2 (by omega) (hx'.2 _ (List.getElem_mem hat)) hd2 (by omega)
          refine ⟨mk (b.map fun _ => μ) (ds.set a.toNat y), d3, ?_, th_mk.mpr ⟨by rw [List.length_set]; omega, fun w hw => ?_⟩, hd3.mono (by omega), fun hm _ => by cases b <;> first | trivial | exact hm⟩
          · have ek : k1 μ (fr__law_spoilt μ f) [.own d1, .val (mk b ds), .no, .no, .no] = .ok (.ret (mk (b.map fun _ => μ) (ds.set a.toNat y)), [.own d3, .val (mk b ds), .val (.lst (ds.set a.toNat y)), .val (.int a), .no]) := by
              have ff1 := hd1.ff
              cases b <;> simp [k1, mk, e2, e3, a0, a1, hat, ff1]
            show runF true false 3 (b__law_spoilt μ (fr__law_spoilt μ f)) _ = _
            simp [v_run, b_spoilt, startE, e1, hr, hl, ek]
          · rcases List.mem_or_eq_of_mem_set hw with q | q
            · exact (hx'.2 w q).up
            · rw [q]; exact ty
        · obtain ⟨y, d', e, ty, hd', hfg⟩ := tail hd1 (by omega)
          refine ⟨y, d', ?_, ty.mono (by omega) (by omega) (Nat.le_refl _), hd'.mono (by omega), hfg⟩
          show runF true false 3 (b__law_spoilt μ (fr__law_spoilt μ f)) _ = _
          simp [v_run, b_spoilt, startE, e1, hr, hl, e]
    · have h1 : x.isT "tuple" = false := by cases x <;> first | simp; done | exact absurd ⟨some _, _, rfl⟩ hs | (exfalso; simp [Th] at hx)
      have h2 : x.isT "list" = false := by cases x <;> first | simp; done | exact absurd ⟨none, _, rfl⟩ hs | (exfalso; simp [Th] at hx)
      obtain ⟨y, d', h1, h2, h3, h4⟩ := spoilt_leaf (μ := μ) hm hB hB2 (k + 1) f n x d hx hd (by omega) h1 h2
      exact ⟨y, d', h1, h2, h3.mono (by omega), fun _ _ => h4⟩
theorem spoilt_ok {m : Nat} {B : Int} (hm : m ≤ 1000) (hB : 16 ≤ B) (hB2 : B ≤ 10 ^ 40) (k f : Nat) (n : Int) (x d : D) (hf : k < f) (hx : Th m B k x) (hd : Dk n d) (hn : n + 2 * k + 1 ≤ 1000000000) :
    ∃ y d', fr__law_spoilt μ f [d, x] = .ok (y, d') ∧ Th (m + 1) (B + 1) k y ∧ Dk (n + 2 * k + 1) d' :=
  let ⟨y, d', h1, h2, h3, _⟩ := spoilt_okF (μ := μ) hm hB hB2 k f n x d hf hx hd hn
  ⟨y, d', h1, h2, h3⟩
def oddL (μ : Bool) : List D := [.non, .bl true, .str (Str.ofString ""), .str (Str.ofString "a"), .tup μ [], .lst [], .tup μ [.tup μ []], .int 7, .int (-1), .int (10 ^ 30), .tup μ [.int 1, .int 2], .tup μ [.tup μ [.int 1, .int 1]], .lst [.tup μ [.int 1, .int 1]], .tup μ [.tup μ [.int 2, .int 1], .tup μ [.int 1, .int 1]]]
theorem oddL_th : ∀ x ∈ oddL μ, Th 20 (10 ^ 30) 4 x := by
  intro x hx
  simp only [oddL, List.mem_cons, List.not_mem_nil, or_false] at hx
  rcases hx with rfl | rfl | rfl | rfl | rfl | rfl | rfl | rfl | rfl | rfl | rfl | rfl | rfl | rfl <;> simp [Th, strOk_of]
theorem oddL_fg (hm : μ = true) : ∀ x ∈ oddL μ, Fg x := by
  intro x hx
  simp only [oddL, List.mem_cons, List.not_mem_nil, or_false] at hx
  rcases hx with rfl | rfl | rfl | rfl | rfl | rfl | rfl | rfl | rfl | rfl | rfl | rfl | rfl | rfl <;> first | trivial | exact hm
theorem odd_okF {n : Int} {d : D} (h : Dk n d) (hn : n ≤ 1000000000) : ∃ x d', f__law_odd μ [d] = .ok (x, d') ∧ Th 20 (10 ^ 30) 4 x ∧ Dk (n + 1) d' ∧ (μ = true → Fg x) := by
  obtain ⟨x, d', e, hx, h'⟩ := one_ok (μ := μ) (ds := oddL μ) h hn (by simp [oddL]) (by simp [oddL])
  refine ⟨x, d', ?_, oddL_th x hx, h', fun hm => oddL_fg hm x hx⟩
  have hp : powB 10 30 = true := by decide
  unfold oddL at e
  simp [f__law_odd, v_run, b__law_odd, startE, hp] 
  simp at e
  simp [e]
theorem odd_ok {n : Int} {d : D} (h : Dk n d) (hn : n ≤ 1000000000) : ∃ x d', f__law_odd μ [d] = .ok (x, d') ∧ Th 20 (10 ^ 30) 4 x ∧ Dk (n + 1) d' :=
  let ⟨x, d', h1, h2, h3, _⟩ := odd_okF (μ := μ) h hn
  ⟨x, d', h1, h2, h3⟩
end
end DL

/-! ## Q3 -/
/-! Q3: typed books, rooms; how the laws draw them. -/
namespace DL
open PySem PySem.Spec PyProof.Rows L2
abbrev Sp2 := Int × Int
def encP (μ : Bool) (p : Sp2) : D := .tup μ [.int p.1, .int p.2]
def encW (μ : Bool) (w : List Sp2) : D := .tup μ (w.map (encP μ))
def encB (μ : Bool) (s : Int) (ws : List (List Sp2)) : D := .tup μ [.int s, .tup μ (ws.map (encW μ))]
def encR (μ : Bool) (r : List Sp2) : D := .tup true (r.map (encP μ))
abbrev encL (ns : List Int) : D := .lst (ns.map D.int)
structure BkOk (s : Int) (ws : List (List Sp2)) : Prop where
  s1 : 1 ≤ s
  s2 : s ≤ 16
  l1 : 1 ≤ ws.length
  l2 : ws.length ≤ 5
  w : ∀ w ∈ ws, w.length ≤ 8 ∧ AW.VS s w
/-- the coats that a deck gives -/
structure CsOk (s : Int) (cs : List Int) : Prop where
  len : (cs.length : Int) = s
  c : ∀ c ∈ cs, 0 ≤ c ∧ c ≤ 99
def roomOf (cs : List Int) : List Sp2 := (cs.zipIdx.filter fun p => decide (0 < p.1)).map fun p => ((p.2 : Int) + 1, p.1)
section
variable {μ : Bool}
theorem spanB_enc {s : Int} {p : Sp2} (h : 1 ≤ p.1 ∧ p.1 ≤ p.2 ∧ p.2 ≤ s) : spanB s (encP μ p) = true := by
  simp [spanB, encP]; omega
theorem winterB_enc {s : Int} {w : List Sp2} (h : w.length ≤ 8) (v : AW.VS s w) : winterB s (encW μ w) = true := by
  simp only [winterB, encW, Bool.and_eq_true, decide_eq_true_eq, List.length_map, List.all_eq_true]
  refine ⟨h, fun d hd => ?_⟩
  obtain ⟨p, hp, rfl⟩ := List.mem_map.mp hd
  exact spanB_enc (v p hp)
theorem bookB_enc {s : Int} {ws : List (List Sp2)} (h : BkOk s ws) : bookB (encB μ s ws) = true := by
  simp only [bookB, encB, Bool.and_eq_true, decide_eq_true_eq, List.length_map, List.all_eq_true]
  refine ⟨⟨⟨h.s1, h.s2⟩, h.l1, h.l2⟩, fun d hd => ?_⟩
  obtain ⟨w, hw, rfl⟩ := List.mem_map.mp hd
  exact winterB_enc (h.w w hw).1 (h.w w hw).2
theorem th_P {p : Sp2} (h : 0 ≤ p.1 ∧ p.1 ≤ 100 ∧ 0 ≤ p.2 ∧ p.2 ≤ 100) : Th 20 100 1 (encP μ p) := by
  simp [Th, encP]; omega
theorem th_W {s : Int} {w : List Sp2} (hs : s ≤ 16) (h : w.length ≤ 8) (v : AW.VS s w) : Th 20 100 2 (encW μ w) := by
  simp only [Th, encW, List.length_map]
  refine ⟨by omega, fun d hd => ?_⟩
  obtain ⟨p, hp, rfl⟩ := List.mem_map.mp hd
  have := v p hp
  exact th_P (by omega)
theorem th_B {s : Int} {ws : List (List Sp2)} (h : BkOk s ws) : Th 20 100 4 (encB μ s ws) := by
  have h1 := h.s1; have h2 := h.s2; have h3 := h.l2
  simp only [Th, encB, List.length_cons, List.length_nil, List.mem_cons, List.not_mem_nil, or_false]
  refine ⟨by omega, fun x hx => ?_⟩
  rcases hx with rfl | rfl
  · simp only [Th]; omega
  · simp only [Th, List.length_map]
    refine ⟨by omega, fun d hd => ?_⟩
    obtain ⟨w, hw, rfl⟩ := List.mem_map.mp hd
    exact th_W h2 (h.w w hw).1 (h.w w hw).2
theorem needB_ok {s : Int} {ws : List (List Sp2)} (h : BkOk s ws) : f_need_book μ [encB μ s ws] = .ok (.non, .non) := need_ok 20 4 100 (by omega) (th_B h) (bookB_enc h)
/-! ### rooms -/
theorem roomOf_mem {cs : List Int} {p : Sp2} (h : p ∈ roomOf cs) : ∃ i, i < cs.length ∧ p.1 = (i : Int) + 1 ∧ cs[i]? = some p.2 ∧ 0 < p.2 := by
  unfold roomOf at h
  obtain ⟨q, hq, rfl⟩ := List.mem_map.mp h
  obtain ⟨h1, h2⟩ := List.mem_filter.mp hq
  obtain ⟨h3, h4, h5⟩ := List.mem_zipIdx h1
  refine ⟨q.2, by omega, rfl, ?_, of_decide_eq_true h2⟩
  rw [List.getElem?_eq_getElem (by omega)]
  simp only [Nat.sub_zero] at h5
  rw [h5]
theorem zipIdx_sorted {α : Type} : ∀ (l : List α) (k : Nat), (l.zipIdx k).Pairwise fun a b => a.2 < b.2
  | [], _ => by simp
  | x :: l, k => by
    rw [List.zipIdx_cons, List.pairwise_cons]
    refine ⟨fun b hb => ?_, zipIdx_sorted l (k + 1)⟩
    have := (List.mem_zipIdx hb).1
    show k < b.2
    omega
theorem roomOf_rising (cs : List Int) : ((roomOf cs).map (·.1)).Pairwise (· < ·) := by
  unfold roomOf
  rw [List.map_map, List.pairwise_map]
  refine ((zipIdx_sorted cs 0).filter _).imp fun {a b} h => ?_
  show (a.2 : Int) + 1 < (b.2 : Int) + 1
  omega
theorem roomOf_nodup (cs : List Int) : ((roomOf cs).map (·.1)).Nodup := (roomOf_rising cs).imp fun h => by omega
theorem roomB_enc {s : Int} {cs : List Int} (h : CsOk s cs) : roomB s (encR μ (roomOf cs)) = true := by
  have hl := h.len
  simp only [roomB, encR, Bool.and_eq_true, List.all_eq_true]
  refine ⟨fun d hd => ?_, ?_⟩
  · obtain ⟨p, hp, rfl⟩ := List.mem_map.mp hd
    obtain ⟨i, hi, e1, e2, e3⟩ := roomOf_mem hp
    have := h.c p.2 (List.mem_of_getElem? e2)
    simp [encP, rowB, fromB]
    omega
  · rw [riseB_iff, List.map_map]
    exact roomOf_rising cs
theorem th_R {s : Int} {cs : List Int} (hs : s ≤ 16) (h : CsOk s cs) : Th 20 100 4 (encR μ (roomOf cs)) := by
  have hl := h.len
  simp only [Th, encR, List.length_map]
  have e : (roomOf cs).length ≤ cs.length := by
    unfold roomOf
    rw [List.length_map]
    exact Nat.le_trans (List.length_filter_le _ _) (by simp)
  refine ⟨by omega, fun d hd => ?_⟩
  obtain ⟨p, hp, rfl⟩ := List.mem_map.mp hd
  obtain ⟨i, hi, e1, e2, e3⟩ := roomOf_mem hp
  have := h.c p.2 (List.mem_of_getElem? e2)
  exact (th_P (μ := μ) (p := p) (by omega)).mono (Nat.le_refl _) (Int.le_refl _) (by omega)
theorem needR_ok {s : Int} {ws : List (List Sp2)} {cs : List Int} (h : BkOk s ws) (hc : CsOk s cs) : f_need_room μ [encB μ s ws, encR μ (roomOf cs)] = .ok (.non, .non) := by
  have h1 := needB_ok (μ := μ) h
  have h2 := stock_ok (μ := μ) (tw := μ) (s := s) (w := .tup μ (ws.map (encW μ))) 20 4 100 (by omega) (th_R (μ := μ) h.s2 hc)
  rw [roomB_enc hc] at h2
  have h3 : f_is_stock μ [encB μ s ws, encR μ (roomOf cs)] = .ok (.bl true, .non) := h2
  simp [f_need_room, v_run, b_need_room, startE, h1, h3]
/-! ### coats -/
theorem prs_enc (r : List Sp2) : prI (r.map (encP μ)) = some r := by
  have : prs (r.map (encP μ)) = some (r.map fun p => (encP μ p, p)) := by
    induction r with
    | nil => rfl
    | cons p r ih => simp [prs, encP, prP] at ih ⊢; simp [ih]
  simp [prI, this, List.map_map, Function.comp_def]
theorem find_first {l : List Sp2} {k v : Int} (nd : (l.map (·.1)).Nodup) (h : (k, v) ∈ l) : gtI l k = some v := by
  induction l with
  | nil => cases h
  | cons p l ih =>
    have h1 : p.1 ∉ l.map (·.1) := (List.nodup_cons.mp nd).1
    have h2 : (l.map (·.1)).Nodup := (List.nodup_cons.mp nd).2
    unfold gtI
    rw [List.find?_cons]
    cases h with
    | head => simp
    | tail _ h =>
      have ne : p.1 ≠ k := fun e => h1 (List.mem_map.mpr ⟨_, h, e.symm⟩)
      simp only [ne, decide_false]
      exact ih h2 h
theorem find_none {l : List Sp2} {k : Int} (h : ∀ p ∈ l, p.1 ≠ k) : gtI l k = none := by
  unfold gtI
  rw [List.find?_eq_none.mpr fun p hp => by simpa using h p hp]
  rfl
theorem room_coats {s : Int} {cs : List Int} (h : CsOk s cs) : ((List.range cs.length).map fun (i : Nat) => (gtI (roomOf cs) (1 + (i : Int))).getD 0) = cs := by
  refine List.ext_getElem (by simp) fun i h1 h2 => ?_
  rw [List.getElem_map, List.getElem_range]
  have hc := h.c cs[i] (List.getElem_mem h2)
  by_cases z : 0 < cs[i]
  · have hm : ((1 + (i : Int)), cs[i]) ∈ roomOf cs := by
      unfold roomOf
      refine List.mem_map.mpr ⟨(cs[i], i), List.mem_filter.mpr ⟨?_, by simpa using z⟩, by simp; omega⟩
      rw [List.mem_zipIdx_iff_getElem?]
      exact List.getElem?_eq_getElem h2
    rw [find_first (roomOf_nodup cs) hm]
    rfl
  · rw [find_none fun p hp e => ?_]
    · show (0 : Int) = _; omega
    · obtain ⟨j, hj, e1, e2, e3⟩ := roomOf_mem hp
      have : j = i := by omega
      subst this
      rw [List.getElem?_eq_getElem hj] at e2
      have e3' := Option.some.inj e2
      rw [e3'] at z
      exact z e3
theorem small_of {i : Int} (h : -1000000 ≤ i ∧ i ≤ 1000000) : small i = true := decide_eq_true h
theorem coats_ok {s : Int} {ws : List (List Sp2)} {cs : List Int} (hs : s ≤ 16) (h1 : 1 ≤ s) (h : CsOk s cs) : f_coats_of μ [encB μ s ws, encR μ (roomOf cs)] = .ok (encL cs, .non) := by
  have hl := h.len
  have e1 : pDict [encR μ (roomOf cs)] = some (.dk (roomOf cs)) := by
    show (prI ((roomOf cs).map (encP μ))).bind (fun ps => if (ps.map (·.1)).Nodup then some (D.dk ps) else none) = _
    rw [prs_enc]
    exact if_pos (roomOf_nodup cs)
  have sm := small_of (i := s + 1) (by omega)
  have s1 := small_of (i := 1) (by omega)
  have hc : fComp (itR2 (aCons (eC (.int 1)) (aCons (e2 pAdd (e2 pIx (eVar 0) (eC (.int 0))) (eC (.int 1))) aNil))) (.nm 3) [3] tT (eGet (eVar 2) (eVar 3) (eC (.int 0))) [.val (encB μ s ws), .val (encR μ (roomOf cs)), .val (.dk (roomOf cs)), .no] = .ok (encL cs, [.val (encB μ s ws), .val (encR μ (roomOf cs)), .val (.dk (roomOf cs)), .no]) := by
    rw [comp_nmT (List.range cs.length) (fun (i : Nat) => D.int (1 + (i : Int))) (fun (i : Nat) => D.int ((gtI (roomOf cs) (1 + (i : Int))).getD 0)) (s := .no) (env1 := [.val (encB μ s ws), .val (encR μ (roomOf cs)), .val (.dk (roomOf cs)), .no]) ?_ ?_ rfl rfl ?_]
    · have e := congrArg (List.map D.int) (room_coats h)
      rw [List.map_map] at e
      show R.ok (D.lst (List.map (D.int ∘ fun (i : Nat) => (gtI (roomOf cs) (1 + (i : Int))).getD 0) (List.range cs.length)), _) = _
      rw [e]
    · have e : s.toNat = cs.length := by omega
      simp [encB, sm, s1, rgI, e]
    · simp [big]; omega
    · intro y hy
      simp
  simp [f_coats_of, v_run, b_coats_of, startE, e1, hc]
theorem lcoats_ok {s : Int} {ws : List (List Sp2)} {cs : List Int} (hs : s ≤ 16) (h1 : 1 ≤ s) (h : CsOk s cs) : f__law_coats μ [encB μ s ws, encR μ (roomOf cs)] = .ok (encL cs, .non) := coats_ok hs h1 h
end
end DL

/-! ## Q4 -/
/-! Q4: how the laws draw books and rooms. -/
namespace DL
open PySem PySem.Spec PyProof.Rows L2
/-- a comprehension that draws from the deck -/
theorem comp_gen {α : Type} {it : DenL} {elt : Den} {env : En} {i : Nat} {s : Sl} {xs : List D} {n N k : Int} {d1 : D} (e : D → En) (enc : α → D) (P : α → Prop) (hit : it env = .ok (xs, e d1)) (hl : xs.length ≤ big) (hs : ∀ d, (e d)[i]? = some s) (hf : s.free = true) (hd : Dk n d1) (hk : 0 ≤ k) (hN : n + k * xs.length ≤ N)
    (h : ∀ x ∈ xs, ∀ j d, Dk j d → j ≤ N → ∃ y d', elt ((e d).set i (.val x)) = .ok (enc y, (e d').set i (.val x)) ∧ P y ∧ Dk (j + k) d') :
    ∃ (ys : List α) (d' : D), fComp it (.nm i) [i] tT elt env = .ok (.lst (ys.map enc), e d') ∧ ys.length = xs.length ∧ (∀ y ∈ ys, P y) ∧ Dk (n + k * xs.length) d' := by
  have hn : ∀ d, hasOwn (e d) [i] = false := fun d => free_get (hs d) hf
  have hlt : ∀ d, i < (e d).length := fun d => (List.getElem?_eq_some_iff.mp (hs d)).1
  have key : ∀ (zs : List D) (acc : List α) (j : Int) (d : D), (∀ z ∈ zs, z ∈ xs) → Dk j d → j + k * zs.length ≤ N → ∃ (ys : List α) (d' : D), cLoop (.nm i) [i] tT elt zs (acc.map enc) (e d) = .ok ((acc ++ ys).map enc, e d') ∧ ys.length = zs.length ∧ (∀ y ∈ ys, P y) ∧ Dk (j + k * zs.length) d' := by
    intro zs
    induction zs with
    | nil => intro acc j d _ hd _; exact ⟨[], d, by simp [cLoop], rfl, (fun y hy => by cases hy), by simpa using hd⟩
    | cons z zs ih =>
      intro acc j d hz hd hj
      have ez : ((z :: zs).length : Int) = zs.length + 1 := by simp
      have ek : k * (((z :: zs).length : Nat) : Int) = k * (zs.length : Int) + k := by rw [ez, Int.mul_add, Int.mul_one]
      have nn : 0 ≤ k * (zs.length : Int) := Int.mul_nonneg hk (by omega)
      obtain ⟨y, d', h1, h2, h3⟩ := h z (hz z List.mem_cons_self) j d hd (by omega)
      obtain ⟨ys, d2, q1, q2, q3, q4⟩ := ih (acc ++ [y]) (j + k) d' (fun w hw => hz w (List.mem_cons_of_mem _ hw)) h3 (by omega)
      have ha : Pt.asg (.nm i) z (wipeE (e d) [i]) = some ((e d).set i (.val z)) := by
        simp [Pt.asg, wipeE, hlt d, List.getElem?_set_self (hlt d)]
      have hb : backE [i] (e d) ((e d').set i (.val z)) = e d' := by
        simp only [backE, cp1, hs d]
        rw [List.set_set]
        obtain ⟨u, v⟩ := List.getElem?_eq_some_iff.mp (hs d')
        rw [← v]
        exact List.set_getElem_self u
      refine ⟨y :: ys, d2, ?_, by simp [q2], fun w hw => ?_, q4.mono (by omega)⟩
      · simp only [List.map_append, List.map_cons, List.map_nil, List.append_assoc, List.cons_append, List.nil_append] at q1
        simp [cLoop, cTurn, hn d, ha, h1, hb, q1]
      · rcases List.mem_cons.mp hw with rfl | hw
        · exact h2
        · exact q3 w hw
  obtain ⟨ys, d', q1, q2, q3, q4⟩ := key xs [] n d1 (fun _ h => h) hd hN
  exact ⟨ys, d', by simp only [List.map_nil, List.nil_append] at q1; simp [fComp, hit, hl, q1], q2, q3, q4⟩
theorem rgI_len (a : Int) (n : Nat) : (rgI a n).length = n := by unfold rgI; rw [List.length_map, List.length_range]
section
variable {μ : Bool}
def SpOk (s : Int) (p : Sp2) : Prop := 1 ≤ p.1 ∧ p.1 ≤ p.2 ∧ p.2 ≤ s
theorem lspan_gen {n : Int} {d : D} {s : Int} (h : Dk n d) (hn : n ≤ 100000000) (hs : 0 < s) (hs2 : s ≤ 16) : ∃ p d', f__law_span μ [d, .int s] = .ok (encP μ p, d') ∧ SpOk s p ∧ Dk (n + 3) d' := by
  obtain ⟨r, d1, e1, r0, r1, h1⟩ := pick_ok (μ := μ) h (by omega) hs (by omega)
  obtain ⟨q, d2, e2, q0, q1, h2⟩ := pick_ok (μ := μ) h1 (by omega) hs (by omega)
  obtain ⟨x, d3, e3, hx, h3⟩ := one_ok (μ := μ) (ds := [.int 0, .int 0, .int 1, .int 2, .int q]) h2 (by omega) (by simp) (by simp)
  obtain ⟨z, rfl, z0⟩ : ∃ z, x = .int z ∧ 0 ≤ z := by
    simp only [List.mem_cons, List.not_mem_nil, or_false] at hx
    rcases hx with rfl | rfl | rfl | rfl | rfl <;> exact ⟨_, rfl, by omega⟩
  have a1 : 1 + r ≤ (if 1 + r + z < s then 1 + r + z else s) := by split <;> omega
  have a2 : (if 1 + r + z < s then 1 + r + z else s) ≤ s := by split <;> omega
  refine ⟨(1 + r, if 1 + r + z < s then 1 + r + z else s), d3, ?_, ⟨by show (1:Int) ≤ 1 + r; omega, a1, a2⟩, h3.mono (by omega)⟩
  simp [f__law_span, v_run, b__law_span, startE, e1, e2, e3, encP]
theorem lwinter_gen {n : Int} {d ws t a b : D} {s C : Int} (h : Dk n d) (hn : n ≤ 10000000) (hs : 0 < s) (hs2 : s ≤ 16) (hC : 0 ≤ C) (hC8 : C ≤ 8) :
    ∃ w d', fComp (itR1 (aCons (eCallO 0 2 (f__law_pick μ) (aCons (e2 pAdd (eVar 3) (eC (.int 1))) aNil)) aNil)) (.nm 7) [7] tT (eCallO 0 2 (f__law_span μ) (aCons (eVar 4) aNil)) [.own d, .val a, .val b, .val (.int C), .val (.int s), .own ws, .val t, .no] = .ok (.lst (w.map (encP μ)), [.own d', .val a, .val b, .val (.int C), .val (.int s), .own ws, .val t, .no]) ∧
      (w.length ≤ 8 ∧ (w.length : Int) ≤ C) ∧ AW.VS s w ∧ Dk (n + 30) d' := by
  obtain ⟨r, d1, e1, r0, r1, h1⟩ := pick_ok (μ := μ) h (by omega) (s := C + 1) (by omega) (by omega)
  have hsm : small r = true := small_of (by omega)
  obtain ⟨w, d2, q1, q2, q3, q4⟩ := comp_gen (it := itR1 (aCons (eCallO 0 2 (f__law_pick μ) (aCons (e2 pAdd (eVar 3) (eC (.int 1))) aNil)) aNil)) (elt := eCallO 0 2 (f__law_span μ) (aCons (eVar 4) aNil)) (env := [.own d, .val a, .val b, .val (.int C), .val (.int s), .own ws, .val t, .no])
    (xs := rgI 0 r.toNat) (k := 3) (N := 20000000) (d1 := d1) (i := 7) (s := .no) (fun d => [.own d, .val a, .val b, .val (.int C), .val (.int s), .own ws, .val t, .no]) (encP μ) (SpOk s)
    (by simp [e1, hsm]) (by rw [rgI_len]; unfold big; omega) (fun d => rfl) rfl h1 (by omega) (by rw [rgI_len]; omega) (fun x hx j d hd hj => by
      obtain ⟨p, d', g1, g2, g3⟩ := lspan_gen (μ := μ) hd (by omega) hs hs2
      exact ⟨p, d', by simp [g1], g2, g3⟩)
  rw [rgI_len] at q2 q4
  exact ⟨w, d2, q1, ⟨by omega, by omega⟩, fun p hp => q3 p hp, q4.mono (by omega)⟩
theorem lbook_gen {n : Int} {d : D} {S W C : Int} (h : Dk n d) (hn : n ≤ 1000000) (hS : 0 < S) (hS2 : S ≤ 16) (hW : 0 < W) (hW2 : W ≤ 5) (hC : 0 ≤ C) (hC8 : C ≤ 8) : ∃ s ws d', f__law_book μ [d, .int S, .int W, .int C] = .ok (encB μ s ws, d') ∧ BkOk s ws ∧ (s ≤ S ∧ ∀ w ∈ ws, (w.length : Int) ≤ C) ∧ Dk (n + 200) d' := by
  obtain ⟨r, d1, g1, r0, r1, h1⟩ := pick_ok (μ := μ) h (by omega) (s := S) (by omega) (by omega)
  obtain ⟨q, d2, g2, q0, q1, h2⟩ := pick_ok (μ := μ) h1 (by omega) (s := W) (by omega) (by omega)
  have hsm : small (1 + q) = true := small_of (by omega)
  obtain ⟨env2, l1, l2⟩ := sLoop_cnt (p := .nm 6) (body := (sApp 5 (eN (pTuple μ) (aCons (fComp (itR1 (aCons (eCallO 0 2 (f__law_pick μ) (aCons (e2 pAdd (eVar 3) (eC (.int 1))) aNil)) aNil)) (.nm 7) [7] tT (eCallO 0 2 (f__law_span μ) (aCons (eVar 4) aNil))) aNil))))
    (fun j env => ∃ d' ws t, env = [.own d', .val (.int S), .val (.int W), .val (.int C), .val (.int (1 + r)), .own (.lst (ws.map (encW μ))), t, .no] ∧ t.free = true ∧ ws.length = j ∧ (∀ w ∈ ws, (w.length ≤ 8 ∧ (w.length : Int) ≤ C) ∧ AW.VS (1 + r) w) ∧ Dk (n + 2 + 30 * j) d') 5 (rgI 0 (1 + q).toNat) 0 (by rw [rgI_len]; omega) (fun x hx j env hj hi => by
      obtain ⟨d', ws, t, rfl, ft, hl, hw, hd'⟩ := hi
      obtain ⟨w, d3, e3, y1, y2, h3⟩ := lwinter_gen (μ := μ) (ws := .lst (ws.map (encW μ))) (t := x) (a := .int S) (b := .int W) (C := C) hd' (by omega) (s := 1 + r) (by omega) (by omega) hC hC8
      refine ⟨[.own d', .val (.int S), .val (.int W), .val (.int C), .val (.int (1 + r)), .own (.lst (ws.map (encW μ))), .val x, .no], by simp [Pt.asg, ft], [.own d3, .val (.int S), .val (.int W), .val (.int C), .val (.int (1 + r)), .own (.lst ((ws ++ [w]).map (encW μ))), .val x, .no], ?_, d3, ws ++ [w], .val x, rfl, rfl, by simp [hl], fun z hz => ?_, h3.mono (by omega)⟩
      · simp [e3, hl, big, show j < 1000000 by omega, encW]
      · rcases List.mem_append.mp hz with z | z
        · exact hw _ z
        · rw [List.mem_singleton.mp z]
          exact ⟨y1, y2⟩)
    [.own d2, .val (.int S), .val (.int W), .val (.int C), .val (.int (1 + r)), .own (.lst []), .no, .no] ⟨d2, [], .no, rfl, rfl, rfl, (fun w hw => by cases hw), h2.mono (by omega)⟩
  obtain ⟨d', ws, t, rfl, ft, hl, hw, hd'⟩ := l2
  rw [rgI_len] at hl hd'
  refine ⟨1 + r, ws, d', ?_, ⟨by omega, by omega, by omega, by omega, fun w h => ⟨(hw w h).1.1, (hw w h).2⟩⟩, ⟨by omega, fun w h => (hw w h).1.2⟩, hd'.mono (by omega)⟩
  simp [f__law_book, v_run, b__law_book, startE, g1, g2, hsm, l1, encB]
theorem lroom_of {cs : List Int} (hl : cs.length ≤ 16) : f__law_room_of μ [encL cs] = .ok (encR μ (roomOf cs), .non) := by
  have he : enumD (cs.map D.int) = cs.zipIdx.map fun p => D.tup false [D.int (p.2 : Int), D.int p.1] := by
    unfold enumD
    rw [List.zipIdx_map, List.map_map]
    rfl
  have hc := comp_tu (it := itEnum (aCons (eVar 0) aNil)) (cond := tst (e2 pGt (eVar 2) (eC (.int 0)))) (elt := eTup μ (aCons (e2 pAdd (eVar 1) (eC (.int 1))) (aCons (eVar 2) aNil))) (i := 1) (j := 2) (env := [.val (encL cs), .no, .no]) (env1 := [.val (encL cs), .no, .no])
    cs.zipIdx (fun p => D.int (p.2 : Int)) (fun p => D.int p.1) (fun _ => false) (fun p => decide (0 < p.1)) (fun p => encP μ ((p.2 : Int) + 1, p.1)) (s := .no) (t := .no) (by simp [he]) (by simp [big]; omega) (by omega) rfl rfl rfl rfl (fun p hp => ⟨by simp, fun _ => by simp [encP]⟩)
  simp [f__law_room_of, v_run, b__law_room_of, startE, hc, encR, roomOf, List.map_map, Function.comp_def]
theorem lroom_gen {n s M : Int} {ws : List (List Sp2)} {d : D} (h : Dk n d) (hn : n ≤ 1000000) (hs : 1 ≤ s) (hs2 : s ≤ 16) (hM : 0 ≤ M) (hM2 : M ≤ 99) : ∃ cs d', f__law_room μ [d, encB μ s ws, .int M] = .ok (encR μ (roomOf cs), d') ∧ CsOk s cs ∧ Dk (n + 40) d' := by
  have hsm : small s = true := small_of (by omega)
  obtain ⟨cs, d2, q1, q2, q3, q4⟩ := comp_gen (it := itR1 (aCons (e2 pIx (eVar 1) (eC (.int 0))) aNil)) (elt := (eCallO 0 2 (f__law_one μ) (aCons (fLst (aCons (eC (.int 0)) (aCons (eC (.int 0)) (aCons (eC (.int 1)) (aCons (eC (.int 1)) (aCons (eCallO 0 2 (f__law_pick μ) (aCons (e2 pAdd (eVar 2) (eC (.int 1))) aNil)) aNil)))))) aNil)))
    (env := [.own d, .val (encB μ s ws), .val (.int M), .no]) (xs := rgI 0 s.toNat) (k := 2) (N := 2000000) (d1 := d) (i := 3) (s := .no) (fun d => [.own d, .val (encB μ s ws), .val (.int M), .no]) D.int (fun c => 0 ≤ c ∧ c ≤ 99)
    (by simp [hsm, encB]) (by rw [rgI_len]; unfold big; omega) (fun d => rfl) rfl h (by omega) (by rw [rgI_len]; omega) (fun x hx j d hd hj => by
      obtain ⟨r, d1, g1, r0, r1, h1⟩ := pick_ok (μ := μ) hd (by omega) (s := M + 1) (by omega) (by omega)
      obtain ⟨z, d2, g2, hz, h2⟩ := one_ok (μ := μ) (ds := [.int 0, .int 0, .int 1, .int 1, .int r]) h1 (by omega) (by simp) (by simp)
      obtain ⟨c, rfl, c0, c1⟩ : ∃ c : Int, z = .int c ∧ 0 ≤ c ∧ c ≤ 99 := by
        simp only [List.mem_cons, List.not_mem_nil, or_false] at hz
        rcases hz with rfl | rfl | rfl | rfl | rfl <;> exact ⟨_, rfl, by omega, by omega⟩
      exact ⟨c, d2, by simp [g1, g2], ⟨c0, c1⟩, h2.mono (by omega)⟩)
  rw [rgI_len] at q2 q4
  have g3 := lroom_of (μ := μ) (cs := cs) (by omega)
  exact ⟨cs, d2, by simp [f__law_room, v_run, b__law_room, startE, q1, g3], ⟨by omega, q3⟩, q4.mono (by omega)⟩
end
end DL

/-! ## Q5 -/
/-! Q5: windows, what lies within, what a room has, clothing. -/
namespace DL
open PySem PySem.Spec PyProof.Rows L2
theorem rgI_rng (a : Int) (b : Int) : rgI a (b - a).toNat = (AW.rng a b).map D.int := by
  unfold rgI AW.rng
  rw [List.map_map]; rfl
/-- comprehensions of two fors, whose names stand empty before -/
theorem comp2_nm {α β : Type} {it it1 : DenL} {elt : Den} {env env1 : En} {i j : Nat} (xs : List α) (f1 : α → D) (ys : α → List β) (f2 : β → D) (g : α → β → D) (ho : ownless env = true) (hit : it env = .ok (xs.map f1, env1)) (hij : i ≠ j) (hi : env1[i]? = some .no) (hj : env1[j]? = some .no)
    (h1 : ∀ x ∈ xs, ∃ e, it1 (env1.set i (.val (f1 x))) = .ok ((ys x).map f2, e)) (h2 : ∀ x ∈ xs, ∀ y ∈ ys x, elt ((env1.set i (.val (f1 x))).set j (.val (f2 y))) = .ok (g x y, (env1.set i (.val (f1 x))).set j (.val (f2 y))))
    (hl : (xs.flatMap fun x => (ys x).map (g x)).length ≤ big) : fComp2 it (.nm i) [i, j] it1 (.nm j) [j] elt env = .ok (.lst (xs.flatMap fun x => (ys x).map (g x)), env1) := by
  have hlt : i < env1.length := (List.getElem?_eq_some_iff.mp hi).1
  have hlj : j < env1.length := (List.getElem?_eq_some_iff.mp hj).1
  have w1 : wipeE env1 [i, j] = env1 := by
    have a : env1.set i .no = env1 := by
      obtain ⟨u, v⟩ := List.getElem?_eq_some_iff.mp hi
      rw [← v]; exact List.set_getElem_self u
    have b : env1.set j .no = env1 := by
      obtain ⟨u, v⟩ := List.getElem?_eq_some_iff.mp hj
      rw [← v]; exact List.set_getElem_self u
    simp only [wipeE, a, b]
  have w2 : ∀ v, wipeE (env1.set i v) [j] = env1.set i v := fun v => by
    have e : (env1.set i v)[j]? = some .no := by rw [List.getElem?_set]; simp [hij, hj]
    obtain ⟨u, v'⟩ := List.getElem?_eq_some_iff.mp e
    show (env1.set i v).set j .no = _
    rw [← v']; exact List.set_getElem_self u
  have a1 : ∀ d, Pt.asg (.nm i) d env1 = some (env1.set i (.val d)) := fun d => by simp [Pt.asg, hi]
  have a2 : ∀ v d, Pt.asg (.nm j) d (env1.set i v) = some ((env1.set i v).set j (.val d)) := fun v d => by simp [Pt.asg, List.getElem?_set, hij, hj]
  have l2 : ∀ (x : α), x ∈ xs → ∀ (zs : List β) (acc : List D), (∀ z ∈ zs, z ∈ ys x) → acc.length + zs.length ≤ big → loop2 (.nm j) [j] elt (env1.set i (.val (f1 x))) (zs.map f2) acc = .ok (acc ++ zs.map (g x)) := by
    intro x hx zs
    induction zs with
    | nil => intro acc _ _; simp [loop2]
    | cons z zs ih =>
      intro acc hz hb
      rw [List.length_cons] at hb
      have := ih (acc ++ [g x z]) (fun w hw => hz w (List.mem_cons_of_mem _ hw)) (by rw [List.length_append, List.length_singleton]; omega)
      simp [loop2, w2, a2, h2 x hx z (hz z List.mem_cons_self), show acc.length < big by omega, this]
  have l1 : ∀ (zs : List α) (acc : List D), (∀ z ∈ zs, z ∈ xs) → acc.length + (zs.flatMap fun x => (ys x).map (g x)).length ≤ big → loop1 (.nm i) [i, j] it1 (.nm j) [j] elt env1 (zs.map f1) acc = .ok (acc ++ zs.flatMap fun x => (ys x).map (g x)) := by
    intro zs
    induction zs with
    | nil => intro acc _ _; simp [loop1]
    | cons z zs ih =>
      intro acc hz hb
      rw [List.flatMap_cons, List.length_append, List.length_map] at hb
      obtain ⟨e, he⟩ := h1 z (hz z List.mem_cons_self)
      have q1 := l2 z (hz z List.mem_cons_self) (ys z) acc (fun _ h => h) (by omega)
      have q2 := ih (acc ++ (ys z).map (g z)) (fun w hw => hz w (List.mem_cons_of_mem _ hw)) (by rw [List.length_append, List.length_map]; omega)
      simp [loop1, w1, a1, he, q1, q2]
  have l := l1 xs [] (fun _ h => h) (by simpa using hl)
  simp [fComp2, ho, hit, l]
/-! ### windows -/
def wins (s : Int) : List Sp2 := (AW.rng 1 (s + 1)).flatMap fun l => (AW.rng l (s + 1)).map fun h => (l, h)
theorem mem_wins {s : Int} {p : Sp2} : p ∈ wins s ↔ 1 ≤ p.1 ∧ p.1 ≤ p.2 ∧ p.2 ≤ s := by
  obtain ⟨a, b⟩ := p
  unfold wins
  simp only [List.mem_flatMap, List.mem_map, AW.mem_rng, Prod.mk.injEq]
  constructor
  · rintro ⟨l, ⟨h1, h2⟩, h, ⟨h3, h4⟩, rfl, rfl⟩; omega
  · rintro ⟨h1, h2, h3⟩; exact ⟨a, by omega, b, by omega, rfl, rfl⟩
theorem wins_len {s : Int} (hs : s ≤ 16) : (wins s).length ≤ 300 := by
  unfold wins
  rw [List.length_flatMap]
  have h : ∀ x ∈ (AW.rng 1 (s + 1)).map fun l => ((AW.rng l (s + 1)).map fun h => ((l, h) : Sp2)).length, x ≤ 16 := fun x hx => by
    obtain ⟨l, hl, rfl⟩ := List.mem_map.mp hx
    have := AW.mem_rng.mp hl
    rw [List.length_map, AW.rng_len]; omega
  have k : ∀ (l : List Nat), (∀ x ∈ l, x ≤ 16) → l.sum ≤ 16 * l.length := fun l => by
    induction l with
    | nil => intro _; simp
    | cons y l ih =>
      intro q
      have a := q y List.mem_cons_self
      have b := ih fun x hx => q x (List.mem_cons_of_mem _ hx)
      rw [List.sum_cons, List.length_cons]; omega
  have := k _ h
  rw [List.length_map, AW.rng_len] at this
  omega
section
variable {μ : Bool}
theorem windows_ok {s : Int} (h1 : 1 ≤ s) (hs : s ≤ 16) : f_windows_of μ [.int s] = .ok (.lst ((wins s).map (encP μ)), .non) := by
  have s1 := small_of (i := 1) (by omega)
  have s2 := small_of (i := s + 1) (by omega)
  have e : ((AW.rng 1 (s + 1)).flatMap fun l => (AW.rng l (s + 1)).map fun h => encP μ (l, h)) = (wins s).map (encP μ) := by
    unfold wins
    rw [List.map_flatMap]
    simp only [List.map_map, Function.comp_def]
  have hc := comp2_nm (it := itR2 (aCons (eC (.int 1)) (aCons (e2 pAdd (eVar 0) (eC (.int 1))) aNil))) (it1 := itR2 (aCons (eVar 1) (aCons (e2 pAdd (eVar 0) (eC (.int 1))) aNil))) (elt := eTup μ (aCons (eVar 1) (aCons (eVar 2) aNil))) (i := 1) (j := 2) (env := [.val (.int s), .no, .no]) (env1 := [.val (.int s), .no, .no])
    (AW.rng 1 (s + 1)) D.int (fun l => AW.rng l (s + 1)) D.int (fun l h => encP μ (l, h)) rfl (by simp [s1, s2, rgI_rng]) (by omega) rfl rfl
    (fun x hx => by
      have := AW.mem_rng.mp hx
      have s3 := small_of (i := x) (by omega)
      exact ⟨[.val (.int s), .val (.int x), .no], by simp [s2, s3, rgI_rng]⟩) (fun x hx y hy => by simp [encP])
    (by rw [e, List.length_map]; have := wins_len hs; unfold big; omega)
  rw [e] at hc
  simp [f_windows_of, v_run, b_windows_of, startE, hc]
theorem within_ok {tb : Bool} {w : List Sp2} {l h : Int} (hl : w.length ≤ 1000) : f_within μ [.tup tb (w.map (encP μ)), .int l, .int h] = .ok (.int (AW.within w l h), .non) := by
  have hc := comp_nm (it := itS (eVar 0)) (cond := (tAndD (tst (e2 pLe (eVar 1) (e2 pIx (eVar 3) (eC (.int 0))))) (tst (e2 pLe (e2 pIx (eVar 3) (eC (.int 1))) (eVar 2))))) (elt := eVar 3) (i := 3) (env := [.val (.tup tb (w.map (encP μ))), .val (.int l), .val (.int h), .no]) (env1 := [.val (.tup tb (w.map (encP μ))), .val (.int l), .val (.int h), .no])
    w (encP μ) (AW.inW l h) (encP μ) (s := .no) (by simp) (by unfold big; omega) rfl rfl (fun p hp => ⟨by
      by_cases q : l ≤ p.1 <;> simp [encP, AW.inW, q], fun _ => by simp⟩)
  simp [f_within, v_run, b_within, startE, hc, AW.within]
theorem lwithin_ok {tb : Bool} {w : List Sp2} {l h : Int} (hl : w.length ≤ 1000) : f__law_within μ [.tup tb (w.map (encP μ)), .int l, .int h] = .ok (.int (AW.within w l h), .non) := within_ok (μ := μ) hl
theorem cut_ints {cs : List Int} {l h : Int} (h1 : 1 ≤ l) (h2 : l ≤ h) (h3 : h ≤ cs.length) : cutD (cs.map D.int) (some (l - 1)) (some h) = ((cs.drop (l - 1).toNat).take (h - l + 1).toNat).map D.int := by
  unfold cutD
  rw [List.length_map]
  have a : HT.sIx cs.length 0 (some (l - 1)) = (l - 1).toNat := by unfold HT.sIx; simp; rw [if_neg (by omega)]; omega
  have b : HT.sIx cs.length cs.length (some h) = h.toNat := by unfold HT.sIx; simp; rw [if_neg (by omega)]; omega
  rw [a, b, ← List.map_drop, ← List.map_take]
  congr 2
  omega
theorem sum_sumF {cs : List Int} (a : Nat) : ∀ (n : Nat), a + n ≤ cs.length → ((cs.drop a).take n).sum = AW.sumF (AW.cf cs) (a + 1) n
  | 0, _ => by simp [AW.sumF]
  | n + 1, h => by
    simp only [AW.sumF]
    rw [← sum_sumF a n (by omega)]
    have e : (cs.drop a).take (n + 1) = (cs.drop a).take n ++ [cs[a + n]'(by omega)] := by
      rw [List.take_succ_eq_append_getElem (by rw [List.length_drop]; omega)]
      simp
    rw [e, List.sum_append]
    have : AW.cf cs ((a : Int) + 1 + (n : Int)) = cs[a + n]'(by omega) := by
      rw [AW.cf_in (by omega) (by omega)]
      congr 1
      omega
    rw [this]; simp
theorem has_ok {cs : List Int} {l h : Int} (h1 : 1 ≤ l) (h2 : l ≤ h) (h3 : h ≤ cs.length) : f_has μ [encL cs, .int l, .int h] = .ok (.int (AW.has cs l h), .non) := by
  have e := cut_ints h1 h2 h3
  have e2' : ((cs.drop (l - 1).toNat).take (h - l + 1).toNat).sum = AW.has cs l h := by
    rw [sum_sumF _ _ (by omega)]
    unfold AW.has AW.hasF
    rw [show ((l - 1).toNat : Int) + 1 = l by omega]
  rw [show (l - 1).toNat = l.toNat - 1 by omega] at e2'
  simp [f_has, v_run, b_has, startE, e, e2', -List.map_take, -List.map_drop]
theorem lhas_ok {cs : List Int} {l h : Int} (h1 : 1 ≤ l) (h2 : l ≤ h) (h3 : h ≤ cs.length) : f__law_has μ [encL cs, .int l, .int h] = .ok (.int (AW.has cs l h), .non) := has_ok (μ := μ) h1 h2 h3
def clothesB (s : Int) (cs : List Int) (w : List Sp2) : Bool := (wins s).all fun p => decide (AW.within w p.1 p.2 ≤ AW.has cs p.1 p.2)
theorem clothesB_iff {s : Int} {cs : List Int} {w : List Sp2} : clothesB s cs w = true ↔ AW.Hall s cs w := by
  unfold clothesB AW.Hall
  rw [List.all_eq_true]
  constructor
  · intro h l k h1 h2 h3
    exact of_decide_eq_true (h (l, k) (mem_wins.mpr ⟨h1, h2, h3⟩))
  · intro h p hp
    obtain ⟨h1, h2, h3⟩ := mem_wins.mp hp
    exact decide_eq_true (h _ _ h1 h2 h3)
theorem clothes_ok {tb : Bool} {s : Int} {cs : List Int} {w : List Sp2} (h1 : 1 ≤ s) (hs : s ≤ 16) (hc : (cs.length : Int) = s) (hw : w.length ≤ 1000) : f_clothes μ [.int s, encL cs, .tup tb (w.map (encP μ))] = .ok (.bl (clothesB s cs w), .non) := by
  have hw1 := windows_ok (μ := μ) h1 hs
  have hc := comp_tu (it := itS (eCall 1 (f_windows_of μ) (aCons (eVar 0) aNil))) (cond := tT) (elt := e2 pLe (eCall 3 (f_within μ) (aCons (eVar 2) (aCons (eVar 3) (aCons (eVar 4) aNil)))) (eCall 3 (f_has μ) (aCons (eVar 1) (aCons (eVar 3) (aCons (eVar 4) aNil))))) (i := 3) (j := 4)
    (env := [.val (.int s), .val (encL cs), .val (.tup tb (w.map (encP μ))), .no, .no]) (env1 := [.val (.int s), .val (encL cs), .val (.tup tb (w.map (encP μ))), .no, .no])
    (wins s) (fun p => D.int p.1) (fun p => D.int p.2) (fun _ => μ) (fun _ => true) (fun p => D.bl (decide (AW.within w p.1 p.2 ≤ AW.has cs p.1 p.2))) (s := .no) (t := .no) (by simp [hw1]; exact fun _ _ _ => rfl) (by have := wins_len hs; unfold big; omega) (by omega) rfl rfl rfl rfl (fun p hp => ⟨by simp, fun _ => by
      obtain ⟨q1, q2, q3⟩ := mem_wins.mp hp
      have g1 := within_ok (μ := μ) (tb := tb) (l := p.1) (h := p.2) hw
      have g2 := has_ok (μ := μ) (cs := cs) q1 q2 (by omega)
      simp [g1, g2]⟩)
  have ee : ((wins s).filter fun _ => true).map (fun p => D.bl (decide (AW.within w p.1 p.2 ≤ AW.has cs p.1 p.2))) = ((wins s).map fun p => decide (AW.within w p.1 p.2 ≤ AW.has cs p.1 p.2)).map D.bl := by
    rw [List.filter_eq_self.mpr (fun _ _ => rfl), List.map_map]; rfl
  rw [ee] at hc
  simp [f_clothes, v_run, b_clothes, startE, hc, clothesB, List.all_map, Function.comp_def, -List.map_map]
def servesB (s : Int) (cs : List Int) (ws : List (List Sp2)) : Bool := ws.all (clothesB s cs)
theorem serving_ok {s : Int} {ws : List (List Sp2)} {cs : List Int} (h : BkOk s ws) (hc : CsOk s cs) : f_serving μ [encB μ s ws, encR μ (roomOf cs)] = .ok (.bl (servesB s cs ws), .non) := by
  have g1 := coats_ok (μ := μ) (ws := ws) h.s2 h.s1 hc
  have hl := h.l2
  have hc := comp_nmT (it := itS (e2 pIx (eVar 0) (eC (.int 1)))) (elt := eCall 3 (f_clothes μ) (aCons (e2 pIx (eVar 0) (eC (.int 0))) (aCons (eVar 2) (aCons (eVar 3) aNil)))) (i := 3) (env := [.val (encB μ s ws), .val (encR μ (roomOf cs)), .val (encL cs), .no]) (env1 := [.val (encB μ s ws), .val (encR μ (roomOf cs)), .val (encL cs), .no])
    ws (encW μ) (fun w => D.bl (clothesB s cs w)) (s := .no) (by simp [encB]) (by unfold big; omega) rfl rfl (fun w hw => by
      have g2 := clothes_ok (μ := μ) (tb := μ) (w := w) h.s1 h.s2 hc.len (by have := (h.w w hw).1; omega)
      have g3 : f_clothes μ [.int s, encL cs, encW μ w] = .ok (.bl (clothesB s cs w), .non) := g2
      simp [encB] at g3 ⊢
      simp [g3])
  have ee : ws.map (fun w => D.bl (clothesB s cs w)) = (ws.map (clothesB s cs)).map D.bl := by rw [List.map_map]; rfl
  rw [ee] at hc
  simp [f_serving, v_run, b_serving, startE, g1, hc, servesB, List.all_map, -List.map_map]
theorem serves_ok {s : Int} {ws : List (List Sp2)} {cs : List Int} (h : BkOk s ws) (hc : CsOk s cs) : f_serves μ [encB μ s ws, encR μ (roomOf cs)] = .ok (.bl (servesB s cs ws), .non) := by
  have g1 := needR_ok (μ := μ) h hc
  have g2 := serving_ok (μ := μ) h hc
  simp [f_serves, v_run, b_serves, startE, g1, g2]
/-! ### the laws' clothing -/
def srtW (w : List Sp2) : List Sp2 := w.mergeSort leK
theorem prs_P (w : List Sp2) : prs (w.map (encP μ)) = some (w.map fun p => (encP μ p, p)) := by
  induction w with
  | nil => rfl
  | cons p r ih => simp [prs, encP, prP] at ih ⊢; simp [ih]
theorem srt_P (w : List Sp2) : srtK (w.map fun p => (encP μ p, p)) = (srtW w).map (encP μ) := by
  unfold srtK srtW
  rw [← List.map_mergeSort (r := leK) (s := fun x y => leK x.2 y.2) (f := fun p => (encP μ p, p)) (fun _ _ _ _ => rfl), List.map_map]
  rfl
theorem srtW_perm (w : List Sp2) : (srtW w).Perm w := List.mergeSort_perm _ _
theorem srtW_pw (w : List Sp2) : (srtW w).Pairwise fun a b => a.2 ≤ b.2 := by
  refine (List.pairwise_mergeSort (le := leK) (fun a b c h1 h2 => ?_) (fun a b => ?_) w).imp fun {a b} h => ?_
  · simp only [leK, decide_eq_true_eq] at h1 h2 ⊢; omega
  · simp only [leK, Bool.or_eq_true, decide_eq_true_eq]; omega
  · simp only [leK, decide_eq_true_eq] at h; omega
def clothB (cs : List Int) (w : List Sp2) : Bool := AW.clothed cs (srtW w)
theorem clothB_iff {s : Int} {cs : List Int} {w : List Sp2} (hc : CsOk s cs) (hv : AW.VS s w) : clothB cs w = true ↔ AW.Hall s cs w := by
  unfold clothB
  rw [AW.clothed_iff (m := s) (AW.NN.mem fun x hx => (hc.c x hx).1) (by have := hc.len; omega) (hv.perm (srtW_perm w).symm) (srtW_pw w)]
  exact ⟨fun h => h.perm (srtW_perm w), fun h => h.perm (srtW_perm w).symm⟩
theorem cloth_eq {s : Int} {cs : List Int} {w : List Sp2} (hc : CsOk s cs) (hv : AW.VS s w) : clothB cs w = clothesB s cs w := by
  rw [Bool.eq_iff_iff, clothB_iff hc hv, clothesB_iff]
end
end DL

/-! ## Q6 -/
/-! Q6: the laws' own clothing, comparing. -/
namespace DL
open PySem PySem.Spec PyProof.Rows L2
section
variable {μ : Bool}
def clB : DenS := (sSeq (sSet 5 (fComp (itR2 (aCons (eVar 3) (aCons (e2 pAdd (eVar 4) (eC (.int 1))) aNil))) (.nm 6) [6] (tst (e2 pGt (eIxO 2 (e2 pSub (eVar 6) (eC (.int 1)))) (eC (.int 0)))) (eVar 6))) (sSeq (sIf (tst (e2 pEq (eVar 5) (fLst aNil))) (sRet (eC (.bl false))) sNx) (sPut 2 (e2 pSub (e2 pIx (eVar 5) (eC (.int 0))) (eC (.int 1))) (e2 pSub (eIxO 2 (e2 pSub (e2 pIx (eVar 5) (eC (.int 0))) (eC (.int 1)))) (eC (.int 1))))))
abbrev EC (a b : D) (c : List Int) (t3 t4 t5 : Sl) : En := [.val a, .val b, .own (.lst (c.map D.int)), t3, t4, t5, .no]
theorem at_cf {c : List Int} {z : Int} (h1 : 1 ≤ z) (h2 : z ≤ c.length) : atI (c.map D.int) (z - 1) = some (.int (AW.cf c z)) := by
  have hz : (z - 1).toNat < c.length := by omega
  rw [AW.cf_in h1 h2]
  have e : ixN (c.map D.int).length (z - 1) = some (z - 1).toNat := by
    rw [List.length_map]
    unfold ixN
    rw [if_pos (by omega), if_pos (by omega)]
  unfold atI
  rw [e]
  show (c.map D.int)[(z - 1).toNat]? = _
  rw [List.getElem?_map, List.getElem?_eq_getElem hz]
  rfl
theorem clB_ok {a b : D} {c : List Int} {p : Sp2} {s : Int} {t5 : Sl} (hs : s ≤ c.length) (hs2 : c.length ≤ 16) (hp : 1 ≤ p.1 ∧ p.1 ≤ p.2 ∧ p.2 ≤ s) (f5 : t5.free = true) :
    (AW.fits c p = [] ∧ ∃ e, clB (EC a b c (.val (.int p.1)) (.val (.int p.2)) t5) = .ok (.ret (.bl false), e)) ∨
    (∃ t r, AW.fits c p = t :: r ∧ ∃ t5', t5'.free = true ∧ clB (EC a b c (.val (.int p.1)) (.val (.int p.2)) t5) = .ok (.nx, EC a b (c.set (t - 1).toNat (AW.cf c t - 1)) (.val (.int p.1)) (.val (.int p.2)) t5')) := by
  have s1 := small_of (i := p.1) (by omega)
  have s2 := small_of (i := p.2 + 1) (by omega)
  have hc := comp_nm (it := itR2 (aCons (eVar 3) (aCons (e2 pAdd (eVar 4) (eC (.int 1))) aNil))) (cond := tst (e2 pGt (eIxO 2 (e2 pSub (eVar 6) (eC (.int 1)))) (eC (.int 0)))) (elt := eVar 6) (i := 6) (env := EC a b c (.val (.int p.1)) (.val (.int p.2)) t5) (env1 := EC a b c (.val (.int p.1)) (.val (.int p.2)) t5)
    (AW.rng p.1 (p.2 + 1)) D.int (fun z => decide (0 < AW.cf c z)) D.int (s := .no) (by simp [s1, s2, rgI_rng]) (by rw [AW.rng_len]; unfold big; omega) rfl rfl (fun z hz => ⟨by
      have hz := AW.mem_rng.mp hz
      have := at_cf (c := c) (z := z) (by omega) (by omega)
      simp [-v_atI, this], fun _ => by simp⟩)
  have hc : fComp (itR2 (aCons (eVar 3) (aCons (e2 pAdd (eVar 4) (eC (.int 1))) aNil))) (.nm 6) [6] (tst (e2 pGt (eIxO 2 (e2 pSub (eVar 6) (eC (.int 1)))) (eC (.int 0)))) (eVar 6) (EC a b c (.val (.int p.1)) (.val (.int p.2)) t5) = .ok (.lst ((AW.fits c p).map D.int), EC a b c (.val (.int p.1)) (.val (.int p.2)) t5) := hc
  have he := p_eqInts (AW.fits c p) []
  simp only [List.map_nil] at he
  cases q : AW.fits c p with
  | nil =>
    rw [q] at hc he
    exact .inl ⟨rfl, EC a b c (.val (.int p.1)) (.val (.int p.2)) (.val (.lst [])), by simp [clB, hc, f5] at he ⊢; simp [he]⟩
  | cons t r =>
    rw [q] at hc he
    obtain ⟨h1, h2, h3, h4⟩ := AW.fits_cons q
    have ha := at_cf (c := c) (z := t) (by omega) (by omega)
    have hi : ixN c.length (t - 1) = some (t - 1).toNat := by
      unfold ixN
      rw [if_pos (by omega), if_pos (by omega)]
    refine .inr ⟨t, r, rfl, .val (.lst ((t :: r).map D.int)), rfl, ?_⟩
    simp only [List.map_cons] at he hc
    have h0 : atI (D.int t :: r.map D.int) 0 = some (D.int t) := by simp
    simp [clB, hc, f5, he, ha, hi, h0, -v_atI, -v_ixN]
theorem clL_ok {a b : D} {s : Int} : ∀ (sp : List Sp2) (c : List Int) (t3 t4 t5 : Sl), s ≤ c.length → c.length ≤ 16 → AW.VS s sp → t3.free = true → t4.free = true → t5.free = true →
    (AW.clothed c sp = true ∧ ∃ c' t3' t4' t5', sLoop (.tu [.nm 3, .nm 4]) clB (sp.map (encP μ)) (EC a b c t3 t4 t5) = .ok (.nx, EC a b c' t3' t4' t5')) ∨
    (AW.clothed c sp = false ∧ ∃ e, sLoop (.tu [.nm 3, .nm 4]) clB (sp.map (encP μ)) (EC a b c t3 t4 t5) = .ok (.ret (.bl false), e))
  | [], c, t3, t4, t5, _, _, _, _, _, _ => .inl ⟨rfl, c, t3, t4, t5, rfl⟩
  | p :: sp, c, t3, t4, t5, hs, h16, hv, f3, f4, f5 => by
    obtain ⟨hp, hv⟩ := AW.VS.cons.mp hv
    have ha : Pt.asg (.tu [.nm 3, .nm 4]) (encP μ p) (EC a b c t3 t4 t5) = some (EC a b c (.val (.int p.1)) (.val (.int p.2)) t5) := by
      simp [Pt.asg, asgL, encP, f3, f4]
    rcases clB_ok (a := a) (b := b) (t5 := t5) hs h16 hp f5 with ⟨q, e, h⟩ | ⟨t, r, q, t5', f5', h⟩
    · exact .inr ⟨by unfold AW.clothed; rw [q], e, by simp only [List.map_cons, sLoop, ha, R.of_some, R.bind_ok, h]⟩
    · have ih := clL_ok (a := a) (b := b) (s := s) sp (c.set (t - 1).toNat (AW.cf c t - 1)) (.val (.int p.1)) (.val (.int p.2)) t5' (by rw [List.length_set]; exact hs) (by rw [List.length_set]; exact h16) hv rfl rfl f5'
      have ec : AW.clothed c (p :: sp) = AW.clothed (c.set (t - 1).toNat (AW.cf c t - 1)) sp := by conv => lhs; unfold AW.clothed; rw [q]
      have el : sLoop (.tu [.nm 3, .nm 4]) clB ((p :: sp).map (encP μ)) (EC a b c t3 t4 t5) = sLoop (.tu [.nm 3, .nm 4]) clB (sp.map (encP μ)) (EC a b (c.set (t - 1).toNat (AW.cf c t - 1)) (.val (.int p.1)) (.val (.int p.2)) t5') := by
        simp only [List.map_cons, sLoop, ha, R.of_some, R.bind_ok, h]
      rw [ec, el]
      exact ih
theorem lclothed_ok {tb : Bool} {s : Int} {cs : List Int} {w : List Sp2} (hc : CsOk s cs) (hs : s ≤ 16) (hv : AW.VS s w) : f__law_clothed μ [encL cs, .tup tb (w.map (encP μ))] = .ok (.bl (clothB cs w), .non) := by
  have hl := hc.len
  have e1 := prs_P (μ := μ) w
  have e2' := srt_P (μ := μ) w
  have eb : b__law_clothed μ = sSeq (sOwn 2 (eN pList (aCons (eVar 0) aNil))) (sSeq (sSeq (sFor (itS (eSortKey (aCons (eVar 1) aNil))) (.tu [.nm 3, .nm 4]) clB) (sFz 2)) (sRet (eC (.bl true)))) := rfl
  rcases clL_ok (μ := μ) (a := encL cs) (b := .tup tb (w.map (encP μ))) (s := s) (srtW w) cs .no .no .no (by omega) (by omega) (hv.perm (srtW_perm w).symm) rfl rfl rfl with ⟨q, c', t3, t4, t5, h⟩ | ⟨q, e, h⟩
  · have q : clothB cs w = true := q
    simp [f__law_clothed, v_run, eb, startE, e1, e2', h, q]
  · have q : clothB cs w = false := q
    simp [f__law_clothed, v_run, eb, startE, e1, e2', h, q]
theorem isEmpty_filter_not {α : Type} (l : List α) (f : α → Bool) : (l.filter fun x => !f x).isEmpty = l.all f := by
  induction l with
  | nil => rfl
  | cons x l ih => cases h : f x <;> simp [h, ih]
theorem lserves_ok {s : Int} {ws : List (List Sp2)} {cs : List Int} (h : BkOk s ws) (hc : CsOk s cs) : f__law_serves μ [encB μ s ws, encL cs] = .ok (.bl (servesB s cs ws), .non) := by
  have hl := h.l2
  have hc := comp_nm (it := itS (e2 pIx (eVar 0) (eC (.int 1)))) (cond := tNotD (tst (eCall 2 (f__law_clothed μ) (aCons (eVar 1) (aCons (eVar 2) aNil))))) (elt := eVar 2) (i := 2) (env := [.val (encB μ s ws), .val (encL cs), .no]) (env1 := [.val (encB μ s ws), .val (encL cs), .no])
    ws (encW μ) (fun w => !clothesB s cs w) (encW μ) (s := .no) (by simp [encB]) (by unfold big; omega) rfl rfl (fun w hw => ⟨by
      have g2 := lclothed_ok (μ := μ) (tb := μ) (w := w) hc h.s2 (h.w w hw).2
      have g3 : f__law_clothed μ [encL cs, encW μ w] = .ok (.bl (clothesB s cs w), .non) := by rw [← cloth_eq hc (h.w w hw).2]; exact g2
      simp at g3 ⊢
      simp [g3], fun _ => by simp⟩)
  have he := eqD_nil (m := 20) (B := 100) (k := 2) (ds := (ws.filter fun w => !clothesB s cs w).map (encW μ)) (fun d hd => by
    obtain ⟨w, hw, rfl⟩ := List.mem_map.mp hd
    have hw := (List.mem_filter.mp hw).1
    exact th_W h.s2 (h.w w hw).1 (h.w w hw).2) (by omega)
  have ee : ((ws.filter fun w => !clothesB s cs w).map (encW μ)).isEmpty = servesB s cs ws := by
    rw [List.isEmpty_map, isEmpty_filter_not]; rfl
  rw [ee] at he
  simp [f__law_serves, v_run, b__law_serves, startE, hc, he]
end
end DL

/-! ## Q7 -/
/-! Q7: _law_same on one thing. -/
namespace DL
open PySem PySem.Spec PyProof.Rows L2
section
variable {μ : Bool}
def sortN : D → Int
  | .bl _ => 1
  | .int _ => 2
  | .str _ => 3
  | .lst _ => 4
  | .tup _ _ => 5
  | _ => 6
theorem sort_ok {x : D} (h : x.plain = true) : f__law_sort μ [x] = .ok (.int (sortN x), .non) := by
  cases x <;> first | (exfalso; simp at h; done) | simp [f__law_sort, v_run, b__law_sort, startE, sortN]
@[simp] theorem p_eqN : pEq .non .non = some (.bl true) := rfl
@[simp] theorem p_eqS {x : Str} : pEq (.str x) (.str x) = some (.bl true) := by simp [pEq, eqS]
theorem enumD_eq (ds : List D) : enumD ds = ds.zipIdx.map fun p => D.tup false [D.int (p.2 : Int), p.1] := rfl
theorem same_refl {m : Nat} {B : Int} (hm : m ≤ 1000) : ∀ (k f : Nat) (x : D), k < f → Th m B k x → fr__law_same μ f [x, x] = .ok (.bl true, .non) := by
  intro k
  induction k with
  | zero =>
    intro f x hf hx
    obtain ⟨f, rfl⟩ : ∃ j, f = j + 1 := ⟨f - 1, by omega⟩
    have hs := sort_ok (μ := μ) hx.plain
    show runF false false 2 (b__law_same μ (fr__law_same μ f)) _ = _
    cases x <;> first | (exfalso; simp [Th] at hx; done) | simp [v_run, b__law_same, startE, hs, sortN]
  | succ k ih =>
    intro f x hf hx
    obtain ⟨f, rfl⟩ : ∃ j, f = j + 1 := ⟨f - 1, by omega⟩
    have hs := sort_ok (μ := μ) hx.plain
    show runF false false 2 (b__law_same μ (fr__law_same μ f)) _ = _
    have key : ∀ (c : Option Bool) (ds : List D), x = mk c ds → fComp (itEnum (aCons (eVar 0) aNil)) (.tu [.nm 2, .nm 3]) [2, 3] (tNotD (tst (eCall 2 (fr__law_same μ f) (aCons (eVar 3) (aCons (e2 pIx (eVar 1) (eVar 2)) aNil))))) (eVar 2) [.val x, .val x, .no, .no] = .ok (.lst [], [.val x, .val x, .no, .no]) := by
      intro c ds e
      subst e
      have hx' := th_mk.mp hx
      have hc := comp_tu (it := itEnum (aCons (eVar 0) aNil)) (cond := tNotD (tst (eCall 2 (fr__law_same μ f) (aCons (eVar 3) (aCons (e2 pIx (eVar 1) (eVar 2)) aNil))))) (elt := eVar 2) (i := 2) (j := 3) (env := [.val (mk c ds), .val (mk c ds), .no, .no]) (env1 := [.val (mk c ds), .val (mk c ds), .no, .no])
        ds.zipIdx (fun p => D.int (p.2 : Int)) (fun p => p.1) (fun _ => false) (fun _ => false) (fun p => D.int (p.2 : Int)) (s := .no) (t := .no) (by cases c <;> simp [mk, enumD_eq]) (by simp [big]; omega) (by omega) rfl rfl rfl rfl (fun p hp => ⟨by
          obtain ⟨h1, h2, h3⟩ := List.mem_zipIdx hp
          have hl : p.2 < ds.length := by omega
          have he : p.1 = ds[p.2] := by rw [h3]; rfl
          have hi := ih f p.1 (by omega) (hx'.2 p.1 (by rw [he]; exact List.getElem_mem hl))
          have ha : pIx (mk c ds) (.int (p.2 : Int)) = some p.1 := by
            have : atI ds (p.2 : Int) = some p.1 := by simp [hl, he]
            cases c <;> simpa [mk] using this
          simp [ha, hi], fun z => by cases z⟩)
      rw [List.filter_eq_nil_iff.mpr (fun _ _ => by simp)] at hc
      exact hc
    have he := p_eqInts [] []
    simp only [List.map_nil] at he
    cases x with
    | tup b ds => have := key (some b) ds rfl; simp [v_run, b__law_same, startE, hs, sortN, this, he]
    | lst ds => have := key none ds rfl; simp [v_run, b__law_same, startE, hs, sortN, this, he]
    | _ => first | (exfalso; simp [Th] at hx; done) | simp [v_run, b__law_same, startE, hs, sortN]
theorem same_ok {m : Nat} {B : Int} {k : Nat} {x : D} (hm : m ≤ 1000) (hk : k < 12) (hx : Th m B k x) : f__law_same μ [x, x] = .ok (.bl true, .non) := same_refl hm k 12 x hk hx
theorem same_bl (b : Bool) : f__law_same μ [.bl b, .bl b] = .ok (.bl true, .non) := same_ok (m := 0) (B := 0) (k := 0) (by omega) (by omega) (by simp [Th])
end
end DL

/-! ## Q8 -/
/-! Q8: windows that tell: shows_unserved, unserved, asked. -/
namespace DL
open PySem PySem.Spec PyProof.Rows L2
@[simp] theorem asg_nm {i : Nat} {d : D} {env : En} : Pt.asg (.nm i) d env = putV i d env := by simp [Pt.asg]
@[simp] theorem asg_tu {ps : List Pt} {b : Bool} {ds : List D} {env : En} : Pt.asg (.tu ps) (.tup b ds) env = asgL ps ds env := by simp [Pt.asg]
@[simp] theorem asgL_nil {env : En} : asgL [] [] env = some env := by simp [asgL]
@[simp] theorem asgL_cons {p : Pt} {ps : List Pt} {d : D} {ds : List D} {env : En} : asgL (p :: ps) (d :: ds) env = (p.asg d env).bind fun e => asgL ps ds e := by simp [asgL]
section
variable {μ : Bool}
/-! ### the law's windows -/
theorem lwindows_ok {s : Int} (h1 : 1 ≤ s) (hs : s ≤ 16) : f__law_windows μ [.int s] = .ok (.lst ((wins s).map (encP μ)), .non) := by
  have s1 := small_of (i := 1) (by omega)
  have s2 := small_of (i := s + 1) (by omega)
  have hw := wins_len hs
  have loop : ∀ (ls : List Int) (acc : List Sp2) (t2 : Sl), t2.free = true → (∀ l ∈ ls, 1 ≤ l ∧ l ≤ s) → acc.length + 16 * ls.length ≤ 10000 →
      ∃ t2' : Sl, t2'.free = true ∧ sLoop (.nm 2) (sSet 1 (e2 pAdd (eVar 1) (fComp (itR2 (aCons (eVar 2) (aCons (e2 pAdd (eVar 0) (eC (.int 1))) aNil))) (.nm 3) [3] tT (eTup μ (aCons (eVar 2) (aCons (eVar 3) aNil)))))) (ls.map D.int) [.val (.int s), .val (.lst (acc.map (encP μ))), t2, .no] =
        .ok (.nx, [.val (.int s), .val (.lst ((acc ++ ls.flatMap fun l => (AW.rng l (s + 1)).map fun h => (l, h)).map (encP μ))), t2', .no]) := by
    intro ls
    induction ls with
    | nil => intro acc t2 f2 _ _; exact ⟨t2, f2, by simp [sLoop]⟩
    | cons l ls ih =>
      intro acc t2 f2 hl hb
      rw [List.length_cons] at hb
      obtain ⟨h2, h3⟩ := hl l List.mem_cons_self
      have s3 := small_of (i := l) (by omega)
      have hc := comp_nmT (it := itR2 (aCons (eVar 2) (aCons (e2 pAdd (eVar 0) (eC (.int 1))) aNil))) (elt := eTup μ (aCons (eVar 2) (aCons (eVar 3) aNil))) (i := 3) (env := [.val (.int s), .val (.lst (acc.map (encP μ))), .val (.int l), .no]) (env1 := [.val (.int s), .val (.lst (acc.map (encP μ))), .val (.int l), .no])
        (AW.rng l (s + 1)) D.int (fun h => encP μ (l, h)) (s := .no) (by simp [s2, s3, rgI_rng]) (by rw [AW.rng_len]; unfold big; omega) rfl rfl (fun h hh => by simp [encP])
      have hn : (AW.rng l (s + 1)).length ≤ 16 := by rw [AW.rng_len]; omega
      obtain ⟨t2', f2', q⟩ := ih (acc ++ (AW.rng l (s + 1)).map fun h => (l, h)) (.val (.int l)) rfl (fun x hx => hl x (List.mem_cons_of_mem _ hx)) (by rw [List.length_append, List.length_map]; omega)
      refine ⟨t2', f2', ?_⟩
      have ha : Pt.asg (.nm 2) (.int l) [.val (.int s), .val (.lst (acc.map (encP μ))), t2, .no] = some [.val (.int s), .val (.lst (acc.map (encP μ))), .val (.int l), .no] := by simp [f2]
      have hb2 : acc.length + (AW.rng l (s + 1)).length ≤ 1000000 := by omega
      have hst : (sSet 1 (e2 pAdd (eVar 1) (fComp (itR2 (aCons (eVar 2) (aCons (e2 pAdd (eVar 0) (eC (.int 1))) aNil))) (.nm 3) [3] tT (eTup μ (aCons (eVar 2) (aCons (eVar 3) aNil)))))) [.val (.int s), .val (.lst (acc.map (encP μ))), .val (.int l), .no] =
          .ok (.nx, [.val (.int s), .val (.lst ((acc ++ (AW.rng l (s + 1)).map fun h => (l, h)).map (encP μ))), .val (.int l), .no]) := by
        simp [hc, hb2]
      simp only [List.map_cons, sLoop, ha, R.of_some, R.bind_ok, hst]
      rw [q, List.flatMap_cons, List.append_assoc]
  obtain ⟨t2, f2, q⟩ := loop (AW.rng 1 (s + 1)) [] .no rfl (fun l hl => by have := AW.mem_rng.mp hl; omega) (by rw [AW.rng_len]; simp; omega)
  have e : ((AW.rng 1 (s + 1)).flatMap fun l => (AW.rng l (s + 1)).map fun h => (l, h)) = wins s := rfl
  simp only [List.nil_append, e, List.map_nil] at q
  simp [f__law_windows, v_run, b__law_windows, startE, s1, s2, rgI_rng, q]
/-! ### a window that tells -/
def wAt (ws : List (List Sp2)) (w : Nat) : List Sp2 := ws.getD w []
def shortB (ws : List (List Sp2)) (cs : List Int) (w : Nat) (p : Sp2) : Bool := decide (AW.has cs p.1 p.2 < AW.within (wAt ws w) p.1 p.2)
def showsB (s : Int) (ws : List (List Sp2)) (cs : List Int) : D → Bool
  | .tup _ [.int w, .int l, .int h] => (decide (0 ≤ w) && decide (w < ws.length)) && (decide (1 ≤ l) && (decide (l ≤ h) && (decide (h ≤ s) && shortB ws cs w.toNat (l, h))))
  | _ => false
theorem ws_at {ws : List (List Sp2)} {w : Int} (h0 : 0 ≤ w) (h1 : w < ws.length) : atI (ws.map (encW μ)) w = some (encW μ (wAt ws w.toNat)) := by
  have hw : w.toNat < ws.length := by omega
  have e : ixN (ws.map (encW μ)).length w = some w.toNat := by
    rw [List.length_map]; unfold ixN; rw [if_pos h0, if_pos h1]
  unfold atI
  rw [e]
  show (ws.map (encW μ))[w.toNat]? = _
  unfold wAt
  rw [List.getElem?_map, List.getElem?_eq_getElem hw, List.getD_eq_getElem?_getD, List.getElem?_eq_getElem hw]
  rfl
theorem ws_get {s : Int} {ws : List (List Sp2)} (h : BkOk s ws) {w : Int} (h0 : 0 ≤ w) (h1 : w < ws.length) : (wAt ws w.toNat).length ≤ 8 ∧ AW.VS s (wAt ws w.toNat) := by
  have hw : w.toNat < ws.length := by omega
  unfold wAt
  rw [List.getD_eq_getElem?_getD, List.getElem?_eq_getElem hw]
  exact h.w _ (List.getElem_mem hw)
theorem whole_ok {x : D} (h : x.plain = true) : f__law_whole μ [x] = .ok (.bl (match x with | .int _ => true | _ => false), .non) := by
  cases x <;> first | (exfalso; simp at h; done) | simp [f__law_whole, v_run, b__law_whole, startE]
def wholeB : D → Bool
  | .int _ => true
  | _ => false
theorem whole_ok' {x : D} (h : x.plain = true) : f__law_whole μ [x] = .ok (.bl (wholeB x), .non) := by
  rw [whole_ok h]; cases x <;> rfl
theorem three {ds : List D} (h : ds.length = 3) : ∃ a b c, ds = [a, b, c] := by
  match ds, h with
  | [a, b, c], _ => exact ⟨a, b, c, rfl⟩
theorem showsB_not {s : Int} {ws : List (List Sp2)} {cs : List Int} {x : D} (h : ¬ ∃ tb w l k, x = .tup tb [.int w, .int l, .int k]) : showsB s ws cs x = false := by
  unfold showsB
  split
  · exact absurd ⟨_, _, _, _, rfl⟩ h
  · rfl
theorem lshows_ok {s : Int} {ws : List (List Sp2)} {cs : List Int} {x : D} {m k : Nat} {B : Int} (hb : BkOk s ws) (hc : CsOk s cs) (hm : m ≤ 1000) (hk : k ≤ 60) (hx : Th m B k x) : f__law_shows μ [encB μ s ws, encL cs, x] = .ok (.bl (showsB s ws cs x), .non) := by
  have hp := hx.plain
  by_cases hT : ∃ tb ds, x = .tup tb ds
  · obtain ⟨tb, ds, rfl⟩ := hT
    cases k with
    | zero => simp [Th] at hx
    | succ k =>
      simp only [Th] at hx
      by_cases h3 : ds.length = 3
      · obtain ⟨a, b, c, rfl⟩ := three h3
        have pa := (hx.2 a (by simp)).plain
        have pb := (hx.2 b (by simp)).plain
        have pc := (hx.2 c (by simp)).plain
        have hc1 := comp_nm (it := itS (eVar 2)) (cond := tNotD (tst (eCall 1 (f__law_whole μ) (aCons (eVar 6) aNil)))) (elt := eVar 6) (i := 6) (env := [.val (encB μ s ws), .val (encL cs), .val (.tup tb [a, b, c]), .no, .no, .no, .no]) (env1 := [.val (encB μ s ws), .val (encL cs), .val (.tup tb [a, b, c]), .no, .no, .no, .no])
          [a, b, c] (fun x => x) (fun x => !wholeB x) (fun x => x) (s := .no) (by simp) (by simp [big]) rfl rfl (fun y hy => ⟨by
            have := whole_ok' (μ := μ) (hx.2 y hy).plain
            simp [this], fun _ => by simp⟩)
        have he := eqD_nil (m := m) (B := B) (k := k) (ds := ([a, b, c].filter fun x => !wholeB x).map fun x => x) (fun d hd => by
          rw [List.map_id'] at hd
          exact hx.2 d (List.mem_filter.mp hd).1) (by omega)
        have ee : (([a, b, c].filter fun x => !wholeB x).map fun x => x).isEmpty = (wholeB a && (wholeB b && wholeB c)) := by
          rw [List.map_id', isEmpty_filter_not]; simp
        rw [ee] at he
        have hne : pNe (.lst (([a, b, c].filter fun x => !wholeB x).map fun x => x)) (.lst []) = some (.bl (!(wholeB a && (wholeB b && wholeB c)))) := by
          have : pNe (.lst (([a, b, c].filter fun x => !wholeB x).map fun x => x)) (.lst []) = (pEq (.lst (([a, b, c].filter fun x => !wholeB x).map fun x => x)) (.lst [])).map fun d => match d with | .bl b => .bl (!b) | d => d := by
            unfold pNe pEq
            rw [Option.map_map]; rfl
          rw [this, he]; rfl
        cases q : (wholeB a && (wholeB b && wholeB c)) with
        | false =>
          have e2 : showsB s ws cs (.tup tb [a, b, c]) = false := showsB_not fun ⟨_, _, _, _, e⟩ => by
            cases e; simp [wholeB] at q
          rw [q] at hne
          simp only [List.map_id'] at hne hc1
          simp [f__law_shows, v_run, b__law_shows, startE, hc1, hne, e2, -List.filter_cons]
        | true =>
          simp only [Bool.and_eq_true] at q
          obtain ⟨w, rfl⟩ : ∃ i, a = .int i := by cases a <;> first | exact ⟨_, rfl⟩ | simp [wholeB] at q
          obtain ⟨l, rfl⟩ : ∃ i, b = .int i := by cases b <;> first | exact ⟨_, rfl⟩ | simp [wholeB] at q
          obtain ⟨h, rfl⟩ : ∃ i, c = .int i := by cases c <;> first | exact ⟨_, rfl⟩ | simp [wholeB] at q
          rw [show (wholeB (.int w) && (wholeB (.int l) && wholeB (.int h))) = true from rfl] at hne
          have hz : ([D.int w, .int l, .int h].filter fun x => !wholeB x).map (fun x => x) = [] := by simp [wholeB]
          rw [hz] at hne hc1
          simp only [encB] at hc1
          have hB : pLen [.tup μ (ws.map (encW μ))] = some (.int ws.length) := by simp
          by_cases c1 : 0 ≤ w
          · by_cases c2 : w < ws.length
            · by_cases c3 : 1 ≤ l
              · by_cases c4 : l ≤ h
                · by_cases c5 : h ≤ s
                  · have g0 := ws_at (μ := μ) c1 c2
                    have g1 := lwithin_ok (μ := μ) (tb := μ) (w := wAt ws w.toNat) (l := l) (h := h) (by have := (ws_get hb c1 c2).1; omega)
                    have g1 : f__law_within μ [encW μ (wAt ws w.toNat), .int l, .int h] = _ := g1
                    have g2 := lhas_ok (μ := μ) (cs := cs) c3 c4 (by have := hc.len; omega)
                    have i0 : atI [D.int s, D.tup μ (ws.map (encW μ))] 0 = some (D.int s) := by simp
                    have i1 : atI [D.int s, D.tup μ (ws.map (encW μ))] 1 = some (D.tup μ (ws.map (encW μ))) := by simp
                    simp [f__law_shows, v_run, b__law_shows, startE, hc1, hne, showsB, c1, c2, c3, c4, c5, shortB, encB, g0, g1, g2, i0, i1, -v_atI]
                  · simp [f__law_shows, v_run, b__law_shows, startE, hc1, hne, showsB, c1, c2, c3, c4, c5, encB]
                · simp [f__law_shows, v_run, b__law_shows, startE, hc1, hne, showsB, c1, c2, c3, c4, encB]
              · simp [f__law_shows, v_run, b__law_shows, startE, hc1, hne, showsB, c1, c2, c3, encB]
            · simp [f__law_shows, v_run, b__law_shows, startE, hc1, hne, showsB, c1, c2, encB]
          · simp [f__law_shows, v_run, b__law_shows, startE, hc1, hne, showsB, c1, encB]
      · have e2 : showsB s ws cs (.tup tb ds) = false := showsB_not fun ⟨_, _, _, _, e⟩ => by cases e; simp at h3
        have e3 : ¬ ((ds.length : Int) = 3) := by omega
        simp [f__law_shows, v_run, b__law_shows, startE, e2, e3]
  · have e1 : x.isT "tuple" = false := by rw [isT_tupX]; cases x <;> first | rfl | exact absurd ⟨_, _, rfl⟩ hT
    have e2 : showsB s ws cs x = false := showsB_not fun ⟨_, _, _, _, e⟩ => hT ⟨_, _, e⟩
    simp [f__law_shows, v_run, b__law_shows, startE, hp, e1, e2]
end
end DL

/-! ## Q9 -/
/-! Q9: shows_unserved, unserved, asked. -/
namespace DL
open PySem PySem.Spec PyProof.Rows L2
section
variable {μ : Bool}
theorem isShort_ok {s w l h : Int} {ws : List (List Sp2)} {cs : List Int} (hb : BkOk s ws) (hc : CsOk s cs) (c1 : 0 ≤ w) (c2 : w < ws.length) (c3 : 1 ≤ l) (c4 : l ≤ h) (c5 : h ≤ s) : f_is_short μ [encB μ s ws, encL cs, .int w, .int l, .int h] = .ok (.bl (shortB ws cs w.toNat (l, h)), .non) := by
  have g0 := ws_at (μ := μ) c1 c2
  have g1 := within_ok (μ := μ) (tb := μ) (w := wAt ws w.toNat) (l := l) (h := h) (by have := (ws_get hb c1 c2).1; omega)
  have g1 : f_within μ [encW μ (wAt ws w.toNat), .int l, .int h] = _ := g1
  have g2 := has_ok (μ := μ) (cs := cs) c3 c4 (by have := hc.len; omega)
  have i1 : atI [D.int s, D.tup μ (ws.map (encW μ))] 1 = some (D.tup μ (ws.map (encW μ))) := by simp
  simp [f_is_short, v_run, b_is_short, startE, shortB, encB, g0, g1, g2, i1, -v_atI]
theorem shows_ok {s : Int} {ws : List (List Sp2)} {cs : List Int} {x : D} {m k : Nat} {B : Int} (hb : BkOk s ws) (hc : CsOk s cs) (hx : Th m B k x) : f_shows_unserved μ [encB μ s ws, encR μ (roomOf cs), x] = .ok (.bl (showsB s ws cs x), .non) := by
  have hn := needR_ok (μ := μ) hb hc
  have hco := coats_ok (μ := μ) (ws := ws) hb.s2 hb.s1 hc
  have hp := hx.plain
  by_cases hT : ∃ tb ds, x = .tup tb ds
  · obtain ⟨tb, ds, rfl⟩ := hT
    cases k with
    | zero => simp [Th] at hx
    | succ k =>
      simp only [Th] at hx
      by_cases h3 : ds.length = 3
      · obtain ⟨a, b, c, rfl⟩ := three h3
        have ta := hx.2 a (by simp)
        have pa := ta.plain
        have tb' := hx.2 b (by simp)
        have tc := hx.2 c (by simp)
        have f1 := from_ok (μ := μ) 0 (ws.length - 1) pa
        have cut1 : cutD [a, b, c] (some 1) none = [b, c] := rfl
        have hsp := span_ok (μ := μ) (x := .tup tb [b, c]) s m (k + 1) B (by
          simp only [Th]
          exact ⟨by have := hx.1; simp at this ⊢; omega, fun d hd => by
            simp only [List.mem_cons, List.not_mem_nil, or_false] at hd
            rcases hd with rfl | rfl <;> assumption⟩)
        have ls : pLen [D.tup μ (ws.map (encW μ))] = some (.int ws.length) := by simp
        have i1 : atI [D.int s, D.tup μ (ws.map (encW μ))] 1 = some (D.tup μ (ws.map (encW μ))) := by simp
        have i0 : atI [D.int s, D.tup μ (ws.map (encW μ))] 0 = some (D.int s) := by simp
        have j0 : atI [a, b, c] 0 = some a := by simp
        have j1 : atI [a, b, c] 1 = some b := by simp
        have j2 : atI [a, b, c] 2 = some c := by simp
        simp only [encB] at hn hco
        cases q1 : fromB 0 (ws.length - 1) a with
        | false =>
          have e2 : showsB s ws cs (.tup tb [a, b, c]) = false := by
            unfold showsB
            split
            · rename_i heq
              cases heq
              simp only [fromB] at q1
              rename_i w l h
              by_cases c1 : 0 ≤ w <;> by_cases c2 : w < ws.length
              · simp [c1] at q1; omega
              · simp [c2]
              · simp [c1]
              · simp [c1]
            · rfl
          simp [f_shows_unserved, v_run, b_shows_unserved, startE, hn, f1, q1, e2, encB, i1, j0, -v_atI]
        | true =>
          obtain ⟨w, rfl, c1, c2⟩ := from_iff q1
          cases q2 : spanB s (.tup tb [b, c]) with
          | false =>
            have e2 : showsB s ws cs (.tup tb [.int w, b, c]) = false := by
              unfold showsB
              split
              · rename_i heq
                cases heq
                rename_i l h
                simp only [spanB] at q2
                by_cases c3 : 1 ≤ l <;> by_cases c4 : l ≤ h <;> by_cases c5 : h ≤ s
                · exfalso; simp [c3, c4, c5] at q2; omega
                all_goals simp [c3, c4, c5]
              · rfl
            simp [f_shows_unserved, v_run, b_shows_unserved, startE, hn, f1, q1, q2, e2, encB, i0, i1, j0, hsp, cut1, -v_atI]
          | true =>
            obtain ⟨l, h, rfl, rfl, c3, c4, c5⟩ : ∃ l h, b = .int l ∧ c = .int h ∧ 1 ≤ l ∧ l ≤ h ∧ h ≤ s := by
              unfold spanB at q2
              split at q2
              · rename_i l h heq
                cases heq
                simp only [Bool.and_eq_true, decide_eq_true_eq] at q2
                exact ⟨l, h, rfl, rfl, by omega, by omega, by omega⟩
              · cases q2
            have g := isShort_ok (μ := μ) (w := w) hb hc c1 (by omega) c3 c4 c5
            simp only [encB] at g
            have c2' : w < ws.length := by omega
            simp [f_shows_unserved, v_run, b_shows_unserved, startE, hn, hco, f1, q1, q2, encB, i0, i1, j0, j1, j2, hsp, cut1, g, showsB, c1, c2', c3, c4, c5, -v_atI]
      · have e2 : showsB s ws cs (.tup tb ds) = false := showsB_not fun ⟨_, _, _, _, e⟩ => by cases e; simp at h3
        have e3 : ¬ ((ds.length : Int) = 3) := by omega
        simp [f_shows_unserved, v_run, b_shows_unserved, startE, hn, e2, e3]
  · have e1 : x.isT "tuple" = false := by rw [isT_tupX]; cases x <;> first | rfl | exact absurd ⟨_, _, rfl⟩ hT
    have e2 : showsB s ws cs x = false := showsB_not fun ⟨_, _, _, _, e⟩ => hT ⟨_, _, e⟩
    simp [f_shows_unserved, v_run, b_shows_unserved, startE, hn, hp, e1, e2]
end
end DL

/-! ## QA -/
/-! QA: unserved, asked. -/
namespace DL
open PySem PySem.Spec PyProof.Rows L2
/-- a loop that hands back the first that it finds -/
theorem sLoop_find {α : Type} {p : Pt} {body : DenS} (enc : α → D) (I : En → Prop) (r : α → Option D) : ∀ (xs : List α),
    (∀ x ∈ xs, ∀ env, I env → ∃ e1, p.asg (enc x) env = some e1 ∧ ((∃ d e2, r x = some d ∧ body e1 = .ok (.ret d, e2)) ∨ (r x = none ∧ ∃ e2, body e1 = .ok (.nx, e2) ∧ I e2))) →
    ∀ env, I env → (∃ d e2, xs.findSome? r = some d ∧ sLoop p body (xs.map enc) env = .ok (.ret d, e2)) ∨ (xs.findSome? r = none ∧ ∃ e2, sLoop p body (xs.map enc) env = .ok (.nx, e2) ∧ I e2)
  | [], _, env, hi => .inr ⟨rfl, env, rfl, hi⟩
  | x :: xs, h, env, hi => by
    obtain ⟨e1, h1, h2⟩ := h x List.mem_cons_self env hi
    rcases h2 with ⟨d, e2, hr, h2⟩ | ⟨hr, e2, h2, h3⟩
    · exact .inl ⟨d, e2, by simp [hr], by simp [sLoop, h1, h2]⟩
    · rcases sLoop_find enc I r xs (fun y hy => h y (List.mem_cons_of_mem _ hy)) e2 h3 with ⟨d, e3, q1, q2⟩ | ⟨q1, e3, q2, q3⟩
      · exact .inl ⟨d, e3, by simp [hr, q1], by simp [sLoop, h1, h2, q2]⟩
      · exact .inr ⟨by simp [hr, q1], e3, by simp [sLoop, h1, h2, q2], q3⟩
def encT (μ : Bool) (t : Nat × Sp2) : D := .tup μ [.int (t.1 : Int), .int t.2.1, .int t.2.2]
def duesW (s : Int) (ws : List (List Sp2)) (cs : List Int) (w : Nat) : List (Nat × Sp2) := ((wins s).filter (shortB ws cs w)).map fun p => (w, p)
def dues (s : Int) (ws : List (List Sp2)) (cs : List Int) : List (Nat × Sp2) := (List.range ws.length).flatMap (duesW s ws cs)
def headD (μ : Bool) (l : List (Nat × Sp2)) : D := match l with | [] => .non | t :: _ => encT μ t
theorem mem_dues {s : Int} {ws : List (List Sp2)} {cs : List Int} {t : Nat × Sp2} : t ∈ dues s ws cs ↔ t.1 < ws.length ∧ (1 ≤ t.2.1 ∧ t.2.1 ≤ t.2.2 ∧ t.2.2 ≤ s) ∧ shortB ws cs t.1 t.2 = true := by
  obtain ⟨w, p⟩ := t
  unfold dues duesW
  simp only [List.mem_flatMap, List.mem_range, List.mem_map, List.mem_filter, mem_wins, Prod.mk.injEq]
  constructor
  · rintro ⟨w', h1, p', ⟨h2, h3⟩, rfl, rfl⟩; exact ⟨h1, h2, h3⟩
  · rintro ⟨h1, h2, h3⟩; exact ⟨w, h1, p, ⟨h2, h3⟩, rfl, rfl⟩
theorem shortB_iff {ws : List (List Sp2)} {cs : List Int} {w : Nat} {p : Sp2} : shortB ws cs w p = true ↔ AW.has cs p.1 p.2 < AW.within (wAt ws w) p.1 p.2 := by
  unfold shortB
  exact decide_eq_true_iff
theorem wAt_of {ws : List (List Sp2)} {w : Nat} (h : w < ws.length) : wAt ws w = ws[w] := by
  unfold wAt
  rw [List.getD_eq_getElem?_getD, List.getElem?_eq_getElem h]; rfl
theorem dues_nil {s : Int} {ws : List (List Sp2)} {cs : List Int} : (dues s ws cs).isEmpty = servesB s cs ws := by
  rw [Bool.eq_iff_iff, List.isEmpty_iff, List.eq_nil_iff_forall_not_mem]
  unfold servesB
  rw [List.all_eq_true]
  constructor
  · intro h w hw
    obtain ⟨i, hi, rfl⟩ := List.getElem_of_mem hw
    rw [clothesB_iff]
    intro l k h1 h2 h3
    have q := h (i, (l, k))
    rw [mem_dues] at q
    have q2 : ¬ shortB ws cs i (l, k) = true := fun z => q ⟨hi, ⟨h1, h2, h3⟩, z⟩
    rw [shortB_iff, wAt_of hi] at q2
    show AW.within ws[i] l k ≤ AW.has cs l k
    have q3 : ¬ AW.has cs l k < AW.within ws[i] l k := q2
    omega
  · intro h t ht
    obtain ⟨h1, h2, h3⟩ := mem_dues.mp ht
    have := clothesB_iff.mp (h _ (List.getElem_mem h1)) t.2.1 t.2.2 h2.1 h2.2.1 h2.2.2
    rw [shortB_iff, wAt_of h1] at h3
    omega
theorem find_filter {α : Type} (q : α → Bool) (g : α → D) (l : List α) : l.findSome? (fun x => if q x then some (g x) else none) = (match l.filter q with | [] => none | x :: _ => some (g x)) := by
  induction l with
  | nil => rfl
  | cons x l ih => cases h : q x <;> simp [h, ih]
section
variable {μ : Bool}
theorem dues_first {s : Int} {ws : List (List Sp2)} {cs : List Int} (ns : List Nat) : ns.findSome? (fun w => (wins s).findSome? fun p => if shortB ws cs w p then some (encT μ (w, p)) else none) = (match ns.flatMap (duesW s ws cs) with | [] => none | t :: _ => some (encT μ t)) := by
  induction ns with
  | nil => rfl
  | cons w ns ih =>
    rw [List.findSome?_cons, find_filter, List.flatMap_cons]
    unfold duesW at ih ⊢
    cases (wins s).filter (shortB ws cs w) with
    | nil => simpa using ih
    | cons p r => simp
theorem unserved_ok {s : Int} {ws : List (List Sp2)} {cs : List Int} (hb : BkOk s ws) (hc : CsOk s cs) : f_unserved μ [encB μ s ws, encR μ (roomOf cs)] = .ok (headD μ (dues s ws cs), .non) := by
  have hn := needR_ok (μ := μ) hb hc
  have hco := coats_ok (μ := μ) (ws := ws) hb.s2 hb.s1 hc
  have hw := windows_ok (μ := μ) hb.s1 hb.s2
  have hl := hb.l2
  have sm := small_of (i := (ws.length : Int)) (by omega)
  let I : En → Prop := fun env => ∃ t3 t4 t5 : Sl, env = [.val (encB μ s ws), .val (encR μ (roomOf cs)), .val (encL cs), t3, t4, t5] ∧ t3.free = true ∧ t4.free = true ∧ t5.free = true
  let IN : DenS := (sFor (itS (eCall 1 (f_windows_of μ) (aCons (e2 pIx (eVar 0) (eC (.int 0))) aNil))) (.tu [(.nm 4), (.nm 5)]) (sIf (tst (eCall 5 (f_is_short μ) (aCons (eVar 0) (aCons (eVar 2) (aCons (eVar 3) (aCons (eVar 4) (aCons (eVar 5) aNil))))))) (sRet (eTup μ (aCons (eVar 3) (aCons (eVar 4) (aCons (eVar 5) aNil))))) sNx))
  have inner : ∀ (w : Nat), w < ws.length → ∀ t4 t5 : Sl, t4.free = true → t5.free = true →
      (∃ d e2, (wins s).findSome? (fun p => if shortB ws cs w p then some (encT μ (w, p)) else none) = some d ∧ IN [.val (encB μ s ws), .val (encR μ (roomOf cs)), .val (encL cs), .val (.int (w : Int)), t4, t5] = .ok (.ret d, e2)) ∨
      ((wins s).findSome? (fun p => if shortB ws cs w p then some (encT μ (w, p)) else none) = none ∧ ∃ e2, IN [.val (encB μ s ws), .val (encR μ (roomOf cs)), .val (encL cs), .val (.int (w : Int)), t4, t5] = .ok (.nx, e2) ∧ I e2) := by
    intro w hw' t4 t5 f4 f5
    have L := sLoop_find (p := .tu [.nm 4, .nm 5]) (body := (sIf (tst (eCall 5 (f_is_short μ) (aCons (eVar 0) (aCons (eVar 2) (aCons (eVar 3) (aCons (eVar 4) (aCons (eVar 5) aNil))))))) (sRet (eTup μ (aCons (eVar 3) (aCons (eVar 4) (aCons (eVar 5) aNil))))) sNx)) (encP μ)
      (fun env => ∃ t4 t5 : Sl, env = [.val (encB μ s ws), .val (encR μ (roomOf cs)), .val (encL cs), .val (.int (w : Int)), t4, t5] ∧ t4.free = true ∧ t5.free = true) (fun p => if shortB ws cs w p then some (encT μ (w, p)) else none) (wins s) (fun p hp env hi => by
        obtain ⟨t4, t5, rfl, f4, f5⟩ := hi
        obtain ⟨c3, c4, c5⟩ := mem_wins.mp hp
        have g := isShort_ok (μ := μ) (w := (w : Int)) hb hc (by omega) (by omega) c3 c4 c5
        refine ⟨[.val (encB μ s ws), .val (encR μ (roomOf cs)), .val (encL cs), .val (.int (w : Int)), .val (.int p.1), .val (.int p.2)], by simp [encP, f4, f5], ?_⟩
        cases q : shortB ws cs w p with
        | true =>
          have q' : shortB ws cs w (p.1, p.2) = true := q
          exact .inl ⟨_, [.val (encB μ s ws), .val (encR μ (roomOf cs)), .val (encL cs), .val (.int (w : Int)), .val (.int p.1), .val (.int p.2)], by simp; rfl, by simp [g, q', encT]⟩
        | false =>
          have q' : shortB ws cs w (p.1, p.2) = false := q
          exact .inr ⟨by simp, [.val (encB μ s ws), .val (encR μ (roomOf cs)), .val (encL cs), .val (.int (w : Int)), .val (.int p.1), .val (.int p.2)], by simp [g, q'], _, _, rfl, rfl, rfl⟩)
      [.val (encB μ s ws), .val (encR μ (roomOf cs)), .val (encL cs), .val (.int (w : Int)), t4, t5] ⟨t4, t5, rfl, f4, f5⟩
    have i0 : pIx (encB μ s ws) (.int 0) = some (D.int s) := by simp [encB]
    have hIN : IN [.val (encB μ s ws), .val (encR μ (roomOf cs)), .val (encL cs), .val (.int (w : Int)), t4, t5] = sLoop (.tu [.nm 4, .nm 5]) (sIf (tst (eCall 5 (f_is_short μ) (aCons (eVar 0) (aCons (eVar 2) (aCons (eVar 3) (aCons (eVar 4) (aCons (eVar 5) aNil))))))) (sRet (eTup μ (aCons (eVar 3) (aCons (eVar 4) (aCons (eVar 5) aNil))))) sNx) ((wins s).map (encP μ)) [.val (encB μ s ws), .val (encR μ (roomOf cs)), .val (encL cs), .val (.int (w : Int)), t4, t5] := by
      show sFor _ _ _ _ = _
      rw [v_for]
      simp [i0, hw]
    rw [hIN]
    rcases L with L | ⟨L1, e2, L2, t4', t5', rfl, f4', f5'⟩
    · exact .inl L
    · exact .inr ⟨L1, _, L2, _, _, _, rfl, rfl, f4', f5'⟩
  have O := sLoop_find (p := .nm 3) (body := IN) (fun (w : Nat) => D.int (w : Int)) I (fun w => (wins s).findSome? fun p => if shortB ws cs w p then some (encT μ (w, p)) else none) (List.range ws.length) (fun w hw' env hi => by
      obtain ⟨t3, t4, t5, rfl, f3, f4, f5⟩ := hi
      exact ⟨[.val (encB μ s ws), .val (encR μ (roomOf cs)), .val (encL cs), .val (.int (w : Int)), t4, t5], by simp [f3], inner w (List.mem_range.mp hw') t4 t5 f4 f5⟩)
    [.val (encB μ s ws), .val (encR μ (roomOf cs)), .val (encL cs), .no, .no, .no] ⟨_, _, _, rfl, rfl, rfl, rfl⟩
  rw [dues_first] at O
  have er : rgI 0 ws.length = (List.range ws.length).map fun (w : Nat) => D.int (w : Int) := by
    unfold rgI
    refine List.map_congr_left fun x _ => ?_
    simp
  have hb' : b_unserved μ = (sSeq (sExp (eCall 2 (f_need_room μ) (aCons (eVar 0) (aCons (eVar 1) aNil)))) (sSeq (sSet 2 (eCall 2 (f_coats_of μ) (aCons (eVar 0) (aCons (eVar 1) aNil)))) (sSeq (sFor (itR1 (aCons (eN pLen (aCons (e2 pIx (eVar 0) (eC (.int 1))) aNil)) aNil)) (.nm 3) IN) (sRet (eC .non))))) := rfl
  have i1 : pIx (encB μ s ws) (.int 1) = some (D.tup μ (ws.map (encW μ))) := by simp [encB]
  unfold dues
  rcases O with ⟨d, e2, q1, q2⟩ | ⟨q1, e2, q2, _⟩
  · cases z : (List.range ws.length).flatMap (duesW s ws cs) with
    | nil => rw [z] at q1; cases q1
    | cons t r =>
      rw [z] at q1
      cases q1
      simp [f_unserved, v_run, hb', startE, hn, hco, i1, sm, er, q2, headD]
  · cases z : (List.range ws.length).flatMap (duesW s ws cs) with
    | nil => simp [f_unserved, v_run, hb', startE, hn, hco, i1, sm, er, q2, headD]
    | cons t r => rw [z] at q1; cases q1
/-! ### asked -/
theorem mx_some {ns : List Int} (h : ns ≠ []) : ∃ k, mxI ns = some k ∧ k ∈ ns := by
  cases ns with
  | nil => exact absurd rfl h
  | cons x r =>
    refine ⟨_, rfl, ?_⟩
    rcases (foldl_max r x).1 with e | e
    · rw [e]; exact List.mem_cons_self
    · exact List.mem_cons_of_mem _ e
theorem idx_of_mem {k : Int} : ∀ {ns : List Int}, k ∈ ns → ∃ j : Nat, idxI k ns = some j ∧ j < ns.length
  | n :: ns, h => by
    unfold idxI
    by_cases e : n = k
    · exact ⟨0, by simp [e], by simp⟩
    · rcases List.mem_cons.mp h with z | z
      · exact absurd z.symm e
      · obtain ⟨j, h1, h2⟩ := idx_of_mem z
        exact ⟨j + 1, by simp [e, h1], by simp [h2]⟩
/-- how many ask, winter by winter -/
def rowsOf (ws : List (List Sp2)) (l h : Int) : List Int := ws.map fun w => AW.within w l h
theorem asked_ok {s l h : Int} {ws : List (List Sp2)} (hb : BkOk s ws) (c3 : 1 ≤ l) (c4 : l ≤ h) (c5 : h ≤ s) : ∃ (M : Int) (j : Nat), mxI (rowsOf ws l h) = some M ∧ idxI M (rowsOf ws l h) = some j ∧ 0 ≤ M ∧ M ≤ 8 ∧ j < 5 ∧ f_asked μ [encB μ s ws, .int l, .int h] = .ok (.tup μ [.int M, .int (j : Int)], .non) := by
  have hl1 := hb.l1
  have hl2 := hb.l2
  obtain ⟨M, hM, hm⟩ := mx_some (ns := rowsOf ws l h) (fun z => by have := congrArg List.length z; simp [rowsOf] at this; rw [this] at hl1; simp at hl1)
  obtain ⟨j, hj, hj2⟩ := idx_of_mem hm
  obtain ⟨w, hw, hw2⟩ := List.mem_map.mp hm
  have n1 := needB_ok (μ := μ) hb
  have hsp := span_ok (μ := μ) (x := .tup μ [.int l, .int h]) s 2 1 100 (by
    have := hb.s2
    simp [Th]; omega)
  have hsb : spanB s (.tup μ [.int l, .int h]) = true := by simp [spanB]; omega
  have n2 : f_need_span μ [.int s, .int l, .int h] = .ok (.non, .non) := by
    simp [f_need_span, v_run, b_need_span, startE, hsp, hsb]
  have i0 : pIx (encB μ s ws) (.int 0) = some (D.int s) := by simp [encB]
  have i1 : pIx (encB μ s ws) (.int 1) = some (D.tup μ (ws.map (encW μ))) := by simp [encB]
  have hc := comp_nmT (it := itS (e2 pIx (eVar 0) (eC (.int 1)))) (elt := eCall 3 (f_within μ) (aCons (eVar 4) (aCons (eVar 1) (aCons (eVar 2) aNil)))) (i := 4) (env := [.val (encB μ s ws), .val (.int l), .val (.int h), .no, .no]) (env1 := [.val (encB μ s ws), .val (.int l), .val (.int h), .no, .no])
    ws (encW μ) (fun w => D.int (AW.within w l h)) (s := .no) (by simp [i1]) (by unfold big; omega) rfl rfl (fun w hw => by
      have g := within_ok (μ := μ) (tb := μ) (w := w) (l := l) (h := h) (by have := (hb.w w hw).1; omega)
      have g : f_within μ [encW μ w, .int l, .int h] = _ := g
      simp [g])
  have er : ws.map (fun w => D.int (AW.within w l h)) = (rowsOf ws l h).map D.int := by unfold rowsOf; rw [List.map_map]; rfl
  rw [er] at hc
  have pm : pMax [.lst ((rowsOf ws l h).map D.int)] = some (.int M) := by simp [pMax, hM]
  have ff : f_first_asker μ [encB μ s ws, .int l, .int h] = .ok (.tup μ [.int M, .int (j : Int)], .non) := by
    simp [f_first_asker, v_run, b_first_asker, startE, hc, pm, hj]
  have hlen : (rowsOf ws l h).length = ws.length := by unfold rowsOf; rw [List.length_map]
  have b1 := AW.within_nonneg w l h
  have b2 := AW.within_le_length w l h
  have b3 := (hb.w w hw).1
  exact ⟨M, j, hM, hj, by omega, by omega, by omega, by simp [f_asked, v_run, b_asked, startE, n1, n2, i0, ff]⟩
end
end DL

/-! ## QB -/
/-! QB: the least giving. -/
namespace DL
open PySem PySem.Spec PyProof.Rows L2
@[simp] theorem flatL_ints (l : List Int) : flatL (l.map D.int) = true := by
  induction l with
  | nil => simp
  | cons x l ih => simp [ih]
theorem hallB_clothes (s : Int) : AW.HallB s (clothesB s) := fun _ _ _ _ _ => clothesB_iff
theorem cut_from {α : Type} (l : List α) (f : α → D) (k : Nat) (h : k ≤ l.length) : cutD (l.map f) (some (k : Int)) none = (l.drop k).map f := by
  unfold cutD
  rw [List.length_map]
  have a : HT.sIx l.length 0 (some (k : Int)) = k := by unfold HT.sIx; simp; rw [if_neg (by omega)]; omega
  have b : HT.sIx l.length l.length none = l.length := rfl
  rw [a, b, ← List.map_drop, ← List.map_take]
  rw [List.take_of_length_le (by rw [List.length_drop]; exact Nat.le_refl _)]
section
variable {μ : Bool}
abbrev EL (s : Int) (c0 : D) (w : D) (c g : List Int) (t5 t6 t7 t8 : Sl) : En := [.val (.int s), .val c0, .val w, .own (.lst (c.map D.int)), .own (.lst (g.map D.int)), t5, t6, t7, t8]
def lgI (μ : Bool) : DenS := (sIf (tst (e2 pGt (eIxO 3 (e2 pSub (eVar 6) (eC (.int 1)))) (eC (.int 0)))) (sSeq (sAugL 3 (· - ·) (e2 pSub (eVar 6) (eC (.int 1))) (eC (.int 1))) (sSeq (sIf (tst (eLock 3 (eCall 3 (f_clothes μ) (aCons (eVar 0) (aCons (eVar 3) (aCons (eSl (eVar 2) (oS (e2 pAdd (eVar 5) (eC (.int 1)))) oN) aNil)))))) (sSeq (sApp 4 (eVar 6)) sBrk) sNx) (sAugL 3 (· + ·) (e2 pSub (eVar 6) (eC (.int 1))) (eC (.int 1))))) sNx)
theorem ix_of {n : Nat} {t : Int} (h1 : 1 ≤ t) (h2 : t ≤ n) : ixN n (t - 1) = some (t - 1).toNat := by
  unfold ixN
  rw [if_pos (by omega), if_pos (by omega)]
theorem lgI_ok {s : Int} {c0 : D} {w r : List Sp2} {c g : List Int} {k : Nat} {t : Int} {p : Sp2} {t7 t8 : Sl} (f7 : t7.free = true) (f8 : t8.free = true) (h1s : 1 ≤ s) (hs : s ≤ 16) (hc : (c.length : Int) = s) (hw : w.length ≤ 8) (hr : w.drop k = p :: r) (hg : g.length ≤ 100) (h1 : 1 ≤ t) (h2 : t ≤ s) :
    lgI μ (EL s c0 (encW μ w) c g (.val (.int (k : Int))) (.val (.int t)) t7 t8) =
      if decide (0 < AW.cf c t) && clothesB s (AW.take1 c t) r then .ok (.brk, EL s c0 (encW μ w) (AW.take1 c t) (g ++ [t]) (.val (.int (k : Int))) (.val (.int t)) t7 t8)
      else .ok (.nx, EL s c0 (encW μ w) c g (.val (.int (k : Int))) (.val (.int t)) t7 t8) := by
  have hk : k < w.length := by
    rcases Nat.lt_or_ge k w.length with z | z
    · exact z
    · rw [List.drop_eq_nil_of_le z] at hr; cases hr
  have ha := at_cf (c := c) (z := t) h1 (by omega)
  have hi : ixN c.length (t - 1) = some (t - 1).toNat := ix_of h1 (by omega)
  have hr2 : w.drop (k + 1) = r := by
    have := congrArg List.tail hr
    rw [List.tail_drop] at this
    exact this
  have hcut : cutD (w.map (encP μ)) (some ((k : Int) + 1)) none = r.map (encP μ) := by
    have := cut_from w (encP μ) (k + 1) (by omega)
    rw [hr2] at this
    exact this
  have hrl : r.length ≤ 1000 := by rw [← hr2, List.length_drop]; omega
  have hcl := clothes_ok (μ := μ) (tb := μ) (s := s) (cs := AW.take1 c t) (w := r) h1s hs (by rw [AW.take1_len]; exact hc) hrl
  have em : (c.map D.int).set (t - 1).toNat (.int (AW.cf c t - 1)) = (AW.take1 c t).map D.int := by
    unfold AW.take1
    rw [List.map_set]
  have hat : atI ((AW.take1 c t).map D.int) (t - 1) = some (.int (AW.cf c t - 1)) := by
    rw [at_cf h1 (by rw [AW.take1_len]; omega), AW.cf_take1 h1 (by omega), if_pos rfl]
  have hi2 : ixN (AW.take1 c t).length (t - 1) = some (t - 1).toNat := by rw [AW.take1_len]; exact hi
  have eb : ((AW.take1 c t).map D.int).set (t - 1).toNat (.int (AW.cf c t - 1 + 1)) = c.map D.int := by
    rw [← em, List.set_set, show AW.cf c t - 1 + 1 = AW.cf c t by omega]
    rw [AW.cf_in h1 (by omega)]
    have : (c.map D.int)[(t - 1).toNat]'(by rw [List.length_map]; omega) = D.int (c[(t - 1).toNat]'(by omega)) := by rw [List.getElem_map]
    rw [← this]
    exact List.set_getElem_self _
  have hg2 : g.length < 1000000 := by omega
  have hoff : offF [t7, t8] = true := by
    cases t7 <;> cases t8 <;> simp at f7 f8 ⊢
  generalize (t - 1).toNat = ix at hi em hi2 eb
  rw [show AW.cf c t - 1 + 1 = AW.cf c t by omega] at eb
  have hwl : f_clothes μ [.int s, .lst ((AW.take1 c t).map D.int), .tup μ (r.map (encP μ))] = .ok (.bl (clothesB s (AW.take1 c t) r), .non) := hcl
  by_cases q : 0 < AW.cf c t
  · cases z : clothesB s (AW.take1 c t) r with
    | true =>
      rw [z] at hwl
      simp [lgI, ha, q, hi, em, hcut, hwl, encW, z, hg2, hoff, big, -v_atI, -v_ixN]
    | false =>
      rw [z] at hwl
      simp [lgI, ha, q, hi, em, hcut, hwl, encW, z, hg2, hoff, hat, hi2, eb, -v_atI, -v_ixN]
  · simp [lgI, ha, q, encW, -v_atI, -v_ixN]
theorem lgL_ok {s : Int} {c0 : D} {w r : List Sp2} {c g : List Int} {k : Nat} {p : Sp2} {t7 t8 : Sl} (f7 : t7.free = true) (f8 : t8.free = true) (h1s : 1 ≤ s) (hs : s ≤ 16) (hc : (c.length : Int) = s) (hw : w.length ≤ 8) (hr : w.drop k = p :: r) (hg : g.length ≤ 100) : ∀ (ls : List Int) (t6 : Sl), t6.free = true → (∀ t ∈ ls, 1 ≤ t ∧ t ≤ s) →
    ∃ t6' : Sl, t6'.free = true ∧ sLoop (.nm 6) (lgI μ) (ls.map D.int) (EL s c0 (encW μ w) c g (.val (.int (k : Int))) t6 t7 t8) =
      match ls.find? (fun t => decide (0 < AW.cf c t) && clothesB s (AW.take1 c t) r) with
      | some t => .ok (.nx, EL s c0 (encW μ w) (AW.take1 c t) (g ++ [t]) (.val (.int (k : Int))) t6' t7 t8)
      | none => .ok (.nx, EL s c0 (encW μ w) c g (.val (.int (k : Int))) t6' t7 t8)
  | [], t6, f6, _ => ⟨t6, f6, rfl⟩
  | t :: ls, t6, f6, ht => by
    obtain ⟨h1, h2⟩ := ht t List.mem_cons_self
    have hB := lgI_ok (μ := μ) (c0 := c0) (t7 := t7) (t8 := t8) f7 f8 h1s hs hc hw hr hg h1 h2
    have ha : Pt.asg (.nm 6) (.int t) (EL s c0 (encW μ w) c g (.val (.int (k : Int))) t6 t7 t8) = some (EL s c0 (encW μ w) c g (.val (.int (k : Int))) (.val (.int t)) t7 t8) := by simp [f6]
    cases q : (decide (0 < AW.cf c t) && clothesB s (AW.take1 c t) r) with
    | true =>
      rw [q, if_pos rfl] at hB
      refine ⟨.val (.int t), rfl, ?_⟩
      simp only [List.map_cons, sLoop, ha, R.of_some, R.bind_ok, hB, List.find?_cons, q]
    | false =>
      rw [q, if_neg (by decide)] at hB
      obtain ⟨t6', f6', h⟩ := lgL_ok f7 f8 h1s hs hc hw hr hg ls (.val (.int t)) rfl fun u hu => ht u (List.mem_cons_of_mem _ hu)
      refine ⟨t6', f6', ?_⟩
      simp only [List.map_cons, sLoop, ha, R.of_some, R.bind_ok, hB, List.find?_cons, q]
      exact h
theorem find_filt (c : List Int) (s : Sp2) (q : Int → Bool) : (AW.rng s.1 (s.2 + 1)).find? (fun t => decide (0 < AW.cf c t) && q t) = (AW.fits c s).find? q := by
  unfold AW.fits
  rw [List.find?_filter]
  congr 1
  funext a
  by_cases h : 0 < AW.cf c a <;> cases q a <;> simp [h]
def lgO (μ : Bool) : DenS := (sFor (itR2 (aCons (eVar 7) (aCons (e2 pAdd (eVar 8) (eC (.int 1))) aNil))) (.nm 6) (lgI μ))
theorem lgO_ok {s : Int} {c0 : D} {w : List Sp2} (h1s : 1 ≤ s) (hs : s ≤ 16) (hw : w.length ≤ 8) : ∀ (r : List Sp2) (k : Nat) (c g : List Int) (t5 t6 t7 t8 : Sl), w.drop k = r → AW.VS s r → (c.length : Int) = s → AW.NN c → AW.Hall s c r → g.length + r.length ≤ 100 → t5.free = true → t6.free = true → t7.free = true → t8.free = true →
    ∃ (c' : List Int) (u5 u6 u7 u8 : Sl), sLoop (.tu [.nm 5, .tu [.nm 7, .nm 8]]) (lgO μ) ((r.zipIdx k).map fun p => D.tup false [D.int (p.2 : Int), encP μ p.1]) (EL s c0 (encW μ w) c g t5 t6 t7 t8) = .ok (.nx, EL s c0 (encW μ w) c' (g ++ AW.leastL (clothesB s) c r) u5 u6 u7 u8)
  | [], k, c, g, t5, t6, t7, t8, _, _, _, _, _, _, _, _, _, _ => ⟨c, t5, t6, t7, t8, by simp [sLoop, AW.leastL]⟩
  | p :: r, k, c, g, t5, t6, t7, t8, hr, hv, hc, hn, hH, hg, f5, f6, f7, f8 => by
    rw [List.length_cons] at hg
    obtain ⟨hp, hv'⟩ := AW.VS.cons.mp hv
    obtain ⟨t, ht⟩ := AW.least_some (hallB_clothes s) hn (by omega) hv hH
    obtain ⟨q1, q2, q3, q4⟩ := AW.find_fits ht
    have n' := hn.take1 (t := t) (by omega) (by omega) q3
    have hc' : ((AW.take1 c t).length : Int) = s := by rw [AW.take1_len]; exact hc
    have hH' := clothesB_iff.mp q4
    have hr2 : w.drop (k + 1) = r := by
      have := congrArg List.tail hr
      rw [List.tail_drop] at this
      exact this
    obtain ⟨t6', f6', hL⟩ := lgL_ok (μ := μ) (c0 := c0) (c := c) (g := g) (t7 := .val (.int p.1)) (t8 := .val (.int p.2)) rfl rfl h1s hs hc hw hr (by omega) (AW.rng p.1 (p.2 + 1)) t6 f6 (fun t ht => by have := AW.mem_rng.mp ht; omega)
    rw [find_filt, ht] at hL
    obtain ⟨c', u5, u6, u7, u8, h⟩ := lgO_ok (c0 := c0) h1s hs hw r (k + 1) (AW.take1 c t) (g ++ [t]) (.val (.int (k : Int))) t6' (.val (.int p.1)) (.val (.int p.2)) hr2 hv' hc' n' hH' (by rw [List.length_append, List.length_singleton]; omega) rfl f6' rfl rfl
    refine ⟨c', u5, u6, u7, u8, ?_⟩
    have ha : Pt.asg (.tu [.nm 5, .tu [.nm 7, .nm 8]]) (D.tup false [D.int (k : Int), encP μ p]) (EL s c0 (encW μ w) c g t5 t6 t7 t8) = some (EL s c0 (encW μ w) c g (.val (.int (k : Int))) t6 (.val (.int p.1)) (.val (.int p.2))) := by simp [encP, f5, f7, f8]
    have s1 := small_of (i := p.1) (by omega)
    have s2 := small_of (i := p.2 + 1) (by omega)
    have hO : lgO μ (EL s c0 (encW μ w) c g (.val (.int (k : Int))) t6 (.val (.int p.1)) (.val (.int p.2))) = .ok (.nx, EL s c0 (encW μ w) (AW.take1 c t) (g ++ [t]) (.val (.int (k : Int))) t6' (.val (.int p.1)) (.val (.int p.2))) := by
      have hL : sLoop (.nm 6) (lgI μ) ((AW.rng p.1 (p.2 + 1)).map D.int) _ = R.ok (Fl.nx, EL s c0 (encW μ w) (AW.take1 c t) (g ++ [t]) (.val (.int (k : Int))) t6' (.val (.int p.1)) (.val (.int p.2))) := hL
      simp [lgO, s1, s2, rgI_rng, hL]
    have eL : AW.leastL (clothesB s) c (p :: r) = t :: AW.leastL (clothesB s) (AW.take1 c t) r := by
      conv => lhs; unfold AW.leastL
      rw [ht]
    rw [List.append_assoc, List.singleton_append, ← eL] at h
    simp only [List.zipIdx_cons, List.map_cons, sLoop, ha, R.of_some, R.bind_ok, hO]
    exact h
/-- what giving tells -/
def givD (μ : Bool) (s : Int) (c : List Int) (w : List Sp2) : D := if clothesB s c w then .tup μ ((AW.leastL (clothesB s) c w).map D.int) else .non
theorem least_ok {s : Int} {c : List Int} {w : List Sp2} (h1s : 1 ≤ s) (hs : s ≤ 16) (hw : w.length ≤ 8) (hv : AW.VS s w) (hc : CsOk s c) : f_least_giving μ [.int s, encL c, encW μ w] = .ok (givD μ s c w, .non) := by
  have hl := hc.len
  have hcl : f_clothes μ [.int s, .lst (c.map D.int), encW μ w] = .ok (.bl (clothesB s c w), .non) := clothes_ok (μ := μ) (tb := μ) (w := w) h1s hs hl (by omega)
  have eb : b_least_giving μ = (sSeq (sOwn 3 (eN pList (aCons (eVar 1) aNil))) (sSeq (sIf (tNotD (tst (eLock 3 (eCall 3 (f_clothes μ) (aCons (eVar 0) (aCons (eVar 3) (aCons (eVar 2) aNil))))))) (sRet (eC .non)) sNx) (sSeq (sOwn 4 (fLst aNil)) (sSeq (sSeq (sSeq (sFor (itEnum (aCons (eVar 2) aNil)) (.tu [.nm 5, .tu [.nm 7, .nm 8]]) (lgO μ)) (sFz 4)) (sFz 3)) (sRet (eN (pTuple μ) (aCons (eVar 4) aNil))))))) := rfl
  unfold givD
  cases q : clothesB s c w with
  | false =>
    rw [q] at hcl
    simp [f_least_giving, v_run, eb, startE, hcl]
  | true =>
    rw [q] at hcl
    have hH := clothesB_iff.mp q
    obtain ⟨c', u5, u6, u7, u8, h⟩ := lgO_ok (μ := μ) (c0 := encL c) h1s hs hw w 0 c [] .no .no .no .no rfl hv hl (AW.NN.mem fun x hx => (hc.c x hx).1) hH (by simp; omega) rfl rfl rfl rfl
    have ee : enumD (w.map (encP μ)) = (w.zipIdx 0).map fun p => D.tup false [D.int (p.2 : Int), encP μ p.1] := by
      rw [enumD_eq, List.zipIdx_map, List.map_map]; rfl
    simp only [EL, List.map_nil, List.nil_append] at h
    have es : sqD (encW μ w) = some (w.map (encP μ)) := rfl
    simp [f_least_giving, v_run, eb, startE, hcl, es, ee, h]
theorem needWi_ok {s : Int} {ws : List (List Sp2)} {w : Nat} (h : w < ws.length) : f_need_winter μ [encB μ s ws, .int (w : Int)] = .ok (.non, .non) := by
  have f1 := from_ok (μ := μ) (x := .int (w : Int)) 0 (ws.length - 1) (by simp)
  have hb : fromB 0 (ws.length - 1) (.int (w : Int)) = true := by simp [fromB]; omega
  rw [hb] at f1
  have i1 : pIx (encB μ s ws) (.int 1) = some (D.tup μ (ws.map (encW μ))) := by simp [encB]
  simp [f_need_winter, v_run, b_need_winter, startE, i1, f1]
theorem giving_ok {s : Int} {ws : List (List Sp2)} {cs : List Int} {w : Nat} (hb : BkOk s ws) (hc : CsOk s cs) (h : w < ws.length) : f_giving μ [encB μ s ws, encR μ (roomOf cs), .int (w : Int)] = .ok (givD μ s cs ws[w], .non) := by
  have h1 := needR_ok (μ := μ) hb hc
  have h2 := needWi_ok (μ := μ) (s := s) h
  have h3 := coats_ok (μ := μ) (ws := ws) hb.s2 hb.s1 hc
  obtain ⟨h4, h5⟩ := hb.w ws[w] (List.getElem_mem h)
  have h6 := least_ok (μ := μ) hb.s1 hb.s2 h4 h5 hc
  have i0 : pIx (encB μ s ws) (.int 0) = some (D.int s) := by simp [encB]
  have i1 : pIx (encB μ s ws) (.int 1) = some (D.tup μ (ws.map (encW μ))) := by simp [encB]
  have i2 : atI (ws.map (encW μ)) (w : Int) = some (encW μ ws[w]) := by
    rw [ws_at (by omega) (by omega)]
    rw [Int.toNat_natCast, wAt_of h]
  simp [f_giving, v_run, b_giving, startE, h1, h2, h3, i0, i1, i2, h6, -v_atI]
end
end DL

/-! ## QF -/
/-! QF: what a book asks of each window. -/
namespace DL
open PySem PySem.Spec PyProof.Rows L2
theorem wins_nodup (s : Int) : (wins s).Nodup := by
  unfold wins List.Nodup
  rw [List.pairwise_flatMap]
  refine ⟨fun l hl => ?_, ?_⟩
  · rw [List.pairwise_map]
    exact (AW.rng_pairwise l (s + 1)).imp fun {a b} h e => by
      have := congrArg Prod.snd e
      simp only at this
      omega
  · exact (AW.rng_pairwise 1 (s + 1)).imp fun {a b} h x hx y hy e => by
      obtain ⟨i, _, rfl⟩ := List.mem_map.mp hx
      obtain ⟨j, _, rfl⟩ := List.mem_map.mp hy
      have := congrArg Prod.fst e
      simp only at this
      omega
theorem putT_new {kvs : List ((Int × Int) × Int)} {k : Int × Int} {n : Int} (h : ∀ p ∈ kvs, p.1 ≠ k) : putT kvs k n = kvs ++ [(k, n)] := by
  unfold putT
  rw [if_neg]
  rw [List.any_eq_true]
  rintro ⟨p, hp, e⟩
  exact h p hp (of_decide_eq_true e)
theorem dict_nm {it : DenL} {fk fv : Den} {env env1 : En} {i : Nat} (ys : List Sp2) (nd : ys.Nodup) (v : Sp2 → Int) (ho : ownless env = true) (hit : it env = .ok (ys.map (encP false), env1)) (hl : ys.length ≤ big) (hi : env1[i]? = some .no)
    (h : ∀ y ∈ ys, fk (env1.set i (.val (encP false y))) = .ok (encP false y, env1.set i (.val (encP false y))) ∧ fv (env1.set i (.val (encP false y))) = .ok (.int (v y), env1.set i (.val (encP false y)))) :
    fDictT it (.nm i) [i] fk fv env = .ok (.dt (ys.map fun p => (p, v p)), env1) := by
  have hlt : i < env1.length := (List.getElem?_eq_some_iff.mp hi).1
  have w1 : wipeE env1 [i] = env1 := by
    obtain ⟨u, w⟩ := List.getElem?_eq_some_iff.mp hi
    show env1.set i .no = env1
    rw [← w]; exact List.set_getElem_self u
  have key : ∀ (zs : List Sp2) (acc : List ((Int × Int) × Int)), (∀ z ∈ zs, z ∈ ys) → zs.Nodup → (∀ p ∈ acc, ∀ z ∈ zs, p.1 ≠ z) → acc.length + zs.length ≤ big → loopD (.nm i) [i] fk fv env1 (zs.map (encP false)) acc = .ok (acc ++ zs.map fun p => (p, v p)) := by
    intro zs
    induction zs with
    | nil => intro acc _ _ _ _; simp [loopD]
    | cons z zs ih =>
      intro acc hz hn hd hb
      rw [List.length_cons] at hb
      obtain ⟨n1, n2⟩ := List.nodup_cons.mp hn
      obtain ⟨g1, g2⟩ := h z (hz z List.mem_cons_self)
      have ha : Pt.asg (.nm i) (encP false z) (wipeE env1 [i]) = some (env1.set i (.val (encP false z))) := by
        rw [w1]; simp [hi]
      have ih := ih (acc ++ [(z, v z)]) (fun w hw => hz w (List.mem_cons_of_mem _ hw)) n2 (fun p hp w hw => by
        rcases List.mem_append.mp hp with q | q
        · exact hd p q w (List.mem_cons_of_mem _ hw)
        · rw [List.mem_singleton.mp q]
          exact fun e => n1 (by rw [show z = w from e]; exact hw)) (by rw [List.length_append, List.length_singleton]; omega)
      have hp : putT acc (z.1, z.2) (v z) = acc ++ [(z, v z)] := putT_new fun p hp => hd p hp z List.mem_cons_self
      have ez : encP false z = .tup false [.int z.1, .int z.2] := rfl
      simp only [List.map_cons, loopD, ha, R.of_some, R.bind_ok, g1, R.hush_ok, g2]
      rw [ez]
      simp only [hp]
      rw [if_pos (by omega), ih]
      simp
  have l := key ys [] (fun _ h => h) nd (fun p hp => by cases hp) (by simpa using hl)
  simp [fDictT, ho, hit, l]
theorem gtT_map {ys : List Sp2} (v : Sp2 → Int) {p : Sp2} (hp : p ∈ ys) : gtT (ys.map fun p => (p, v p)) p = some (v p) := by
  unfold gtT
  induction ys with
  | nil => cases hp
  | cons y ys ih =>
    rw [List.map_cons, List.find?_cons]
    by_cases e : y = p
    · subst e; simp
    · rw [show decide ((y, v y).1 = p) = false from decide_eq_false e]
      rcases List.mem_cons.mp hp with q | q
      · exact absurd q.symm e
      · exact ih q
/-- the most that one winter asks of a window -/
def askM (ws : List (List Sp2)) (p : Sp2) : Int := (mxI (rowsOf ws p.1 p.2)).getD 0
theorem mx_ge : ∀ {ns : List Int} {k : Int}, mxI ns = some k → ∀ x ∈ ns, x ≤ k
  | x :: r, k, h, y, hy => by
    have e : r.foldl max x = k := Option.some.inj h
    have := foldl_max r x
    rw [e] at this
    rcases List.mem_cons.mp hy with rfl | hy
    · exact this.2.1
    · exact this.2.2 y hy
theorem ask_spec {s : Int} {ws : List (List Sp2)} (hb : BkOk s ws) (p : Sp2) : mxI (rowsOf ws p.1 p.2) = some (askM ws p) ∧ (∀ w ∈ ws, AW.within w p.1 p.2 ≤ askM ws p) ∧ ∃ w ∈ ws, AW.within w p.1 p.2 = askM ws p := by
  have hl1 := hb.l1
  obtain ⟨M, hM, hm⟩ := mx_some (ns := rowsOf ws p.1 p.2) (fun z => by have := congrArg List.length z; simp [rowsOf] at this; rw [this] at hl1; simp at hl1)
  have e : askM ws p = M := by unfold askM; rw [hM]; rfl
  rw [e]
  refine ⟨hM, fun w hw => mx_ge hM _ (List.mem_map.mpr ⟨w, hw, rfl⟩), ?_⟩
  obtain ⟨w, hw, h⟩ := List.mem_map.mp hm
  exact ⟨w, hw, h⟩
def askT (s : Int) (ws : List (List Sp2)) : List ((Int × Int) × Int) := (wins s).map fun p => (p, askM ws p)
theorem asks_ok {s : Int} {ws : List (List Sp2)} (hb : BkOk s ws) : f_asks_of false [encB false s ws] = .ok (.dt (askT s ws), .non) := by
  have hw := windows_ok (μ := false) hb.s1 hb.s2
  have hl2 := hb.l2
  have i0 : pIx (encB false s ws) (.int 0) = some (D.int s) := by simp [encB]
  have i1 : pIx (encB false s ws) (.int 1) = some (D.tup false (ws.map (encW false))) := by simp [encB]
  have hd := dict_nm (it := itS (eCall 1 (f_windows_of false) (aCons (e2 pIx (eVar 0) (eC (.int 0))) aNil))) (fk := eVar 1) (fv := eN pMax (aCons (fComp (itS (e2 pIx (eVar 0) (eC (.int 1)))) (.nm 2) [2] tT (eCall 3 (f_within false) (aCons (eVar 2) (aCons (e2 pIx (eVar 1) (eC (.int 0))) (aCons (e2 pIx (eVar 1) (eC (.int 1))) aNil))))) aNil)) (i := 1)
    (env := [.val (encB false s ws), .no, .no]) (env1 := [.val (encB false s ws), .no, .no]) (wins s) (wins_nodup s) (askM ws) rfl (by simp [i0, hw]) (by have := wins_len hb.s2; unfold big; omega) rfl (fun p hp => ⟨by simp, by
      have hc := comp_nmT (it := itS (e2 pIx (eVar 0) (eC (.int 1)))) (elt := eCall 3 (f_within false) (aCons (eVar 2) (aCons (e2 pIx (eVar 1) (eC (.int 0))) (aCons (e2 pIx (eVar 1) (eC (.int 1))) aNil)))) (i := 2) (env := [.val (encB false s ws), .val (encP false p), .no]) (env1 := [.val (encB false s ws), .val (encP false p), .no])
        ws (encW false) (fun w => D.int (AW.within w p.1 p.2)) (s := .no) (by simp [i1]) (by unfold big; omega) rfl rfl (fun w hw => by
          have g := within_ok (μ := false) (tb := false) (w := w) (l := p.1) (h := p.2) (by have := (hb.w w hw).1; omega)
          have g : f_within false [encW false w, .int p.1, .int p.2] = _ := g
          have j0 : pIx (encP false p) (.int 0) = some (D.int p.1) := by simp [encP]
          have j1 : pIx (encP false p) (.int 1) = some (D.int p.2) := by simp [encP]
          simp [g, j0, j1])
      have er : ws.map (fun w => D.int (AW.within w p.1 p.2)) = (rowsOf ws p.1 p.2).map D.int := by unfold rowsOf; rw [List.map_map]; rfl
      rw [er] at hc
      have pm : pMax [.lst ((rowsOf ws p.1 p.2).map D.int)] = some (.int (askM ws p)) := by simp [pMax, (ask_spec hb p).1]
      simp [hc, pm]⟩)
  simp [f_asks_of, v_run, b_asks_of, startE, hd, askT]
/-- how many coats a window lacks -/
def lackK (ws : List (List Sp2)) (cs : List Int) (l h : Int) : Int := askM ws (l, h) - AW.has cs l h
end DL

/-! ## QG -/
/-! QG: heights, the fewest to buy. -/
namespace DL
open PySem PySem.Spec PyProof.Rows L2
def encO : Option Sp2 → D
  | none => .non
  | some p => encP false p
abbrev EH (a b c : D) (F : List Int) (L : List (Option Sp2)) (t5 t6 t7 t8 t9 : Sl) : En := [.val a, .val b, .val c, .own (.lst (F.map D.int)), .own (.lst (L.map encO)), t5, t6, t7, t8, t9]
def hgI : DenS := (sSeq (sSet 9 (e2 pSub (eGetI (eVar 2) (eTup false (aCons (eVar 6) (aCons (eVar 5) aNil)))) (eCall 3 (f_has false) (aCons (eVar 1) (aCons (eVar 6) (aCons (eVar 5) aNil)))))) (sIf (tst (e2 pGt (e2 pAdd (eIxO 3 (e2 pSub (eVar 6) (eC (.int 1)))) (eVar 9)) (eVar 7))) (sPar2 7 8 (aCons (e2 pAdd (eIxO 3 (e2 pSub (eVar 6) (eC (.int 1)))) (eVar 9)) (aCons (eTup false (aCons (eVar 6) (aCons (eVar 5) aNil))) aNil))) sNx))
theorem ixG_of {n : Nat} {t : Int} (h1 : 1 ≤ t) (h2 : t ≤ n) : ixN n (t - 1) = some (t - 1).toNat := by
  unfold ixN
  rw [if_pos (by omega), if_pos (by omega)]
theorem at_F {F : List Int} {z : Int} (h1 : 1 ≤ z) (h2 : z ≤ F.length) : atI (F.map D.int) (z - 1) = some (.int (F.getD (z - 1).toNat 0)) := by
  have hz : (z - 1).toNat < F.length := by omega
  have e : ixN (F.map D.int).length (z - 1) = some (z - 1).toNat := by
    rw [List.length_map]; exact ixG_of h1 h2
  unfold atI
  rw [e]
  show (F.map D.int)[(z - 1).toNat]? = _
  rw [List.getElem?_map, List.getElem?_eq_getElem hz, List.getD_eq_getElem?_getD, List.getElem?_eq_getElem hz]
  rfl
theorem hgI_ok {s : Int} {ws : List (List Sp2)} {cs F : List Int} {L : List (Option Sp2)} {a : D} {h l b : Int} {mo : Option Sp2} {t9 : Sl} (hc : (cs.length : Int) = s) (hF : (F.length : Int) = h) (h1 : 1 ≤ l) (h2 : l ≤ h) (h3 : h ≤ s) (f9 : t9.free = true) :
    ∃ u9 : Sl, u9.free = true ∧ hgI (EH a (encL cs) (.dt (askT s ws)) F L (.val (.int h)) (.val (.int l)) (.val (.int b)) (.val (encO mo)) t9) =
      .ok (.nx, EH a (encL cs) (.dt (askT s ws)) F L (.val (.int h)) (.val (.int l)) (.val (.int (AW.lowS (lackK ws cs) F h (b, mo) l).1)) (.val (encO (AW.lowS (lackK ws cs) F h (b, mo) l).2)) u9) := by
  have g1 := has_ok (μ := false) (cs := cs) h1 h2 (by omega)
  have g2 : gtT (askT s ws) (l, h) = some (askM ws (l, h)) := gtT_map (askM ws) (mem_wins.mpr ⟨h1, h2, h3⟩)
  have g3 := at_F (F := F) (z := l) h1 (by omega)
  refine ⟨.val (.int (lackK ws cs l h)), rfl, ?_⟩
  have s1 : (sSet 9 (e2 pSub (eGetI (eVar 2) (eTup false (aCons (eVar 6) (aCons (eVar 5) aNil)))) (eCall 3 (f_has false) (aCons (eVar 1) (aCons (eVar 6) (aCons (eVar 5) aNil)))))) (EH a (encL cs) (.dt (askT s ws)) F L (.val (.int h)) (.val (.int l)) (.val (.int b)) (.val (encO mo)) t9) = .ok (.nx, EH a (encL cs) (.dt (askT s ws)) F L (.val (.int h)) (.val (.int l)) (.val (.int b)) (.val (encO mo)) (.val (.int (lackK ws cs l h)))) := by
    simp [g1, g2, f9, lackK]
  unfold hgI
  rw [v_seq, s1]
  simp only [R.bind_ok]
  generalize F.getD (l - 1).toNat 0 = fl at g3
  by_cases q : b < F.getD (l - 1).toNat 0 + lackK ws cs l h
  · have e : AW.lowS (lackK ws cs) F h (b, mo) l = (F.getD (l - 1).toNat 0 + lackK ws cs l h, some (l, h)) := by unfold AW.lowS; rw [if_pos q]
    rw [e]
    have g3 := at_F (F := F) (z := l) h1 (by omega)
    generalize F.getD (l - 1).toNat 0 = fl at g3 q
    simp [g3, q, encO, encP, -v_atI]
  · have e : AW.lowS (lackK ws cs) F h (b, mo) l = (b, mo) := by unfold AW.lowS; rw [if_neg q]
    rw [e]
    have g3 := at_F (F := F) (z := l) h1 (by omega)
    generalize F.getD (l - 1).toNat 0 = fl at g3 q
    simp [g3, q, -v_atI]
theorem hgL_ok {s : Int} {ws : List (List Sp2)} {cs F : List Int} {L : List (Option Sp2)} {a : D} {h : Int} (hc : (cs.length : Int) = s) (hF : (F.length : Int) = h) (h3 : h ≤ s) : ∀ (ls : List Int) (b : Int × Option Sp2) (t6 t9 : Sl), t6.free = true → t9.free = true → (∀ l ∈ ls, 1 ≤ l ∧ l ≤ h) →
    ∃ u6 u9 : Sl, u6.free = true ∧ u9.free = true ∧ sLoop (.nm 6) hgI (ls.map D.int) (EH a (encL cs) (.dt (askT s ws)) F L (.val (.int h)) t6 (.val (.int b.1)) (.val (encO b.2)) t9) =
      .ok (.nx, EH a (encL cs) (.dt (askT s ws)) F L (.val (.int h)) u6 (.val (.int (ls.foldl (AW.lowS (lackK ws cs) F h) b).1)) (.val (encO (ls.foldl (AW.lowS (lackK ws cs) F h) b).2)) u9)
  | [], b, t6, t9, f6, f9, _ => ⟨t6, t9, f6, f9, rfl⟩
  | l :: ls, b, t6, t9, f6, f9, hl => by
    obtain ⟨h1, h2⟩ := hl l List.mem_cons_self
    obtain ⟨u9, f9', hB⟩ := hgI_ok (ws := ws) (L := L) (a := a) (b := b.1) (mo := b.2) hc hF h1 h2 h3 f9
    obtain ⟨v6, v9, g6, g9, hh⟩ := hgL_ok (ws := ws) (L := L) (a := a) hc hF h3 ls (AW.lowS (lackK ws cs) F h b l) (.val (.int l)) u9 rfl f9' (fun k hk => hl k (List.mem_cons_of_mem _ hk))
    refine ⟨v6, v9, g6, g9, ?_⟩
    have ha : Pt.asg (.nm 6) (.int l) (EH a (encL cs) (.dt (askT s ws)) F L (.val (.int h)) t6 (.val (.int b.1)) (.val (encO b.2)) t9) = some (EH a (encL cs) (.dt (askT s ws)) F L (.val (.int h)) (.val (.int l)) (.val (.int b.1)) (.val (encO b.2)) t9) := by simp [f6]
    simp only [List.map_cons, sLoop, ha, R.of_some, R.bind_ok, hB, List.foldl_cons]
    exact hh
def hgO : DenS := (sSeq (sPar2 7 8 (aCons (eIxO 3 (e1 pNeg (eC (.int 1)))) (aCons (eC .non) aNil))) (sSeq (sFor (itR2 (aCons (eC (.int 1)) (aCons (e2 pAdd (eVar 5) (eC (.int 1))) aNil))) (.nm 6) hgI) (sSeq (sApp 3 (eVar 7)) (sApp 4 (eVar 8)))))
theorem at_last {F : List Int} (h : 1 ≤ F.length) : atI (F.map D.int) (-1) = some (.int (F.getLastD 0)) := by
  have e : ixN (F.map D.int).length (-1) = some (F.length - 1) := by
    rw [List.length_map]
    unfold ixN
    rw [if_neg (by omega), if_pos (by omega)]
    congr 1
    omega
  unfold atI
  rw [e]
  show (F.map D.int)[F.length - 1]? = _
  rw [List.getElem?_map, List.getElem?_eq_getElem (by omega)]
  rw [List.getLastD_eq_getLast?, List.getLast?_eq_getElem?, List.getElem?_eq_getElem (by omega)]
  rfl
theorem hx1 {a b c : D} {F : List Int} {L : List (Option Sp2)} {t5 t6 t7 t8 t9 : Sl} {la : Int} (g1 : atI (F.map D.int) (-1) = some (.int la)) (f7 : t7.free = true) (f8 : t8.free = true) :
    (sPar2 7 8 (aCons (eIxO 3 (e1 pNeg (eC (.int 1)))) (aCons (eC .non) aNil))) (EH a b c F L t5 t6 t7 t8 t9) = .ok (.nx, EH a b c F L t5 t6 (.val (.int la)) (.val .non) t9) := by
  simp [g1, f7, f8, -v_atI]
theorem hx2 {a b c : D} {F : List Int} {L : List (Option Sp2)} {t6 t7 t8 t9 : Sl} {n : Int} (s1 : small 1 = true) (s2 : small (n + 1) = true) :
    itR2 (aCons (eC (.int 1)) (aCons (e2 pAdd (eVar 5) (eC (.int 1))) aNil)) (EH a b c F L (.val (.int n)) t6 t7 t8 t9) = .ok (rgI 1 (n + 1 - 1).toNat, EH a b c F L (.val (.int n)) t6 t7 t8 t9) := by
  simp [s1, s2]
theorem hx3 {a b c : D} {F : List Int} {L : List (Option Sp2)} {t5 t6 t9 : Sl} {bv : Int} {bm : Option Sp2} (b1 : F.length < big) (b2 : L.length < big) :
    (sSeq (sApp 3 (eVar 7)) (sApp 4 (eVar 8))) (EH a b c F L t5 t6 (.val (.int bv)) (.val (encO bm)) t9) = .ok (.nx, EH a b c (F ++ [bv]) (L ++ [bm]) t5 t6 (.val (.int bv)) (.val (encO bm)) t9) := by
  simp [b1, b2]
theorem hgO_core {a b c : D} {F : List Int} {L : List (Option Sp2)} {t6 t7 t8 t9 u6 u9 : Sl} {la bv n : Int} {bm : Option Sp2} (g1 : atI (F.map D.int) (-1) = some (.int la)) (f7 : t7.free = true) (f8 : t8.free = true) (s1 : small 1 = true) (s2 : small (n + 1) = true) (b1 : F.length < big) (b2 : L.length < big)
    (hL : sLoop (.nm 6) hgI ((AW.rng 1 (n + 1)).map D.int) (EH a b c F L (.val (.int n)) t6 (.val (.int la)) (.val .non) t9) = .ok (.nx, EH a b c F L (.val (.int n)) u6 (.val (.int bv)) (.val (encO bm)) u9)) :
    hgO (EH a b c F L (.val (.int n)) t6 t7 t8 t9) = .ok (.nx, EH a b c (F ++ [bv]) (L ++ [bm]) (.val (.int n)) u6 (.val (.int bv)) (.val (encO bm)) u9) := by
  have x1 := hx1 (a := a) (b := b) (c := c) (L := L) (t5 := .val (.int n)) (t6 := t6) (t9 := t9) g1 f7 f8
  have x2 := hx2 (a := a) (b := b) (c := c) (F := F) (L := L) (t6 := t6) (t7 := .val (.int la)) (t8 := .val .non) (t9 := t9) (n := n) s1 s2
  have x3 := hx3 (a := a) (b := b) (c := c) (F := F) (L := L) (t5 := .val (.int n)) (t6 := u6) (t9 := u9) (bv := bv) (bm := bm) b1 b2
  rw [rgI_rng] at x2
  unfold hgO
  rw [v_seq, x1]
  simp only [R.bind_ok]
  rw [v_seq, v_for, x2]
  simp only [R.bind_ok]
  rw [hL]
  exact x3
theorem hgO_ok {s : Int} {ws : List (List Sp2)} {cs : List Int} {a : D} {n : Nat} {t6 t7 t8 t9 : Sl} (hc : (cs.length : Int) = s) (hs : s ≤ 16) (h3 : (n : Int) + 1 ≤ s) (f6 : t6.free = true) (f7 : t7.free = true) (f8 : t8.free = true) (f9 : t9.free = true) :
    ∃ u6 u7 u8 u9 : Sl, u6.free = true ∧ u7.free = true ∧ u8.free = true ∧ u9.free = true ∧ hgO (EH a (encL cs) (.dt (askT s ws)) (AW.hts (lackK ws cs) n).1 (AW.hts (lackK ws cs) n).2 (.val (.int ((n : Int) + 1))) t6 t7 t8 t9) =
      .ok (.nx, EH a (encL cs) (.dt (askT s ws)) (AW.hts (lackK ws cs) (n + 1)).1 (AW.hts (lackK ws cs) (n + 1)).2 (.val (.int ((n : Int) + 1))) u6 u7 u8 u9) := by
  obtain ⟨l1, l2⟩ := AW.hts_len (lackK ws cs) n
  have e5 : AW.hts (lackK ws cs) (n + 1) = AW.stepH (lackK ws cs) (AW.hts (lackK ws cs) n) ((n : Int) + 1) := rfl
  rw [e5]
  generalize AW.hts (lackK ws cs) n = S at l1 l2
  obtain ⟨F, L⟩ := S
  simp only at l1 l2
  have g1 := at_last (F := F) (by omega)
  obtain ⟨u6, u9, g6, g9, hL⟩ := hgL_ok (ws := ws) (cs := cs) (F := F) (L := L) (a := a) (h := (n : Int) + 1) (s := s) hc (by omega) h3 (AW.rng 1 ((n : Int) + 1 + 1)) (F.getLastD 0, none) t6 t9 f6 f9 (fun l hl => by have := AW.mem_rng.mp hl; omega)
  have eb : (AW.rng 1 ((n : Int) + 1 + 1)).foldl (AW.lowS (lackK ws cs) F ((n : Int) + 1)) (F.getLastD 0, none) = AW.bestOf (lackK ws cs) F ((n : Int) + 1) := rfl
  rw [eb] at hL
  simp only [AW.stepH]
  generalize AW.bestOf (lackK ws cs) F ((n : Int) + 1) = B at hL
  obtain ⟨bv, bm⟩ := B
  refine ⟨u6, .val (.int bv), .val (encO bm), u9, g6, rfl, rfl, g9, ?_⟩
  have s1 := small_of (i := 1) (by omega)
  have s2 := small_of (i := (n : Int) + 1 + 1) (by omega)
  generalize F.getLastD 0 = la at g1 hL
  have hL : sLoop (.nm 6) hgI ((AW.rng 1 ((n : Int) + 1 + 1)).map D.int) (EH a (encL cs) (.dt (askT s ws)) F L (.val (.int ((n : Int) + 1))) t6 (.val (.int la)) (.val .non) t9) = .ok (.nx, EH a (encL cs) (.dt (askT s ws)) F L (.val (.int ((n : Int) + 1))) u6 (.val (.int bv)) (.val (encO bm)) u9) := hL
  exact hgO_core g1 f7 f8 s1 s2 (by unfold big; omega) (by unfold big; omega) hL
theorem hgR_ok {s : Int} {ws : List (List Sp2)} {cs : List Int} {a : D} (hc : (cs.length : Int) = s) (hs : s ≤ 16) : ∀ (m n : Nat) (t5 t6 t7 t8 t9 : Sl), (n : Int) + m = s → t5.free = true → t6.free = true → t7.free = true → t8.free = true → t9.free = true →
    ∃ u5 u6 u7 u8 u9 : Sl, sLoop (.nm 5) hgO ((AW.rng ((n : Int) + 1) (s + 1)).map D.int) (EH a (encL cs) (.dt (askT s ws)) (AW.hts (lackK ws cs) n).1 (AW.hts (lackK ws cs) n).2 t5 t6 t7 t8 t9) =
      .ok (.nx, EH a (encL cs) (.dt (askT s ws)) (AW.hts (lackK ws cs) s.toNat).1 (AW.hts (lackK ws cs) s.toNat).2 u5 u6 u7 u8 u9)
  | 0, n, t5, t6, t7, t8, t9, hm, _, _, _, _, _ => by
    have : s.toNat = n := by omega
    rw [this, AW.rng_nil (by omega)]
    exact ⟨t5, t6, t7, t8, t9, rfl⟩
  | m + 1, n, t5, t6, t7, t8, t9, hm, f5, f6, f7, f8, f9 => by
    obtain ⟨u6, u7, u8, u9, g6, g7, g8, g9, hO⟩ := hgO_ok (ws := ws) (a := a) (n := n) hc hs (by omega) f6 f7 f8 f9
    obtain ⟨v5, v6, v7, v8, v9, h⟩ := hgR_ok (ws := ws) (a := a) hc hs m (n + 1) (.val (.int ((n : Int) + 1))) u6 u7 u8 u9 (by omega) rfl g6 g7 g8 g9
    refine ⟨v5, v6, v7, v8, v9, ?_⟩
    rw [AW.rng_cons (by omega)]
    have ha : Pt.asg (.nm 5) (.int ((n : Int) + 1)) (EH a (encL cs) (.dt (askT s ws)) (AW.hts (lackK ws cs) n).1 (AW.hts (lackK ws cs) n).2 t5 t6 t7 t8 t9) = some (EH a (encL cs) (.dt (askT s ws)) (AW.hts (lackK ws cs) n).1 (AW.hts (lackK ws cs) n).2 (.val (.int ((n : Int) + 1))) t6 t7 t8 t9) := by simp [f5]
    simp only [List.map_cons, sLoop, ha, R.of_some, R.bind_ok, hO]
    exact h
/-- the heights, what made them -/
def htsD (s : Int) (ws : List (List Sp2)) (cs : List Int) : D := .tup false [.lst ((AW.hts (lackK ws cs) s.toNat).1.map D.int), .lst ((AW.hts (lackK ws cs) s.toNat).2.map encO)]
theorem heights_ok {s : Int} {ws : List (List Sp2)} {cs : List Int} (hb : BkOk s ws) (hc : CsOk s cs) : f_heights false [encB false s ws, encL cs] = .ok (htsD s ws cs, .non) := by
  have hs1 := hb.s1
  have hs2 := hb.s2
  have g1 := asks_ok hb
  have i0 : pIx (encB false s ws) (.int 0) = some (D.int s) := by simp [encB]
  obtain ⟨u5, u6, u7, u8, u9, h⟩ := hgR_ok (ws := ws) (cs := cs) (a := encB false s ws) hc.len hs2 s.toNat 0 .no .no .no .no .no (by omega) rfl rfl rfl rfl rfl
  have eb : b_heights false = (sSeq (sSet 2 (eCall 1 (f_asks_of false) (aCons (eVar 0) aNil))) (sSeq (sOwn 3 (fLst (aCons (eC (.int 0)) aNil))) (sSeq (sOwn 4 (fLst (aCons (eC .non) aNil))) (sSeq (sSeq (sSeq (sFor (itR2 (aCons (eC (.int 1)) (aCons (e2 pAdd (e2 pIx (eVar 0) (eC (.int 0))) (eC (.int 1))) aNil))) (.nm 5) hgO) (sFz 3)) (sFz 4)) (sRet (eTup false (aCons (eVar 3) (aCons (eVar 4) aNil)))))))) := rfl
  have s1 := small_of (i := 1) (by omega)
  have s2 := small_of (i := s + 1) (by omega)
  have er : rgI 1 s.toNat = (AW.rng 1 (s + 1)).map D.int := by
    rw [← rgI_rng]
    congr 1
    omega
  have h : sLoop (.nm 5) hgO ((AW.rng 1 (s + 1)).map D.int) [.val (encB false s ws), .val (encL cs), .val (.dt (askT s ws)), .own (.lst [.int 0]), .own (.lst [.non]), .no, .no, .no, .no, .no] = .ok (.nx, EH (encB false s ws) (encL cs) (.dt (askT s ws)) (AW.hts (lackK ws cs) s.toNat).1 (AW.hts (lackK ws cs) s.toNat).2 u5 u6 u7 u8 u9) := h
  simp [f_heights, v_run, eb, startE, g1, i0, s1, s2, er, h, htsD]
end DL

/-! ## QH -/
/-! QH: the fewest to buy. -/
namespace DL
open PySem PySem.Spec PyProof.Rows L2
theorem roomOf_ok {μ : Bool} {cs : List Int} (hl : cs.length ≤ 16) : f_room_of μ [encL cs] = .ok (encR μ (roomOf cs), .non) := lroom_of hl
theorem within_step {w : List Sp2} {l h : Int} : AW.within w l (h + 1) ≤ AW.within w l h + w.length := by
  have a := AW.within_le_length w l (h + 1)
  have b := AW.within_nonneg w l h
  omega
theorem askM_le {s : Int} {ws : List (List Sp2)} (hb : BkOk s ws) (p : Sp2) : 0 ≤ askM ws p ∧ askM ws p ≤ 8 := by
  obtain ⟨_, _, w, hw, e⟩ := ask_spec hb p
  rw [← e]
  have a := AW.within_le_length w p.1 p.2
  have b := AW.within_nonneg w p.1 p.2
  have c := (hb.w w hw).1
  omega
theorem cf_nonneg {s : Int} {cs : List Int} (hc : CsOk s cs) : AW.NN cs := AW.NN.mem fun x hx => (hc.c x hx).1
theorem lack_step {s : Int} {ws : List (List Sp2)} {cs : List Int} (hb : BkOk s ws) (hc : CsOk s cs) (n : Nat) : AW.ht (lackK ws cs) (n + 1) ≤ AW.ht (lackK ws cs) n + 8 := by
  have hn := cf_nonneg hc
  refine AW.ht_step (lackK ws cs) n (by omega) ?_ fun l h1 h2 => ?_
  · have a := (askM_le hb ((n : Int) + 1, (n : Int) + 1)).2
    have b := AW.has_nonneg hn ((n : Int) + 1) ((n : Int) + 1)
    unfold lackK
    omega
  · have a := (askM_le hb (l, (n : Int) + 1)).2
    have a' := (askM_le hb (l, (n : Int))).1
    have b : AW.has cs l (n : Int) ≤ AW.has cs l ((n : Int) + 1) := by
      unfold AW.has
      rw [AW.hasF_split (k := (n : Int) + 1) (h := (n : Int) + 1) (by omega) (by omega)]
      have c := AW.hasF_nonneg (f := AW.cf cs) (l := (n : Int) + 1) (h := (n : Int) + 1) fun s _ _ => hn s
      rw [show (n : Int) + 1 - 1 = (n : Int) by omega]
      omega
    unfold lackK
    omega
/-- the coats to buy -/
def moreC (s : Int) (ws : List (List Sp2)) (cs : List Int) : List Int := AW.more (lackK ws cs) s.toNat
theorem moreC_ok {s : Int} {ws : List (List Sp2)} {cs : List Int} (hb : BkOk s ws) (hc : CsOk s cs) : CsOk s (moreC s ws cs) ∧ ∀ x ∈ moreC s ws cs, x ≤ 8 := by
  have h1 := hb.s1
  have key : ∀ x ∈ moreC s ws cs, 0 ≤ x ∧ x ≤ 8 := fun x hx => by
    obtain ⟨i, hi, rfl⟩ := List.mem_map.mp hx
    have a := AW.ht_mono (lackK ws cs) i
    have b := lack_step hb hc i
    omega
  refine ⟨⟨?_, fun x hx => ?_⟩, fun x hx => (key x hx).2⟩
  · unfold moreC; rw [AW.more_len]; omega
  · have := key x hx; omega
theorem cut_one1 {α : Type} (l : List α) (f : α → D) (h : 1 ≤ l.length) : cutD (l.map f) (some 1) none = (l.drop 1).map f := by
  unfold cutD
  rw [List.length_map]
  have a : HT.sIx l.length 0 (some 1) = 1 := by unfold HT.sIx; simp; omega
  have b : HT.sIx l.length l.length none = l.length := rfl
  rw [a, b, ← List.map_drop, ← List.map_take]
  rw [List.take_of_length_le (by rw [List.length_drop]; exact Nat.le_refl _)]
theorem zip_more (K : Int → Int → Int) (n : Nat) : (((List.range (n + 1)).map (AW.ht K)).zip (((List.range (n + 1)).map (AW.ht K)).drop 1)).map (fun p => p.2 - p.1) = AW.more K n := by
  refine List.ext_getElem (by simp [AW.more]) fun i h1 h2 => ?_
  have hi : i < n := by simpa [AW.more] using h2
  simp [AW.more, Nat.add_comm]
theorem fewest_ok {s : Int} {ws : List (List Sp2)} {cs : List Int} (hb : BkOk s ws) (hc : CsOk s cs) : f_fewest_more false [encB false s ws, encL cs] = .ok (encL (moreC s ws cs), .non) := by
  have h2 := hb.s2
  have g1 := heights_ok hb hc
  obtain ⟨e1, _⟩ := AW.hts_eq (lackK ws cs) s.toNat
  have i0 : pIx (htsD s ws cs) (.int 0) = some (.lst ((AW.hts (lackK ws cs) s.toNat).1.map D.int)) := by simp [htsD]
  rw [e1] at i0
  have ez := zip_more (lackK ws cs) s.toNat
  have hH : ((List.range (s.toNat + 1)).map (AW.ht (lackK ws cs))).length ≤ 17 := by simp; omega
  have hH1 : 1 ≤ ((List.range (s.toNat + 1)).map (AW.ht (lackK ws cs))).length := by simp
  generalize (List.range (s.toNat + 1)).map (AW.ht (lackK ws cs)) = Hs at i0 ez hH hH1
  have ecut := cut_one1 Hs D.int hH1
  have hc2 := comp_tu (it := itZip (aCons (eVar 2) (aCons (eSl (eVar 2) (oS (eC (.int 1))) oN) aNil))) (cond := tT) (elt := e2 pSub (eVar 4) (eVar 3)) (i := 3) (j := 4) (env := [.val (encB false s ws), .val (encL cs), .val (.lst (Hs.map D.int)), .no, .no]) (env1 := [.val (encB false s ws), .val (encL cs), .val (.lst (Hs.map D.int)), .no, .no])
    (Hs.zip (Hs.drop 1)) (fun p => D.int p.1) (fun p => D.int p.2) (fun _ => false) (fun _ => true) (fun p => D.int (p.2 - p.1)) (s := .no) (t := .no) (by
      have : zipD (Hs.map D.int) ((Hs.drop 1).map D.int) = (Hs.zip (Hs.drop 1)).map fun p => D.tup false [D.int p.1, D.int p.2] := by
        unfold zipD
        rw [List.zip_map, List.map_map]; rfl
      simp only [v_itZip, v_cons, v_var, v_nil, v_sl, v_oS, v_c, v_oN, List.getElem?_cons_succ, List.getElem?_cons_zero, R.bind_ok, sqD_lst, Option.bind_some, R.of_some, ecut, this])
    (by unfold big; rw [List.length_zip]; omega) (by omega) rfl rfl rfl rfl (fun p hp => ⟨by simp, fun _ => by simp⟩)
  rw [List.filter_eq_self.mpr (fun _ _ => rfl)] at hc2
  have ee : (Hs.zip (Hs.drop 1)).map (fun p => D.int (p.2 - p.1)) = (moreC s ws cs).map D.int := by
    unfold moreC
    rw [← ez, List.map_map]; rfl
  rw [ee] at hc2
  simp [f_fewest_more, v_run, b_fewest_more, startE, g1, i0, hc2]
theorem toBuy_ok {s : Int} {ws : List (List Sp2)} {cs : List Int} (hb : BkOk s ws) (hc : CsOk s cs) : f_to_buy false [encB false s ws, encR false (roomOf cs)] = .ok (encR false (roomOf (moreC s ws cs)), .non) := by
  have h1 := needR_ok (μ := false) hb hc
  have h2 := coats_ok (μ := false) (ws := ws) hb.s2 hb.s1 hc
  have h3 := fewest_ok hb hc
  have h4 := roomOf_ok (μ := false) (cs := moreC s ws cs) (by have := (moreC_ok hb hc).1.len; have := hb.s2; omega)
  simp [f_to_buy, v_run, b_to_buy, startE, h1, h2, h3, h4]
end DL

/-! ## QI -/
/-! QI: the windows apart that the heights lead back to. -/
namespace DL
open PySem PySem.Spec PyProof.Rows L2
/-- the first winter that asks the most -/
def askI (ws : List (List Sp2)) (p : Sp2) : Nat := (idxI (askM ws p) (rowsOf ws p.1 p.2)).getD 0
theorem askI_spec {s : Int} {ws : List (List Sp2)} (hb : BkOk s ws) (p : Sp2) : idxI (askM ws p) (rowsOf ws p.1 p.2) = some (askI ws p) ∧ askI ws p < ws.length ∧ AW.within (wAt ws (askI ws p)) p.1 p.2 = askM ws p := by
  obtain ⟨_, _, w, hw, e⟩ := ask_spec hb p
  obtain ⟨j, h1, h2⟩ := idx_of_mem (k := askM ws p) (ns := rowsOf ws p.1 p.2) (List.mem_map.mpr ⟨w, hw, e⟩)
  have ej : askI ws p = j := by unfold askI; rw [h1]; rfl
  rw [ej]
  have h2' : j < ws.length := by simpa [rowsOf] using h2
  refine ⟨h1, h2', ?_⟩
  have := (idxI_some h1).1
  unfold rowsOf at this
  rw [List.getElem?_map, List.getElem?_eq_getElem h2'] at this
  rw [wAt_of h2']
  exact Option.some.inj this
theorem firstAsker_ok {μ : Bool} {s : Int} {ws : List (List Sp2)} (hb : BkOk s ws) (p : Sp2) : f_first_asker μ [encB μ s ws, .int p.1, .int p.2] = .ok (.tup μ [.int (askM ws p), .int (askI ws p : Nat)], .non) := by
  have hl2 := hb.l2
  have i1 : pIx (encB μ s ws) (.int 1) = some (D.tup μ (ws.map (encW μ))) := by simp [encB]
  have hc := comp_nmT (it := itS (e2 pIx (eVar 0) (eC (.int 1)))) (elt := eCall 3 (f_within μ) (aCons (eVar 4) (aCons (eVar 1) (aCons (eVar 2) aNil)))) (i := 4) (env := [.val (encB μ s ws), .val (.int p.1), .val (.int p.2), .no, .no]) (env1 := [.val (encB μ s ws), .val (.int p.1), .val (.int p.2), .no, .no])
    ws (encW μ) (fun w => D.int (AW.within w p.1 p.2)) (s := .no) (by simp [i1]) (by unfold big; omega) rfl rfl (fun w hw => by
      have g := within_ok (μ := μ) (tb := μ) (w := w) (l := p.1) (h := p.2) (by have := (hb.w w hw).1; omega)
      have g : f_within μ [encW μ w, .int p.1, .int p.2] = _ := g
      simp [g])
  have er : ws.map (fun w => D.int (AW.within w p.1 p.2)) = (rowsOf ws p.1 p.2).map D.int := by unfold rowsOf; rw [List.map_map]; rfl
  rw [er] at hc
  have pm : pMax [.lst ((rowsOf ws p.1 p.2).map D.int)] = some (.int (askM ws p)) := by simp [pMax, (ask_spec hb p).1]
  have pi := (askI_spec hb p).1
  simp [f_first_asker, v_run, b_first_asker, startE, hc, pm, pi]
def encR3 (ws : List (List Sp2)) (p : Sp2) : D := .tup false [.int p.1, .int p.2, .int (askI ws p : Nat)]
/-- back from a height -/
def trace (M : Nat → Option Sp2) : Nat → Nat → List Sp2
  | 0, _ => []
  | f + 1, h => if h = 0 then [] else match M h with
    | none => trace M f (h - 1)
    | some p => p :: trace M f (p.1 - 1).toNat
abbrev EA (a b : D) (L : List (Option Sp2)) (ws : List (List Sp2)) (fd : List Sp2) (here : Int) (t5 t6 : Sl) : En := [.val a, .val b, .val (.lst (L.map encO)), .own (.lst (fd.map (encR3 ws))), .val (.int here), t5, t6]
def apB : DenS := (sIf (tst (e2 pIsN (e2 pIx (eVar 2) (eVar 4)) (eC .non))) (sAug 4 (· - ·) (eC (.int 1))) (sSeq (sTgt (.tu [(.nm 5), (.nm 6)]) (e2 pIx (eVar 2) (eVar 4))) (sSeq (sApp 3 (eTup false (aCons (eVar 5) (aCons (eVar 6) (aCons (e2 pIx (eCall 3 (f_first_asker false) (aCons (eVar 0) (aCons (eVar 5) (aCons (eVar 6) aNil)))) (eC (.int 1))) aNil))))) (sSet 4 (e2 pSub (eVar 5) (eC (.int 1)))))))
theorem apB_none {a b : D} {L : List (Option Sp2)} {ws : List (List Sp2)} {fd : List Sp2} {h : Int} {t5 t6 : Sl} (g : atI (L.map encO) h = some .non) : apB (EA a b L ws fd h t5 t6) = .ok (.nx, EA a b L ws fd (h - 1) t5 t6) := by
  simp [apB, g, -v_atI]
theorem apB_some {s : Int} {b : D} {L : List (Option Sp2)} {ws : List (List Sp2)} {fd : List Sp2} {h : Int} {t5 t6 : Sl} {p : Sp2} (hb : BkOk s ws) (g : atI (L.map encO) h = some (encP false p)) (f5 : t5.free = true) (f6 : t6.free = true) (hf : fd.length < big) :
    apB (EA (encB false s ws) b L ws fd h t5 t6) = .ok (.nx, EA (encB false s ws) b L ws (fd ++ [p]) (p.1 - 1) (.val (.int p.1)) (.val (.int p.2))) := by
  have g1 := firstAsker_ok (μ := false) hb p
  have g2 : atI [D.int (askM ws p), D.int (askI ws p : Nat)] 1 = some (.int (askI ws p : Nat)) := by simp
  have g3 : pIsN (encP false p) .non = some (.bl false) := rfl
  have g4 : Pt.asg (.tu [.nm 5, .nm 6]) (encP false p) (EA (encB false s ws) b L ws fd h t5 t6) = some (EA (encB false s ws) b L ws fd h (.val (.int p.1)) (.val (.int p.2))) := by simp [encP, f5, f6]
  simp [apB, g, g1, g2, g3, g4, hf, encR3, -v_atI]
def apT : DenT := tst (e2 pGt (eVar 4) (eC (.int 0)))
theorem while_succ {t : DenT} {b : DenS} {n : Nat} {env : En} : sWhile t b (n + 1) env = (t env).bind fun x => if x.1 then (b x.2).bind fun o => (match o.1 with
    | .nx => sWhile t b n o.2
    | .cnt => sWhile t b n o.2
    | .brk => .ok (.nx, o.2)
    | .ret d => .ok (.ret d, o.2)) else .ok (.nx, x.2) := rfl
theorem apT_ok {a b : D} {L : List (Option Sp2)} {ws : List (List Sp2)} {fd : List Sp2} {h : Int} {t5 t6 : Sl} : apT (EA a b L ws fd h t5 t6) = .ok (decide (0 < h), EA a b L ws fd h t5 t6) := by
  simp [apT]
theorem at_L {M : Nat → Option Sp2} {S h : Nat} (hh : h ≤ S) : atI (((List.range (S + 1)).map M).map encO) (h : Int) = some (encO (M h)) := by
  have h1 : (h : Int) < (S : Int) + 1 := by omega
  have h2 : h < S + 1 := by omega
  simp [h1, h2]
theorem apW_ok {s : Int} {b : D} {ws : List (List Sp2)} {M : Nat → Option Sp2} {S : Nat} (hb : BkOk s ws) (hM : ∀ h p, M h = some p → 1 ≤ p.1 ∧ p.1 ≤ (h : Int)) : ∀ (f h n : Nat) (fd : List Sp2) (t5 t6 : Sl), h ≤ f → f < n → h ≤ S → fd.length + f ≤ 1000 → t5.free = true → t6.free = true →
    ∃ u5 u6 : Sl, u5.free = true ∧ u6.free = true ∧ sWhile apT apB n (EA (encB false s ws) b ((List.range (S + 1)).map M) ws fd (h : Int) t5 t6) = .ok (.nx, EA (encB false s ws) b ((List.range (S + 1)).map M) ws (fd ++ trace M f h) 0 u5 u6)
  | 0, h, n, fd, t5, t6, hf, hn, hS, hl, f5, f6 => by
    obtain rfl : h = 0 := by omega
    obtain ⟨n, rfl⟩ : ∃ m, n = m + 1 := ⟨n - 1, by omega⟩
    refine ⟨t5, t6, f5, f6, ?_⟩
    rw [while_succ, apT_ok]
    simp [trace]
  | f + 1, h, n, fd, t5, t6, hf, hn, hS, hl, f5, f6 => by
    obtain ⟨n, rfl⟩ : ∃ m, n = m + 1 := ⟨n - 1, by omega⟩
    rw [while_succ, apT_ok]
    simp only [R.bind_ok]
    by_cases z : h = 0
    · subst z
      refine ⟨t5, t6, f5, f6, ?_⟩
      simp [trace]
    · have d : decide (0 < (h : Int)) = true := decide_eq_true (by omega)
      rw [d, if_pos rfl]
      have g := at_L (M := M) hS
      cases q : M h with
      | none =>
        rw [q] at g
        rw [apB_none g]
        obtain ⟨u5, u6, g5, g6, ih⟩ := apW_ok (S := S) (b := b) hb hM f (h - 1) n fd t5 t6 (by omega) (by omega) (by omega) (by omega) f5 f6
        refine ⟨u5, u6, g5, g6, ?_⟩
        have e : trace M (f + 1) h = trace M f (h - 1) := by
          conv => lhs; unfold trace
          rw [if_neg z, q]
        rw [e, ← ih, show ((h : Int) - 1) = ((h - 1 : Nat) : Int) by omega]
        rfl
      | some p =>
        rw [q] at g
        obtain ⟨p1, p2⟩ := hM h p q
        rw [apB_some hb g f5 f6 (by unfold big; omega)]
        obtain ⟨u5, u6, g5, g6, ih⟩ := apW_ok (S := S) (b := b) hb hM f (p.1 - 1).toNat n (fd ++ [p]) (.val (.int p.1)) (.val (.int p.2)) (by omega) (by omega) (by omega) (by rw [List.length_append, List.length_singleton]; omega) rfl rfl
        refine ⟨u5, u6, g5, g6, ?_⟩
        have e : trace M (f + 1) h = p :: trace M f (p.1 - 1).toNat := by
          conv => lhs; unfold trace
          rw [if_neg z, q]
        rw [e]
        rw [List.append_assoc, List.singleton_append] at ih
        rw [← ih, show (((p.1 - 1).toNat : Nat) : Int) = p.1 - 1 by omega]
        rfl
end DL

/-! ## QJ -/
/-! QJ: apart. -/
namespace DL
open PySem PySem.Spec PyProof.Rows L2
theorem mk_spec (K : Int → Int → Int) (h : Nat) (p : Sp2) (e : AW.mk1 K h = some p) : 1 ≤ p.1 ∧ p.1 ≤ (h : Int) ∧ p.2 = (h : Int) ∧ AW.ht K h = AW.ht K (p.1 - 1).toNat + K p.1 p.2 := by
  cases h with
  | zero => rw [AW.mk_zero] at e; cases e
  | succ n =>
    rcases AW.ht_made K n with ⟨a, _⟩ | ⟨l, a, b, c, d⟩
    · rw [a] at e; cases e
    · rw [a] at e
      cases e
      exact ⟨b, by show l ≤ ((n + 1 : Nat) : Int); omega, by show (n : Int) + 1 = ((n + 1 : Nat) : Int); omega, d⟩
theorem mk_none (K : Int → Int → Int) (h : Nat) (hz : h ≠ 0) (e : AW.mk1 K h = none) : AW.ht K h = AW.ht K (h - 1) := by
  obtain ⟨n, rfl⟩ : ∃ n, h = n + 1 := ⟨h - 1, by omega⟩
  rcases AW.ht_made K n with ⟨_, a⟩ | ⟨l, a, _⟩
  · exact a
  · rw [a] at e; cases e
theorem trace_sum (K : Int → Int → Int) : ∀ (f h : Nat), h ≤ f → ((trace (AW.mk1 K) f h).map fun p => K p.1 p.2).sum = AW.ht K h
  | 0, h, hf => by
    obtain rfl : h = 0 := by omega
    rfl
  | f + 1, h, hf => by
    unfold trace
    by_cases z : h = 0
    · subst z; simp [AW.ht_zero]
    · rw [if_neg z]
      cases q : AW.mk1 K h with
      | none => simp only; rw [trace_sum K f (h - 1) (by omega), mk_none K h z q]
      | some p =>
        obtain ⟨a, b, c, d⟩ := mk_spec K h p q
        simp only [List.map_cons, List.sum_cons]
        rw [trace_sum K f (p.1 - 1).toNat (by omega), d]
        omega
theorem trace_mem (K : Int → Int → Int) : ∀ (f h : Nat) (p : Sp2), p ∈ trace (AW.mk1 K) f h → 1 ≤ p.1 ∧ p.1 ≤ p.2 ∧ p.2 ≤ (h : Int)
  | 0, h, p, hp => by cases hp
  | f + 1, h, p, hp => by
    unfold trace at hp
    by_cases z : h = 0
    · rw [if_pos z] at hp; cases hp
    · rw [if_neg z] at hp
      cases q : AW.mk1 K h with
      | none =>
        rw [q] at hp
        have := trace_mem K f (h - 1) p hp
        omega
      | some r =>
        rw [q] at hp
        obtain ⟨a, b, c, d⟩ := mk_spec K h r q
        rcases List.mem_cons.mp hp with rfl | hp
        · omega
        · have := trace_mem K f (r.1 - 1).toNat p hp
          omega
theorem apart_snoc (K : Int → Int → Int) {S : Int} {p : Sp2} (h1 : p.1 ≤ p.2) (h2 : p.2 ≤ S) : ∀ (l : List Sp2) (e : Int), AW.apartK K S e l → e < p.1 → (∀ q ∈ l, q.2 < p.1) → AW.apartK K S e (l ++ [p])
  | [], e, _, he, _ => ⟨he, h1, h2, trivial⟩
  | q :: l, e, h, he, hq => by
    obtain ⟨a, b, c, d⟩ := h
    exact ⟨a, b, c, apart_snoc K h1 h2 l q.2 d (hq q List.mem_cons_self) fun r hr => hq r (List.mem_cons_of_mem _ hr)⟩
theorem trace_apart (K : Int → Int → Int) {S : Int} : ∀ (f h : Nat), (h : Int) ≤ S → AW.apartK K S 0 (trace (AW.mk1 K) f h).reverse
  | 0, h, _ => trivial
  | f + 1, h, hS => by
    unfold trace
    by_cases z : h = 0
    · rw [if_pos z]; exact trivial
    · rw [if_neg z]
      cases q : AW.mk1 K h with
      | none => exact trace_apart K f (h - 1) (by omega)
      | some p =>
        obtain ⟨a, b, c, d⟩ := mk_spec K h p q
        simp only [List.reverse_cons]
        refine apart_snoc K (by omega) (by omega) _ 0 (trace_apart K f (p.1 - 1).toNat (by omega)) (by omega) fun r hr => ?_
        have := trace_mem K f (p.1 - 1).toNat r (List.mem_reverse.mp hr)
        omega
/-- the windows that apart tells -/
def apartL (s : Int) (ws : List (List Sp2)) (cs : List Int) : List Sp2 := (trace (AW.mk1 (lackK ws cs)) s.toNat s.toNat).reverse
theorem apart_ok {s : Int} {ws : List (List Sp2)} {cs : List Int} (hb : BkOk s ws) (hc : CsOk s cs) : f_apart false [encB false s ws, encR false (roomOf cs)] = .ok (.tup false ((apartL s ws cs).map (encR3 ws)), .non) := by
  have hs1 := hb.s1
  have hs2 := hb.s2
  have h1 := needR_ok (μ := false) hb hc
  have h2 := coats_ok (μ := false) (ws := ws) hs2 hs1 hc
  have h3 := heights_ok hb hc
  obtain ⟨_, e2'⟩ := AW.hts_eq (lackK ws cs) s.toNat
  have i1 : pIx (htsD s ws cs) (.int 1) = some (.lst ((AW.hts (lackK ws cs) s.toNat).2.map encO)) := by simp [htsD]
  rw [e2'] at i1
  have i0 : pIx (encB false s ws) (.int 0) = some (D.int s) := by simp [encB]
  obtain ⟨u5, u6, _, _, hW⟩ := apW_ok (b := encR false (roomOf cs)) (M := AW.mk1 (lackK ws cs)) (S := s.toNat) hb (fun h p e => let ⟨a, b, _, _⟩ := mk_spec _ h p e; ⟨a, b⟩) s.toNat s.toNat 1000000 [] .no .no (Nat.le_refl _) (by omega) (Nat.le_refl _) (by simp; omega) rfl rfl
  rw [show ((s.toNat : Nat) : Int) = s by omega, List.nil_append] at hW
  have eb : b_apart false = (sSeq (sExp (eCall 2 (f_need_room false) (aCons (eVar 0) (aCons (eVar 1) aNil)))) (sSeq (sSet 2 (e2 pIx (eCall 2 (f_heights false) (aCons (eVar 0) (aCons (eCall 2 (f_coats_of false) (aCons (eVar 0) (aCons (eVar 1) aNil))) aNil))) (eC (.int 1)))) (sSeq (sOwn 3 (fLst aNil)) (sSeq (sSet 4 (e2 pIx (eVar 0) (eC (.int 0)))) (sSeq (sSeq (sWhile apT apB 1000000) (sFz 3)) (sRet (eN (pTuple false) (aCons (eRev (eVar 3)) aNil)))))))) := rfl
  simp only [EA, List.map_nil] at hW
  generalize sWhile apT apB 1000000 = WH at hW eb
  generalize ((List.range (s.toNat + 1)).map (AW.mk1 (lackK ws cs))).map encO = LL at i1 hW
  have hW : WH [.val (encB false s ws), .val (encR false (roomOf cs)), .val (.lst LL), .own (.lst []), .val (.int s), .no, .no] = .ok (.nx, [.val (encB false s ws), .val (encR false (roomOf cs)), .val (.lst LL), .own (.lst ((trace (AW.mk1 (lackK ws cs)) s.toNat s.toNat).map (encR3 ws))), .val (.int 0), u5, u6]) := hW
  simp [f_apart, v_run, eb, startE, h1, h2, h3, i0, i1, hW, apartL, List.map_reverse]
end DL

/-! ## QK -/
/-! QK: with the coats bought the room serves; how many they are. -/
namespace DL
open PySem PySem.Spec PyProof.Rows L2
def plusC (a b : List Int) : List Int := (a.zip b).map fun p => p.1 + p.2
theorem plus_len {a b : List Int} (h : a.length = b.length) : (plusC a b).length = a.length := by
  unfold plusC
  rw [List.length_map, List.length_zip]; omega
theorem cf_plus {a b : List Int} (h : a.length = b.length) (z : Int) : AW.cf (plusC a b) z = AW.cf a z + AW.cf b z := by
  by_cases q : z < 1 ∨ a.length < z
  · rw [AW.cf_out (by rw [plus_len h]; exact q), AW.cf_out q, AW.cf_out (by rw [← h]; exact q)]; rfl
  · rw [AW.cf_in (by omega) (by rw [plus_len h]; omega), AW.cf_in (by omega) (by omega), AW.cf_in (by omega) (by omega)]
    unfold plusC
    rw [List.getElem_map, List.getElem_zip]
theorem has_plus {a b : List Int} (hl : a.length = b.length) (l h : Int) : AW.has (plusC a b) l h = AW.has a l h + AW.has b l h := by
  unfold AW.has
  rw [← AW.hasF_add]
  exact AW.hasF_congr fun s _ _ => cf_plus hl s
theorem plus_ok {s : Int} {ws : List (List Sp2)} {cs : List Int} (hb : BkOk s ws) (hc : CsOk s cs) (h9 : ∀ x ∈ cs, x ≤ 90) : CsOk s (plusC cs (moreC s ws cs)) := by
  obtain ⟨h1, h2⟩ := moreC_ok hb hc
  have l1 := hc.len
  have l2 := h1.len
  refine ⟨by rw [plus_len (by omega)]; exact l1, fun x hx => ?_⟩
  unfold plusC at hx
  obtain ⟨p, hp, rfl⟩ := List.mem_map.mp hx
  obtain ⟨m1, m2⟩ := List.of_mem_zip (a := p.1) (b := p.2) hp
  have a := hc.c _ m1
  have b := h9 _ m1
  have c := h1.c _ m2
  have d := h2 _ m2
  omega
theorem after_hall {s : Int} {ws : List (List Sp2)} {cs : List Int} (hb : BkOk s ws) (hc : CsOk s cs) : servesB s (plusC cs (moreC s ws cs)) ws = true := by
  obtain ⟨h1, h2⟩ := moreC_ok hb hc
  have l1 := hc.len
  have l2 := h1.len
  unfold servesB
  rw [List.all_eq_true]
  intro w hw
  rw [clothesB_iff]
  intro l h q1 q2 q3
  rw [has_plus (by omega)]
  have a := (ask_spec hb (l, h)).2.1 w hw
  obtain ⟨n, hn⟩ : ∃ n : Nat, h = (n : Int) + 1 := ⟨(h - 1).toNat, by omega⟩
  have b := AW.ht_lack (lackK ws cs) hn q1 q2
  have c := AW.has_more (lackK ws cs) (s := s.toNat) (l := l) (h := h) q1 (by omega) (by omega)
  unfold moreC
  rw [c, show h.toNat = n + 1 by omega]
  unfold lackK at b ⊢
  have a' : AW.within w l h ≤ askM ws (l, h) := a
  omega
theorem sum_zipIdx : ∀ (cs : List Int) (k : Nat), (∀ x ∈ cs, 0 ≤ x) → ((((cs.zipIdx k).filter fun p => decide (0 < p.1)).map fun p => (((p.2 : Int) + 1, p.1) : Sp2)).map (·.2)).sum = cs.sum
  | [], _, _ => rfl
  | x :: cs, k, h => by
    have ih := sum_zipIdx cs (k + 1) fun y hy => h y (List.mem_cons_of_mem _ hy)
    have hx := h x List.mem_cons_self
    rw [List.zipIdx_cons, List.sum_cons]
    by_cases z : 0 < x
    · simp only [List.filter_cons, z, decide_true, if_true, List.map_cons, List.sum_cons, ih]
    · have : x = 0 := by omega
      subst this
      simp only [List.filter_cons, show ¬ ((0 : Int) < 0) by omega, decide_false, Bool.false_eq_true, if_false, ih]
      omega
theorem room_sum {cs : List Int} (h : ∀ x ∈ cs, 0 ≤ x) : ((roomOf cs).map (·.2)).sum = cs.sum := sum_zipIdx cs 0 h
theorem sum_ht (K : Int → Int → Int) : ∀ n : Nat, (AW.more K n).sum = AW.ht K n
  | 0 => rfl
  | n + 1 => by
    have ih := sum_ht K n
    unfold AW.more at ih ⊢
    rw [List.range_succ, List.map_append, List.sum_append, ih]
    simp
    omega
/-- how many coats to buy -/
def manyC (s : Int) (ws : List (List Sp2)) (cs : List Int) : Int := AW.ht (lackK ws cs) s.toNat
theorem many_sum {s : Int} {ws : List (List Sp2)} {cs : List Int} (hb : BkOk s ws) (hc : CsOk s cs) : ((roomOf (moreC s ws cs)).map (·.2)).sum = manyC s ws cs := by
  rw [room_sum fun x hx => ((moreC_ok hb hc).1.c x hx).1]
  exact sum_ht _ _
end DL

/-! ## QL -/
/-! QL: none to buy where the room serves; windows apart lack no more than there is to buy. -/
namespace DL
open PySem PySem.Spec PyProof.Rows L2
theorem ht_flat (K : Int → Int → Int) {S : Nat} (h : ∀ l h : Int, 1 ≤ l → l ≤ h → h ≤ S → K l h ≤ 0) : ∀ n : Nat, n ≤ S → AW.ht K n = 0
  | 0, _ => rfl
  | n + 1, hn => by
    have ih := ht_flat K h n (by omega)
    rcases AW.ht_made K n with ⟨_, e⟩ | ⟨l, _, a, b, e⟩
    · omega
    · have c := h l ((n : Int) + 1) a b (by omega)
      have d := AW.ht_le K (m := (l - 1).toNat) (n := n) (by omega)
      have f := AW.ht_nonneg K (n + 1)
      omega
theorem many_zero {s : Int} {ws : List (List Sp2)} {cs : List Int} (hb : BkOk s ws) : (manyC s ws cs = 0) ↔ servesB s cs ws = true := by
  have h1 := hb.s1
  constructor
  · intro h
    unfold servesB
    rw [List.all_eq_true]
    intro w hw
    rw [clothesB_iff]
    intro l k q1 q2 q3
    have a : AW.within w l k ≤ askM ws (l, k) := (ask_spec hb (l, k)).2.1 w hw
    obtain ⟨n, hn⟩ : ∃ n : Nat, k = (n : Int) + 1 := ⟨(k - 1).toNat, by omega⟩
    have b := AW.ht_lack (lackK ws cs) hn q1 q2
    have c := AW.ht_nonneg (lackK ws cs) (l - 1).toNat
    have d := AW.ht_le (lackK ws cs) (m := n + 1) (n := s.toNat) (by omega)
    unfold manyC at h
    have e : lackK ws cs l k = askM ws (l, k) - AW.has cs l k := rfl
    omega
  · intro h
    refine ht_flat (lackK ws cs) (S := s.toNat) (fun l k q1 q2 q3 => ?_) s.toNat (Nat.le_refl _)
    obtain ⟨_, _, w, hw, e⟩ := ask_spec hb (l, k)
    have a := clothesB_iff.mp (List.all_eq_true.mp h w hw) l k q1 q2 (by omega)
    have e : AW.within w l k = askM ws (l, k) := e
    unfold lackK
    omega
/-- what windows and winters show -/
def shownL (ws : List (List Sp2)) (cs : List Int) (rows : List (Sp2 × Nat)) : Int := (rows.map fun r => AW.within (wAt ws r.2) r.1.1 r.1.2 - AW.has cs r.1.1 r.1.2).sum
theorem shown_le {s : Int} {ws : List (List Sp2)} {cs : List Int} (hb : BkOk s ws) (rows : List (Sp2 × Nat)) (hw : ∀ r ∈ rows, r.2 < ws.length) (h : AW.apartK (lackK ws cs) s 0 (rows.map (·.1))) : shownL ws cs rows ≤ manyC s ws cs := by
  have h1 := hb.s1
  have a := AW.apart_le (lackK ws cs) (s := s.toNat) (rows.map (·.1)) 0 (by omega) (by omega) (by rw [show ((s.toNat : Nat) : Int) = s by omega]; exact h)
  have z : AW.ht (lackK ws cs) (0 : Int).toNat = 0 := rfl
  have b : shownL ws cs rows ≤ ((rows.map (·.1)).map fun p => lackK ws cs p.1 p.2).sum := by
    unfold shownL
    clear a h
    induction rows with
    | nil => exact Int.le_refl _
    | cons r rows ih =>
      have ih := ih fun q hq => hw q (List.mem_cons_of_mem _ hq)
      have hr := hw r List.mem_cons_self
      have c := (ask_spec hb r.1).2.1 (wAt ws r.2) (by rw [wAt_of hr]; exact List.getElem_mem hr)
      simp only [List.map_cons, List.sum_cons]
      have d : lackK ws cs r.1.1 r.1.2 = askM ws r.1 - AW.has cs r.1.1 r.1.2 := rfl
      omega
  unfold manyC
  rw [z, Int.zero_add] at a
  exact Int.le_trans b a
theorem apart_shown {s : Int} {ws : List (List Sp2)} {cs : List Int} (hb : BkOk s ws) : shownL ws cs ((apartL s ws cs).map fun p => (p, askI ws p)) = manyC s ws cs := by
  unfold shownL apartL manyC
  rw [List.map_map, ← trace_sum (lackK ws cs) s.toNat s.toNat (Nat.le_refl _)]
  have e : ∀ p : Sp2, ((fun r : Sp2 × Nat => AW.within (wAt ws r.2) r.1.1 r.1.2 - AW.has cs r.1.1 r.1.2) ∘ fun p => (p, askI ws p)) p = lackK ws cs p.1 p.2 := fun p => by
    have := (askI_spec hb p).2.2
    show AW.within (wAt ws (askI ws p)) p.1 p.2 - AW.has cs p.1 p.2 = askM ws (p.1, p.2) - AW.has cs p.1 p.2
    rw [this]
  rw [List.map_congr_left fun p _ => e p, List.map_reverse, List.sum_reverse]
end DL

/-! ## QM -/
/-! QM: tuples of three (first part of apart_show on any thing). -/
namespace DL
open PySem PySem.Spec PyProof.Rows L2
section
variable {μ : Bool}
def tri (x : D) : Bool := match x with | .tup _ [_, _, _] => true | _ => false
def trisB : D → Bool
  | .tup _ ds => ds.all tri
  | _ => false
theorem tri_iff {x : D} : tri x = true ↔ ∃ tb a b c, x = .tup tb [a, b, c] := by
  constructor
  · intro h
    unfold tri at h
    split at h
    · exact ⟨_, _, _, _, rfl⟩
    · cases h
  · rintro ⟨tb, a, b, c, rfl⟩; rfl
theorem tri_tup {tb : Bool} {ds : List D} : tri (.tup tb ds) = decide ((ds.length : Int) = 3) := by
  match ds with
  | [] => rfl
  | [_] => rfl
  | [_, _] => rfl
  | [_, _, _] => rfl
  | _ :: _ :: _ :: _ :: r => simp [tri]; omega
theorem tuples3_ok {x : D} (m k : Nat) (B : Int) (hm : m ≤ 1000) (hx : Th m B k x) : f_are_tuples μ [x, .int 3] = .ok (.bl (trisB x), .non) := by
  have hp := hx.plain
  by_cases h : ∃ tb ds, x = .tup tb ds
  · obtain ⟨tb, ds, rfl⟩ := h
    cases k with
    | zero => simp [Th] at hx
    | succ k =>
      simp only [Th] at hx
      have hc := comp_nmT (it := itS (eVar 0)) (elt := eAnd (eIsT "tuple" (eVar 2)) (e2 pEq (eN pLen (aCons (eVar 2) aNil)) (eVar 1))) (i := 2) (env := [.val (.tup tb ds), .val (.int 3), .no]) (env1 := [.val (.tup tb ds), .val (.int 3), .no])
        ds (fun x => x) (fun x => D.bl (tri x)) (s := .no) (by simp) (by unfold big; omega) rfl rfl (fun x hd => by
          have px := (hx.2 x hd).plain
          by_cases hT : ∃ tc es, x = .tup tc es
          · obtain ⟨tc, es, rfl⟩ := hT
            simp [tri_tup]
          · have e1 : x.isT "tuple" = false := by rw [isT_tupX]; cases x <;> first | rfl | exact absurd ⟨_, _, rfl⟩ hT
            have e2' : tri x = false := by cases x <;> first | rfl | exact absurd ⟨_, _, rfl⟩ hT
            simp [px, e1, e2'])
      have ee : ds.map (fun x => D.bl (tri x)) = (ds.map tri).map D.bl := by rw [List.map_map]; rfl
      rw [ee] at hc
      simp [f_are_tuples, v_run, b_are_tuples, startE, hc, trisB, List.all_map, -List.map_map]
      try rfl
  · have e1 : x.isT "tuple" = false := by rw [isT_tupX]; cases x <;> first | rfl | exact absurd ⟨_, _, rfl⟩ h
    have e2' : trisB x = false := by cases x <;> first | rfl | exact absurd ⟨_, _, rfl⟩ h
    simp [f_are_tuples, v_run, b_are_tuples, startE, hp, e1, e2']
def rowT (s n : Int) : D → Bool
  | .tup _ [a, b, c] => spanB s (.tup false [a, b]) && fromB 0 (n - 1) c
  | _ => false
theorem spanB_flag {s : Int} {tb tc : Bool} {ds : List D} : spanB s (.tup tb ds) = spanB s (.tup tc ds) := by
  unfold spanB
  split <;> rename_i heq <;> first | (cases heq; rfl) | skip
  split
  · rename_i heq2
    cases heq2
    exact absurd rfl (heq _ _ _)
  · rfl
theorem rowT_ok {s : Int} {ws : List (List Sp2)} {x t : D} {m k : Nat} {B : Int} {t1 : D} {t3 t4 : Sl} (hx : Th m B k x) (ht : tri x = true) :
    eAnd (eCall 2 (f_is_span μ) (aCons (e2 pIx (eVar 0) (eC (.int 0))) (aCons (eSl (eVar 2) oN (oS (eC (.int 2)))) aNil))) (eCall 3 (f_is_from μ) (aCons (e2 pIx (eVar 2) (eC (.int 2))) (aCons (eC (.int 0)) (aCons (e2 pSub (eN pLen (aCons (e2 pIx (eVar 0) (eC (.int 1))) aNil)) (eC (.int 1))) aNil)))) [.val (encB μ s ws), .val t1, .val x, t3, t4] =
      .ok (.bl (rowT s ws.length x), [.val (encB μ s ws), .val t1, .val x, t3, t4]) := by
  obtain ⟨tb, a, b, c, rfl⟩ := tri_iff.mp ht
  cases k with
  | zero => simp [Th] at hx
  | succ k =>
    simp only [Th] at hx
    have pc := (hx.2 c (by simp)).plain
    have h1 := span_ok (μ := μ) (x := .tup tb [a, b]) s m (k + 1) B (by
      simp only [Th]
      exact ⟨by have := hx.1; simp at this ⊢; omega, fun d hd => hx.2 d (by
        simp only [List.mem_cons, List.not_mem_nil, or_false] at hd ⊢
        rcases hd with rfl | rfl <;> simp)⟩)
    rw [spanB_flag (tc := false)] at h1
    have h2 := from_ok (μ := μ) 0 (ws.length - 1) pc
    have i0 : pIx (encB μ s ws) (.int 0) = some (D.int s) := by simp [encB]
    have i1 : pIx (encB μ s ws) (.int 1) = some (D.tup μ (ws.map (encW μ))) := by simp [encB]
    have cut2 : cutD [a, b, c] none (some 2) = [a, b] := rfl
    have j2 : atI [a, b, c] 2 = some c := by simp
    cases q : spanB s (.tup false [a, b]) with
    | false => rw [q] at h1; simp [rowT, q, h1, i0, i1, cut2, j2, -v_atI]
    | true => rw [q] at h1; simp [rowT, q, h1, h2, i0, i1, cut2, j2, -v_atI]
/-- a row of whole numbers -/
def encRow (r : Bool × Sp2 × Int) : D := .tup r.1 [.int r.2.1.1, .int r.2.1.2, .int r.2.2]
def RowOk (s n : Int) (r : Bool × Sp2 × Int) : Prop := 1 ≤ r.2.1.1 ∧ r.2.1.1 ≤ r.2.1.2 ∧ r.2.1.2 ≤ s ∧ 0 ≤ r.2.2 ∧ r.2.2 < n
theorem row_of {s n : Int} {x : D} (h : rowT s n x = true) : ∃ r, x = encRow r ∧ RowOk s n r := by
  unfold rowT at h
  split at h
  · rename_i tb a b c
    rw [Bool.and_eq_true] at h
    obtain ⟨h1, h2⟩ := h
    obtain ⟨w, rfl, c1, c2⟩ := from_iff h2
    unfold spanB at h1
    split at h1
    · rename_i l k heq
      cases heq
      simp only [Bool.and_eq_true, decide_eq_true_eq] at h1
      exact ⟨(tb, (l, k), w), rfl, by simp only [RowOk]; omega⟩
    · cases h1
  · cases h
theorem rows_of {s n : Int} : ∀ {ds : List D}, ds.all (rowT s n) = true → ∃ rs : List (Bool × Sp2 × Int), ds = rs.map encRow ∧ ∀ r ∈ rs, RowOk s n r
  | [], _ => ⟨[], rfl, fun r hr => by cases hr⟩
  | x :: ds, h => by
    rw [List.all_cons, Bool.and_eq_true] at h
    obtain ⟨r, rfl, hr⟩ := row_of h.1
    obtain ⟨rs, rfl, hrs⟩ := rows_of h.2
    refine ⟨r :: rs, rfl, fun q hq => ?_⟩
    rcases List.mem_cons.mp hq with rfl | hq
    · exact hr
    · exact hrs q hq
theorem rowT_enc {s n : Int} {r : Bool × Sp2 × Int} (h : RowOk s n r) : rowT s n (encRow r) = true := by
  obtain ⟨a, b, c, d, e⟩ := h
  simp only [rowT, encRow, spanB, fromB, Bool.and_eq_true, decide_eq_true_eq]
  omega
/-- one behind the other -/
def chainB (rs : List (Bool × Sp2 × Int)) : Bool := (rs.zip (rs.drop 1)).all fun p => decide (p.1.2.1.2 < p.2.2.1.1)
theorem apart_chain {K : Int → Int → Int} {s n : Int} : ∀ (rs : List (Bool × Sp2 × Int)) (e : Int), (∀ r ∈ rs, RowOk s n r) → chainB rs = true → (∀ r ∈ rs.head?, e < r.2.1.1) → AW.apartK K s e (rs.map fun r => r.2.1)
  | [], _, _, _, _ => trivial
  | [r], e, h, _, he => by
    obtain ⟨a, b, c, _, _⟩ := h r List.mem_cons_self
    exact ⟨he r rfl, b, c, trivial⟩
  | r :: q :: rs, e, h, hc, he => by
    obtain ⟨a, b, c, _, _⟩ := h r List.mem_cons_self
    have hc' : decide (r.2.1.2 < q.2.1.1) = true ∧ chainB (q :: rs) = true := by
      unfold chainB at hc ⊢
      simpa using hc
    exact ⟨he r rfl, b, c, apart_chain (q :: rs) r.2.1.2 (fun x hx => h x (List.mem_cons_of_mem _ hx)) hc'.2 fun x hx => by
      have : q = x := by simpa using hx
      subst this
      exact of_decide_eq_true hc'.1⟩
def toRow : D → Bool × Sp2 × Int
  | .tup tb [.int l, .int h, .int w] => (tb, (l, h), w)
  | _ => (false, (0, 0), 0)
theorem toRow_enc (r : Bool × Sp2 × Int) : toRow (encRow r) = r := rfl
/-- are_apart, of any thing -/
def apartB (s n : Int) : D → Bool
  | .tup _ ds => ds.all (rowT s n) && chainB (ds.map toRow)
  | _ => false
theorem apartB_not {s n : Int} {x : D} (h : ¬ ∃ tb ds, x = .tup tb ds) : apartB s n x = false := by
  unfold apartB
  split
  · exact absurd ⟨_, _, rfl⟩ h
  · rfl
theorem rowT_tri {s n : Int} {x : D} (h : rowT s n x = true) : tri x = true := by
  obtain ⟨r, rfl, _⟩ := row_of h
  rfl
theorem areApart_ok {s : Int} {ws : List (List Sp2)} {x : D} {m k : Nat} {B : Int} (hm : m ≤ 1000) (hx : Th m B k x) : f_are_apart μ [encB μ s ws, x] = .ok (.bl (apartB s ws.length x), .non) := by
  have h1 := tuples3_ok (μ := μ) m k B hm hx
  by_cases hT : ∃ tb ds, x = .tup tb ds
  · obtain ⟨tb, ds, rfl⟩ := hT
    cases k with
    | zero => simp [Th] at hx
    | succ k =>
      simp only [Th] at hx
      cases q1 : trisB (.tup tb ds) with
      | false =>
        have e : apartB s ws.length (.tup tb ds) = false := by
          have : ds.all (rowT s ws.length) = false := by
            rw [← Bool.not_eq_true]
            intro z
            have : trisB (.tup tb ds) = true := by
              simp only [trisB, List.all_eq_true] at z ⊢
              exact fun y hy => rowT_tri (z y hy)
            rw [this] at q1; cases q1
          simp only [apartB, this, Bool.false_and]
        rw [q1] at h1
        simp [f_are_apart, v_run, b_are_apart, startE, h1, e]
      | true =>
        rw [q1] at h1
        have htri : ∀ y ∈ ds, tri y = true := by simpa only [trisB, List.all_eq_true] using q1
        have hc := comp_nmT (it := itS (eVar 1)) (elt := eAnd (eCall 2 (f_is_span μ) (aCons (e2 pIx (eVar 0) (eC (.int 0))) (aCons (eSl (eVar 2) oN (oS (eC (.int 2)))) aNil))) (eCall 3 (f_is_from μ) (aCons (e2 pIx (eVar 2) (eC (.int 2))) (aCons (eC (.int 0)) (aCons (e2 pSub (eN pLen (aCons (e2 pIx (eVar 0) (eC (.int 1))) aNil)) (eC (.int 1))) aNil))))) (i := 2)
          (env := [.val (encB μ s ws), .val (.tup tb ds), .no, .no, .no]) (env1 := [.val (encB μ s ws), .val (.tup tb ds), .no, .no, .no])
          ds (fun x => x) (fun x => D.bl (rowT s ws.length x)) (s := .no) (by simp) (by unfold big; omega) rfl rfl (fun y hy => rowT_ok (t := .non) (hx.2 y hy) (htri y hy))
        have ee : ds.map (fun x => D.bl (rowT s ws.length x)) = (ds.map (rowT s ws.length)).map D.bl := by rw [List.map_map]; rfl
        rw [ee] at hc
        have pa : pAll [.lst ((ds.map (rowT s ws.length)).map D.bl)] = some (.bl (ds.all (rowT s ws.length))) := by rw [p_all, List.all_map]; rfl
        cases q2 : ds.all (rowT s ws.length) with
        | false =>
          rw [q2] at pa
          simp [f_are_apart, v_run, b_are_apart, startE, h1, hc, pa, apartB, q2, -List.map_map]
        | true =>
          rw [q2] at pa
          obtain ⟨rs, rfl, hrs⟩ := rows_of q2
          have hlen : rs.length ≤ 1000 := by have := hx.1; rw [List.length_map] at this; omega
          have ecut : cutD (rs.map encRow) (some 1) none = (rs.drop 1).map encRow := by
            cases rs with
            | nil => rfl
            | cons r rs => exact cut_one1 (r :: rs) encRow (by simp)
          have hc2 := comp_tu (it := itZip (aCons (eVar 1) (aCons (eSl (eVar 1) (oS (eC (.int 1))) oN) aNil))) (cond := tT) (elt := e2 pLt (e2 pIx (eVar 3) (eC (.int 1))) (e2 pIx (eVar 4) (eC (.int 0)))) (i := 3) (j := 4)
            (env := [.val (encB μ s ws), .val (.tup tb (rs.map encRow)), .no, .no, .no]) (env1 := [.val (encB μ s ws), .val (.tup tb (rs.map encRow)), .no, .no, .no])
            (rs.zip (rs.drop 1)) (fun p => encRow p.1) (fun p => encRow p.2) (fun _ => false) (fun _ => true) (fun p => D.bl (decide (p.1.2.1.2 < p.2.2.1.1))) (s := .no) (t := .no) (by
              have : zipD (rs.map encRow) ((rs.drop 1).map encRow) = (rs.zip (rs.drop 1)).map fun p => D.tup false [encRow p.1, encRow p.2] := by
                unfold zipD
                rw [List.zip_map, List.map_map]; rfl
              simp only [v_itZip, v_cons, v_var, v_nil, v_sl, v_oS, v_c, v_oN, List.getElem?_cons_succ, List.getElem?_cons_zero, R.bind_ok, sqD_tup, Option.bind_some, R.of_some, ecut, this])
            (by unfold big; rw [List.length_zip]; omega) (by omega) rfl rfl rfl rfl (fun p hp => ⟨by simp, fun _ => by simp [encRow]⟩)
          rw [List.filter_eq_self.mpr (fun _ _ => rfl)] at hc2
          have e3 : (rs.zip (rs.drop 1)).map (fun p => D.bl (decide (p.1.2.1.2 < p.2.2.1.1))) = ((rs.zip (rs.drop 1)).map fun p => decide (p.1.2.1.2 < p.2.2.1.1)).map D.bl := by rw [List.map_map]; rfl
          rw [e3] at hc2
          have pa2 : pAll [.lst (((rs.zip (rs.drop 1)).map fun p => decide (p.1.2.1.2 < p.2.2.1.1)).map D.bl)] = some (.bl (chainB rs)) := by rw [p_all, List.all_map]; rfl
          have e4 : (rs.map encRow).map toRow = rs := by rw [List.map_map]; exact List.map_id' rs
          simp [f_are_apart, v_run, b_are_apart, startE, h1, hc, pa, hc2, pa2, apartB, q2, e4, -List.map_map, -List.drop_one]
  · have e := apartB_not (s := s) (n := ws.length) hT
    have e2' : trisB x = false := by cases x <;> first | rfl | exact absurd ⟨_, _, rfl⟩ hT
    rw [e2'] at h1
    simp [f_are_apart, v_run, b_are_apart, startE, h1, e]
end
end DL

/-! ## QN -/
/-! QN: apart_show. -/
namespace DL
open PySem PySem.Spec PyProof.Rows L2
section
variable {μ : Bool}
def rowsN (ds : List D) : List (Sp2 × Nat) := (ds.map toRow).map fun r => (r.2.1, r.2.2.toNat)
/-- what a thing shows -/
def shownD (s : Int) (ws : List (List Sp2)) (cs : List Int) (x : D) : D := match x with
  | .tup _ ds => if apartB s ws.length x then .int (shownL ws cs (rowsN ds)) else .non
  | _ => .non
theorem apartShow_ok {s : Int} {ws : List (List Sp2)} {cs : List Int} {x : D} {m k : Nat} {B : Int} (hb : BkOk s ws) (hc : CsOk s cs) (hm : m ≤ 1000) (hx : Th m B k x) : f_apart_show μ [encB μ s ws, encR μ (roomOf cs), x] = .ok (shownD s ws cs x, .non) := by
  have h1 := needR_ok (μ := μ) hb hc
  have h2 := coats_ok (μ := μ) (ws := ws) hb.s2 hb.s1 hc
  have h3 := areApart_ok (μ := μ) (s := s) (ws := ws) hm hx
  have hl := hc.len
  cases q : apartB s ws.length x with
  | false =>
    have e : shownD s ws cs x = .non := by
      unfold shownD
      split
      · rw [q]; rfl
      · rfl
    rw [q] at h3
    simp [f_apart_show, v_run, b_apart_show, startE, h1, h3, e]
  | true =>
    rw [q] at h3
    obtain ⟨tb, ds, rfl⟩ : ∃ tb ds, x = .tup tb ds := by
      cases x <;> first | exact ⟨_, _, rfl⟩ | cases q
    have q' := q
    simp only [apartB, Bool.and_eq_true] at q'
    obtain ⟨rs, rfl, hrs⟩ := rows_of q'.1
    have hlen : (rs.map encRow).length ≤ 1000 := by
      cases k with
      | zero => simp [Th] at hx
      | succ k => simp only [Th] at hx; omega
    have i1 : pIx (encB μ s ws) (.int 1) = some (D.tup μ (ws.map (encW μ))) := by simp [encB]
    have hcm := comp_map (it := itS (eVar 2)) (p := .tu [.nm 4, .nm 5, .nm 6]) (vs := [4, 5, 6]) (elt := e2 pSub (eCall 3 (f_within μ) (aCons (e2 pIx (e2 pIx (eVar 0) (eC (.int 1))) (eVar 6)) (aCons (eVar 4) (aCons (eVar 5) aNil)))) (eCall 3 (f_has μ) (aCons (eVar 3) (aCons (eVar 4) (aCons (eVar 5) aNil)))))
      (env := [.val (encB μ s ws), .val (encR μ (roomOf cs)), .val (.tup tb (rs.map encRow)), .val (encL cs), .no, .no, .no]) (env1 := [.val (encB μ s ws), .val (encR μ (roomOf cs)), .val (.tup tb (rs.map encRow)), .val (encL cs), .no, .no, .no]) (xs := rs.map encRow)
      (fun x => .int (AW.within (wAt ws (toRow x).2.2.toNat) (toRow x).2.1.1 (toRow x).2.1.2 - AW.has cs (toRow x).2.1.1 (toRow x).2.1.2)) (by simp) (by unfold big; omega) (by simp [hasOwn]) (fun y hy => by
        obtain ⟨r, hr, rfl⟩ := List.mem_map.mp hy
        obtain ⟨r1, r2, r3, r4, r5⟩ := hrs r hr
        have g0 := ws_at (μ := μ) r4 r5
        have g1 := within_ok (μ := μ) (tb := μ) (w := wAt ws r.2.2.toNat) (l := r.2.1.1) (h := r.2.1.2) (by have := (ws_get hb r4 r5).1; omega)
        have g1 : f_within μ [encW μ (wAt ws r.2.2.toNat), .int r.2.1.1, .int r.2.1.2] = _ := g1
        have g2 := has_ok (μ := μ) (cs := cs) r1 r2 (by omega)
        rw [toRow_enc]
        exact ⟨[.val (encB μ s ws), .val (encR μ (roomOf cs)), .val (.tup tb (rs.map encRow)), .val (encL cs), .val (.int r.2.1.1), .val (.int r.2.1.2), .val (.int r.2.2)], by simp [wipeE, encRow],
          [.val (encB μ s ws), .val (encR μ (roomOf cs)), .val (.tup tb (rs.map encRow)), .val (encL cs), .val (.int r.2.1.1), .val (.int r.2.1.2), .val (.int r.2.2)], by simp [i1, g0, g1, g2, -v_atI], by simp [backE, cp1]⟩)
    have ee : (rs.map encRow).map (fun x => D.int (AW.within (wAt ws (toRow x).2.2.toNat) (toRow x).2.1.1 (toRow x).2.1.2 - AW.has cs (toRow x).2.1.1 (toRow x).2.1.2)) = ((rowsN (rs.map encRow)).map fun r => AW.within (wAt ws r.2) r.1.1 r.1.2 - AW.has cs r.1.1 r.1.2).map D.int := by
      unfold rowsN
      rw [List.map_map, List.map_map, List.map_map, List.map_map, List.map_map]
      rfl
    rw [ee] at hcm
    have es : shownD s ws cs (.tup tb (rs.map encRow)) = .int (shownL ws cs (rowsN (rs.map encRow))) := by
      show (if apartB s ws.length (.tup tb (rs.map encRow)) then _ else _) = _
      rw [q]; rfl
    rw [es]
    have hcm2 := p_sum (ns := (rowsN (rs.map encRow)).map fun r => AW.within (wAt ws r.2) r.1.1 r.1.2 - AW.has cs r.1.1 r.1.2)
    generalize hZ : (rowsN (rs.map encRow)).map (fun r => AW.within (wAt ws r.2) r.1.1 r.1.2 - AW.has cs r.1.1 r.1.2) = Z at hcm hcm2
    have eS : shownL ws cs (rowsN (rs.map encRow)) = Z.sum := by rw [← hZ]; rfl
    rw [eS]
    simp [f_apart_show, v_run, b_apart_show, startE, h1, h2, h3, hcm]
end
end DL

/-! ## QO -/
/-! QO: law's shown. -/
namespace DL
open PySem PySem.Spec PyProof.Rows L2
section
variable {μ : Bool}
def shBody (m : Bool) : DenS := (sSeq (sIf (tOrD (tNotD (tst (eIsT "tuple" (eVar 3)))) (tOrD (tst (e2 pNe (eN pLen (aCons (eVar 3) aNil)) (eC (.int 3)))) (tst (e2 pNe (fComp (itS (eVar 3)) (.nm 9) [9] (tNotD (tst (eCall 1 (f__law_whole m) (aCons (eVar 9) aNil)))) (eVar 9)) (fLst aNil))))) (sRet (eC .non)) sNx) (sSeq (sTgt (.tu [(.nm 6), (.nm 7), (.nm 8)]) (eVar 3)) (sSeq (sIf (tOrD (tNotD (tst (eChain3 pLt pLe pLe (eVar 5) (eVar 6) (eVar 7) (e2 pIx (eVar 0) (eC (.int 0)))))) (tNotD (tst (eChain pLe pLt (eC (.int 0)) (eVar 8) (eN pLen (aCons (e2 pIx (eVar 0) (eC (.int 1))) aNil)))))) (sRet (eC .non)) sNx) (sPar2 4 5 (aCons (e2 pSub (e2 pAdd (eVar 4) (eCall 3 (f__law_within m) (aCons (e2 pIx (e2 pIx (eVar 0) (eC (.int 1))) (eVar 8)) (aCons (eVar 6) (aCons (eVar 7) aNil))))) (eCall 3 (f__law_has m) (aCons (eVar 1) (aCons (eVar 6) (aCons (eVar 7) aNil))))) (aCons (eVar 7) aNil))))))
abbrev ES (B C T : D) (t3 : Sl) (f e : Int) (t6 t7 t8 t9 : Sl) : En := [.val B, .val C, .val T, t3, .val (.int f), .val (.int e), t6, t7, t8, t9]
/-- a row that goes on behind e -/
def goB (s n e : Int) (x : D) : Bool := rowT s n x && decide (e < (toRow x).2.1.1)
theorem rowT_not3 {s n : Int} {x : D} (h : tri x = false) : rowT s n x = false := by
  cases q : rowT s n x with
  | false => rfl
  | true => rw [rowT_tri q] at h; cases h
theorem rowT_ints {s n : Int} {tb : Bool} {a b c : D} (h : (wholeB a && (wholeB b && wholeB c)) = false) : rowT s n (.tup tb [a, b, c]) = false := by
  cases q : rowT s n (.tup tb [a, b, c]) with
  | false => rfl
  | true =>
    obtain ⟨r, e, _⟩ := row_of q
    unfold encRow at e
    cases e
    simp [wholeB] at h
theorem shBody_ok {s : Int} {ws : List (List Sp2)} {cs : List Int} {T x : D} {m k : Nat} {B : Int} (hb : BkOk s ws) (hc : CsOk s cs) (hk : k ≤ 60) (hx : Th m B k x) (f e : Int) (h0 : 0 ≤ e) (t6 t7 t8 t9 : Sl) (f6 : t6.free = true) (f7 : t7.free = true) (f8 : t8.free = true) (f9 : t9.free = true) :
    (goB s ws.length e x = true → shBody μ (ES (encB μ s ws) (encL cs) T (.val x) f e t6 t7 t8 t9) = .ok (.nx, ES (encB μ s ws) (encL cs) T (.val x) (f + (AW.within (wAt ws (toRow x).2.2.toNat) (toRow x).2.1.1 (toRow x).2.1.2 - AW.has cs (toRow x).2.1.1 (toRow x).2.1.2)) (toRow x).2.1.2 (.val (.int (toRow x).2.1.1)) (.val (.int (toRow x).2.1.2)) (.val (.int (toRow x).2.2)) t9)) ∧
    (goB s ws.length e x = false → ∃ e2, shBody μ (ES (encB μ s ws) (encL cs) T (.val x) f e t6 t7 t8 t9) = .ok (.ret .non, e2)) := by
  have hp := hx.plain
  by_cases h3 : tri x = true
  · obtain ⟨tb, a, b, c, rfl⟩ := tri_iff.mp h3
    cases k with
    | zero => simp [Th] at hx
    | succ k =>
      simp only [Th] at hx
      have hc1 := comp_nm (it := itS (eVar 3)) (cond := tNotD (tst (eCall 1 (f__law_whole μ) (aCons (eVar 9) aNil)))) (elt := eVar 9) (i := 9) (env := ES (encB μ s ws) (encL cs) T (.val (.tup tb [a, b, c])) f e t6 t7 t8 t9) (env1 := ES (encB μ s ws) (encL cs) T (.val (.tup tb [a, b, c])) f e t6 t7 t8 t9)
          [a, b, c] (fun x => x) (fun x => !wholeB x) (fun x => x) (s := t9) (by simp) (by simp [big]) rfl f9 (fun y hy => ⟨by
            have := whole_ok' (μ := μ) (hx.2 y hy).plain
            simp [this], fun _ => by simp⟩)
      have he := eqD_nil (m := m) (B := B) (k := k) (ds := ([a, b, c].filter fun x => !wholeB x).map fun x => x) (fun d hd => by
        rw [List.map_id'] at hd
        exact hx.2 d (List.mem_filter.mp hd).1) (by omega)
      have ee : (([a, b, c].filter fun x => !wholeB x).map fun x => x).isEmpty = (wholeB a && (wholeB b && wholeB c)) := by
        rw [List.map_id', isEmpty_filter_not]; simp
      rw [ee] at he
      have hne : pNe (.lst (([a, b, c].filter fun x => !wholeB x).map fun x => x)) (.lst []) = some (.bl (!(wholeB a && (wholeB b && wholeB c)))) := by
        have : pNe (.lst (([a, b, c].filter fun x => !wholeB x).map fun x => x)) (.lst []) = (pEq (.lst (([a, b, c].filter fun x => !wholeB x).map fun x => x)) (.lst [])).map fun d => match d with | .bl b => .bl (!b) | d => d := by
          unfold pNe pEq
          rw [Option.map_map]; rfl
        rw [this, he]; rfl
      cases q : (wholeB a && (wholeB b && wholeB c)) with
      | false =>
        have e2' : goB s ws.length e (.tup tb [a, b, c]) = false := by unfold goB; rw [rowT_ints q]; rfl
        rw [e2']
        refine ⟨fun z => (nomatch z), fun _ => ⟨ES (encB μ s ws) (encL cs) T (.val (.tup tb [a, b, c])) f e t6 t7 t8 t9, ?_⟩⟩
        rw [q] at hne
        simp only [List.map_id'] at hne hc1
        simp [shBody, hc1, hne, -List.filter_cons]
      | true =>
        simp only [Bool.and_eq_true] at q
        obtain ⟨l, rfl⟩ : ∃ i, a = .int i := by cases a <;> first | exact ⟨_, rfl⟩ | simp [wholeB] at q
        obtain ⟨h, rfl⟩ : ∃ i, b = .int i := by cases b <;> first | exact ⟨_, rfl⟩ | simp [wholeB] at q
        obtain ⟨w, rfl⟩ : ∃ i, c = .int i := by cases c <;> first | exact ⟨_, rfl⟩ | simp [wholeB] at q
        rw [show (wholeB (.int l) && (wholeB (.int h) && wholeB (.int w))) = true from rfl] at hne
        have hz : ([D.int l, .int h, .int w].filter fun x => !wholeB x).map (fun x => x) = [] := by simp [wholeB]
        rw [hz] at hne hc1
        have hB : pLen [.tup μ (ws.map (encW μ))] = some (.int ws.length) := by simp
        have i0 : pIx (encB μ s ws) (.int 0) = some (D.int s) := by simp [encB]
        have i1 : pIx (encB μ s ws) (.int 1) = some (D.tup μ (ws.map (encW μ))) := by simp [encB]
        have hR : (toRow (.tup tb [.int l, .int h, .int w])).2.1.1 = l := rfl
        have hgo : goB s ws.length e (.tup tb [.int l, .int h, .int w]) = (decide (e < l) && decide (l ≤ h) && decide (h ≤ s) && decide (0 ≤ w) && decide (w < ws.length)) := by
          rw [Bool.eq_iff_iff]
          simp only [goB, rowT, spanB, fromB, hR, Bool.and_eq_true, decide_eq_true_eq]
          constructor
          · rintro ⟨⟨⟨a1, a2, a3⟩, a4, a5⟩, a6⟩; omega
          · rintro ⟨⟨⟨⟨a1, a2⟩, a3⟩, a4⟩, a5⟩; omega
        rw [hgo]
        by_cases c3 : e < l
        · by_cases c4 : l ≤ h
          · by_cases c5 : h ≤ s
            · by_cases c1 : 0 ≤ w
              · by_cases c2 : w < ws.length
                · have g0 := ws_at (μ := μ) c1 c2
                  have g1 := lwithin_ok (μ := μ) (tb := μ) (w := wAt ws w.toNat) (l := l) (h := h) (by have := (ws_get hb c1 c2).1; omega)
                  have g1 : f__law_within μ [encW μ (wAt ws w.toNat), .int l, .int h] = _ := g1
                  have g2 := lhas_ok (μ := μ) (cs := cs) (l := l) (h := h) (by omega) c4 (by have := hc.len; omega)
                  refine ⟨fun _ => ?_, fun z => by simp [c1, c2, c3, c4, c5] at z⟩
                  have ef : f + (AW.within (wAt ws w.toNat) l h - AW.has cs l h) = f + AW.within (wAt ws w.toNat) l h - AW.has cs l h := by omega
                  simp [shBody, hc1, hne, c1, c2, c3, c4, c5, g0, g1, g2, i0, i1, f6, f7, f8, f9, toRow, ef, -v_atI]
                · refine ⟨fun z => by simp [c1, c2, c3, c4, c5] at z, fun _ => ⟨_, by simp [shBody, hc1, hne, c1, c2, c3, c4, c5, i0, i1, f6, f7, f8, f9]; rfl⟩⟩
              · refine ⟨fun z => by simp [c1, c3, c4, c5] at z, fun _ => ⟨_, by simp [shBody, hc1, hne, c1, c3, c4, c5, i0, i1, f6, f7, f8, f9]; rfl⟩⟩
            · refine ⟨fun z => by simp [c3, c4, c5] at z, fun _ => ⟨_, by simp [shBody, hc1, hne, c3, c4, c5, i0, i1, f6, f7, f8, f9]; rfl⟩⟩
          · refine ⟨fun z => by simp [c3, c4] at z, fun _ => ⟨_, by simp [shBody, hc1, hne, c3, c4, i0, i1, f6, f7, f8, f9]; rfl⟩⟩
        · refine ⟨fun z => by simp [c3] at z, fun _ => ⟨_, by simp [shBody, hc1, hne, c3, i0, i1, f6, f7, f8, f9]; rfl⟩⟩
  · rw [Bool.not_eq_true] at h3
    have e2' : goB s ws.length e x = false := by unfold goB; rw [rowT_not3 h3]; rfl
    rw [e2']
    refine ⟨fun z => (nomatch z), fun _ => ⟨ES (encB μ s ws) (encL cs) T (.val x) f e t6 t7 t8 t9, ?_⟩⟩
    by_cases hT : ∃ tb ds, x = .tup tb ds
    · obtain ⟨tb, ds, rfl⟩ := hT
      have : ¬ ((ds.length : Int) = 3) := by
        rw [tri_tup] at h3
        exact of_decide_eq_false h3
      simp [shBody, this]
    · have e1 : x.isT "tuple" = false := by rw [isT_tupX]; cases x <;> first | rfl | exact absurd ⟨_, _, rfl⟩ hT
      simp [shBody, hp, e1]
/-- rows one behind the other, the first behind e -/
def goes (s n : Int) : Int → List D → Bool
  | _, [] => true
  | e, x :: xs => goB s n e x && goes s n (toRow x).2.1.2 xs
theorem goes_apart {s n : Int} : ∀ (xs : List D) (e : Int), goes s n e xs = (xs.all (rowT s n) && ((match xs with | [] => true | x :: _ => decide (e < (toRow x).2.1.1)) && chainB (xs.map toRow)))
  | [], _ => rfl
  | [x], e => by simp [goes, goB, chainB]
  | x :: y :: xs, e => by
    rw [goes, goes_apart (y :: xs)]
    have : chainB ((x :: y :: xs).map toRow) = (decide ((toRow x).2.1.2 < (toRow y).2.1.1) && chainB ((y :: xs).map toRow)) := by simp [chainB]
    rw [this, List.all_cons]
    unfold goB
    show (rowT s n x && decide (e < (toRow x).2.1.1) && ((y :: xs).all (rowT s n) && (decide ((toRow x).2.1.2 < (toRow y).2.1.1) && chainB ((y :: xs).map toRow)))) = (rowT s n x && (y :: xs).all (rowT s n) && (decide (e < (toRow x).2.1.1) && (decide ((toRow x).2.1.2 < (toRow y).2.1.1) && chainB ((y :: xs).map toRow))))
    generalize (y :: xs).all (rowT s n) = A
    generalize rowT s n x = B
    generalize decide (e < (toRow x).2.1.1) = C
    cases A <;> cases B <;> cases C <;> rfl
theorem goes_zero {s n : Int} {tb : Bool} (xs : List D) : goes s n 0 xs = apartB s n (.tup tb xs) := by
  rw [goes_apart]
  show _ = (xs.all (rowT s n) && chainB (xs.map toRow))
  cases xs with
  | nil => rfl
  | cons x xs =>
    cases q : (x :: xs).all (rowT s n) with
    | false => rfl
    | true =>
      rw [List.all_cons, Bool.and_eq_true] at q
      obtain ⟨r, rfl, h⟩ := row_of q.1
      have : decide (0 < (toRow (encRow r)).2.1.1) = true := by
        rw [toRow_enc]; exact decide_eq_true (by have := h.1; omega)
      simp only [this, Bool.true_and]
theorem goes_nn {s n e : Int} {x : D} (h : goB s n e x = true) : 0 ≤ (toRow x).2.1.2 := by
  unfold goB at h
  rw [Bool.and_eq_true] at h
  obtain ⟨r, rfl, h'⟩ := row_of h.1
  rw [toRow_enc]
  have := h'.1; have := h'.2.1
  omega
theorem shLoop {s : Int} {ws : List (List Sp2)} {cs : List Int} {T : D} {m k : Nat} {B : Int} (hb : BkOk s ws) (hc : CsOk s cs) (hk : k ≤ 60) : ∀ (xs : List D), (∀ x ∈ xs, Th m B k x) → ∀ (f e : Int) (t3 t6 t7 t8 t9 : Sl), 0 ≤ e → t3.free = true → t6.free = true → t7.free = true → t8.free = true → t9.free = true →
    (goes s ws.length e xs = true → ∃ e' t3' t6' t7' t8' t9', sLoop (.nm 3) (shBody μ) xs (ES (encB μ s ws) (encL cs) T t3 f e t6 t7 t8 t9) = .ok (.nx, ES (encB μ s ws) (encL cs) T t3' (f + shownL ws cs (rowsN xs)) e' t6' t7' t8' t9')) ∧
    (goes s ws.length e xs = false → ∃ e2, sLoop (.nm 3) (shBody μ) xs (ES (encB μ s ws) (encL cs) T t3 f e t6 t7 t8 t9) = .ok (.ret .non, e2))
  | [], _, f, e, t3, t6, t7, t8, t9, h0, f3, f6, f7, f8, f9 => ⟨fun _ => ⟨e, t3, t6, t7, t8, t9, by simp [sLoop, shownL, rowsN]⟩, fun h => by cases h⟩
  | x :: xs, hx, f, e, t3, t6, t7, t8, t9, h0, f3, f6, f7, f8, f9 => by
    obtain ⟨b1, b2⟩ := shBody_ok (μ := μ) (T := T) hb hc hk (hx x List.mem_cons_self) f e h0 t6 t7 t8 t9 f6 f7 f8 f9
    have ha : Pt.asg (.nm 3) x (ES (encB μ s ws) (encL cs) T t3 f e t6 t7 t8 t9) = some (ES (encB μ s ws) (encL cs) T (.val x) f e t6 t7 t8 t9) := by simp [f3]
    cases q : goB s ws.length e x with
    | false =>
      obtain ⟨e2', b2⟩ := b2 q
      have : goes s ws.length e (x :: xs) = false := by simp [goes, q]
      rw [this]
      exact ⟨fun z => (nomatch z), fun _ => ⟨e2', by simp only [sLoop, ha, b2, R.of_some, R.bind_ok]⟩⟩
    | true =>
      have b1 := b1 q
      have ih := shLoop (T := T) hb hc hk xs (fun y hy => hx y (List.mem_cons_of_mem _ hy)) (f + (AW.within (wAt ws (toRow x).2.2.toNat) (toRow x).2.1.1 (toRow x).2.1.2 - AW.has cs (toRow x).2.1.1 (toRow x).2.1.2)) (toRow x).2.1.2 (.val x) (.val (.int (toRow x).2.1.1)) (.val (.int (toRow x).2.1.2)) (.val (.int (toRow x).2.2)) t9 (goes_nn q) rfl rfl rfl rfl f9
      have e1' : goes s ws.length e (x :: xs) = goes s ws.length (toRow x).2.1.2 xs := by simp [goes, q]
      have e3 : shownL ws cs (rowsN (x :: xs)) = (AW.within (wAt ws (toRow x).2.2.toNat) (toRow x).2.1.1 (toRow x).2.1.2 - AW.has cs (toRow x).2.1.1 (toRow x).2.1.2) + shownL ws cs (rowsN xs) := by simp [shownL, rowsN]
      rw [e1', e3, ← Int.add_assoc]
      have eS : sLoop (.nm 3) (shBody μ) (x :: xs) (ES (encB μ s ws) (encL cs) T t3 f e t6 t7 t8 t9) = sLoop (.nm 3) (shBody μ) xs (ES (encB μ s ws) (encL cs) T (.val x) (f + (AW.within (wAt ws (toRow x).2.2.toNat) (toRow x).2.1.1 (toRow x).2.1.2 - AW.has cs (toRow x).2.1.1 (toRow x).2.1.2)) (toRow x).2.1.2 (.val (.int (toRow x).2.1.1)) (.val (.int (toRow x).2.1.2)) (.val (.int (toRow x).2.2)) t9) := by
        simp only [sLoop, ha, b1, R.of_some, R.bind_ok]
      rw [eS]
      exact ih
theorem lshown_ok {s : Int} {ws : List (List Sp2)} {cs : List Int} {x : D} {m k : Nat} {B : Int} (hb : BkOk s ws) (hc : CsOk s cs) (hm : m ≤ 1000) (hk : k ≤ 60) (hx : Th m B k x) : f__law_shown μ [encB μ s ws, encL cs, x] = .ok (shownD s ws cs x, .non) := by
  have hp := hx.plain
  by_cases hT : ∃ tb ds, x = .tup tb ds
  · obtain ⟨tb, ds, rfl⟩ := hT
    cases k with
    | zero => simp [Th] at hx
    | succ k =>
      simp only [Th] at hx
      have L := shLoop (μ := μ) (T := .tup tb ds) hb hc (by omega) ds hx.2 0 0 .no .no .no .no .no (by omega) rfl rfl rfl rfl rfl
      have eb : b__law_shown μ = (sSeq (sIf (tNotD (tst (eIsT "tuple" (eVar 2)))) (sRet (eC .non)) sNx) (sSeq (sTgt (.tu [(.nm 4), (.nm 5)]) (eTup μ (aCons (eC (.int 0)) (aCons (eC (.int 0)) aNil)))) (sSeq (sFor (itS (eVar 2)) (.nm 3) (shBody μ)) (sRet (eVar 4))))) := rfl
      rw [goes_zero (tb := tb)] at L
      have es : shownD s ws cs (.tup tb ds) = if apartB s ws.length (.tup tb ds) then .int (shownL ws cs (rowsN ds)) else .non := rfl
      rw [es]
      generalize shBody μ = SB at L eb
      generalize encB μ s ws = BB at L
      cases q : apartB s ws.length (.tup tb ds) with
      | true =>
        obtain ⟨e', t3', t6', t7', t8', t9', L⟩ := L.1 q
        simp only [Int.zero_add] at L
        simp [f__law_shown, v_run, eb, startE, L]
      | false =>
        obtain ⟨e2', L⟩ := L.2 q
        simp [f__law_shown, v_run, eb, startE, L]
  · have e1 : x.isT "tuple" = false := by rw [isT_tupX]; cases x <;> first | rfl | exact absurd ⟨_, _, rfl⟩ hT
    have e2' : shownD s ws cs x = .non := by
      unfold shownD
      split
      · exact absurd ⟨_, _, rfl⟩ hT
      · rfl
    simp [f__law_shown, v_run, b__law_shown, startE, hp, e1, e2']
end
end DL

/-! ## QP -/
/-! QP: law's drawn windows. -/
namespace DL
open PySem PySem.Spec PyProof.Rows L2
section
variable {μ : Bool}
@[simp] theorem v_parO {i j : Nat} {fa fb : Den} {env : En} : sParO i j fa fb env = (fa env).bind fun x => (fb x.2).bind fun y => (R.of ((putO i x.1 y.2).bind fun e1 => putV j y.1 e1)).bind fun e2 => .ok (.nx, e2) := rfl
@[simp] theorem v_par3 {i j l : Nat} {F : DenL} {env : En} : sPar3 i j l F env = (F env).bind fun x => match x.1 with
  | [d, e, g] => (R.of ((putV i d x.2).bind fun e1 => (putV j e e1).bind fun e2 => putV l g e2)).bind fun e3 => .ok (.nx, e3)
  | _ => .stk := rfl
def drT : DenT := (tst (e2 pLe (eVar 3) (e2 pIx (eVar 1) (eC (.int 0)))))
def drB (m : Bool) : DenS := (sSeq (sSet 4 (eN pMin (aCons (e2 pIx (eVar 1) (eC (.int 0))) (aCons (e2 pAdd (eVar 3) (eCallO 0 2 (f__law_pick m) (aCons (eC (.int 4)) aNil))) aNil)))) (sSeq (sApp 2 (eTup m (aCons (eVar 3) (aCons (eVar 4) (aCons (eCallO 0 2 (f__law_pick m) (aCons (eN pLen (aCons (e2 pIx (eVar 1) (eC (.int 1))) aNil)) aNil)) aNil))))) (sSeq (sSet 3 (e2 pAdd (eVar 4) (eCallO 0 2 (f__law_one m) (aCons (fLst (aCons (eC (.int 1)) (aCons (eC (.int 1)) (aCons (eC (.int 2)) (aCons (eC (.int 3)) (aCons (eC (.int 0)) aNil)))))) aNil)))) (sIf (tst (e2 pGt (eLock 2 (eN pLen (aCons (eVar 2) aNil))) (eC (.int 20)))) (sRet (eLock 2 (eN (pTuple m) (aCons (eVar 2) aNil)))) sNx))))
def Row3 (μ : Bool) (x : D) : Prop := ∃ a b c : Int, x = .tup μ [.int a, .int b, .int c] ∧ 0 ≤ a ∧ a ≤ 99 ∧ 0 ≤ b ∧ b ≤ 99 ∧ 0 ≤ c ∧ c ≤ 99
theorem flat_rows {l : List D} (h : ∀ x ∈ l, Row3 μ x) : flatL l = true := by
  induction l with
  | nil => simp
  | cons x l ih =>
    obtain ⟨a, b, c, rfl, _⟩ := h x List.mem_cons_self
    simp [ih fun y hy => h y (List.mem_cons_of_mem _ hy)]
theorem row_th {l : List D} (h : ∀ x ∈ l, Row3 μ x) (hl : l.length ≤ 21) : Th 21 100 2 (.tup μ l) := by
  simp only [Th]
  refine ⟨hl, fun x hx => ?_⟩
  obtain ⟨a, b, c, rfl, _, _, _, _, _, _⟩ := h x hx
  simp [Th]; omega
theorem drT_ok {s : Int} {ws : List (List Sp2)} {rows : List D} {d : D} {h : Int} {t4 : Sl} : drT [.own d, .val (encB μ s ws), .own (.lst rows), .val (.int h), t4] = .ok (decide (h ≤ s), [.own d, .val (encB μ s ws), .own (.lst rows), .val (.int h), t4]) := by
  have i0 : pIx (encB μ s ws) (.int 0) = some (D.int s) := by simp [encB]
  simp [drT, i0]
theorem drB_ok {s n : Int} {ws : List (List Sp2)} {rows : List D} {d : D} {h : Int} {t4 : Sl} (hb : BkOk s ws) (hd : Dk n d) (hn : n ≤ 10000000) (hr : ∀ x ∈ rows, Row3 μ x) (hl : rows.length ≤ 20) (h0 : 1 ≤ h) (h1 : h ≤ s) (f4 : t4.free = true) :
    ∃ (x : D) (h' : Int) (u4 : Sl) (d' : D), Row3 μ x ∧ 1 ≤ h' ∧ u4.free = true ∧ Dk (n + 3) d' ∧ drB μ [.own d, .val (encB μ s ws), .own (.lst rows), .val (.int h), t4] =
      if 20 ≤ rows.length then .ok (.ret (.tup μ (rows ++ [x])), [.own d', .val (encB μ s ws), .own (.lst (rows ++ [x])), .val (.int h'), u4]) else .ok (.nx, [.own d', .val (encB μ s ws), .own (.lst (rows ++ [x])), .val (.int h'), u4]) := by
  have i0 : pIx (encB μ s ws) (.int 0) = some (D.int s) := by simp [encB]
  have i1 : pIx (encB μ s ws) (.int 1) = some (D.tup μ (ws.map (encW μ))) := by simp [encB]
  have hl1 := hb.l1
  have hl2 := hb.l2
  have hs2 := hb.s2
  obtain ⟨r, d1, e1', r0, r1, k1⟩ := pick_ok (μ := μ) hd (by omega) (s := 4) (by omega) (by omega)
  obtain ⟨w, d2, e2', w0, w1, k2⟩ := pick_ok (μ := μ) k1 (by omega) (s := (ws.length : Int)) (by omega) (by omega)
  obtain ⟨y, d3, e3', hy, k3⟩ := one_ok (μ := μ) (ds := [.int 1, .int 1, .int 2, .int 3, .int 0]) k2 (by omega) (by simp) (by simp)
  obtain ⟨z, rfl, z0, z1⟩ : ∃ z, y = .int z ∧ 0 ≤ z ∧ z ≤ 3 := by
    simp only [List.mem_cons, List.not_mem_nil, or_false] at hy
    rcases hy with rfl | rfl | rfl | rfl | rfl <;> exact ⟨_, rfl, by omega, by omega⟩
  have pm : pMin [.int s, .int (h + r)] = some (.int (if h + r < s then h + r else s)) := p_min2
  obtain ⟨m, hm, m0, m1⟩ : ∃ m : Int, (if h + r < s then h + r else s) = m ∧ 1 ≤ m ∧ m ≤ s := ⟨_, rfl, by split <;> omega, by split <;> omega⟩
  rw [hm] at pm
  have hx : Row3 μ (.tup μ [.int h, .int m, .int w]) := ⟨h, m, w, rfl, by omega, by omega, by omega, by omega, by omega, by omega⟩
  refine ⟨.tup μ [.int h, .int m, .int w], m + z, .val (.int m), d3, hx, by omega, rfl, k3.mono (by omega), ?_⟩
  have hfl : flatL (rows ++ [.tup μ [.int h, .int m, .int w]]) = true := flat_rows fun x hx' => by
    rcases List.mem_append.mp hx' with q | q
    · exact hr x q
    · rw [List.mem_singleton.mp q]; exact hx
  have hff := k3.ff
  by_cases q : 20 ≤ rows.length
  · have q' : (20 : Int) < (rows.length : Int) + 1 := by omega
    simp [drB, i0, i1, e1', e2', e3', pm, f4, big, q, q', hfl, hff, show rows.length < 1000000 by omega, k1.ff, k2.ff]
  · have q' : ¬ (20 : Int) < (rows.length : Int) + 1 := by omega
    simp [drB, i0, i1, e1', e2', e3', pm, f4, big, q, q', hfl, hff, show rows.length < 1000000 by omega, k1.ff, k2.ff]
theorem drW_ok {s : Int} {ws : List (List Sp2)} (hb : BkOk s ws) : ∀ (k f : Nat) (n : Int) (rows : List D) (d : D) (h : Int) (t4 : Sl), rows.length + k = 21 → 1 ≤ k → k < f → Dk n d → n + 3 * k ≤ 10000000 → (∀ x ∈ rows, Row3 μ x) → 1 ≤ h → t4.free = true →
    ∃ (rows' : List D) (d' : D) (h' : Int) (u4 : Sl), rows'.length ≤ 21 ∧ (∀ x ∈ rows', Row3 μ x) ∧ u4.free = true ∧ Dk (n + 3 * k) d' ∧
      (sWhile drT (drB μ) f [.own d, .val (encB μ s ws), .own (.lst rows), .val (.int h), t4] = .ok (.nx, [.own d', .val (encB μ s ws), .own (.lst rows'), .val (.int h'), u4]) ∨
       sWhile drT (drB μ) f [.own d, .val (encB μ s ws), .own (.lst rows), .val (.int h), t4] = .ok (.ret (.tup μ rows'), [.own d', .val (encB μ s ws), .own (.lst rows'), .val (.int h'), u4]))
  | 0, f, n, rows, d, h, t4, hk, h1, _, _, _, _, _, _ => by omega
  | k + 1, f, n, rows, d, h, t4, hk, h1, hf, hd, hn, hr, h0, f4 => by
    obtain ⟨f, rfl⟩ : ∃ g, f = g + 1 := ⟨f - 1, by omega⟩
    rw [while_succ, drT_ok]
    by_cases c : h ≤ s
    · obtain ⟨x, h', u4, d', hx, a1, a2, a3, e⟩ := drB_ok (μ := μ) (t4 := t4) hb hd (by omega) hr (by omega) h0 c f4
      have hr' : ∀ y ∈ rows ++ [x], Row3 μ y := fun y hy => by
        rcases List.mem_append.mp hy with q | q
        · exact hr y q
        · rw [List.mem_singleton.mp q]; exact hx
      by_cases q : 20 ≤ rows.length
      · rw [if_pos q] at e
        refine ⟨rows ++ [x], d', h', u4, by simp; omega, hr', a2, a3.mono (by omega), .inr ?_⟩
        simp only [R.bind_ok, c, decide_true, if_true, e]
      · rw [if_neg q] at e
        obtain ⟨rows', d2, h2, u2, b1, b2, b5, b3, b4⟩ := drW_ok hb k f (n + 3) (rows ++ [x]) d' h' u4 (by simp; omega) (by omega) (by omega) a3 (by omega) hr' a1 a2
        refine ⟨rows', d2, h2, u2, b1, b2, b5, b3.mono (by omega), ?_⟩
        simp only [R.bind_ok, c, decide_true, if_true, e]
        exact b4
    · refine ⟨rows, d, h, t4, by omega, hr, f4, hd.mono (by omega), .inl ?_⟩
      simp only [R.bind_ok, c, decide_false, Bool.false_eq_true, if_false]
theorem ldrawn_ok {s n : Int} {ws : List (List Sp2)} {d : D} (hb : BkOk s ws) (hd : Dk n d) (hn : n ≤ 1000000) : ∃ (rows : List D) (d' : D), f__law_drawn μ [d, encB μ s ws] = .ok (.tup μ rows, d') ∧ Th 21 100 2 (.tup μ rows) ∧ Dk (n + 70) d' := by
  obtain ⟨r, d1, e1', r0, r1, k1⟩ := pick_ok (μ := μ) hd (by omega) (s := 3) (by omega) (by omega)
  obtain ⟨rows, d2, h', u4, a1, a2, a5, a3, a4⟩ := drW_ok (μ := μ) (ws := ws) hb 21 1000000 (n + 1) [] d1 (1 + r) .no rfl (by omega) (by omega) k1 (by omega) (fun x hx => by cases hx) (by omega) rfl
  have eb : b__law_drawn μ = (sSeq (sParO 2 3 (fLst aNil) (e2 pAdd (eC (.int 1)) (eCallO 0 2 (f__law_pick μ) (aCons (eC (.int 3)) aNil)))) (sSeq (sWhile drT (drB μ) 1000000) (sRet (eLock 2 (eN (pTuple μ) (aCons (eVar 2) aNil)))))) := rfl
  have hfl := flat_rows a2
  have hff := a3.ff
  refine ⟨rows, d2, ?_, row_th a2 a1, a3.mono (by omega)⟩
  generalize sWhile drT (drB μ) 1000000 = WH at a4 eb
  generalize encB μ s ws = BB' at a4
  have a6 : offF [u4] = true := by cases u4 <;> first | rfl | cases a5
  rcases a4 with a4 | a4 <;> simp [a6, f__law_drawn, v_run, eb, startE, e1', a4, hfl, hff]
end
/-! ### for all laws -/
def cutG {α : Type} (l : List α) (lo hi : Option Int) : List α := (l.drop (HT.sIx l.length 0 lo)).take (HT.sIx l.length l.length hi - HT.sIx l.length 0 lo)
theorem cut_map {α : Type} (l : List α) (f : α → D) (lo hi : Option Int) : cutD (l.map f) lo hi = (cutG l lo hi).map f := by
  unfold cutD cutG
  rw [List.length_map, List.map_take, List.map_drop]
theorem cutG_mem {α : Type} {l : List α} {lo hi : Option Int} {x : α} (h : x ∈ cutG l lo hi) : x ∈ l := List.mem_of_mem_drop (List.mem_of_mem_take h)
theorem cutG_len {α : Type} (l : List α) (k : Nat) : (cutG l none (some (k : Int))).length ≤ k := by
  unfold cutG
  have : HT.sIx l.length l.length (some (k : Int)) ≤ k := by unfold HT.sIx; simp; rw [if_neg (by omega)]; omega
  rw [List.length_take]; omega
def BB : Int := 10000000000000000000000000000000
abbrev ThC (x : D) : Prop := Th 60 BB 5 x
theorem thc {m : Nat} {B : Int} {k : Nat} {x : D} (hm : m ≤ 60) (hB : B ≤ BB) (hk : k ≤ 5) (h : Th m B k x) : ThC x := h.mono hm hB hk
theorem pNe_of {a b : D} {q : Bool} (h : pEq a b = some (.bl q)) : pNe a b = some (.bl (!q)) := by
  have : pNe a b = (pEq a b).map fun d => match d with | .bl b => .bl (!b) | d => d := by
    unfold pNe pEq
    rw [Option.map_map]; rfl
  rw [this, h]; rfl
section
variable {μ : Bool}
theorem spo {m : Nat} {B n : Int} {x d : D} (hm : m ≤ 100) (hB : 16 ≤ B) (hB2 : B ≤ 10 ^ 40) (hx : Th m B 4 x) (hd : Dk n d) (hn : n ≤ 10000000) : ∃ y d', f__law_spoilt μ [d, x] = .ok (y, d') ∧ Th (m + 1) (B + 1) 4 y ∧ Dk (n + 9) d' := by
  obtain ⟨y, d', e, h1, h2⟩ := spoilt_ok (μ := μ) (by omega) hB hB2 4 12 n x d (by omega) hx hd (by omega)
  exact ⟨y, d', e, h1, h2.mono (by omega)⟩
theorem lroom_gen2 {n s M : Int} {ws : List (List Sp2)} {d : D} (h : Dk n d) (hn : n ≤ 1000000) (hs : 1 ≤ s) (hs2 : s ≤ 16) (hM : 1 ≤ M) (hM2 : M ≤ 99) : ∃ cs d', f__law_room μ [d, encB μ s ws, .int M] = .ok (encR μ (roomOf cs), d') ∧ CsOk s cs ∧ (∀ x ∈ cs, x ≤ M) ∧ Dk (n + 40) d' := by
  have hsm : small s = true := small_of (by omega)
  obtain ⟨cs, d2, q1, q2, q3, q4⟩ := comp_gen (it := itR1 (aCons (e2 pIx (eVar 1) (eC (.int 0))) aNil)) (elt := (eCallO 0 2 (f__law_one μ) (aCons (fLst (aCons (eC (.int 0)) (aCons (eC (.int 0)) (aCons (eC (.int 1)) (aCons (eC (.int 1)) (aCons (eCallO 0 2 (f__law_pick μ) (aCons (e2 pAdd (eVar 2) (eC (.int 1))) aNil)) aNil)))))) aNil)))
    (env := [.own d, .val (encB μ s ws), .val (.int M), .no]) (xs := rgI 0 s.toNat) (k := 2) (N := 2000000) (d1 := d) (i := 3) (s := .no) (fun d => [.own d, .val (encB μ s ws), .val (.int M), .no]) D.int (fun c => 0 ≤ c ∧ c ≤ M)
    (by simp [hsm, encB]) (by rw [rgI_len]; unfold big; omega) (fun d => rfl) rfl h (by omega) (by rw [rgI_len]; omega) (fun x hx j d hd hj => by
      obtain ⟨r, d1, g1, r0, r1, h1⟩ := pick_ok (μ := μ) hd (by omega) (s := M + 1) (by omega) (by omega)
      obtain ⟨z, d2, g2, hz, h2⟩ := one_ok (μ := μ) (ds := [.int 0, .int 0, .int 1, .int 1, .int r]) h1 (by omega) (by simp) (by simp)
      obtain ⟨c, rfl, c0, c1⟩ : ∃ c : Int, z = .int c ∧ 0 ≤ c ∧ c ≤ M := by
        simp only [List.mem_cons, List.not_mem_nil, or_false] at hz
        rcases hz with rfl | rfl | rfl | rfl | rfl <;> exact ⟨_, rfl, by omega, by omega⟩
      exact ⟨c, d2, by simp [g1, g2], ⟨c0, c1⟩, h2.mono (by omega)⟩)
  rw [rgI_len] at q2 q4
  have g3 := lroom_of (μ := μ) (cs := cs) (by omega)
  exact ⟨cs, d2, by simp [f__law_room, v_run, b__law_room, startE, q1, g3], ⟨by omega, fun x hx => ⟨(q3 x hx).1, by have := (q3 x hx).2; omega⟩⟩, fun x hx => (q3 x hx).2, q4.mono (by omega)⟩
end
/-! ### the rows of apart -/
theorem trace_len (M : Nat → Option Sp2) : ∀ (f h : Nat), (trace M f h).length ≤ f
  | 0, _ => by simp [trace]
  | f + 1, h => by
    unfold trace
    by_cases z : h = 0
    · rw [if_pos z]; simp
    · rw [if_neg z]
      cases M h with
      | none => have := trace_len M f (h - 1); simp only; omega
      | some p => have := trace_len M f (p.1 - 1).toNat; simp only [List.length_cons]; omega
theorem apartL_len {s : Int} {ws : List (List Sp2)} {cs : List Int} : (apartL s ws cs).length ≤ s.toNat := by
  unfold apartL
  rw [List.length_reverse]
  exact trace_len _ _ _
theorem apartL_mem {s : Int} {ws : List (List Sp2)} {cs : List Int} (hb : BkOk s ws) {p : Sp2} (h : p ∈ apartL s ws cs) : 1 ≤ p.1 ∧ p.1 ≤ p.2 ∧ p.2 ≤ s := by
  have h1 := hb.s1
  unfold apartL at h
  have := trace_mem _ _ _ p (List.mem_reverse.mp h)
  omega
def rowsA (s : Int) (ws : List (List Sp2)) (cs : List Int) : List D := (apartL s ws cs).map (encR3 ws)
def rowA (ws : List (List Sp2)) (p : Sp2) : Bool × Sp2 × Int := (false, p, (askI ws p : Nat))
theorem rowA_enc (ws : List (List Sp2)) (p : Sp2) : encRow (rowA ws p) = encR3 ws p := rfl
theorem toRow_A (ws : List (List Sp2)) (p : Sp2) : toRow (encR3 ws p) = rowA ws p := rfl
theorem rowA_ok {s : Int} {ws : List (List Sp2)} {p : Sp2} (hb : BkOk s ws) (h : 1 ≤ p.1 ∧ p.1 ≤ p.2 ∧ p.2 ≤ s) : RowOk s ws.length (rowA ws p) := by
  have := (askI_spec hb p).2.1
  simp only [RowOk, rowA]
  omega
theorem chain_of {K : Int → Int → Int} {s : Int} (g : Sp2 → Bool × Sp2 × Int) (hg : ∀ p, (g p).2.1 = p) : ∀ (l : List Sp2) (e : Int), AW.apartK K s e l → chainB (l.map g) = true
  | [], _, _ => rfl
  | [p], _, _ => rfl
  | p :: q :: l, e, h => by
    obtain ⟨a, b, c, d⟩ := h
    have ih := chain_of g hg (q :: l) p.2 d
    have : chainB ((p :: q :: l).map g) = (decide (p.2 < q.1) && chainB ((q :: l).map g)) := by simp [chainB, hg]
    rw [this, ih, Bool.and_true]
    exact decide_eq_true d.1
theorem rowsA_apart {s : Int} {ws : List (List Sp2)} {cs : List Int} (hb : BkOk s ws) : apartB s ws.length (.tup false (rowsA s ws cs)) = true := by
  have h1 := hb.s1
  have h : AW.apartK (lackK ws cs) s 0 (apartL s ws cs) := trace_apart (lackK ws cs) (S := s) s.toNat s.toNat (by omega)
  have e : (rowsA s ws cs).map toRow = (apartL s ws cs).map (rowA ws) := by
    unfold rowsA
    rw [List.map_map]; rfl
  show ((rowsA s ws cs).all (rowT s ws.length) && chainB ((rowsA s ws cs).map toRow)) = true
  rw [e, chain_of (rowA ws) (fun _ => rfl) _ 0 h, Bool.and_true, List.all_eq_true]
  intro x hx
  obtain ⟨p, hp, rfl⟩ := List.mem_map.mp hx
  exact rowT_enc (rowA_ok hb (apartL_mem hb hp))
theorem rowsA_shown {s : Int} {ws : List (List Sp2)} {cs : List Int} (hb : BkOk s ws) : shownD s ws cs (.tup false (rowsA s ws cs)) = .int (manyC s ws cs) := by
  show (if apartB s ws.length (.tup false (rowsA s ws cs)) then _ else _) = _
  rw [rowsA_apart hb, if_pos rfl]
  have e : rowsN (rowsA s ws cs) = (apartL s ws cs).map fun p => (p, askI ws p) := by
    unfold rowsN rowsA
    rw [List.map_map, List.map_map]
    refine List.map_congr_left fun p _ => ?_
    show ((p, ((askI ws p : Nat) : Int).toNat) : Sp2 × Nat) = _
    rw [Int.toNat_natCast]
  rw [e, apart_shown hb]
theorem rowsA_th {s : Int} {ws : List (List Sp2)} {cs : List Int} (hb : BkOk s ws) : ∀ x ∈ rowsA s ws cs, Th 20 100 1 x := by
  intro x hx
  obtain ⟨p, hp, rfl⟩ := List.mem_map.mp hx
  have a := apartL_mem hb hp
  have b := (askI_spec hb p).2.1
  have c := hb.l2
  have d := hb.s2
  simp [Th, encR3]; omega
theorem rowsA_len {s : Int} {ws : List (List Sp2)} {cs : List Int} (hb : BkOk s ws) : (rowsA s ws cs).length ≤ 16 := by
  have := apartL_len (s := s) (ws := ws) (cs := cs)
  have := hb.s2
  unfold rowsA
  rw [List.length_map]; omega
/-- nothing shows more than there is to buy -/
theorem shownD_le {s : Int} {ws : List (List Sp2)} {cs : List Int} (hb : BkOk s ws) (x : D) : shownD s ws cs x = .non ∨ ∃ i : Int, shownD s ws cs x = .int i ∧ i ≤ manyC s ws cs := by
  cases q : apartB s ws.length x with
  | false =>
    left
    unfold shownD
    split
    · rw [q]; rfl
    · rfl
  | true =>
    right
    obtain ⟨tb, ds, rfl⟩ : ∃ tb ds, x = .tup tb ds := by
      cases x <;> first | exact ⟨_, _, rfl⟩ | cases q
    have q' := q
    simp only [apartB, Bool.and_eq_true] at q'
    obtain ⟨rs, rfl, hrs⟩ := rows_of q'.1
    have e4 : (rs.map encRow).map toRow = rs := by rw [List.map_map]; exact List.map_id' rs
    have h2 := q'.2
    rw [e4] at h2
    refine ⟨shownL ws cs (rowsN (rs.map encRow)), ?_, ?_⟩
    · show (if apartB s ws.length (.tup tb (rs.map encRow)) then _ else _) = _
      rw [q]; rfl
    · have eN : rowsN (rs.map encRow) = rs.map fun r => (r.2.1, r.2.2.toNat) := by unfold rowsN; rw [e4]
      rw [eN]
      refine shown_le hb _ (fun r hr => ?_) ?_
      · obtain ⟨r', hr', rfl⟩ := List.mem_map.mp hr
        obtain ⟨_, _, _, a, b⟩ := hrs r' hr'
        show r'.2.2.toNat < ws.length
        omega
      · rw [List.map_map]
        exact apart_chain rs 0 hrs h2 fun r hr => by
          have := (hrs r (List.mem_of_mem_head? hr)).1
          omega
end DL

/-! ## QS -/
/-! QS: who may still come (borne). -/
namespace DL
open PySem PySem.Spec PyProof.Rows L2
@[simp] theorem p_any {bs : List Bool} : pAny [.lst (bs.map D.bl)] = some (.bl (bs.any id)) := by
  have : asB (bs.map D.bl) = some bs := by
    induction bs with
    | nil => rfl
    | cons b bs ih => simp [asB, ih]
  simp [pAny, this]
def fullL (s : Int) (cs : List Int) (w : List Sp2) : List Sp2 := (wins s).filter fun p => decide (AW.within w p.1 p.2 = AW.has cs p.1 p.2)
def freeB (s : Int) (cs : List Int) (w : List Sp2) (p : Sp2) : Bool := !(fullL s cs w).any fun q => decide (q.1 ≤ p.1) && decide (p.2 ≤ q.2)
/-- the spans that one more child may have -/
def borneL (s : Int) (cs : List Int) (w : List Sp2) : List Sp2 := (wins s).filter (freeB s cs w)
theorem within_snoc (w : List Sp2) (p : Sp2) (l h : Int) : AW.within (w ++ [p]) l h = AW.within w l h + (if l ≤ p.1 ∧ p.2 ≤ h then 1 else 0) := by
  rw [AW.within_append, AW.within_cons, AW.within_nil]; omega
theorem free_iff {s : Int} {cs : List Int} {w : List Sp2} {p : Sp2} (h : clothesB s cs w = true) (hp : 1 ≤ p.1 ∧ p.1 ≤ p.2 ∧ p.2 ≤ s) : freeB s cs w p = clothesB s cs (w ++ [p]) := by
  have H := clothesB_iff.mp h
  rw [Bool.eq_iff_iff]
  constructor
  · intro q
    rw [clothesB_iff]
    intro l k h1 h2 h3
    have a := H l k h1 h2 h3
    show AW.within (w ++ [p]) l k ≤ AW.has cs l k
    have a : AW.within w l k ≤ AW.has cs l k := a
    rw [within_snoc]
    by_cases z : l ≤ p.1 ∧ p.2 ≤ k
    · rw [if_pos z]
      by_cases e : AW.within w l k = AW.has cs l k
      · exfalso
        unfold freeB at q
        rw [Bool.not_eq_true', ← Bool.not_eq_true, List.any_eq_true] at q
        refine q ⟨(l, k), List.mem_filter.mpr ⟨mem_wins.mpr ⟨h1, h2, h3⟩, decide_eq_true e⟩, ?_⟩
        simp [z.1, z.2]
      · omega
    · rw [if_neg z]; omega
  · intro q
    have Q := clothesB_iff.mp q
    unfold freeB
    rw [Bool.not_eq_true', ← Bool.not_eq_true, List.any_eq_true]
    rintro ⟨r, hr, hz⟩
    obtain ⟨hr1, hr2⟩ := List.mem_filter.mp hr
    obtain ⟨b1, b2, b3⟩ := mem_wins.mp hr1
    have e := of_decide_eq_true hr2
    rw [Bool.and_eq_true, decide_eq_true_iff, decide_eq_true_iff] at hz
    have a : AW.within (w ++ [p]) r.1 r.2 ≤ AW.has cs r.1 r.2 := Q r.1 r.2 b1 b2 b3
    rw [within_snoc, if_pos hz] at a
    omega
section
variable {μ : Bool}
theorem needWi_no {s : Int} {ws : List (List Sp2)} {x : D} (hp : x.plain = true) (h : fromB 0 (ws.length - 1) x = false) : f_need_winter μ [encB μ s ws, x] = .err "NoWinter" := by
  have f1 := from_ok (μ := μ) 0 (ws.length - 1) hp
  rw [h] at f1
  have i1 : pIx (encB μ s ws) (.int 1) = some (D.tup μ (ws.map (encW μ))) := by simp [encB]
  simp [f_need_winter, v_run, b_need_winter, startE, i1, f1]
theorem borne_no {s : Int} {ws : List (List Sp2)} {cs : List Int} {x : D} (hb : BkOk s ws) (hc : CsOk s cs) (hp : x.plain = true) (h : fromB 0 (ws.length - 1) x = false) : f_borne μ [encB μ s ws, encR μ (roomOf cs), x] = .err "NoWinter" := by
  have h1 := needR_ok (μ := μ) hb hc
  have h2 := needWi_no (μ := μ) (s := s) hp h
  simp [f_borne, v_run, b_borne, startE, h1, h2]
theorem borne_unserved {s : Int} {ws : List (List Sp2)} {cs : List Int} {i : Nat} (hb : BkOk s ws) (hc : CsOk s cs) (hi : i < ws.length) (h : servesB s cs ws = false) : f_borne μ [encB μ s ws, encR μ (roomOf cs), .int (i : Int)] = .err "NotServed" := by
  have h1 := needR_ok (μ := μ) hb hc
  have h2 := needWi_ok (μ := μ) (s := s) hi
  have h3 := serving_ok (μ := μ) hb hc
  rw [h] at h3
  simp [f_borne, v_run, b_borne, startE, h1, h2, h3]
abbrev EBo (B R : D) (i : Int) (fu : D) (fo : List D) (co sp : D) (t7 t8 : Sl) : En := [.val B, .val R, .val (.int i), .val fu, .own (.lst fo), .val co, .val sp, t7, t8, .no]
def boB (m : Bool) : DenS := (sIf (tNotD (tst (eN pAny (aCons (fComp (itS (eVar 3)) (.nm 9) [9] tT (eAnd (e2 pLe (e2 pIx (eVar 9) (eC (.int 0))) (eVar 7)) (e2 pLe (eVar 8) (e2 pIx (eVar 9) (eC (.int 1)))))) aNil)))) (sApp 4 (eTup m (aCons (eVar 7) (aCons (eVar 8) aNil)))) sNx)
theorem boB_ok {s : Int} {cs : List Int} {w : List Sp2} {B RR co sp : D} {i : Int} {acc : List Sp2} {p : Sp2} (hs : s ≤ 16) (ha : acc.length < 100000) :
    boB μ (EBo B RR i (.lst ((fullL s cs w).map (encP μ))) (acc.map (encP μ)) co sp (.val (.int p.1)) (.val (.int p.2))) = .ok (.nx, EBo B RR i (.lst ((fullL s cs w).map (encP μ))) ((acc ++ [p].filter (freeB s cs w)).map (encP μ)) co sp (.val (.int p.1)) (.val (.int p.2))) := by
  have hl : (fullL s cs w).length ≤ 300 := Nat.le_trans (List.length_filter_le _ _) (wins_len hs)
  have c1 := comp_nmT (it := itS (eVar 3)) (elt := eAnd (e2 pLe (e2 pIx (eVar 9) (eC (.int 0))) (eVar 7)) (e2 pLe (eVar 8) (e2 pIx (eVar 9) (eC (.int 1))))) (i := 9)
    (env := EBo B RR i (.lst ((fullL s cs w).map (encP μ))) (acc.map (encP μ)) co sp (.val (.int p.1)) (.val (.int p.2))) (env1 := EBo B RR i (.lst ((fullL s cs w).map (encP μ))) (acc.map (encP μ)) co sp (.val (.int p.1)) (.val (.int p.2)))
    (fullL s cs w) (encP μ) (fun q => D.bl (decide (q.1 ≤ p.1) && decide (p.2 ≤ q.2))) (s := .no) (by simp) (by unfold big; omega) rfl rfl (fun q hq => by
      by_cases z : q.1 ≤ p.1 <;> simp [encP, z])
  have e : (fullL s cs w).map (fun q => D.bl (decide (q.1 ≤ p.1) && decide (p.2 ≤ q.2))) = ((fullL s cs w).map fun q => decide (q.1 ≤ p.1) && decide (p.2 ≤ q.2)).map D.bl := by rw [List.map_map]; rfl
  rw [e] at c1
  have pa := p_any (bs := (fullL s cs w).map fun q => decide (q.1 ≤ p.1) && decide (p.2 ≤ q.2))
  have e2' : ((fullL s cs w).map fun q => decide (q.1 ≤ p.1) && decide (p.2 ≤ q.2)).any id = !freeB s cs w p := by
    unfold freeB
    rw [List.any_map, Bool.not_not]; rfl
  rw [e2'] at pa
  generalize ((fullL s cs w).map fun q => decide (q.1 ≤ p.1) && decide (p.2 ≤ q.2)).map D.bl = Z at c1 pa
  cases q : freeB s cs w p with
  | true => rw [q] at pa; simp [boB, c1, pa, q, big, show acc.length < 1000000 by omega, encP]
  | false => rw [q] at pa; simp [boB, c1, pa, q]
theorem boL_ok {s : Int} {cs : List Int} {w : List Sp2} {B RR co sp : D} {i : Int} (hs : s ≤ 16) : ∀ (ps acc : List Sp2) (t7 t8 : Sl), t7.free = true → t8.free = true → acc.length + ps.length < 100000 →
    ∃ u7 u8 : Sl, sLoop (.tu [.nm 7, .nm 8]) (boB μ) (ps.map (encP μ)) (EBo B RR i (.lst ((fullL s cs w).map (encP μ))) (acc.map (encP μ)) co sp t7 t8) = .ok (.nx, EBo B RR i (.lst ((fullL s cs w).map (encP μ))) ((acc ++ ps.filter (freeB s cs w)).map (encP μ)) co sp u7 u8)
  | [], acc, t7, t8, f7, f8, _ => ⟨t7, t8, by simp [sLoop]⟩
  | p :: ps, acc, t7, t8, f7, f8, hl => by
    rw [List.length_cons] at hl
    have g := boB_ok (μ := μ) (s := s) (cs := cs) (w := w) (B := B) (RR := RR) (co := co) (sp := sp) (i := i) (acc := acc) (p := p) hs (by omega)
    have hf : ([p].filter (freeB s cs w)).length ≤ 1 := List.length_filter_le _ _
    obtain ⟨u7, u8, ih⟩ := boL_ok (w := w) (cs := cs) (B := B) (RR := RR) (co := co) (sp := sp) (i := i) hs ps (acc ++ [p].filter (freeB s cs w)) (.val (.int p.1)) (.val (.int p.2)) rfl rfl (by rw [List.length_append]; omega)
    refine ⟨u7, u8, ?_⟩
    have ha : Pt.asg (.tu [.nm 7, .nm 8]) (encP μ p) (EBo B RR i (.lst ((fullL s cs w).map (encP μ))) (acc.map (encP μ)) co sp t7 t8) = some (EBo B RR i (.lst ((fullL s cs w).map (encP μ))) (acc.map (encP μ)) co sp (.val (.int p.1)) (.val (.int p.2))) := by simp [encP, f7, f8]
    have e : (p :: ps).filter (freeB s cs w) = [p].filter (freeB s cs w) ++ ps.filter (freeB s cs w) := by rw [← List.filter_append]; rfl
    rw [e, ← List.append_assoc]
    simp only [List.map_cons, sLoop, ha, R.of_some, R.bind_ok, g]
    exact ih
theorem borne_ok {s : Int} {ws : List (List Sp2)} {cs : List Int} {i : Nat} (hb : BkOk s ws) (hc : CsOk s cs) (hi : i < ws.length) (h : servesB s cs ws = true) : f_borne μ [encB μ s ws, encR μ (roomOf cs), .int (i : Int)] = .ok (.lst ((borneL s cs (wAt ws i)).map (encP μ)), .non) := by
  have h1 := needR_ok (μ := μ) hb hc
  have h2 := needWi_ok (μ := μ) (s := s) hi
  have h3 := serving_ok (μ := μ) hb hc
  have h4 := coats_ok (μ := μ) (ws := ws) hb.s2 hb.s1 hc
  have h5 := windows_ok (μ := μ) hb.s1 hb.s2
  rw [h] at h3
  have hlw := wins_len hb.s2
  have i0 : pIx (encB μ s ws) (.int 0) = some (D.int s) := by simp [encB]
  have i1 : pIx (encB μ s ws) (.int 1) = some (D.tup μ (ws.map (encW μ))) := by simp [encB]
  have g0 := ws_at (μ := μ) (ws := ws) (w := (i : Int)) (by omega) (by omega)
  rw [Int.toNat_natCast] at g0
  have hw : (wAt ws i).length ≤ 8 := by
    have := (ws_get hb (w := (i : Int)) (by omega) (by omega)).1
    rwa [Int.toNat_natCast] at this
  have c1 := comp_nm (it := itS (eCall 1 (f_windows_of μ) (aCons (e2 pIx (eVar 0) (eC (.int 0))) aNil))) (cond := tst (e2 pEq (eCall 3 (f_within μ) (aCons (eVar 6) (aCons (e2 pIx (eVar 9) (eC (.int 0))) (aCons (e2 pIx (eVar 9) (eC (.int 1))) aNil)))) (eCall 3 (f_has μ) (aCons (eVar 5) (aCons (e2 pIx (eVar 9) (eC (.int 0))) (aCons (e2 pIx (eVar 9) (eC (.int 1))) aNil)))))) (elt := eVar 9) (i := 9)
    (env := [.val (encB μ s ws), .val (encR μ (roomOf cs)), .val (.int (i : Int)), .no, .no, .val (encL cs), .val (encW μ (wAt ws i)), .no, .no, .no]) (env1 := [.val (encB μ s ws), .val (encR μ (roomOf cs)), .val (.int (i : Int)), .no, .no, .val (encL cs), .val (encW μ (wAt ws i)), .no, .no, .no])
    (wins s) (encP μ) (fun p => decide (AW.within (wAt ws i) p.1 p.2 = AW.has cs p.1 p.2)) (encP μ) (s := .no) (by simp [i0, h5]) (by unfold big; omega) rfl rfl (fun p hp => ⟨by
      obtain ⟨b1, b2, b3⟩ := mem_wins.mp hp
      have k1 := within_ok (μ := μ) (tb := μ) (w := wAt ws i) (l := p.1) (h := p.2) (by omega)
      have k1 : f_within μ [encW μ (wAt ws i), .int p.1, .int p.2] = _ := k1
      have k2 := has_ok (μ := μ) (cs := cs) b1 b2 (by have := hc.len; omega)
      have e0 : pIx (encP μ p) (.int 0) = some (.int p.1) := by simp [encP]
      have e1 : pIx (encP μ p) (.int 1) = some (.int p.2) := by simp [encP]
      simp [e0, e1, k1, k2], fun _ => by simp⟩)
  have c1 : fComp _ _ _ _ _ _ = .ok (.lst ((fullL s cs (wAt ws i)).map (encP μ)), _) := c1
  obtain ⟨u7, u8, L⟩ := boL_ok (μ := μ) (s := s) (cs := cs) (w := wAt ws i) (B := encB μ s ws) (RR := encR μ (roomOf cs)) (co := encL cs) (sp := encW μ (wAt ws i)) (i := (i : Int)) hb.s2 (wins s) [] .no .no rfl rfl (by simp; omega)
  rw [List.nil_append] at L
  have L : sLoop (.tu [.nm 7, .nm 8]) (boB μ) ((wins s).map (encP μ)) [.val (encB μ s ws), .val (encR μ (roomOf cs)), .val (.int (i : Int)), .val (.lst ((fullL s cs (wAt ws i)).map (encP μ))), .own (.lst []), .val (encL cs), .val (encW μ (wAt ws i)), .no, .no, .no] = .ok (.nx, EBo (encB μ s ws) (encR μ (roomOf cs)) i (.lst ((fullL s cs (wAt ws i)).map (encP μ))) ((borneL s cs (wAt ws i)).map (encP μ)) (encL cs) (encW μ (wAt ws i)) u7 u8) := L
  have eb : b_borne μ = (sSeq (sExp (eCall 2 (f_need_room μ) (aCons (eVar 0) (aCons (eVar 1) aNil)))) (sSeq (sExp (eCall 2 (f_need_winter μ) (aCons (eVar 0) (aCons (eVar 2) aNil)))) (sSeq (sIf (tNotD (tst (eCall 2 (f_serving μ) (aCons (eVar 0) (aCons (eVar 1) aNil))))) (sErr "NotServed") sNx) (sSeq (sTgt (.tu [(.nm 5), (.nm 6)]) (eTup μ (aCons (eCall 2 (f_coats_of μ) (aCons (eVar 0) (aCons (eVar 1) aNil))) (aCons (e2 pIx (e2 pIx (eVar 0) (eC (.int 1))) (eVar 2)) aNil)))) (sSeq (sSet 3 (fComp (itS (eCall 1 (f_windows_of μ) (aCons (e2 pIx (eVar 0) (eC (.int 0))) aNil))) (.nm 9) [9] (tst (e2 pEq (eCall 3 (f_within μ) (aCons (eVar 6) (aCons (e2 pIx (eVar 9) (eC (.int 0))) (aCons (e2 pIx (eVar 9) (eC (.int 1))) aNil)))) (eCall 3 (f_has μ) (aCons (eVar 5) (aCons (e2 pIx (eVar 9) (eC (.int 0))) (aCons (e2 pIx (eVar 9) (eC (.int 1))) aNil)))))) (eVar 9))) (sSeq (sOwn 4 (fLst aNil)) (sSeq (sFor (itS (eCall 1 (f_windows_of μ) (aCons (e2 pIx (eVar 0) (eC (.int 0))) aNil))) (.tu [(.nm 7), (.nm 8)]) (boB μ)) (sRetO 4)))))))) := rfl
  generalize boB μ = BB' at L eb
  generalize encB μ s ws = EB at *
  simp [f_borne, v_run, eb, startE, h1, h2, h3, h4, h5, i0, i1, g0, c1, L, -v_atI]
end
end DL

/-! ## L08 -/
/-! L08: the plain law of k08. The z8 functions were printed by cut2.py out of G08 (b_law). -/
namespace DL
open PySem PySem.Spec PyProof.Rows L2
def z8_2 (m : Bool) : DenS := (sOwn 2 (eCall 2 (f__law_deck m) (aCons (eVar 1) (aCons (eC (.int 8)) aNil))))
def z8_3 (m : Bool) : DenS := (sSet 3 (eCallO 2 4 (f__law_book m) (aCons (eCallO 2 2 (f__law_one m) (aCons (fLst (aCons (eC (.int 4)) (aCons (eC (.int 16)) aNil))) aNil)) (aCons (eC (.int 4)) (aCons (eC (.int 7)) aNil)))))
def z8_4 (m : Bool) : DenS := (sSet 4 (eCallO 2 3 (f__law_room m) (aCons (eVar 3) (aCons (eC (.int 2)) aNil))))
def z8_5 (m : Bool) : DenS := (sFz 2)
def z8_6 (m : Bool) : DenS := (sSet 5 (fComp (itZip (aCons (eCall 2 (f__law_coats m) (aCons (eVar 3) (aCons (eVar 4) aNil))) (aCons (eCall 2 (f__law_coats m) (aCons (eVar 3) (aCons (eCall 2 (f_to_buy m) (aCons (eVar 3) (aCons (eVar 4) aNil))) aNil))) aNil))) (.tu [(.nm 12) , (.nm 13)]) [12, 13] tT (e2 pAdd (eVar 12) (eVar 13))))
def z8_7 (m : Bool) : DenS := (sSet 6 (eCall 1 (f__law_room_of m) (aCons (eVar 5) aNil)))
def z8_9 (m : Bool) : DenS := (sSet 10 (fComp (itS (eCall 1 (f__law_windows m) (aCons (e2 pIx (eVar 3) (eC (.int 0))) aNil))) (.nm 14) [14] (tst (eCall 2 (f__law_clothed m) (aCons (eVar 5) (aCons (e2 pAdd (eVar 9) (eTup m (aCons (eVar 14) aNil))) aNil)))) (eVar 14)))
def z8_10 (m : Bool) : DenS := (sOwn 11 (eCall 3 (f_borne m) (aCons (eVar 3) (aCons (eVar 6) (aCons (eVar 8) aNil)))))
def z8_11 (m : Bool) : DenS := (sIf (tNotD (tst (eLock 11 (eCall 2 (f__law_same m) (aCons (eVar 11) (aCons (eVar 10) aNil)))))) (sRet (eC (.bl false))) sNx)
def z8_12 (m : Bool) : DenS := (sApp 11 (eC (.int 1)))
def z8_13 (m : Bool) : DenS := (sFz 11)
def z8_B8 (m : Bool) : DenS := (sSeq (z8_9 m) (sSeq (z8_10 m) (sSeq (z8_11 m) (sSeq (z8_12 m) (z8_13 m)))))
def z8_8 (m : Bool) : DenS := sFor (itEnum (aCons (e2 pIx (eVar 3) (eC (.int 1))) aNil)) (.tu [(.nm 8) , (.nm 9)]) (z8_B8 m)
def z8_14 (m : Bool) : DenS := (sFor (itS (fLst (aCons (eC .non) (aCons (eC (.bl true)) (aCons (e1 pNeg (eC (.int 1))) (aCons (eN pLen (aCons (e2 pIx (eVar 3) (eC (.int 1))) aNil)) aNil)))))) (.nm 7) (sIf (tst (e2 pNe (eTry (eCall 3 (f_borne m) (aCons (eVar 3) (aCons (eVar 6) (aCons (eVar 7) aNil))))) (eC (.str (Str.ofString "NoWinter+"))))) (sRet (eC (.bl false))) sNx))
def z8_15 (m : Bool) : DenS := (sIf (tAndD (tNotD (tst (eCall 2 (f__law_serves m) (aCons (eVar 3) (aCons (eCall 2 (f__law_coats m) (aCons (eVar 3) (aCons (eVar 4) aNil))) aNil))))) (tst (e2 pNe (eTry (eCall 3 (f_borne m) (aCons (eVar 3) (aCons (eVar 4) (aCons (eC (.int 0)) aNil))))) (eC (.str (Str.ofString "NotServed+")))))) (sRet (eC (.bl false))) sNx)
def z8_B1 (m : Bool) : DenS := (sSeq (z8_2 m) (sSeq (z8_3 m) (sSeq (sSeq (z8_4 m) (z8_5 m)) (sSeq (z8_6 m) (sSeq (z8_7 m) (sSeq (z8_8 m) (sSeq (z8_14 m) (z8_15 m))))))))
def z8_1 (m : Bool) : DenS := sFor (itS (eSl (e2 pAdd (fLst (aCons (eC (.int 0)) aNil)) (eVar 0)) oN (oS (eC (.int 10))))) (.nm 1) (z8_B1 m)
def z8_16 (m : Bool) : DenS := (sRet (eC (.bl true)))
theorem z8__eq (m : Bool) : b_law m = (sSeq (z8_1 m) (z8_16 m)) := rfl
theorem iB0 {μ : Bool} {s : Int} {ws : List (List Sp2)} : pIx (encB μ s ws) (.int 0) = some (D.int s) := by simp [encB]
theorem iB1 {μ : Bool} {s : Int} {ws : List (List Sp2)} : pIx (encB μ s ws) (.int 1) = some (D.tup μ (ws.map (encW μ))) := by simp [encB]
theorem noOwn_cons {s : Sl} {r : En} : noOwn (s :: r) = (s.free && noOwn r) := by
  cases s <;> simp [noOwn]
theorem noOwn_nil : noOwn [] = true := rfl
theorem offF_free {s : Sl} (h : s.free = true) (e : En) : offF (s :: e) = offF e := by
  cases s <;> first | rfl | cases h
theorem kin_winter : kinN.contains ("NoWinter" : Str) = true := by decide
theorem kin_served : kinN.contains ("NotServed" : Str) = true := by decide
theorem kinS_winter : kinS "NoWinter" = "NoWinter+" := by rfl
theorem kinS_served : kinS "NotServed" = "NotServed+" := by rfl
theorem neS_self (x : Str) : pNe (.str x) (.str x) = some (.bl false) := by
  simp [pNe, eqS, eqD, D.py]
abbrev E8 (sc c dk bk rm co fu od wi sp du to : Sl) : En := [sc, c, dk, bk, rm, co, fu, od, wi, sp, du, to, .no, .no, .no]
section
variable {sc c dk bk rm co fu od wi sp du to : Sl}
theorem z8_2_ok (i : Int) : ∃ d, z8_2 false (E8 sc (.val (.int i)) dk bk rm co fu od wi sp du to) = .ok (.nx, E8 sc (.val (.int i)) (.own d) bk rm co fu od wi sp du to) ∧ Dk 8 d := by
  obtain ⟨d, e, h⟩ := deck_ok (μ := false) i 8 (by omega)
  exact ⟨d, by simp [z8_2, e, h.fl], h⟩
theorem z8_3_ok {d : D} (h : Dk 8 d) (f : bk.free = true) : ∃ s ws d', z8_3 false (E8 sc c (.own d) bk rm co fu od wi sp du to) = .ok (.nx, E8 sc c (.own d') (.val (encB false s ws)) rm co fu od wi sp du to) ∧ BkOk s ws ∧ Dk 300 d' := by
  obtain ⟨x, d1, e1', hx, h1⟩ := one_ok (μ := false) (ds := [.int 4, .int 16]) h (by omega) (by simp) (by simp)
  obtain ⟨S, rfl, hS⟩ : ∃ S : Int, x = .int S ∧ (S = 4 ∨ S = 16) := by
    simp only [List.mem_cons, List.not_mem_nil, or_false] at hx
    rcases hx with rfl | rfl
    · exact ⟨4, rfl, .inl rfl⟩
    · exact ⟨16, rfl, .inr rfl⟩
  obtain ⟨s, ws, d2, e2', hb, _, h2⟩ := lbook_gen (μ := false) (S := S) (W := 4) (C := 7) h1 (by omega) (by omega) (by omega) (by omega) (by omega) (by omega) (by omega)
  exact ⟨s, ws, d2, by simp [z8_3, e1', e2', f], hb, h2.mono (by omega)⟩
theorem z8_4_ok {d : D} {s : Int} {ws : List (List Sp2)} (hb : BkOk s ws) (h : Dk 300 d) (f : rm.free = true) : ∃ cs d', z8_4 false (E8 sc c (.own d) (.val (encB false s ws)) rm co fu od wi sp du to) = .ok (.nx, E8 sc c (.own d') (.val (encB false s ws)) (.val (encR false (roomOf cs))) co fu od wi sp du to) ∧ CsOk s cs ∧ (∀ x ∈ cs, x ≤ 2) := by
  obtain ⟨cs, d2, e2', hc, hc4, h2⟩ := lroom_gen2 (μ := false) (ws := ws) (M := 2) h (by omega) hb.s1 hb.s2 (by omega) (by omega)
  exact ⟨cs, d2, by simp [z8_4, e2', f], hc, hc4⟩
theorem z8_6_ok {s : Int} {ws : List (List Sp2)} {cs : List Int} (hb : BkOk s ws) (hc : CsOk s cs) (f : co.free = true) : z8_6 false (E8 sc c dk (.val (encB false s ws)) (.val (encR false (roomOf cs))) co fu od wi sp du to) = .ok (.nx, E8 sc c dk (.val (encB false s ws)) (.val (encR false (roomOf cs))) (.val (encL (plusC cs (moreC s ws cs)))) fu od wi sp du to) := by
  have hm := moreC_ok hb hc
  have l1 := hc.len
  have hs := hb.s2
  have g1 := lcoats_ok (μ := false) (ws := ws) hb.s2 hb.s1 hc
  have g2 := lcoats_ok (μ := false) (ws := ws) hb.s2 hb.s1 hm.1
  have g3 := toBuy_ok hb hc
  have hz : zipD (cs.map D.int) ((moreC s ws cs).map D.int) = (cs.zip (moreC s ws cs)).map fun p => D.tup false [D.int p.1, D.int p.2] := by
    unfold zipD
    rw [List.zip_map, List.map_map]; rfl
  have c1 := comp_tu (it := itZip (aCons (eCall 2 (f__law_coats false) (aCons (eVar 3) (aCons (eVar 4) aNil))) (aCons (eCall 2 (f__law_coats false) (aCons (eVar 3) (aCons (eCall 2 (f_to_buy false) (aCons (eVar 3) (aCons (eVar 4) aNil))) aNil))) aNil))) (cond := tT) (elt := e2 pAdd (eVar 12) (eVar 13)) (i := 12) (j := 13)
    (env := E8 sc c dk (.val (encB false s ws)) (.val (encR false (roomOf cs))) co fu od wi sp du to) (env1 := E8 sc c dk (.val (encB false s ws)) (.val (encR false (roomOf cs))) co fu od wi sp du to)
    (cs.zip (moreC s ws cs)) (fun p => D.int p.1) (fun p => D.int p.2) (fun _ => false) (fun _ => true) (fun p => D.int (p.1 + p.2)) (s := .no) (t := .no) (by simp [g1, g2, g3, hz]) (by unfold big; rw [List.length_zip]; omega) (by omega) rfl rfl rfl rfl (fun p hp => ⟨rfl, fun _ => by simp⟩)
  rw [List.filter_eq_self.mpr (fun _ _ => rfl)] at c1
  have e : (cs.zip (moreC s ws cs)).map (fun p => D.int (p.1 + p.2)) = (plusC cs (moreC s ws cs)).map D.int := by unfold plusC; rw [List.map_map]; rfl
  rw [e] at c1
  simp only [z8_6, v_set, c1, R.bind_ok, v_putV, v_notMy]
  simp [f]
theorem z8_7_ok {s : Int} {fc : List Int} (hs : s ≤ 16) (hc : CsOk s fc) (f : fu.free = true) : z8_7 false (E8 sc c dk bk rm (.val (encL fc)) fu od wi sp du to) = .ok (.nx, E8 sc c dk bk rm (.val (encL fc)) (.val (encR false (roomOf fc))) od wi sp du to) := by
  have g := lroom_of (μ := false) (cs := fc) (by have := hc.len; omega)
  simp [z8_7, g, f]
theorem vs_snoc {s : Int} {w : List Sp2} {p : Sp2} (hv : AW.VS s w) (hp : 1 ≤ p.1 ∧ p.1 ≤ p.2 ∧ p.2 ≤ s) : AW.VS s (w ++ [p]) := by
  intro q hq
  rcases List.mem_append.mp hq with z | z
  · exact hv q z
  · rw [List.mem_singleton.mp z]; exact hp
theorem due_eq {s : Int} {ws : List (List Sp2)} {fc : List Int} {i : Nat} (hb : BkOk s ws) (hc : CsOk s fc) (hi : i < ws.length) (hs : servesB s fc ws = true) : (wins s).filter (fun p => clothB fc (wAt ws i ++ [p])) = borneL s fc (wAt ws i) := by
  have hv : AW.VS s (wAt ws i) := by
    have := (ws_get hb (w := (i : Int)) (by omega) (by omega)).2
    rwa [Int.toNat_natCast] at this
  have h1 : clothesB s fc (wAt ws i) = true := List.all_eq_true.mp hs _ (by rw [wAt_of hi]; exact List.getElem_mem hi)
  unfold borneL
  refine List.filter_congr fun p hp => ?_
  have hp := mem_wins.mp hp
  rw [cloth_eq hc (vs_snoc hv hp), free_iff h1 hp]
theorem z8_9_ok {s : Int} {ws : List (List Sp2)} {fc : List Int} {i : Nat} (hb : BkOk s ws) (hc : CsOk s fc) (hi : i < ws.length) (hs : servesB s fc ws = true) (f : du.free = true) : z8_9 false (E8 sc c dk (.val (encB false s ws)) rm (.val (encL fc)) fu od wi (.val (encW false (wAt ws i))) du to) =
    .ok (.nx, E8 sc c dk (.val (encB false s ws)) rm (.val (encL fc)) fu od wi (.val (encW false (wAt ws i))) (.val (.lst ((borneL s fc (wAt ws i)).map (encP false)))) to) := by
  have hwv := ws_get hb (w := (i : Int)) (by omega) (by omega)
  rw [Int.toNat_natCast] at hwv
  have hwn := lwindows_ok (μ := false) hb.s1 hb.s2
  have hlw := wins_len hb.s2
  have c1 := comp_nm (it := itS (eCall 1 (f__law_windows false) (aCons (e2 pIx (eVar 3) (eC (.int 0))) aNil))) (cond := tst (eCall 2 (f__law_clothed false) (aCons (eVar 5) (aCons (e2 pAdd (eVar 9) (eTup false (aCons (eVar 14) aNil))) aNil)))) (elt := eVar 14) (i := 14)
    (env := E8 sc c dk (.val (encB false s ws)) rm (.val (encL fc)) fu od wi (.val (encW false (wAt ws i))) du to) (env1 := E8 sc c dk (.val (encB false s ws)) rm (.val (encL fc)) fu od wi (.val (encW false (wAt ws i))) du to)
    (wins s) (encP false) (fun p => clothB fc (wAt ws i ++ [p])) (encP false) (s := .no) (by simp [iB0, hwn]) (by unfold big; omega) rfl rfl (fun p hp => ⟨by
      have g := lclothed_ok (μ := false) (tb := false) hc hb.s2 (vs_snoc hwv.2 (mem_wins.mp hp))
      rw [List.map_append, List.map_cons, List.map_nil] at g
      have ea : pAdd (encW false (wAt ws i)) (.tup false [encP false p]) = some (.tup false ((wAt ws i).map (encP false) ++ [encP false p])) := by
        have := hwv.1
        simp [encW, show (wAt ws i).length + 1 ≤ 1000000 by omega]
      simp [ea, g], fun _ => by simp⟩)
  rw [due_eq hb hc hi hs] at c1
  simp only [z8_9, v_set, c1, R.bind_ok, v_putV, v_notMy]
  simp [f]
theorem th_borne {s : Int} {fc : List Int} {w : List Sp2} (hs : s ≤ 16) : Th 300 100 2 (.lst ((borneL s fc w).map (encP false))) := by
  simp only [Th]
  refine ⟨by rw [List.length_map]; exact Nat.le_trans (List.length_filter_le _ _) (wins_len hs), fun x hx => ?_⟩
  obtain ⟨p, hp, rfl⟩ := List.mem_map.mp hx
  have := mem_wins.mp (List.mem_filter.mp hp).1
  simp [Th, encP]; omega
theorem z8_B8_ok {s : Int} {ws : List (List Sp2)} {fc : List Int} {i : Nat} (hb : BkOk s ws) (hc : CsOk s fc) (hi : i < ws.length) (hs : servesB s fc ws = true) (fs : sc.free = true) (f1 : c.free = true) (f2 : dk.free = true) (f4 : rm.free = true) (f7 : od.free = true) (f : du.free = true) (ft : to.free = true) :
    ∃ u v : Sl, u.free = true ∧ v.free = true ∧ z8_B8 false (E8 sc c dk (.val (encB false s ws)) rm (.val (encL fc)) (.val (encR false (roomOf fc))) od (.val (.int (i : Int))) (.val (encW false (wAt ws i))) du to) =
      .ok (.nx, E8 sc c dk (.val (encB false s ws)) rm (.val (encL fc)) (.val (encR false (roomOf fc))) od (.val (.int (i : Int))) (.val (encW false (wAt ws i))) u v) := by
  have h9 := z8_9_ok (sc := sc) (c := c) (dk := dk) (rm := rm) (fu := .val (encR false (roomOf fc))) (od := od) (wi := .val (.int (i : Int))) (to := to) hb hc hi hs f
  have g1 := borne_ok (μ := false) hb hc hi hs
  have hl : (borneL s fc (wAt ws i)).length ≤ 300 := Nat.le_trans (List.length_filter_le _ _) (wins_len hb.s2)
  have g2 := same_ok (μ := false) (by omega) (by omega) (th_borne (fc := fc) (w := wAt ws i) hb.s2)
  have hff : flatL ((borneL s fc (wAt ws i)).map (encP false)) = true := by
    generalize borneL s fc (wAt ws i) = L
    induction L with
    | nil => simp
    | cons p L ih => simp [encP, ih]
  generalize hZ : (borneL s fc (wAt ws i)).map (encP false) = Z at h9 g1 g2 hff
  have hlZ : Z.length < 1000000 := by rw [← hZ, List.length_map]; omega
  generalize encB false s ws = EB at *
  generalize encR false (roomOf fc) = RR at *
  generalize encL fc = FC at *
  generalize encW false (wAt ws i) = WW at *
  refine ⟨.val (.lst Z), .val (.lst (Z ++ [.int 1])), rfl, rfl, ?_⟩
  have h10 : z8_10 false (E8 sc c dk (.val EB) rm (.val FC) (.val RR) od (.val (.int (i : Int))) (.val WW) (.val (.lst Z)) to) = .ok (.nx, E8 sc c dk (.val EB) rm (.val FC) (.val RR) od (.val (.int (i : Int))) (.val WW) (.val (.lst Z)) (.own (.lst Z))) := by simp [z8_10, g1]
  have h11 : z8_11 false (E8 sc c dk (.val EB) rm (.val FC) (.val RR) od (.val (.int (i : Int))) (.val WW) (.val (.lst Z)) (.own (.lst Z))) = .ok (.nx, E8 sc c dk (.val EB) rm (.val FC) (.val RR) od (.val (.int (i : Int))) (.val WW) (.val (.lst Z)) (.own (.lst Z))) := by
    simp [z8_11, g2, offF_free fs, offF_free f1, offF_free f2, offF_free f4, offF_free f7]
  have h12 : z8_12 false (E8 sc c dk (.val EB) rm (.val FC) (.val RR) od (.val (.int (i : Int))) (.val WW) (.val (.lst Z)) (.own (.lst Z))) = .ok (.nx, E8 sc c dk (.val EB) rm (.val FC) (.val RR) od (.val (.int (i : Int))) (.val WW) (.val (.lst Z)) (.own (.lst (Z ++ [.int 1])))) := by simp [z8_12, big, hlZ]
  have h13 : z8_13 false (E8 sc c dk (.val EB) rm (.val FC) (.val RR) od (.val (.int (i : Int))) (.val WW) (.val (.lst Z)) (.own (.lst (Z ++ [.int 1])))) = .ok (.nx, E8 sc c dk (.val EB) rm (.val FC) (.val RR) od (.val (.int (i : Int))) (.val WW) (.val (.lst Z)) (.val (.lst (Z ++ [.int 1])))) := by simp [z8_13]
  simp only [z8_B8, v_seq, h9, h10, h11, h12, h13, R.bind_ok]
theorem z8_8L {s : Int} {ws : List (List Sp2)} {fc : List Int} (hb : BkOk s ws) (hc : CsOk s fc) (hs : servesB s fc ws = true) (fs : sc.free = true) (f1 : c.free = true) (f2 : dk.free = true) (f4 : rm.free = true) (f7 : od.free = true) : ∀ (is : List Nat) (wi sp du to : Sl), (∀ i ∈ is, i < ws.length) → wi.free = true → sp.free = true → du.free = true → to.free = true →
    ∃ t u v w : Sl, t.free = true ∧ u.free = true ∧ v.free = true ∧ w.free = true ∧ sLoop (.tu [.nm 8, .nm 9]) (z8_B8 false) (is.map fun (i : Nat) => D.tup false [.int (i : Int), encW false (wAt ws i)]) (E8 sc c dk (.val (encB false s ws)) rm (.val (encL fc)) (.val (encR false (roomOf fc))) od wi sp du to) =
      .ok (.nx, E8 sc c dk (.val (encB false s ws)) rm (.val (encL fc)) (.val (encR false (roomOf fc))) od t u v w)
  | [], wi, sp, du, to, _, h8, h9, h10, h11 => ⟨wi, sp, du, to, h8, h9, h10, h11, rfl⟩
  | i :: is, wi, sp, du, to, h, h8, h9, h10, h11 => by
    obtain ⟨u, v, fu', fv, g⟩ := z8_B8_ok (sc := sc) (c := c) (dk := dk) (rm := rm) (od := od) hb hc (h i List.mem_cons_self) hs fs f1 f2 f4 f7 h10 h11
    obtain ⟨t', u', v', w', a, b, c', d, ih⟩ := z8_8L hb hc hs fs f1 f2 f4 f7 is (.val (.int (i : Int))) (.val (encW false (wAt ws i))) u v (fun x hx => h x (List.mem_cons_of_mem _ hx)) rfl rfl fu' fv
    refine ⟨t', u', v', w', a, b, c', d, ?_⟩
    have ha : Pt.asg (.tu [.nm 8, .nm 9]) (D.tup false [.int (i : Int), encW false (wAt ws i)]) (E8 sc c dk (.val (encB false s ws)) rm (.val (encL fc)) (.val (encR false (roomOf fc))) od wi sp du to) = some (E8 sc c dk (.val (encB false s ws)) rm (.val (encL fc)) (.val (encR false (roomOf fc))) od (.val (.int (i : Int))) (.val (encW false (wAt ws i))) du to) := by simp [h8, h9]
    simp only [List.map_cons, sLoop, ha, R.of_some, R.bind_ok, g]
    exact ih
theorem enum_ws {ws : List (List Sp2)} : enumD (ws.map (encW false)) = (List.range ws.length).map fun (i : Nat) => D.tup false [.int (i : Int), encW false (wAt ws i)] := by
  refine List.ext_getElem (by simp [enumD]) fun i h1 h2 => ?_
  have hi : i < ws.length := by simpa using h2
  simp [enumD, wAt_of hi]
theorem z8_8_ok {s : Int} {ws : List (List Sp2)} {fc : List Int} (hb : BkOk s ws) (hc : CsOk s fc) (hs : servesB s fc ws = true) (fs : sc.free = true) (f1 : c.free = true) (f2 : dk.free = true) (f4 : rm.free = true) (f7 : od.free = true) (h8 : wi.free = true) (h9 : sp.free = true) (h10 : du.free = true) (h11 : to.free = true) :
    ∃ t u v w : Sl, t.free = true ∧ u.free = true ∧ v.free = true ∧ w.free = true ∧ z8_8 false (E8 sc c dk (.val (encB false s ws)) rm (.val (encL fc)) (.val (encR false (roomOf fc))) od wi sp du to) =
      .ok (.nx, E8 sc c dk (.val (encB false s ws)) rm (.val (encL fc)) (.val (encR false (roomOf fc))) od t u v w) := by
  obtain ⟨t, u, v, w, a, b, c', d, L⟩ := z8_8L hb hc hs fs f1 f2 f4 f7 (List.range ws.length) wi sp du to (fun i hi => List.mem_range.mp hi) h8 h9 h10 h11
  refine ⟨t, u, v, w, a, b, c', d, ?_⟩
  rw [← enum_ws] at L
  have hit : itEnum (aCons (e2 pIx (eVar 3) (eC (.int 1))) aNil) (E8 sc c dk (.val (encB false s ws)) rm (.val (encL fc)) (.val (encR false (roomOf fc))) od wi sp du to) = .ok (enumD (ws.map (encW false)), E8 sc c dk (.val (encB false s ws)) rm (.val (encL fc)) (.val (encR false (roomOf fc))) od wi sp du to) := by
    simp [iB1]
  show sFor _ _ (z8_B8 false) _ = _
  rw [v_for, hit, R.bind_ok]
  exact L
theorem z8_14_ok {s : Int} {ws : List (List Sp2)} {fc : List Int} (hb : BkOk s ws) (hc : CsOk s fc) (fs : sc.free = true) (f1 : c.free = true) (f2 : dk.free = true) (f4 : rm.free = true) (f5 : co.free = true) (f7 : od.free = true) (h8 : wi.free = true) (h9 : sp.free = true) (h10 : du.free = true) (h11 : to.free = true) :
    ∃ t : Sl, t.free = true ∧ z8_14 false (E8 sc c dk (.val (encB false s ws)) rm co (.val (encR false (roomOf fc))) od wi sp du to) = .ok (.nx, E8 sc c dk (.val (encB false s ws)) rm co (.val (encR false (roomOf fc))) t wi sp du to) := by
  have ne := neS_self "NoWinter+"
  obtain ⟨e2', l1, t, rfl, ft⟩ := sLoop_inv (p := .nm 7) (body := (sIf (tst (e2 pNe (eTry (eCall 3 (f_borne false) (aCons (eVar 3) (aCons (eVar 6) (aCons (eVar 7) aNil))))) (eC (.str (Str.ofString "NoWinter+"))))) (sRet (eC (.bl false))) sNx))
    (fun env => ∃ t : Sl, env = E8 sc c dk (.val (encB false s ws)) rm co (.val (encR false (roomOf fc))) t wi sp du to ∧ t.free = true) [.non, .bl true, .int (-1), .int ws.length] (fun x hx env hi' => by
      obtain ⟨t, rfl, ft⟩ := hi'
      have hx' : x.plain = true ∧ fromB 0 (ws.length - 1) x = false := by
        simp only [List.mem_cons, List.not_mem_nil, or_false] at hx
        rcases hx with rfl | rfl | rfl | rfl
        · exact ⟨rfl, rfl⟩
        · exact ⟨rfl, rfl⟩
        · exact ⟨rfl, by simp [fromB]⟩
        · refine ⟨rfl, ?_⟩
          simp only [fromB]
          rw [Bool.and_eq_false_iff, decide_eq_false_iff_not, decide_eq_false_iff_not]
          omega
      have g := borne_no (μ := false) hb hc hx'.1 hx'.2
      have no : noOwn (E8 sc c dk (.val (encB false s ws)) rm co (.val (encR false (roomOf fc))) (.val x) wi sp du to) = true := by
        simp [noOwn_cons, noOwn_nil, fs, f1, f2, f4, f5, h8, h9, h10, h11]
      have k1 := kin_winter
      have k2 := kinS_winter
      have et : eTry (eCall 3 (f_borne false) (aCons (eVar 3) (aCons (eVar 6) (aCons (eVar 7) aNil)))) (E8 sc c dk (.val (encB false s ws)) rm co (.val (encR false (roomOf fc))) (.val x) wi sp du to) = .ok (.str "NoWinter+", E8 sc c dk (.val (encB false s ws)) rm co (.val (encR false (roomOf fc))) (.val x) wi sp du to) := by
        have ef : eCall 3 (f_borne false) (aCons (eVar 3) (aCons (eVar 6) (aCons (eVar 7) aNil))) (E8 sc c dk (.val (encB false s ws)) rm co (.val (encR false (roomOf fc))) (.val x) wi sp du to) = .err "NoWinter" := by simp [g]
        unfold eTry
        rw [ef]
        simp only [k1, no, Bool.and_self, if_true, k2]
      exact ⟨E8 sc c dk (.val (encB false s ws)) rm co (.val (encR false (roomOf fc))) (.val x) wi sp du to, by simp [ft], E8 sc c dk (.val (encB false s ws)) rm co (.val (encR false (roomOf fc))) (.val x) wi sp du to, by simp [et, ne, -v_try], _, rfl, rfl⟩)
    (E8 sc c dk (.val (encB false s ws)) rm co (.val (encR false (roomOf fc))) od wi sp du to) ⟨_, rfl, f7⟩
  exact ⟨t, ft, by simp [z8_14, iB1, l1]⟩
theorem z8_15_ok {s : Int} {ws : List (List Sp2)} {cs : List Int} (hb : BkOk s ws) (hc : CsOk s cs) (fs : sc.free = true) (f1 : c.free = true) (f2 : dk.free = true) (f5 : co.free = true) (f6 : fu.free = true) (f7 : od.free = true) (h8 : wi.free = true) (h9 : sp.free = true) (h10 : du.free = true) (h11 : to.free = true) :
    z8_15 false (E8 sc c dk (.val (encB false s ws)) (.val (encR false (roomOf cs))) co fu od wi sp du to) = .ok (.nx, E8 sc c dk (.val (encB false s ws)) (.val (encR false (roomOf cs))) co fu od wi sp du to) := by
  have g1 := lcoats_ok (μ := false) (ws := ws) hb.s2 hb.s1 hc
  have g2 := lserves_ok (μ := false) hb hc
  cases q : servesB s cs ws with
  | true => rw [q] at g2; simp [z8_15, g1, g2]
  | false =>
    rw [q] at g2
    have g := borne_unserved (μ := false) (i := 0) hb hc (by have := hb.l1; omega) q
    have ne := neS_self "NotServed+"
    have no : noOwn (E8 sc c dk (.val (encB false s ws)) (.val (encR false (roomOf cs))) co fu od wi sp du to) = true := by
      simp [noOwn_cons, noOwn_nil, fs, f1, f2, f5, f6, f7, h8, h9, h10, h11]
    have et : eTry (eCall 3 (f_borne false) (aCons (eVar 3) (aCons (eVar 4) (aCons (eC (.int 0)) aNil)))) (E8 sc c dk (.val (encB false s ws)) (.val (encR false (roomOf cs))) co fu od wi sp du to) = .ok (.str "NotServed+", E8 sc c dk (.val (encB false s ws)) (.val (encR false (roomOf cs))) co fu od wi sp du to) := by
      have ef : eCall 3 (f_borne false) (aCons (eVar 3) (aCons (eVar 4) (aCons (eC (.int 0)) aNil))) (E8 sc c dk (.val (encB false s ws)) (.val (encR false (roomOf cs))) co fu od wi sp du to) = .err "NotServed" := by
        have g : f_borne false [encB false s ws, encR false (roomOf cs), .int 0] = .err "NotServed" := g
        simp [g]
      unfold eTry
      rw [ef]
      simp only [kin_served, no, Bool.and_self, if_true, kinS_served]
    simp [z8_15, g1, g2, et, ne, -v_try]
theorem z8_B1_ok (i : Int) (fs : sc.free = true) (f3 : bk.free = true) (f4 : rm.free = true) (f5 : co.free = true) (f6 : fu.free = true) (f7 : od.free = true) (f8 : wi.free = true) (f9 : sp.free = true) (f10 : du.free = true) (f11 : to.free = true) :
    ∃ d2 d3 d4 d5 d6 d7 d8 d9 d10 d11 : Sl, z8_B1 false (E8 sc (.val (.int i)) dk bk rm co fu od wi sp du to) = .ok (.nx, E8 sc (.val (.int i)) d2 d3 d4 d5 d6 d7 d8 d9 d10 d11) ∧ d3.free = true ∧ d4.free = true ∧ d5.free = true ∧ d6.free = true ∧ d7.free = true ∧ d8.free = true ∧ d9.free = true ∧ d10.free = true ∧ d11.free = true := by
  obtain ⟨d, h1, hd⟩ := z8_2_ok (sc := sc) (dk := dk) (bk := bk) (rm := rm) (co := co) (fu := fu) (od := od) (wi := wi) (sp := sp) (du := du) (to := to) i
  obtain ⟨s, ws, d1, h2, hb, hd1⟩ := z8_3_ok (sc := sc) (c := .val (.int i)) (rm := rm) (co := co) (fu := fu) (od := od) (wi := wi) (sp := sp) (du := du) (to := to) hd f3
  obtain ⟨cs, d2, h3, hc, hc2⟩ := z8_4_ok (sc := sc) (c := .val (.int i)) (co := co) (fu := fu) (od := od) (wi := wi) (sp := sp) (du := du) (to := to) hb hd1 f4
  have h4 : z8_5 false (E8 sc (.val (.int i)) (.own d2) (.val (encB false s ws)) (.val (encR false (roomOf cs))) co fu od wi sp du to) = .ok (.nx, E8 sc (.val (.int i)) (.val d2) (.val (encB false s ws)) (.val (encR false (roomOf cs))) co fu od wi sp du to) := by simp [z8_5]
  have h5 := z8_6_ok (sc := sc) (c := .val (.int i)) (dk := .val d2) (fu := fu) (od := od) (wi := wi) (sp := sp) (du := du) (to := to) hb hc f5
  have hp := plus_ok hb hc fun x hx => by have := hc2 x hx; omega
  have hs := after_hall hb hc
  have h6 := z8_7_ok (sc := sc) (c := .val (.int i)) (dk := .val d2) (bk := .val (encB false s ws)) (rm := .val (encR false (roomOf cs))) (od := od) (wi := wi) (sp := sp) (du := du) (to := to) hb.s2 hp f6
  obtain ⟨t, u, v, w, ft, fu', fv, fw, h7⟩ := z8_8_ok (sc := sc) (c := .val (.int i)) (dk := .val d2) (rm := .val (encR false (roomOf cs))) (od := od) hb hp hs fs rfl rfl rfl f7 f8 f9 f10 f11
  obtain ⟨o, fo, h8⟩ := z8_14_ok (sc := sc) (c := .val (.int i)) (dk := .val d2) (rm := .val (encR false (roomOf cs))) (co := .val (encL (plusC cs (moreC s ws cs)))) (od := od) hb hp fs rfl rfl rfl rfl f7 ft fu' fv fw
  have h9 := z8_15_ok (sc := sc) (c := .val (.int i)) (dk := .val d2) (co := .val (encL (plusC cs (moreC s ws cs)))) (fu := .val (encR false (roomOf (plusC cs (moreC s ws cs))))) hb hc fs rfl rfl rfl rfl fo ft fu' fv fw
  refine ⟨.val d2, .val (encB false s ws), .val (encR false (roomOf cs)), .val (encL (plusC cs (moreC s ws cs))), .val (encR false (roomOf (plusC cs (moreC s ws cs)))), o, t, u, v, w, ?_, rfl, rfl, rfl, rfl, fo, ft, fu', fv, fw⟩
  simp only [z8_B1, v_seq, h1, h2, h3, h4, h5, h6, h7, h8, h9, R.bind_ok]
theorem law8_plain (ns : List Int) (hn : ns.length ≤ 63) : ∃ d, f_law false [.lst (ns.map D.int)] = .ok (.bl true, d) := by
  have e1 : cutD (D.int 0 :: ns.map D.int) none (some 10) = (cutG (0 :: ns) none (some 10)).map D.int := cut_map (0 :: ns) D.int none (some 10)
  obtain ⟨e2', l1, l2⟩ := sLoop_inv (p := .nm 1) (body := z8_B1 false)
    (fun env => ∃ d1 d2 d3 d4 d5 d6 d7 d8 d9 d10 d11 : Sl, env = E8 (.val (.lst (ns.map D.int))) d1 d2 d3 d4 d5 d6 d7 d8 d9 d10 d11 ∧ d1.free = true ∧ d3.free = true ∧ d4.free = true ∧ d5.free = true ∧ d6.free = true ∧ d7.free = true ∧ d8.free = true ∧ d9.free = true ∧ d10.free = true ∧ d11.free = true)
    ((cutG (0 :: ns) none (some 10)).map D.int) (fun x hx env hi => by
      obtain ⟨d1, d2, d3, d4, d5, d6, d7, d8, d9, d10, d11, rfl, f1, f3, f4, f5, f6, f7, f8, f9, f10, f11⟩ := hi
      obtain ⟨i, _, rfl⟩ := List.mem_map.mp hx
      obtain ⟨g2, g3, g4, g5, g6, g7, g8, g9, g10, g11, h, a3, a4, a5, a6, a7, a8, a9, a10, a11⟩ := z8_B1_ok (sc := .val (.lst (ns.map D.int))) (dk := d2) i rfl f3 f4 f5 f6 f7 f8 f9 f10 f11
      exact ⟨E8 (.val (.lst (ns.map D.int))) (.val (.int i)) d2 d3 d4 d5 d6 d7 d8 d9 d10 d11, by simp [f1], _, h, _, _, _, _, _, _, _, _, _, _, _, rfl, rfl, a3, a4, a5, a6, a7, a8, a9, a10, a11⟩)
    (E8 (.val (.lst (ns.map D.int))) .no .no .no .no .no .no .no .no .no .no .no) ⟨_, _, _, _, _, _, _, _, _, _, _, rfl, rfl, rfl, rfl, rfl, rfl, rfl, rfl, rfl, rfl, rfl⟩
  refine ⟨.non, ?_⟩
  simp [f_law, v_run, z8__eq, z8_1, z8_16, startE, e1, l1, show ns.length + 1 ≤ 1000000 by omega, show 1 + ns.length ≤ 1000000 by omega]
theorem plain (ns : List Int) (hn : ns.length ≤ 63) : ∃ d, f_law false [.lst (ns.map D.int)] = .ok (.bl true, d) := law8_plain ns hn
end
end DL

theorem PySem.Challenge.cw_allwinters_k08_whole_who_may_still_come_holds : PySem.Challenge.rw_allwinters_k08_whole_who_may_still_come.Holds := by
  exact DL.holds_by DL.plain
