import PyProof.Rows.All
import HandS.ForMost
import HandS.ForExc
import HandS.IsInst
import HandS.TupAny
import HandS.TupMul
import HandS.TupLe
import HandS.Style
import HandS.Deep
import HandS.SortInts
import KE.GoesEnum
import KE.GoesMore
import HandS.SetFor
import HandS.HeadHook2
import HandS.HeadEnd
import HandS.Head2
import PySem.Challenge.RW_allwinters_k01_books_and_rooms
set_option Elab.async false
set_option linter.all false
set_option maxRecDepth 100000
set_option maxHeartbeats 4000000
set_option exponentiation.threshold 4000
/-! ## DLa -/
/-! DLa: data, results, environments, what stands for what. -/
namespace DL
open PySem PySem.Spec PyProof.Rows L2

/-- data by value -/
inductive D where
  | non | bl (b : Bool) | int (i : Int) | str (x : Str)
  | tup (xs : List D) | lst (xs : List D)
  | dk (kvs : List (Int × Int)) | dt (kvs : List ((Int × Int) × Int))

mutual
/-- no list, no dict within -/
def D.flat : D → Bool
  | .non | .bl _ | .int _ | .str _ => true
  | .tup ds => flatL ds
  | _ => false
def flatL : List D → Bool
  | [] => true
  | d :: ds => d.flat && flatL ds
end
/-- what an own thing may be -/
def D.fl : D → Bool
  | .lst _ => true
  | .dk _ | .dt _ => true
  | _ => false
/-- an own thing that holds no list -/
def D.ff : D → Bool
  | .lst ds => flatL ds
  | .dk _ | .dt _ => true
  | _ => false

/-- stuck, an error of a class, a result -/
inductive R (α : Type) where
  | stk | err (c : Str) | ok (a : α)
namespace R
def bind {α β : Type} : R α → (α → R β) → R β
  | .stk, _ => .stk
  | .err c, _ => .err c
  | .ok a, f => f a
instance : Monad R where
  pure := R.ok
  bind := R.bind
@[simp] theorem bind_ok {α β : Type} (a : α) (f : α → R β) : (R.ok a).bind f = f a := rfl
@[simp] theorem bind_stk {α β : Type} (f : α → R β) : (R.stk : R α).bind f = .stk := rfl
@[simp] theorem bind_err {α β : Type} (c : Str) (f : α → R β) : (R.err c : R α).bind f = .err c := rfl
def of {α : Type} : Option α → R α
  | some a => .ok a
  | none => .stk
@[simp] theorem of_some {α : Type} (a : α) : R.of (some a) = .ok a := rfl
@[simp] theorem of_none {α : Type} : R.of (none : Option α) = .stk := rfl
/-- an error that cannot be told further -/
def hush {α : Type} : R α → R α
  | .err _ => .stk
  | r => r
@[simp] theorem hush_ok {α : Type} (a : α) : (R.ok a).hush = .ok a := rfl
end R

/-- a slot of the environment -/
inductive Sl where
  | no | val (d : D) | own (d : D)
abbrev En := List Sl

def kdV (p : Int × Int) : Key × V := (.inl p.1, .int p.2)
def tdV (p : (Int × Int) × Int) : List Key × V := ([.inl p.1.1, .inl p.1.2], .int p.2)

/-- a list of the written part -/
def KL (K : PySem.W.Frag) (a : Addr) (xs : List V) : Prop :=
  ∃ (o : Obj) (its : Array Value) (n : Nat), K.lookup a = some o ∧ o.cls = .type "list" ∧ o.dict = none ∧ o.data = .seq its n ∧ its.size ≤ sizeLine ∧ Vals xs its.toList
def FzL (K : PySem.W.Frag) (H : Hp) (a : Addr) (xs : List V) : Prop := (∃ o, H a = some (.frz o (.lst xs))) ∨ KL K a xs
theorem FzL.sq {K : PySem.W.Frag} {H : Hp} {a : Addr} {xs : List V} (h : FzL K H a xs) : SqL K H a xs := by
  rcases h with ⟨o, h⟩ | h
  · exact .inl (.inr ⟨o, h⟩)
  · exact .inr h

mutual
def Rp (K : PySem.W.Frag) (H : Hp) : D → V → Prop
  | .non, v => v = .non
  | .bl b, v => v = .bl b
  | .int i, v => v = .int i
  | .str x, v => v = .str x
  | .tup ds, v => ∃ a vs, v = .ref a ∧ H a = some (.tup vs) ∧ RpL K H ds vs
  | .lst ds, v => ∃ a vs, v = .ref a ∧ FzL K H a vs ∧ RpL K H ds vs
  | .dk kvs, v => ∃ a o, v = .ref a ∧ H a = some (.frz o (.dK (kvs.map kdV)))
  | .dt kvs, v => ∃ a o, v = .ref a ∧ H a = some (.frz o (.dT (kvs.map tdV)))
def RpL (K : PySem.W.Frag) (H : Hp) : List D → List V → Prop
  | [], vs => vs = []
  | d :: ds, vs => ∃ v r, vs = v :: r ∧ Rp K H d v ∧ RpL K H ds r
end
/-- what an own thing holds -/
def HOr (K : PySem.W.Frag) (H : Hp) : D → HO → Prop
  | .lst ds, .lst vs => RpL K H ds vs
  | .dk kvs, .dK kk => kk = kvs.map kdV
  | .dt kvs, .dT kk => kk = kvs.map tdV
  | _, _ => False
def ROwn (K : PySem.W.Frag) (H : Hp) (d : D) (a : Addr) : Prop := ∃ u, H a = some u ∧ HOr K H d u

/-- what never changes -/
def Frm : HO → Prop
  | .tup _ => True
  | .frz _ _ => True
  | _ => False
def FExt (H H' : Hp) : Prop := ∀ b o, H b = some o → Frm o → H' b = some o
def Ext (H H' : Hp) : Prop := ∀ b o, H b = some o → H' b = some o
theorem Ext.refl (H : Hp) : Ext H H := fun _ _ h => h
theorem Ext.trans {H H1 H2 : Hp} (a : Ext H H1) (b : Ext H1 H2) : Ext H H2 := fun c o h => b c o (a c o h)
theorem Ext.fx {H H' : Hp} (a : Ext H H') : FExt H H' := fun c o h _ => a c o h
theorem Ext.new {H : Hp} {p : Addr} {o : HO} (h : H p = none) : Ext H (upd H p o) := fun a u e => by
  rw [upd_ne (ne_of_none e h)]; exact e
theorem FExt.refl (H : Hp) : FExt H H := fun _ _ h _ => h
theorem FExt.trans {H H1 H2 : Hp} (a : FExt H H1) (b : FExt H1 H2) : FExt H H2 := fun c o h f => b c o (a c o h f) f
theorem FzL.ext {K : PySem.W.Frag} {H H' : Hp} {a : Addr} {xs : List V} (e : FExt H H') (h : FzL K H a xs) : FzL K H' a xs := by
  rcases h with ⟨o, h⟩ | h
  · exact .inl ⟨o, e _ _ h trivial⟩
  · exact .inr h
mutual
theorem Rp.ext {K : PySem.W.Frag} {H H' : Hp} (e : FExt H H') : ∀ (d : D) (v : V), Rp K H d v → Rp K H' d v
  | .non, _, h => by simpa [Rp] using h
  | .bl _, _, h => by simpa [Rp] using h
  | .int _, _, h => by simpa [Rp] using h
  | .str _, _, h => by simpa [Rp] using h
  | .tup ds, v, h => by
    simp only [Rp] at h ⊢
    obtain ⟨a, vs, e1, e2, h⟩ := h
    exact ⟨a, vs, e1, e _ _ e2 trivial, RpL.ext e ds vs h⟩
  | .lst ds, v, h => by
    simp only [Rp] at h ⊢
    obtain ⟨a, vs, e1, e2, h⟩ := h
    exact ⟨a, vs, e1, e2.ext e, RpL.ext e ds vs h⟩
  | .dk _, v, h => by
    simp only [Rp] at h ⊢
    obtain ⟨a, o, e1, e2⟩ := h
    exact ⟨a, o, e1, e _ _ e2 trivial⟩
  | .dt _, v, h => by
    simp only [Rp] at h ⊢
    obtain ⟨a, o, e1, e2⟩ := h
    exact ⟨a, o, e1, e _ _ e2 trivial⟩
theorem RpL.ext {K : PySem.W.Frag} {H H' : Hp} (e : FExt H H') : ∀ (ds : List D) (vs : List V), RpL K H ds vs → RpL K H' ds vs
  | [], _, h => by simpa [RpL] using h
  | d :: ds, vs, h => by
    simp only [RpL] at h ⊢
    obtain ⟨v, r, e1, h1, h2⟩ := h
    exact ⟨v, r, e1, Rp.ext e d v h1, RpL.ext e ds r h2⟩
end
theorem HOr.ext {K : PySem.W.Frag} {H H' : Hp} (e : FExt H H') {d : D} {u : HO} (h : HOr K H d u) : HOr K H' d u := by
  cases d <;> cases u <;> first
    | exact h
    | exact RpL.ext e _ _ h
theorem HOr.mut {K : PySem.W.Frag} {H : Hp} {d : D} {u : HO} (h : HOr K H d u) : Mut (some u) := by
  cases d <;> cases u <;> first
    | exact trivial
    | exact (show False from h).elim
theorem HOr.notFrm {K : PySem.W.Frag} {H : Hp} {d : D} {u : HO} (h : HOr K H d u) : ¬ Frm u := by
  cases d <;> cases u <;> first
    | exact fun z => z
    | exact (show False from h).elim

/-! ### lists of things -/
section
variable {K : PySem.W.Frag} {H : Hp}
theorem RpL.length : ∀ {ds : List D} {vs : List V}, RpL K H ds vs → vs.length = ds.length
  | [], vs, h => by simp only [RpL] at h; rw [h]; rfl
  | d :: ds, vs, h => by
    simp only [RpL] at h
    obtain ⟨v, r, e1, _, h2⟩ := h
    rw [e1, List.length_cons, List.length_cons, RpL.length h2]
theorem RpL.nil : RpL K H [] [] := by simp [RpL]
theorem RpL.cons {d : D} {ds : List D} {v : V} {vs : List V} (h : Rp K H d v) (t : RpL K H ds vs) : RpL K H (d :: ds) (v :: vs) := by
  simp only [RpL]; exact ⟨v, vs, rfl, h, t⟩
theorem RpL.get : ∀ {ds : List D} {vs : List V} {i : Nat} {d : D}, RpL K H ds vs → ds[i]? = some d → ∃ v, vs[i]? = some v ∧ Rp K H d v
  | [], _, _, _, _, e => by simp at e
  | d :: ds, vs, i, d', h, e => by
    simp only [RpL] at h
    obtain ⟨v, r, e1, h1, h2⟩ := h
    subst e1
    cases i with
    | zero => simp at e; subst e; exact ⟨v, rfl, h1⟩
    | succ i =>
      simp at e
      obtain ⟨w, q1, q2⟩ := RpL.get h2 e
      exact ⟨w, by simpa using q1, q2⟩
theorem RpL.set {d : D} {v : V} (r : Rp K H d v) : ∀ {ds : List D} {vs : List V} (i : Nat), RpL K H ds vs → RpL K H (ds.set i d) (vs.set i v)
  | [], vs, i, h => by simp only [RpL] at h; subst h; exact RpL.nil
  | e :: ds, vs, i, h => by
    simp only [RpL] at h
    obtain ⟨w, q, e1, h1, h2⟩ := h
    subst e1
    cases i with
    | zero => exact RpL.cons r h2
    | succ i => exact RpL.cons h1 (RpL.set r i h2)
theorem RpL.append : ∀ {ds es : List D} {vs ws : List V}, RpL K H ds vs → RpL K H es ws → RpL K H (ds ++ es) (vs ++ ws)
  | [], es, vs, ws, h, t => by simp only [RpL] at h; subst h; exact t
  | d :: ds, es, vs, ws, h, t => by
    simp only [RpL] at h
    obtain ⟨w, q, e1, h1, h2⟩ := h
    subst e1
    exact RpL.cons h1 (RpL.append h2 t)
theorem RpL.take : ∀ (n : Nat) {ds : List D} {vs : List V}, RpL K H ds vs → RpL K H (ds.take n) (vs.take n)
  | 0, ds, vs, h => by simp [RpL]
  | n + 1, [], vs, h => by simp only [RpL] at h; subst h; exact RpL.nil
  | n + 1, d :: ds, vs, h => by
    simp only [RpL] at h
    obtain ⟨w, q, e1, h1, h2⟩ := h
    subst e1
    exact RpL.cons h1 (RpL.take n h2)
theorem RpL.drop : ∀ (n : Nat) {ds : List D} {vs : List V}, RpL K H ds vs → RpL K H (ds.drop n) (vs.drop n)
  | 0, ds, vs, h => h
  | n + 1, [], vs, h => by simp only [RpL] at h; subst h; exact RpL.nil
  | n + 1, d :: ds, vs, h => by
    simp only [RpL] at h
    obtain ⟨w, q, e1, h1, h2⟩ := h
    subst e1
    exact RpL.drop n h2
theorem RpL.reverse : ∀ {ds : List D} {vs : List V}, RpL K H ds vs → RpL K H ds.reverse vs.reverse
  | [], vs, h => by simp only [RpL] at h; subst h; exact RpL.nil
  | d :: ds, vs, h => by
    simp only [RpL] at h
    obtain ⟨w, q, e1, h1, h2⟩ := h
    subst e1
    rw [List.reverse_cons, List.reverse_cons]
    exact RpL.append (RpL.reverse h2) (RpL.cons h1 RpL.nil)
theorem RpL.rep {ds : List D} {vs : List V} (h : RpL K H ds vs) : ∀ k : Nat, RpL K H (List.replicate k ds).flatten (List.replicate k vs).flatten
  | 0 => RpL.nil
  | k + 1 => by
    rw [List.replicate_succ, List.replicate_succ, List.flatten_cons, List.flatten_cons]
    exact RpL.append h (RpL.rep h k)
/-- ints are known by their data -/
theorem RpL.ints : ∀ {ns : List Int} {vs : List V}, RpL K H (ns.map D.int) vs → vs = ns.map V.int
  | [], vs, h => by simpa [RpL] using h
  | n :: ns, vs, h => by
    simp only [List.map_cons, RpL, Rp] at h
    obtain ⟨w, q, e1, h1, h2⟩ := h
    rw [e1, h1, RpL.ints h2]; rfl
theorem RpL.bls : ∀ {bs : List Bool} {vs : List V}, RpL K H (bs.map D.bl) vs → vs = bs.map V.bl
  | [], vs, h => by simpa [RpL] using h
  | n :: ns, vs, h => by
    simp only [List.map_cons, RpL, Rp] at h
    obtain ⟨w, q, e1, h1, h2⟩ := h
    rw [e1, h1, RpL.bls h2]; rfl
theorem RpL.of_ints : ∀ (ns : List Int), RpL K H (ns.map D.int) (ns.map V.int)
  | [] => RpL.nil
  | n :: ns => RpL.cons (by simp [Rp]) (RpL.of_ints ns)
end

/-! ### flat things lean on tuples alone -/
def TExt (H H' : Hp) : Prop := ∀ b vs, H b = some (.tup vs) → H' b = some (.tup vs)
mutual
theorem Rp.flat {K : PySem.W.Frag} {H H' : Hp} (e : TExt H H') : ∀ (d : D) (v : V), d.flat = true → Rp K H d v → Rp K H' d v
  | .non, _, _, h => by simpa [Rp] using h
  | .bl _, _, _, h => by simpa [Rp] using h
  | .int _, _, _, h => by simpa [Rp] using h
  | .str _, _, _, h => by simpa [Rp] using h
  | .tup ds, v, f, h => by
    simp only [Rp] at h ⊢
    obtain ⟨a, vs, e1, e2, h⟩ := h
    exact ⟨a, vs, e1, e _ _ e2, RpL.flat e ds vs (by simpa [D.flat] using f) h⟩
  | .lst _, _, f, _ => by simp [D.flat] at f
  | .dk _, _, f, _ => by simp [D.flat] at f
  | .dt _, _, f, _ => by simp [D.flat] at f
theorem RpL.flat {K : PySem.W.Frag} {H H' : Hp} (e : TExt H H') : ∀ (ds : List D) (vs : List V), flatL ds = true → RpL K H ds vs → RpL K H' ds vs
  | [], _, _, h => by simpa [RpL] using h
  | d :: ds, vs, f, h => by
    simp only [RpL] at h ⊢
    simp only [flatL, Bool.and_eq_true] at f
    obtain ⟨v, r, e1, h1, h2⟩ := h
    exact ⟨v, r, e1, Rp.flat e d v f.1 h1, RpL.flat e ds r f.2 h2⟩
end
theorem HOr.flat {K : PySem.W.Frag} {H H' : Hp} (e : TExt H H') {d : D} {u : HO} (f : d.ff = true) (h : HOr K H d u) : HOr K H' d u := by
  cases d <;> cases u <;> first
    | exact h
    | exact RpL.flat e _ _ f h
/-! ### the environment stands in the slots -/
def OwnA (env : En) (σ : L2.St) (b : Addr) : Prop := ∃ (i : Nat) (d : D), env[i]? = some (.own d) ∧ σ[i]? = some (some (.ref b))
structure Rel (K : PySem.W.Frag) (io : Option Addr) (env : En) (σ : L2.St) (H : Hp) : Prop where
  len : env.length = σ.length
  val : ∀ (i : Nat) (d : D), env[i]? = some (.val d) → ∃ v, σ[i]? = some (some v) ∧ Rp K H d v
  own : ∀ (i : Nat) (d : D), env[i]? = some (.own d) → ∃ a, σ[i]? = some (some (.ref a)) ∧ ROwn K H d a ∧ d.fl = true
  sep : ∀ (i j : Nat) (d e : D) (a : Addr), env[i]? = some (.own d) → env[j]? = some (.own e) → σ[i]? = some (some (.ref a)) → σ[j]? = some (some (.ref a)) → i = j
  io : ∀ a, io = some a → σ[0]? = some (some (.ref a)) ∧ ∃ d, env[0]? = some (.own d)
/-- the same slots, own things perhaps changed -/
def Shp (env env' : En) : Prop := env'.length = env.length ∧ ∀ (i : Nat), (∀ d, env[i]? = some (.own d) → ∃ d', env'[i]? = some (.own d')) ∧ ((∀ d, env[i]? ≠ some (.own d)) → env'[i]? = env[i]?)
theorem Shp.refl (env : En) : Shp env env := ⟨rfl, fun i => ⟨fun d h => ⟨d, h⟩, fun _ => rfl⟩⟩
theorem Shp.back {env env' : En} (s : Shp env env') {i : Nat} {d : D} (h : env'[i]? = some (.own d)) : ∃ d0, env[i]? = some (.own d0) := by
  by_cases q : ∃ d0, env[i]? = some (.own d0)
  · exact q
  · have := (s.2 i).2 (fun d0 z => q ⟨d0, z⟩)
    rw [this] at h
    exact ⟨d, h⟩
theorem Shp.trans {e1 e2 e3 : En} (a : Shp e1 e2) (b : Shp e2 e3) : Shp e1 e3 := by
  refine ⟨b.1.trans a.1, fun i => ⟨fun d h => ?_, fun h => ?_⟩⟩
  · obtain ⟨d', h'⟩ := (a.2 i).1 d h
    exact (b.2 i).1 d' h'
  · have h2 := (a.2 i).2 h
    rw [← h2]
    exact (b.2 i).2 fun d z => by
      rw [h2] at z
      exact h d z
theorem Shp.ownA {env env' : En} (s : Shp env env') {σ : L2.St} {b : Addr} : OwnA env' σ b ↔ OwnA env σ b := by
  constructor
  · rintro ⟨i, d, h1, h2⟩
    obtain ⟨d0, h0⟩ := s.back h1
    exact ⟨i, d0, h0, h2⟩
  · rintro ⟨i, d, h1, h2⟩
    obtain ⟨d', h'⟩ := (s.2 i).1 d h1
    exact ⟨i, d', h', h2⟩
/-- what an expression may do -/
structure EvE (env : En) (σ : L2.St) (H : Hp) (env' : En) (H' : Hp) : Prop where
  shp : Shp env env'
  kp : ∀ b o, H b = some o → ¬ OwnA env σ b → H' b = some o
  dom : ∀ b o, H b = some o → ∃ o', H' b = some o'
theorem EvE.refl (env : En) (σ : L2.St) (H : Hp) : EvE env σ H env H := ⟨Shp.refl _, fun _ _ h _ => h, fun _ o h => ⟨o, h⟩⟩
theorem EvE.trans {e1 e2 e3 : En} {σ : L2.St} {H1 H2 H3 : Hp} (a : EvE e1 σ H1 e2 H2) (b : EvE e2 σ H2 e3 H3) : EvE e1 σ H1 e3 H3 :=
  ⟨a.shp.trans b.shp, fun c o h n => b.kp c o (a.kp c o h n) fun z => n (a.shp.ownA.mp z), fun c o h => let ⟨o', h'⟩ := a.dom c o h; b.dom c o' h'⟩
theorem EvE.ext {env : En} {σ : L2.St} {H H' : Hp} (e : Ext H H') : EvE env σ H env H' := ⟨Shp.refl _, fun b o h _ => e b o h, fun b o h => ⟨o, e b o h⟩⟩
section
variable {K : PySem.W.Frag} {io : Option Addr} {env env' : En} {σ σ' : L2.St} {H H' : Hp}
theorem Rel.notOwn (r : Rel K io env σ H) {b : Addr} {o : HO} (h : H b = some o) (f : Frm o) : ¬ OwnA env σ b := by
  rintro ⟨i, d, h1, h2⟩
  obtain ⟨a, q1, ⟨u, q2, q3⟩, _⟩ := r.own i d h1
  rw [h2] at q1
  cases q1
  rw [h] at q2
  cases q2
  exact q3.notFrm f
theorem Rel.fx (r : Rel K io env σ H) (e : EvE env σ H env' H') : FExt H H' := fun b o h f => e.kp b o h (r.notOwn h f)
theorem Rel.ext (r : Rel K io env σ H) (e : Ext H H') : Rel K io env σ H' where
  len := r.len
  val := fun i d h => let ⟨v, h1, h2⟩ := r.val i d h; ⟨v, h1, Rp.ext e.fx _ _ h2⟩
  own := fun i d h => let ⟨a, h1, ⟨u, h2, h3⟩, f⟩ := r.own i d h; ⟨a, h1, ⟨u, e _ _ h2, h3.ext e.fx⟩, f⟩
  sep := r.sep
  io := r.io
end

/-- what a statement may do -/
structure Ev (env : En) (σ : L2.St) (H : Hp) (env' : En) (σ' : L2.St) (H' : Hp) : Prop where
  kp : ∀ b o, H b = some o → ¬ OwnA env σ b → H' b = some o ∧ ¬ OwnA env' σ' b
  dom : ∀ b o, H b = some o → ∃ o', H' b = some o'
theorem Ev.refl (env : En) (σ : L2.St) (H : Hp) : Ev env σ H env σ H := ⟨fun _ _ h n => ⟨h, n⟩, fun _ o h => ⟨o, h⟩⟩
theorem Ev.trans {e1 e2 e3 : En} {s1 s2 s3 : L2.St} {H1 H2 H3 : Hp} (a : Ev e1 s1 H1 e2 s2 H2) (b : Ev e2 s2 H2 e3 s3 H3) : Ev e1 s1 H1 e3 s3 H3 :=
  ⟨fun c o h n => let ⟨x, y⟩ := a.kp c o h n; b.kp c o x y, fun c o h => let ⟨o', h'⟩ := a.dom c o h; b.dom c o' h'⟩
theorem EvE.ev {env env' : En} {σ : L2.St} {H H' : Hp} (e : EvE env σ H env' H') : Ev env σ H env' σ H' :=
  ⟨fun b o h n => ⟨e.kp b o h n, fun z => n (e.shp.ownA.mp z)⟩, e.dom⟩
theorem Rel.fxS {K : PySem.W.Frag} {io : Option Addr} {env env' : En} {σ σ' : L2.St} {H H' : Hp} (r : Rel K io env σ H) (e : Ev env σ H env' σ' H') : FExt H H' := fun b o h f => (e.kp b o h (r.notOwn h f)).1
end DL

/-! ## DLb -/
/-! DLb: judgements: an expression, a test, a list of expressions is run by a Lean function; the plain rules. -/
namespace DL
open PySem PySem.Spec PyProof.Rows L2

/-- what is wanted of an error: its class's name, the heap -/
abbrev WD := Str → Hp → Prop
def Wp {α β : Type} (K : PySem.W.Frag) (W : WD) (io : Option Addr) (env : En) (σ : L2.St) (H : Hp) (r : R (α × En)) (P : Hp → α → β → Prop) (Q : β → Hp → Prop) : Prop :=
  match r with
  | .stk => False
  | .err c => ∀ env' H', EvE env σ H env' H' → W c H'
  | .ok p => ∀ b H', EvE env σ H p.2 H' → Rel K io p.2 σ H' → P H' p.1 b → Q b H'
section
variable {α β γ δ : Type} {K : PySem.W.Frag} {W : WD} {io : Option Addr} {env env1 : En} {σ : L2.St} {H H1 : Hp} {P : Hp → α → β → Prop} {Q : β → Hp → Prop}
theorem Wp.fwd {r : R (α × En)} (e : EvE env σ H env1 H1) (h : Wp K W io env σ H r P Q) : Wp K W io env1 σ H1 r P Q := by
  cases r with
  | stk => exact h
  | err c => exact fun env' H' e' => h env' H' (e.trans e')
  | ok p => exact fun b H' e' => h b H' (e.trans e')
theorem Wp.bind {P2 : Hp → γ → δ → Prop} {Q2 : δ → Hp → Prop} {r : R (α × En)} {k : α × En → R (γ × En)} (h : Wp K W io env σ H (r.bind k) P2 Q2)
    (go : ∀ p b H', r = .ok p → EvE env σ H p.2 H' → Rel K io p.2 σ H' → P H' p.1 b → Wp K W io p.2 σ H' (k p) P2 Q2 → Q b H') : Wp K W io env σ H r P Q := by
  cases r with
  | stk => exact h
  | err c => exact h
  | ok p => exact fun b H' e' r' p' => go p b H' rfl e' r' p' (Wp.fwd e' h)
theorem Wp.imp {r : R (α × En)} {Q' : β → Hp → Prop} (h : Wp K W io env σ H r P Q) (k : ∀ b H', Q b H' → Q' b H') : Wp K W io env σ H r P Q' := by
  cases r with
  | stk => exact h
  | err c => exact h
  | ok p => exact fun b H' e' r' p' => k b H' (h b H' e' r' p')
theorem Wp.done {a : α} {b : β} (r : Rel K io env σ H) (p : P H a b) (h : Wp K W io env σ H (.ok (a, env)) P Q) : Q b H := h b H (EvE.refl _ _ _) r p
end
abbrev Den := En → R (D × En)
abbrev DenT := En → R (Bool × En)
abbrev DenL := En → R (List D × En)
/-- the readings -/
def RdE (K : PySem.W.Frag) (W : WD) (f : Den) : TE := fun σ H Q => ∃ io env, Rel K io env σ H ∧ Wp K W io env σ H (f env) (fun H' d v => Rp K H' d v) Q
/-- a new thing, not frozen -/
def RdF (K : PySem.W.Frag) (W : WD) (f : Den) : TE := fun σ H Q => ∃ io env, Rel K io env σ H ∧ Wp K W io env σ H (f env) (fun H' d v => ∃ a, v = V.ref a ∧ H a = none ∧ ROwn K H' d a) Q
def RdT (K : PySem.W.Frag) (W : WD) (f : DenT) : TT := fun σ H Q => ∃ io env, Rel K io env σ H ∧ Wp K W io env σ H (f env) (fun _ b b' => b = b') Q
def RdA (K : PySem.W.Frag) (W : WD) (f : DenL) : TA := fun σ H Q => ∃ io env, Rel K io env σ H ∧ Wp K W io env σ H (f env) (fun H' ds vs => RpL K H' ds vs) Q
abbrev DE (X : Cx) (W : WD) (e : Expr) (f : Den) : Prop := PE X e (RdE X.K W f)
abbrev DF (X : Cx) (W : WD) (e : Expr) (f : Den) : Prop := PE X e (RdF X.K W f)
abbrev DT (X : Cx) (W : WD) (e : Expr) (f : DenT) : Prop := PT X e (RdT X.K W f)
abbrev DW (X : Cx) (W : WD) (e : Expr) (f : DenT) : Prop := PW X e (RdT X.K W f)
abbrev DA (X : Cx) (W : WD) (es : List Expr) (f : DenL) : Prop := PA X es (RdA X.K W f)
theorem pe_imp {X : Cx} {e : Expr} {t t' : TE} (h : PE X e t) (k : ∀ σ H Q, t' σ H Q → t σ H Q) : PE X e t' := ⟨fun pins s σ H Q I q => h.run pins s σ H Q I (k σ H Q q)⟩
theorem pt_imp {X : Cx} {e : Expr} {t t' : TT} (h : PT X e t) (k : ∀ σ H Q, t' σ H Q → t σ H Q) : PT X e t' := ⟨fun pins s σ H Q I q => h.run pins s σ H Q I (k σ H Q q)⟩
theorem pw_imp {X : Cx} {e : Expr} {t t' : TT} (h : PW X e t) (k : ∀ σ H Q, t' σ H Q → t σ H Q) : PW X e t' := ⟨fun wh pins s σ H Q I q => h.run wh pins s σ H Q I (k σ H Q q)⟩
theorem pa_imp {X : Cx} {es : List Expr} {t t' : TA} (h : PA X es t) (k : ∀ σ H Q, t' σ H Q → t σ H Q) : PA X es t' := ⟨fun pos pins s σ H Q I q => h.run pos pins s σ H Q I (k σ H Q q)⟩

/-! ### names, constants -/
def eVar (i : Nat) : Den := fun env => match env[i]? with
  | some (.val d) => .ok (d, env)
  | _ => .stk
def eC (d : D) : Den := fun env => .ok (d, env)
section
variable {X : Cx} {W : WD}
theorem de_var (i : Nat) {x : Str} {pos : Pos} (hN : X.N[i]? = some x := by rfl) (hv : Vis X.env.scope x := by first | exact Or.inl rfl | exact Or.inr (Or.inl rfl) | exact Or.inr (Or.inr rfl)) (hd : (x == ("__debug__" : Str)) = false := by decide)
    (hcd : (x == ("__classdict__" : Str)) = false := by decide) : DE X W (.Name x pos) (eVar i) := by
  refine pe_imp (pe_var hN hv hd hcd) fun σ H Q h => ?_
  obtain ⟨io, env, r, h⟩ := h
  unfold eVar at h
  split at h
  · rename_i d q
    obtain ⟨v, h1, h2⟩ := r.val i d q
    exact ⟨v, h1, h v H (EvE.refl _ _ _) r h2⟩
  · exact (show False from h).elim
theorem de_c {e : Expr} {v : V} {d : D} (h : PE X e (tC v)) (hd : ∀ H, Rp X.K H d v) : DE X W e (eC d) :=
  pe_imp h fun σ H Q ⟨io, env, r, q⟩ => q v H (EvE.refl _ _ _) r (hd H)
theorem de_int {i j pos} : DE X W (.Constant (.int i) j pos) (eC (.int i)) := de_c pe_int fun _ => by simp [Rp]
theorem de_bl {b j pos} : DE X W (.Constant (.bool b) j pos) (eC (.bl b)) := de_c pe_bl fun _ => by simp [Rp]
theorem de_non {j pos} : DE X W (.Constant .none j pos) (eC .non) := de_c pe_non fun _ => by simp [Rp]
theorem de_str {x j pos} : DE X W (.Constant (.str x) j pos) (eC (.str x)) := de_c pe_str fun _ => by simp [Rp]
/-- a module's whole number -/
theorem de_globI {x : Str} {i : Int} {u : Value} {pos : Pos} (hg : Gl X x) (hm : X.mg x = some u) (r : RelV (.int i) u) (hd : (x == ("__debug__" : Str)) = false := by decide) : DE X W (.Name x pos) (eC (.int i)) :=
  de_c (pe_glob hg hm r hd) fun _ => by simp [Rp]
end

/-! ### operations by values -/
def PrR2 (K : PySem.W.Frag) (r : R2) (p : D → D → Option D) : Prop :=
  ∀ (H : Hp) (x y : V) (a b d : D), Rp K H a x → Rp K H b y → p a b = some d → ∀ Q : VK, (∀ v H', Ext H H' → Rp K H' d v → Q v H') → r x y H Q
def PrF2 (K : PySem.W.Frag) (r : R2) (p : D → D → Option D) : Prop :=
  ∀ (H : Hp) (x y : V) (a b d : D), Rp K H a x → Rp K H b y → p a b = some d → ∀ Q : VK, (∀ l H', Ext H H' → H l = none → ROwn K H' d l → Q (.ref l) H') → r x y H Q
def PrR1 (K : PySem.W.Frag) (r : V → Hp → VK → Prop) (p : D → Option D) : Prop :=
  ∀ (H : Hp) (x : V) (a d : D), Rp K H a x → p a = some d → ∀ Q : VK, (∀ v H', Ext H H' → Rp K H' d v → Q v H') → r x H Q
def PrR (K : PySem.W.Frag) (r : List V → Hp → VK → Prop) (p : List D → Option D) : Prop :=
  ∀ (H : Hp) (vs : List V) (ds : List D) (d : D), RpL K H ds vs → p ds = some d → ∀ Q : VK, (∀ v H', Ext H H' → Rp K H' d v → Q v H') → r vs H Q
def PrF (K : PySem.W.Frag) (r : List V → Hp → VK → Prop) (p : List D → Option D) : Prop :=
  ∀ (H : Hp) (vs : List V) (ds : List D) (d : D), RpL K H ds vs → p ds = some d → ∀ Q : VK, (∀ l H', Ext H H' → H l = none → ROwn K H' d l → Q (.ref l) H') → r vs H Q
def e2 (p : D → D → Option D) (fa fb : Den) : Den := fun env => (fa env).bind fun x => (fb x.2).bind fun y => (R.of (p x.1 y.1)).bind fun d => .ok (d, y.2)
def e1 (p : D → Option D) (fa : Den) : Den := fun env => (fa env).bind fun x => (R.of (p x.1)).bind fun d => .ok (d, x.2)
def eN (p : List D → Option D) (F : DenL) : Den := fun env => (F env).bind fun x => (R.of (p x.1)).bind fun d => .ok (d, x.2)
def aNil : DenL := fun env => .ok ([], env)
def aCons (f : Den) (F : DenL) : DenL := fun env => (f env).bind fun x => (F x.2).bind fun y => .ok (x.1 :: y.1, y.2)
section
variable {K : PySem.W.Frag} {W : WD} {σ : L2.St} {H : Hp} {fa fb : Den} {F : DenL}
theorem rd_op {r : R2} {p : D → D → Option D} (hp : PrR2 K r p) {Q : VK} (h : RdE K W (e2 p fa fb) σ H Q) : tOp r (RdE K W fa) (RdE K W fb) σ H Q := by
  obtain ⟨io, env, hr, h⟩ := h
  refine ⟨io, env, hr, Wp.bind h fun x v H1 _ e1 r1 p1 h1 => ⟨io, x.2, r1, Wp.bind h1 fun y w H2 _ e2 r2 p2 h2 => ?_⟩⟩
  cases q : p x.1 y.1 with
  | none => rw [q] at h2; exact (show False from h2).elim
  | some d =>
    rw [q] at h2
    exact hp H2 v w x.1 y.1 d (Rp.ext (r1.fx e2) _ _ p1) p2 q Q fun z H3 e3 rz => h2 z H3 (EvE.ext e3) (r2.ext e3) rz
theorem rd_opF {r : R2} {p : D → D → Option D} (hp : PrF2 K r p) {Q : VK} (h : RdF K W (e2 p fa fb) σ H Q) : tOp r (RdE K W fa) (RdE K W fb) σ H Q := by
  obtain ⟨io, env, hr, h⟩ := h
  refine ⟨io, env, hr, Wp.bind h fun x v H1 _ e1 r1 p1 h1 => ⟨io, x.2, r1, Wp.bind h1 fun y w H2 _ e2 r2 p2 h2 => ?_⟩⟩
  cases q : p x.1 y.1 with
  | none => rw [q] at h2; exact (show False from h2).elim
  | some d =>
    rw [q] at h2
    refine hp H2 v w x.1 y.1 d (Rp.ext (r1.fx e2) _ _ p1) p2 q Q fun l H3 e3 hl rz => h2 (.ref l) H3 (EvE.ext e3) (r2.ext e3) ⟨l, rfl, ?_, rz⟩
    cases z : H l with
    | none => rfl
    | some o =>
      obtain ⟨o1, z1⟩ := e1.dom l o z
      obtain ⟨o2, z2⟩ := e2.dom l o1 z1
      rw [hl] at z2; cases z2
theorem rd_un {r : V → Hp → VK → Prop} {p : D → Option D} (hp : PrR1 K r p) {Q : VK} (h : RdE K W (e1 p fa) σ H Q) : tUn r (RdE K W fa) σ H Q := by
  obtain ⟨io, env, hr, h⟩ := h
  refine ⟨io, env, hr, Wp.bind h fun x v H1 _ e1 r1 p1 h1 => ?_⟩
  cases q : p x.1 with
  | none => rw [q] at h1; exact (show False from h1).elim
  | some d =>
    rw [q] at h1
    exact hp H1 v x.1 d p1 q Q fun z H3 e3 rz => h1 z H3 (EvE.ext e3) (r1.ext e3) rz
theorem rd_cb {r : List V → Hp → VK → Prop} {p : List D → Option D} (hp : PrR K r p) {Q : VK} (h : RdE K W (eN p F) σ H Q) : tCB r (RdA K W F) σ H Q := by
  obtain ⟨io, env, hr, h⟩ := h
  refine ⟨io, env, hr, Wp.bind h fun x vs H1 _ e1 r1 p1 h1 => ?_⟩
  cases q : p x.1 with
  | none => rw [q] at h1; exact (show False from h1).elim
  | some d =>
    rw [q] at h1
    exact hp H1 vs x.1 d p1 q Q fun z H3 e3 rz => h1 z H3 (EvE.ext e3) (r1.ext e3) rz
theorem rd_cbF {r : List V → Hp → VK → Prop} {p : List D → Option D} (hp : PrF K r p) {Q : VK} (h : RdF K W (eN p F) σ H Q) : tCB r (RdA K W F) σ H Q := by
  obtain ⟨io, env, hr, h⟩ := h
  refine ⟨io, env, hr, Wp.bind h fun x vs H1 _ e1 r1 p1 h1 => ?_⟩
  cases q : p x.1 with
  | none => rw [q] at h1; exact (show False from h1).elim
  | some d =>
    rw [q] at h1
    refine hp H1 vs x.1 d p1 q Q fun l H3 e3 hl rz => h1 (.ref l) H3 (EvE.ext e3) (r1.ext e3) ⟨l, rfl, ?_, rz⟩
    cases z : H l with
    | none => rfl
    | some o =>
      obtain ⟨o1, z1⟩ := e1.dom l o z
      rw [hl] at z1; cases z1
end
section
variable {X : Cx} {W : WD} {a b c e : Expr} {es : List Expr} {fa fb fc : Den} {F : DenL} {pos : Pos}
theorem da_nil : DA X W [] aNil := pa_imp pa_nil fun σ H Q ⟨io, env, r, h⟩ => h [] H (EvE.refl _ _ _) r RpL.nil
theorem da_cons (ha : DE X W e fa) (hr : DA X W es F) (hs : starEach (e :: es) X.env = (false, eval e X.env) :: starEach es X.env := by rfl) : DA X W (e :: es) (aCons fa F) := by
  refine pa_imp (pa_cons ha hr hs) fun σ H Q h => ?_
  obtain ⟨io, env, hr, h⟩ := h
  refine ⟨io, env, hr, Wp.bind h fun x v H1 _ e1 r1 p1 h1 => ⟨io, x.2, r1, Wp.bind h1 fun y w H2 _ e2 r2 p2 h2 => ?_⟩⟩
  exact h2 (v :: w) H2 (EvE.refl _ _ _) r2 (RpL.cons (Rp.ext (r1.fx e2) _ _ p1) p2)
theorem de_bin {op : Operator} {r : R2} {p : D → D → Option D} (hp : PrR2 X.K r p) (ho : OpR X (binaryOp op) r) (ha : DE X W a fa) (hb : DE X W b fb) : DE X W (.BinOp a op b pos) (e2 p fa fb) :=
  pe_imp (pe_op ho ha hb) fun σ H Q h => rd_op hp h
theorem df_bin {op : Operator} {r : R2} {p : D → D → Option D} (hp : PrF2 X.K r p) (ho : OpR X (binaryOp op) r) (ha : DE X W a fa) (hb : DE X W b fb) : DF X W (.BinOp a op b pos) (e2 p fa fb) :=
  pe_imp (pe_op ho ha hb) fun σ H Q h => rd_opF hp h
theorem de_cmp {op : CmpOp} {r : R2} {p : D → D → Option D} (hp : PrR2 X.K r p) (ho : OpR X (compareOp op) r) (ha : DE X W a fa) (hb : DE X W b fb) (hm : behindInMarks op b = false) : DE X W (.Compare a [op] [b] pos) (e2 p fa fb) :=
  pe_imp (pe_cmpR ho ha hb hm) fun σ H Q h => rd_op hp h
theorem de_un {op : UnaryOp} {r : V → Hp → VK → Prop} {p : D → Option D} (hp : PrR1 X.K r p) (ho : UnR X (unaryOp op) r) (ha : DE X W a fa) : DE X W (.UnaryOp op a pos) (e1 p fa) :=
  pe_imp (pe_un ho ha) fun σ H Q h => rd_un hp h
theorem de_ix {r : R2} {p : D → D → Option D} (hp : PrR2 X.K r p) (ho : IxR X r) (ha : DE X W a fa) (hb : DE X W b fb) (hs : PlainIx b := by exact fun _ _ => rfl) : DE X W (.Subscript a b pos) (e2 p fa fb) :=
  pe_imp (pe_ix ho ha hb hs) fun σ H Q h => rd_op hp h
theorem de_cb {x : Str} {id : String} {r : List V → Hp → VK → Prop} {p : List D → Option D} {q : Pos} (hp : PrR X.K r p) (hc : CallR X (.builtin id) r) (hg : Gl X x) (hm : X.mg x = none) (hv : bootBuiltins x = some (.builtin id)) (ha : DA X W (e :: es) F)
    (hn : x ≠ "__name__" := by decide) (hdb : (x == ("__debug__" : Str)) = false := by decide) (he : starEach (e :: es) X.env = (false, eval e X.env) :: starEach es X.env := by rfl) (hpl : (backTo pos (starEach es X.env)).any (·.1) = false := by rfl) :
    DE X W (.Call (.Name x q) (e :: es) [] pos) (eN p F) := pe_imp (pe_callB hc hg hm hv ha hn hdb he hpl) fun σ H Q h => rd_cb hp h
theorem df_cb {x : Str} {id : String} {r : List V → Hp → VK → Prop} {p : List D → Option D} {q : Pos} (hp : PrF X.K r p) (hc : CallR X (.builtin id) r) (hg : Gl X x) (hm : X.mg x = none) (hv : bootBuiltins x = some (.builtin id)) (ha : DA X W (e :: es) F)
    (hn : x ≠ "__name__" := by decide) (hdb : (x == ("__debug__" : Str)) = false := by decide) (he : starEach (e :: es) X.env = (false, eval e X.env) :: starEach es X.env := by rfl) (hpl : (backTo pos (starEach es X.env)).any (·.1) = false := by rfl) :
    DF X W (.Call (.Name x q) (e :: es) [] pos) (eN p F) := pe_imp (pe_callB hc hg hm hv ha hn hdb he hpl) fun σ H Q h => rd_cbF hp h
theorem de_ct {x : Str} {T : String} {r : List V → Hp → VK → Prop} {p : List D → Option D} {q : Pos} (hp : PrR X.K r p) (hc : CallR X (.type T) r) (hg : Gl X x) (hm : X.mg x = none) (hv : bootBuiltins x = some (.type T)) (ha : DA X W (e :: es) F)
    (hn : x ≠ "__name__" := by decide) (hdb : (x == ("__debug__" : Str)) = false := by decide) (he : starEach (e :: es) X.env = (false, eval e X.env) :: starEach es X.env := by rfl) (hpl : (backTo pos (starEach es X.env)).any (·.1) = false := by rfl) :
    DE X W (.Call (.Name x q) (e :: es) [] pos) (eN p F) := pe_imp (pe_callTy hc hg hm hv ha hn hdb he hpl) fun σ H Q h => rd_cb hp h
theorem df_ct {x : Str} {T : String} {r : List V → Hp → VK → Prop} {p : List D → Option D} {q : Pos} (hp : PrF X.K r p) (hc : CallR X (.type T) r) (hg : Gl X x) (hm : X.mg x = none) (hv : bootBuiltins x = some (.type T)) (ha : DA X W (e :: es) F)
    (hn : x ≠ "__name__" := by decide) (hdb : (x == ("__debug__" : Str)) = false := by decide) (he : starEach (e :: es) X.env = (false, eval e X.env) :: starEach es X.env := by rfl) (hpl : (backTo pos (starEach es X.env)).any (·.1) = false := by rfl) :
    DF X W (.Call (.Name x q) (e :: es) [] pos) (eN p F) := pe_imp (pe_callTy hc hg hm hv ha hn hdb he hpl) fun σ H Q h => rd_cbF hp h
end

/-! ### displays -/
def big : Nat := 1000000
theorem big_le {n : Nat} (h : n ≤ big) : n ≤ sizeLine := Nat.le_trans h (by decide)
theorem big_lt {n : Nat} (h : n < big) : n < sizeLine := Nat.lt_of_lt_of_le h (by decide)
def short (ds : List D) : Option (List D) := if ds.length ≤ big then some ds else none
def eTup (F : DenL) : Den := eN (fun ds => (short ds).map D.tup) F
def fLst (F : DenL) : Den := eN (fun ds => (short ds).map D.lst) F
theorem short_some {ds es : List D} (h : short ds = some es) : es = ds ∧ ds.length ≤ big := by
  unfold short at h
  split at h
  · cases h; exact ⟨rfl, by assumption⟩
  · cases h
section
variable {X : Cx} {W : WD} {es : List Expr} {F : DenL} {pos : Pos}
theorem de_tup {k} (h : DA X W es F) : DE X W (.Tuple es k pos) (eTup F) := by
  refine pe_imp (pe_tup h) fun σ H Q hq => ?_
  obtain ⟨io, env, hr, hq⟩ := hq
  refine ⟨io, env, hr, Wp.bind hq fun x vs H1 _ e1 r1 p1 h1 => ?_⟩
  cases q : short x.1 with
  | none => dsimp only at h1; rw [q] at h1; exact (show False from h1).elim
  | some ds =>
    obtain ⟨rfl, hl⟩ := short_some q
    dsimp only at h1; rw [q] at h1
    refine ⟨by rw [p1.length]; exact big_le hl, fun p np => ?_⟩
    refine h1 (.ref p) _ (EvE.ext (Ext.new np)) (r1.ext (Ext.new np)) ?_
    show Rp X.K (upd H1 p (.tup vs)) (.tup x.1) (.ref p)
    simp only [Rp]
    exact ⟨p, vs, rfl, upd_same, RpL.ext (Ext.new np).fx _ _ p1⟩
theorem df_lst (h : DA X W es F) : DF X W (.List es pos) (fLst F) := by
  refine pe_imp (pe_lst h) fun σ H Q hq => ?_
  obtain ⟨io, env, hr, hq⟩ := hq
  refine ⟨io, env, hr, Wp.bind hq fun x vs H1 _ e1 r1 p1 h1 => ?_⟩
  cases q : short x.1 with
  | none => dsimp only at h1; rw [q] at h1; exact (show False from h1).elim
  | some ds =>
    obtain ⟨rfl, hl⟩ := short_some q
    dsimp only at h1; rw [q] at h1
    refine ⟨by rw [p1.length]; exact big_le hl, fun p np => ?_⟩
    refine h1 (.ref p) _ (EvE.ext (Ext.new np)) (r1.ext (Ext.new np)) ⟨p, rfl, ?_, .lst vs, upd_same, RpL.ext (Ext.new np).fx _ _ p1⟩
    cases z : H p with
    | none => rfl
    | some o =>
      obtain ⟨o1, z1⟩ := e1.dom p o z
      rw [np] at z1; cases z1
end

/-! ### a new thing is frozen; an own thing is lent -/
theorem Rel.upd_new {K : PySem.W.Frag} {io : Option Addr} {env : En} {σ : L2.St} {H : Hp} {a : Addr} {u : HO} (r : Rel K io env σ H) (nf : ∀ o, H a = some o → ¬ Frm o) (no : ¬ OwnA env σ a) : Rel K io env σ (upd H a u) := by
  have fx : FExt H (upd H a u) := fun b o h f => by
    rw [upd_ne (fun z => by subst z; exact nf o h f)]; exact h
  refine ⟨r.len, fun i d h => ?_, fun i d h => ?_, r.sep, r.io⟩
  · obtain ⟨v, h1, h2⟩ := r.val i d h
    exact ⟨v, h1, Rp.ext fx _ _ h2⟩
  · obtain ⟨b, h1, ⟨w, h2, h3⟩, fl⟩ := r.own i d h
    exact ⟨b, h1, ⟨w, by rw [upd_ne (fun z => no ⟨i, d, h, by rw [← z]; exact h1⟩)]; exact h2, h3.ext fx⟩, fl⟩
theorem Rp.of_frz {K : PySem.W.Frag} {H : Hp} {d : D} {a : Addr} {o : Obj} {u : HO} (h : HOr K H d u) (e : H a = some (.frz o u)) : Rp K H d (.ref a) := by
  cases d <;> cases u <;> first
    | exact (show False from h).elim
    | (rename_i ds vs; simp only [Rp]; exact ⟨a, vs, rfl, .inl ⟨o, e⟩, h⟩)
    | (simp only [Rp]; exact ⟨a, o, rfl, by rw [e, show _ = _ from h]⟩)
/-- the new thing is frozen -/
theorem DF.fz {X : Cx} {W : WD} {e : Expr} {f : Den} (h : DF X W e f) : DE X W e f := by
  refine ⟨fun pins s σ H Q I hq => ?_⟩
  obtain ⟨io, env, hr, hq⟩ := hq
  refine thn (h.run pins s σ H (fun v H1 => ∃ a u, v = .ref a ∧ H1 a = some u ∧ Mut (some u) ∧ ∀ od, Q v (upd H1 a (.frz od u))) I ⟨io, env, hr, ?_⟩) fun v s1 ⟨x, H1, I1, rx, a, u, ex, eu, mu, q⟩ => ?_
  · cases z : f env with
    | stk => rw [z] at hq; exact hq
    | err c => rw [z] at hq; exact hq
    | ok p =>
      rw [z] at hq
      intro v H1 e1 r1 p1
      obtain ⟨a, rfl, na, u, hu, ho⟩ := p1
      have no : ¬ OwnA p.2 σ a := fun y => by
        obtain ⟨i, d, y1, y2⟩ := e1.shp.ownA.mp y
        obtain ⟨b, y3, ⟨w, y4, _⟩, _⟩ := hr.own i d y1
        rw [y2] at y3; cases y3
        rw [na] at y4; cases y4
      have nf : ∀ o, H1 a = some o → ¬ Frm o := fun o ho' => by
        rw [hu] at ho'; cases ho'; exact ho.notFrm
      refine ⟨a, u, rfl, hu, ho.mut, fun od => ?_⟩
      have r2 : Rel X.K io p.2 σ (upd H1 a (.frz od u)) := r1.upd_new nf no
      have fx : FExt H1 (upd H1 a (.frz od u)) := fun b o h f => by
        rw [upd_ne (fun z => by subst z; exact nf o h f)]; exact h
      refine hq (.ref a) _ ⟨e1.shp, fun b o hb hn => ?_, fun b o hb => ?_⟩ r2 (Rp.of_frz (ho.ext fx) upd_same)
      · rw [upd_ne (ne_of_none hb na)]; exact e1.kp b o hb hn
      · rw [upd_ne (ne_of_none hb na)]; exact e1.dom b o hb
  · obtain ⟨od, I2⟩ := I1.lock eu mu
    exact ⟨x, _, I2, rx, q od⟩
end DL

/-! ## DLc -/
/-! DLc: lending an own thing, tests, and, or, not, if-expressions, chains. -/
namespace DL
open PySem PySem.Spec PyProof.Rows L2

/-! ### lending -/
section
variable {K : PySem.W.Frag} {io : Option Addr} {env env' : En} {σ : L2.St} {H H' : Hp} {i : Nat} {d : D} {a : Addr} {u : HO} {od : Obj}
theorem set_get {l : En} {j : Nat} {s : Sl} (h : i < l.length) : (l.set i s)[j]? = if i = j then some s else l[j]? := by
  rw [List.getElem?_set]
  by_cases e : i = j
  · subst e; simp [h]
  · simp [e]
theorem lt_of_get {l : En} {s : Sl} (h : l[i]? = some s) : i < l.length := (List.getElem?_eq_some_iff.mp h).1
theorem lend_notOwn (r : Rel K io env σ H) (hi : env[i]? = some (.own d)) (ha : σ[i]? = some (some (.ref a))) : ¬ OwnA (env.set i (.val d)) σ a := by
  rintro ⟨j, e, h1, h2⟩
  rw [set_get (lt_of_get hi)] at h1
  by_cases z : i = j
  · subst z; simp at h1
  · rw [if_neg z] at h1
    exact z (r.sep i j d e a hi h1 ha h2)
theorem lend_sub (hi : env[i]? = some (.own d)) {b : Addr} (h : OwnA (env.set i (.val d)) σ b) : OwnA env σ b := by
  obtain ⟨j, e, h1, h2⟩ := h
  rw [set_get (lt_of_get hi)] at h1
  by_cases z : i = j
  · subst z; simp at h1
  · rw [if_neg z] at h1
    exact ⟨j, e, h1, h2⟩
theorem lend (r : Rel K io env σ H) (hi : env[i]? = some (.own d)) (ha : σ[i]? = some (some (.ref a))) (hu : H a = some u) (ho : HOr K H d u) : Rel K none (env.set i (.val d)) σ (upd H a (.frz od u)) := by
  have fx : FExt H (upd H a (.frz od u)) := fun b o h f => by
    rw [upd_ne (fun z => by subst z; rw [hu] at h; cases h; exact ho.notFrm f)]; exact h
  have hl := lt_of_get hi
  refine ⟨by rw [List.length_set]; exact r.len, fun j e h => ?_, fun j e h => ?_, fun j k e e' b h1 h2 => ?_, fun b h => by cases h⟩
  · rw [set_get hl] at h
    by_cases z : i = j
    · subst z
      rw [if_pos rfl] at h
      cases h
      exact ⟨_, ha, Rp.of_frz (ho.ext fx) upd_same⟩
    · rw [if_neg z] at h
      obtain ⟨v, h1, h2⟩ := r.val j e h
      exact ⟨v, h1, Rp.ext fx _ _ h2⟩
  · rw [set_get hl] at h
    by_cases z : i = j
    · subst z; simp at h
    · rw [if_neg z] at h
      obtain ⟨b, h1, ⟨w, h2, h3⟩, fl⟩ := r.own j e h
      exact ⟨b, h1, ⟨w, by rw [upd_ne (fun y => z (r.sep i j d e b hi h (by rw [y]; exact ha) h1))]; exact h2, h3.ext fx⟩, fl⟩
  · rw [set_get hl] at h1 h2
    by_cases z : i = j
    · subst z; simp at h1
    · by_cases z2 : i = k
      · subst z2; simp at h2
      · rw [if_neg z] at h1
        rw [if_neg z2] at h2
        exact r.sep j k e e' b h1 h2
/-- .. and given back -/
theorem lend_back (r : Rel K io env σ H) (hi : env[i]? = some (.own d)) (ha : σ[i]? = some (some (.ref a))) (hu : H a = some u) (ho : HOr K H d u) (e : EvE (env.set i (.val d)) σ (upd H a (.frz od u)) env' H') (r' : Rel K none env' σ H') (hff : ∀ (j : Nat) (y : D), env'[j]? = some (.own y) → y.ff = true) :
    H' a = some (.frz od u) ∧ EvE env σ H (env'.set i (.own d)) (upd H' a u) ∧ Rel K io (env'.set i (.own d)) σ (upd H' a u) ∧ TExt H' (upd H' a u) := by
  have hl := lt_of_get hi
  have hz : H' a = some (.frz od u) := e.kp a _ upd_same (lend_notOwn r hi ha)
  have len' : env'.length = env.length := by rw [e.shp.1, List.length_set]
  have hl' : i < env'.length := by rw [len']; exact hl
  have tx : TExt H' (upd H' a u) := fun b vs h => by
    rw [upd_ne (fun z => by subst z; rw [hz] at h; cases h)]; exact h
  have other : ∀ b o, H b = some o → b ≠ a → ¬ OwnA (env.set i (.val d)) σ b → H' b = some o := fun b o h n no => e.kp b o (by rw [upd_ne n]; exact h) no
  have fx : FExt H (upd H' a u) := fun b o h f => by
    have n : b ≠ a := fun z => by subst z; rw [hu] at h; cases h; exact ho.notFrm f
    rw [upd_ne n]
    exact other b o h n fun z => r.notOwn h f (lend_sub hi z)
  have keepV : ∀ (j : Nat), i ≠ j → ∀ (x : D), env'[j]? = some (Sl.val x) → env[j]? = some (Sl.val x) := fun j z x h => by
    by_cases q : ∃ y, (env.set i (.val d))[j]? = some (.own y)
    · obtain ⟨y, q⟩ := q
      obtain ⟨y', q'⟩ := (e.shp.2 j).1 y q
      rw [h] at q'; cases q'
    · have q2 := (e.shp.2 j).2 fun y z => q ⟨y, z⟩
      rw [q2, set_get hl, if_neg z] at h
      exact h
  have ownB : ∀ (j : Nat), i ≠ j → ∀ (y : D), env'[j]? = some (Sl.own y) → ∃ y0, env[j]? = some (Sl.own y0) := fun j z y h => by
    obtain ⟨y0, h0⟩ := e.shp.back h
    rw [set_get hl, if_neg z] at h0
    exact ⟨y0, h0⟩
  refine ⟨hz, ⟨⟨by rw [List.length_set]; exact len', fun j => ⟨fun y h => ?_, fun h => ?_⟩⟩, fun b o h no => ?_, fun b o h => ?_⟩, ⟨by rw [List.length_set, len']; exact r.len, fun j x h => ?_, fun j y h => ?_, fun j k y y' b h1 h2 => ?_, fun b h => ?_⟩, tx⟩
  · rw [set_get hl']
    by_cases z : i = j
    · exact ⟨d, by rw [if_pos z]⟩
    · rw [if_neg z]
      exact (e.shp.2 j).1 y (by rw [set_get hl, if_neg z]; exact h)
  · have z : i ≠ j := fun z => by subst z; exact h d hi
    rw [set_get hl', if_neg z]
    have q := (e.shp.2 j).2 fun y q => h y (by rw [set_get hl, if_neg z] at q; exact q)
    rw [q, set_get hl, if_neg z]
  · have n : b ≠ a := fun z => by subst z; exact no ⟨i, d, hi, ha⟩
    rw [upd_ne n]
    exact other b o h n fun z => no (lend_sub hi z)
  · by_cases z : b = a
    · exact ⟨u, by rw [z]; exact upd_same⟩
    · obtain ⟨o', h'⟩ := e.dom b o (by rw [upd_ne z]; exact h)
      exact ⟨o', by rw [upd_ne z]; exact h'⟩
  · rw [set_get hl'] at h
    by_cases z : i = j
    · subst z; simp at h
    · rw [if_neg z] at h
      obtain ⟨v, h1, h2⟩ := r.val j x (keepV j z x h)
      exact ⟨v, h1, Rp.ext fx _ _ h2⟩
  · rw [set_get hl'] at h
    by_cases z : i = j
    · subst z
      rw [if_pos rfl] at h
      cases h
      obtain ⟨b, h1, _, fl⟩ := r.own i d hi
      rw [ha] at h1; cases h1
      exact ⟨a, ha, ⟨u, upd_same, ho.ext fx⟩, fl⟩
    · rw [if_neg z] at h
      obtain ⟨b, h1, ⟨w, h2, h3⟩, fl⟩ := r'.own j y h
      obtain ⟨y0, h0⟩ := ownB j z y h
      exact ⟨b, h1, ⟨w, by rw [upd_ne (fun q => z (r.sep i j d y0 b hi h0 (by rw [q]; exact ha) h1))]; exact h2, h3.flat tx (hff j y h)⟩, fl⟩
  · have back : ∀ (j : Nat) (y : D), (env'.set i (Sl.own d))[j]? = some (Sl.own y) → ∃ y0, env[j]? = some (Sl.own y0) := fun j y h => by
      rw [set_get hl'] at h
      by_cases z : i = j
      · subst z; exact ⟨d, hi⟩
      · rw [if_neg z] at h
        exact ownB j z y h
    intro q1 q2
    obtain ⟨y0, g1⟩ := back j y h1
    obtain ⟨y1, g2⟩ := back k y' h2
    exact r.sep j k y0 y1 b g1 g2 q1 q2
  · obtain ⟨h1, y, h2⟩ := r.io b h
    refine ⟨h1, ?_⟩
    rw [set_get hl']
    by_cases z : i = 0
    · exact ⟨d, by rw [if_pos z]⟩
    · rw [if_neg z]
      exact (e.shp.2 0).1 y (by rw [set_get hl, if_neg z]; exact h2)
end
/-- the own things hold no list -/
def offF (env : En) : Bool := env.all fun s => match s with
  | .own y => y.ff
  | _ => true
theorem offF_get {env : En} (h : offF env = true) (j : Nat) (y : D) (q : env[j]? = some (.own y)) : y.ff = true := by
  have := List.all_eq_true.mp h _ (List.mem_of_getElem? q)
  exact this
def eLock (i : Nat) (f : Den) : Den := fun env => match env[i]? with
  | some (.own d) => (f (env.set i (.val d))).bind fun p => if p.1.flat && offF p.2 then .ok (p.1, p.2.set i (.own d)) else .stk
  | _ => .stk
def fLock (i : Nat) (f : Den) : Den := fun env => match env[i]? with
  | some (.own d) => (f (env.set i (.val d))).bind fun p => if p.1.ff && offF p.2 then .ok (p.1, p.2.set i (.own d)) else .stk
  | _ => .stk
section
variable {X : Cx} {W : WD} {e : Expr} {f : Den}
theorem de_lock (i : Nat) (h : DE X W e f) : DE X W e (eLock i f) := by
  refine pe_imp (pe_lock h) fun σ H Q hq => ?_
  obtain ⟨io, env, hr, hq⟩ := hq
  unfold eLock at hq
  split at hq
  · rename_i d hi
    obtain ⟨a, ha, ⟨u, hu, ho⟩, fl⟩ := hr.own i d hi
    refine ⟨a, u, hu, ho.mut, fun od => ⟨none, env.set i (.val d), lend hr hi ha hu ho, ?_⟩⟩
    cases z : f (env.set i (.val d)) with
    | stk => rw [z] at hq; exact hq
    | err c =>
      rw [z] at hq
      intro env' H' e'
      have hz : H' a = some (.frz od u) := e'.kp a _ upd_same (lend_notOwn hr hi ha)
      refine hq env H' ⟨Shp.refl _, fun b o h no => ?_, fun b o h => ?_⟩
      · have n : b ≠ a := fun z => by subst z; exact no ⟨i, d, hi, ha⟩
        exact e'.kp b o (by rw [upd_ne n]; exact h) fun y => no (lend_sub hi y)
      · by_cases n : b = a
        · exact ⟨_, by rw [n]; exact hz⟩
        · exact e'.dom b o (by rw [upd_ne n]; exact h)
    | ok p =>
      rw [z] at hq
      intro v H' e' r' p'
      dsimp only [R.bind] at hq
      by_cases hf : (p.1.flat && offF p.2) = true
      · rw [if_pos hf] at hq
        have hf := Bool.and_eq_true_iff.mp hf
        obtain ⟨hz, ev, rr, tx⟩ := lend_back hr hi ha hu ho e' r' (offF_get hf.2)
        exact ⟨hz, hq v _ ev rr (Rp.flat tx _ _ hf.1 p')⟩
      · rw [if_neg hf] at hq
        exact (show False from hq).elim
  · exact (show False from hq).elim
theorem df_lock (i : Nat) (h : DF X W e f) : DF X W e (fLock i f) := by
  refine pe_imp (pe_lock h) fun σ H Q hq => ?_
  obtain ⟨io, env, hr, hq⟩ := hq
  unfold fLock at hq
  split at hq
  · rename_i d hi
    obtain ⟨a, ha, ⟨u, hu, ho⟩, fl⟩ := hr.own i d hi
    refine ⟨a, u, hu, ho.mut, fun od => ⟨none, env.set i (.val d), lend hr hi ha hu ho, ?_⟩⟩
    cases z : f (env.set i (.val d)) with
    | stk => rw [z] at hq; exact hq
    | err c =>
      rw [z] at hq
      intro env' H' e'
      have hz : H' a = some (.frz od u) := e'.kp a _ upd_same (lend_notOwn hr hi ha)
      refine hq env H' ⟨Shp.refl _, fun b o h no => ?_, fun b o h => ?_⟩
      · have n : b ≠ a := fun z => by subst z; exact no ⟨i, d, hi, ha⟩
        exact e'.kp b o (by rw [upd_ne n]; exact h) fun y => no (lend_sub hi y)
      · by_cases n : b = a
        · exact ⟨_, by rw [n]; exact hz⟩
        · exact e'.dom b o (by rw [upd_ne n]; exact h)
    | ok p =>
      rw [z] at hq
      intro v H' e' r' p'
      dsimp only [R.bind] at hq
      by_cases hf : (p.1.ff && offF p.2) = true
      · rw [if_pos hf] at hq
        have hf := Bool.and_eq_true_iff.mp hf
        obtain ⟨hz, ev, rr, tx⟩ := lend_back hr hi ha hu ho e' r' (offF_get hf.2)
        obtain ⟨l, rfl, nl, w, hw, how⟩ := p'
        have nla : l ≠ a := fun z => by subst z; rw [upd_same] at nl; cases nl
        refine ⟨hz, hq _ _ ev rr ⟨l, rfl, ?_, w, by rw [upd_ne nla]; exact hw, how.flat tx hf.1⟩⟩
        rw [upd_ne nla] at nl
        exact nl
      · rw [if_neg hf] at hq
        exact (show False from hq).elim
  · exact (show False from hq).elim
end

/-! ### tests -/
def tst (f : Den) : DenT := fun env => (f env).bind fun p => match p.1 with
  | .bl b => .ok (b, p.2)
  | _ => .stk
def tAndD (f g : DenT) : DenT := fun env => (f env).bind fun x => if x.1 then g x.2 else .ok (false, x.2)
def tOrD (f g : DenT) : DenT := fun env => (f env).bind fun x => if x.1 then .ok (true, x.2) else g x.2
def tNotD (f : DenT) : DenT := fun env => (f env).bind fun x => .ok (!x.1, x.2)
def eAnd (f g : Den) : Den := fun env => (f env).bind fun x => match x.1 with
  | .bl true => g x.2
  | .bl false => .ok (.bl false, x.2)
  | _ => .stk
def eOr (f g : Den) : Den := fun env => (f env).bind fun x => match x.1 with
  | .bl true => .ok (.bl true, x.2)
  | .bl false => g x.2
  | _ => .stk
def eNot (f : Den) : Den := fun env => (f env).bind fun x => match x.1 with
  | .bl b => .ok (.bl (!b), x.2)
  | _ => .stk
def eIf (t : DenT) (f g : Den) : Den := fun env => (t env).bind fun x => if x.1 then f x.2 else g x.2
def eChain (p q : D → D → Option D) (fa fb fc : Den) : Den := fun env => (fa env).bind fun x => (fb x.2).bind fun y => (R.of (p x.1 y.1)).bind fun d => match d with
  | .bl true => (fc y.2).bind fun z => (R.of (q y.1 z.1)).bind fun d => .ok (d, z.2)
  | .bl false => .ok (.bl false, y.2)
  | _ => .stk
section
variable {K : PySem.W.Frag} {W : WD} {σ : L2.St} {H : Hp} {f g fa fb fc : Den} {t u : DenT}
theorem rd_tst {Q : Bool → Hp → Prop} (h : RdT K W (tst f) σ H Q) : RdE K W f σ H fun x H' => ∃ k, x = .bl k ∧ Q k H' := by
  obtain ⟨io, env, hr, h⟩ := h
  refine ⟨io, env, hr, Wp.bind h fun p v H1 q0 e1 r1 p1 h1 => ?_⟩
  clear q0
  obtain ⟨pd, pe⟩ := p
  cases pd <;> first
    | exact (show False from h1).elim
    | (rename_i b; exact ⟨b, by simpa [Rp] using p1, h1 b H1 (EvE.refl _ _ _) r1 rfl⟩)
theorem rd_and {Q : Bool → Hp → Prop} (h : RdT K W (tAndD t u) σ H Q) : tAnd (RdT K W t) (RdT K W u) σ H Q := by
  obtain ⟨io, env, hr, h⟩ := h
  refine ⟨io, env, hr, Wp.bind h fun p v H1 q0 e1 r1 p1 h1 => ?_⟩
  clear q0
  obtain ⟨pd, pe⟩ := p
  subst p1
  cases pd with
  | true => exact iteT (⟨io, pe, r1, h1⟩)
  | false => exact iteF (h1 false H1 (EvE.refl _ _ _) r1 rfl)
theorem rd_or {Q : Bool → Hp → Prop} (h : RdT K W (tOrD t u) σ H Q) : tOr (RdT K W t) (RdT K W u) σ H Q := by
  obtain ⟨io, env, hr, h⟩ := h
  refine ⟨io, env, hr, Wp.bind h fun p v H1 q0 e1 r1 p1 h1 => ?_⟩
  clear q0
  obtain ⟨pd, pe⟩ := p
  subst p1
  cases pd with
  | true => exact iteT (h1 true H1 (EvE.refl _ _ _) r1 rfl)
  | false => exact iteF (⟨io, pe, r1, h1⟩)
theorem rd_not {Q : Bool → Hp → Prop} (h : RdT K W (tNotD t) σ H Q) : tNot (RdT K W t) σ H Q := by
  obtain ⟨io, env, hr, h⟩ := h
  refine ⟨io, env, hr, Wp.bind h fun p v H1 _ e1 r1 p1 h1 => ?_⟩
  subst p1
  exact h1 (!p.1) H1 (EvE.refl _ _ _) r1 rfl
theorem rd_andV {Q : VK} (h : RdE K W (eAnd f g) σ H Q) : tAndV (RdE K W f) (RdE K W g) σ H Q := by
  obtain ⟨io, env, hr, h⟩ := h
  refine ⟨io, env, hr, Wp.bind h fun p v H1 q0 e1 r1 p1 h1 => ?_⟩
  clear q0
  obtain ⟨pd, pe⟩ := p
  cases pd <;> first
    | exact (show False from h1).elim
    | (rename_i b
       refine ⟨b, by simpa [Rp] using p1, ?_⟩
       cases b with
       | true => exact iteT (⟨io, pe, r1, h1⟩)
       | false => exact iteF (h1 (.bl false) H1 (EvE.refl _ _ _) r1 (by simp [Rp])))
theorem rd_orV {Q : VK} (h : RdE K W (eOr f g) σ H Q) : tOrV (RdE K W f) (RdE K W g) σ H Q := by
  obtain ⟨io, env, hr, h⟩ := h
  refine ⟨io, env, hr, Wp.bind h fun p v H1 q0 e1 r1 p1 h1 => ?_⟩
  clear q0
  obtain ⟨pd, pe⟩ := p
  cases pd <;> first
    | exact (show False from h1).elim
    | (rename_i b
       refine ⟨b, by simpa [Rp] using p1, ?_⟩
       cases b with
       | true => exact iteT (h1 (.bl true) H1 (EvE.refl _ _ _) r1 (by simp [Rp]))
       | false => exact iteF (⟨io, pe, r1, h1⟩))
theorem rd_notV {Q : VK} (h : RdE K W (eNot f) σ H Q) : tNotV (RdE K W f) σ H Q := by
  obtain ⟨io, env, hr, h⟩ := h
  refine ⟨io, env, hr, Wp.bind h fun p v H1 q0 e1 r1 p1 h1 => ?_⟩
  clear q0
  obtain ⟨pd, pe⟩ := p
  cases pd <;> first
    | exact (show False from h1).elim
    | (rename_i b
       exact ⟨b, by simpa [Rp] using p1, h1 (.bl (!b)) H1 (EvE.refl _ _ _) r1 (by simp [Rp])⟩)
theorem rd_if {Q : VK} (h : RdE K W (eIf t f g) σ H Q) : tIf (RdT K W t) (RdE K W f) (RdE K W g) σ H Q := by
  obtain ⟨io, env, hr, h⟩ := h
  refine ⟨io, env, hr, Wp.bind h fun p v H1 q0 e1 r1 p1 h1 => ?_⟩
  clear q0
  obtain ⟨pd, pe⟩ := p
  subst p1
  cases pd with
  | true => exact iteT (⟨io, pe, r1, h1⟩)
  | false => exact iteF (⟨io, pe, r1, h1⟩)
theorem rd_chain {r r' : R2} {p q : D → D → Option D} (hp : PrR2 K r p) (hq : PrR2 K r' q) {Q : VK} (h : RdE K W (eChain p q fa fb fc) σ H Q) : tChain r r' (RdE K W fa) (RdE K W fb) (RdE K W fc) σ H Q := by
  obtain ⟨io, env, hr, h⟩ := h
  refine ⟨io, env, hr, Wp.bind h fun x v H1 _ e1 r1 p1 h1 => ⟨io, x.2, r1, Wp.bind h1 fun y w H2 _ e2 r2 p2 h2 => ?_⟩⟩
  cases z : p x.1 y.1 with
  | none => rw [z] at h2; exact (show False from h2).elim
  | some d =>
    rw [z] at h2
    refine hp H2 v w x.1 y.1 d (Rp.ext (r1.fx e2) _ _ p1) p2 z _ fun z' H3 e3 rz => ?_
    have r3 := r2.ext e3
    cases d <;> first
      | exact (show False from h2).elim
      | (rename_i b
         refine ⟨b, by simpa [Rp] using rz, ?_⟩
         have h3 := Wp.fwd (EvE.ext e3 : EvE y.2 σ H2 y.2 H3) h2
         cases b with
         | true =>
           rw [if_pos rfl]
           refine ⟨io, y.2, r3, Wp.bind h3 fun c w' H4 _ e4 r4 p4 h4 => ?_⟩
           cases zq : q y.1 c.1 with
           | none => rw [zq] at h4; exact (show False from h4).elim
           | some d' =>
             rw [zq] at h4
             exact hq H4 w w' y.1 c.1 d' (Rp.ext (e3.fx.trans (r3.fx e4)) _ _ p2) p4 zq Q fun k H5 e5 rk => h4 k H5 (EvE.ext e5) (r4.ext e5) rk
         | false =>
           rw [if_neg (by decide)]
           exact h3 (.bl false) H3 (EvE.refl _ _ _) r3 (by simp [Rp]))
end
section
variable {X : Cx} {W : WD} {a b c e : Expr} {rest : List Expr} {f g fa fb fc : Den} {t u : DenT} {pos : Pos}
theorem dt_cmp {op : CmpOp} {r : R2} {p : D → D → Option D} (hp : PrR2 X.K r p) (ho : OpR X (compareOp op) r) (ha : DE X W a fa) (hb : DE X W b fb) (hm : behindInMarks op b = false) : DT X W (.Compare a [op] [b] pos) (tst (e2 p fa fb)) :=
  pt_imp (pt_cmpR ho ha hb hm) fun σ H Q h => rd_op hp (rd_tst h)
theorem dt_chain {op op' : CmpOp} {r r' : R2} {p q : D → D → Option D} (hp : PrR2 X.K r p) (hq : PrR2 X.K r' q) (ho : OpR X (compareOp op) r) (ho' : OpR X (compareOp op') r') (ha : DE X W a fa) (hb : DE X W b fb) (hc : DE X W c fc)
    (hm : lastMarks [op, op'] [b, c] = false := by with_unfolding_all rfl) : DT X W (.Compare a [op, op'] [b, c] pos) (tst (eChain p q fa fb fc)) :=
  pt_imp (pt_chain ho ho' ha hb hc hm) fun σ H Q h => rd_chain hp hq (rd_tst h)
theorem de_chain {op op' : CmpOp} {r r' : R2} {p q : D → D → Option D} (hp : PrR2 X.K r p) (hq : PrR2 X.K r' q) (ho : OpR X (compareOp op) r) (ho' : OpR X (compareOp op') r') (ha : DE X W a fa) (hb : DE X W b fb) (hc : DE X W c fc)
    (hm : lastMarks [op, op'] [b, c] = false := by with_unfolding_all rfl) : DE X W (.Compare a [op, op'] [b, c] pos) (eChain p q fa fb fc) :=
  pe_imp (pe_chain ho ho' ha hb hc hm) fun σ H Q h => rd_chain hp hq h
theorem dt_val (h : DE X W e f) (he : ∀ whole, isTrue e X.env whole = (do let v ← whole; standAt e.pos; holding [v] (truthy v)) := by intro _; rfl) : DT X W e (tst f) := pt_imp (pt_val h he) fun σ H Q h => rd_tst h
theorem dt_not (h : DT X W a t) : DT X W (.UnaryOp .Not a pos) (tNotD t) := pt_imp (pt_not h) fun σ H Q h => rd_not h
theorem dw_and1 (h : DT X W a t) : DW X W (.BoolOp .And [a] pos) t := pw_and1 h
theorem dw_or1 (h : DT X W a t) : DW X W (.BoolOp .Or [a] pos) t := pw_or1 h
theorem dw_and (h : DT X W a t) (k : DW X W (.BoolOp .And (b :: rest) pos) u) : DW X W (.BoolOp .And (a :: b :: rest) pos) (tAndD t u) := pw_imp (pw_and h k) fun σ H Q h => rd_and h
theorem dw_or (h : DT X W a t) (k : DW X W (.BoolOp .Or (b :: rest) pos) u) : DW X W (.BoolOp .Or (a :: b :: rest) pos) (tOrD t u) := pw_imp (pw_or h k) fun σ H Q h => rd_or h
theorem de_one {op} (h : DE X W a f) : DE X W (.BoolOp op [a] pos) f := pe_one h
theorem de_and (h : DE X W a f) (k : DE X W (.BoolOp .And (b :: rest) pos) g) : DE X W (.BoolOp .And (a :: b :: rest) pos) (eAnd f g) := pe_imp (pe_and h k) fun σ H Q h => rd_andV h
theorem de_or (h : DE X W a f) (k : DE X W (.BoolOp .Or (b :: rest) pos) g) : DE X W (.BoolOp .Or (a :: b :: rest) pos) (eOr f g) := pe_imp (pe_or h k) fun σ H Q h => rd_orV h
theorem de_not (h : DE X W a f) : DE X W (.UnaryOp .Not a pos) (eNot f) := pe_imp (pe_not h) fun σ H Q h => rd_notV h
theorem de_if (h : DT X W c t) (ha : DE X W a f) (hb : DE X W b g) : DE X W (.IfExp c a b pos) (eIf t f g) := pe_imp (pe_ifExp h ha hb) fun σ H Q h => rd_if h
end
end DL

/-! ## DLd -/
/-! DLd: statements. -/
namespace DL
open PySem PySem.Spec PyProof.Rows L2

inductive Fl where
  | nx | brk | cnt | ret (d : D)
abbrev DenS := En → R (Fl × En)
/-- what is handed back: a thing, or (fr) one that is new since the entry, not frozen -/
def RetOk (K : PySem.W.Frag) (fr : Bool) (io : Option Addr) (env : En) (σ : L2.St) (H H' : Hp) (d : D) (v : V) : Prop :=
  if fr then ∃ a, v = V.ref a ∧ ROwn K H' d a ∧ (H a = none ∨ (OwnA env σ a ∧ io ≠ some a)) else Rp K H' d v
def WpS (K : PySem.W.Frag) (W : WD) (fr : Bool) (io : Option Addr) (env : En) (σ : L2.St) (H : Hp) (r : R (Fl × En)) (D : Ends) : Prop :=
  match r with
  | .stk => False
  | .err c => ∀ env' σ' H', Ev env σ H env' σ' H' → W c H'
  | .ok (.nx, env') => ∀ σ' H', Ev env σ H env' σ' H' → Rel K io env' σ' H' → D.nx σ' H'
  | .ok (.brk, env') => ∀ σ' H', Ev env σ H env' σ' H' → Rel K io env' σ' H' → D.bk σ' H'
  | .ok (.cnt, env') => ∀ σ' H', Ev env σ H env' σ' H' → Rel K io env' σ' H' → D.ct σ' H'
  | .ok (.ret d, env') => ∀ v σ' H', Ev env σ H env' σ' H' → Rel K io env' σ' H' → RetOk K fr io env σ H H' d v → D.rt v H'
def RdS (K : PySem.W.Frag) (W : WD) (fr : Bool) (f : DenS) : TS := fun D σ H => ∃ io env, Rel K io env σ H ∧ WpS K W fr io env σ H (f env) D
abbrev DS (X : Cx) (W : WD) (fr : Bool) (st : Stmt) (f : DenS) : Prop := PS X st (RdS X.K W fr f)
abbrev DSs (X : Cx) (W : WD) (fr : Bool) (sts : List Stmt) (f : DenS) : Prop := PSs X sts (RdS X.K W fr f)
theorem ps_imp {X : Cx} {e : Stmt} {t t' : TS} (h : PS X e t) (k : ∀ D σ H, t' D σ H → t D σ H) : PS X e t' := ⟨fun pins s σ H Q I q => h.run pins s σ H Q I (k Q σ H q)⟩
theorem pss_imp {X : Cx} {e : List Stmt} {t t' : TS} (h : PSs X e t) (k : ∀ D σ H, t' D σ H → t D σ H) : PSs X e t' := ⟨fun pins s σ H Q I q => h.run pins s σ H Q I (k Q σ H q)⟩
section
variable {α β : Type} {K : PySem.W.Frag} {W : WD} {fr : Bool} {io : Option Addr} {env env1 : En} {σ σ1 : L2.St} {H H1 : Hp} {P : Hp → α → β → Prop} {Q : β → Hp → Prop} {Dn : Ends}
theorem RetOk.back (e : Ev env σ H env1 σ1 H1) {H' : Hp} {d : D} {v : V} (h : RetOk K fr io env1 σ1 H1 H' d v) : RetOk K fr io env σ H H' d v := by
  unfold RetOk at h ⊢
  cases fr with
  | false => exact h
  | true =>
    rw [if_pos rfl] at h ⊢
    obtain ⟨a, h1, h2, h3⟩ := h
    refine ⟨a, h1, h2, ?_⟩
    cases z : H a with
    | none => exact .inl rfl
    | some o =>
      rcases h3 with h3 | ⟨h3, h4⟩
      · obtain ⟨o', h'⟩ := e.dom a o z
        rw [h3] at h'; cases h'
      · by_cases q : OwnA env σ a
        · exact .inr ⟨q, h4⟩
        · exact absurd h3 (e.kp a o z q).2
theorem WpS.fwd {r : R (Fl × En)} (e : Ev env σ H env1 σ1 H1) (h : WpS K W fr io env σ H r Dn) : WpS K W fr io env1 σ1 H1 r Dn := by
  cases r with
  | stk => exact h
  | err c => exact fun env' σ' H' e' => h env' σ' H' (e.trans e')
  | ok p =>
    obtain ⟨f, env'⟩ := p
    cases f with
    | nx => exact fun σ' H' e' => h σ' H' (e.trans e')
    | brk => exact fun σ' H' e' => h σ' H' (e.trans e')
    | cnt => exact fun σ' H' e' => h σ' H' (e.trans e')
    | ret d => exact fun v σ' H' e' r' q => h v σ' H' (e.trans e') r' (q.back e)
theorem WpS.bindE {r : R (α × En)} {k : α × En → R (Fl × En)} (h : WpS K W fr io env σ H (r.bind k) Dn)
    (go : ∀ p b H', EvE env σ H p.2 H' → Rel K io p.2 σ H' → P H' p.1 b → WpS K W fr io p.2 σ H' (k p) Dn → Q b H') : Wp K W io env σ H r P Q := by
  cases r with
  | stk => exact h
  | err c => exact fun env' H' e => h env' σ H' e.ev
  | ok p => exact fun b H' e' r' p' => go p b H' e' r' p' (WpS.fwd e'.ev h)
/-- one statement, then more -/
theorem WpS.seq {r : R (Fl × En)} {g : DenS} (h : WpS K W fr io env σ H (r.bind fun x => match x.1 with | .nx => g x.2 | o => .ok (o, x.2)) Dn) : WpS K W fr io env σ H r { Dn with nx := RdS K W fr g Dn } := by
  cases r with
  | stk => exact h
  | err c => exact h
  | ok p =>
    obtain ⟨f, env'⟩ := p
    cases f with
    | nx => exact fun σ' H' e r => ⟨io, env', r, WpS.fwd e h⟩
    | brk => exact h
    | cnt => exact h
    | ret d => exact h
end

def sNx : DenS := fun env => .ok (.nx, env)
def sBrk : DenS := fun env => .ok (.brk, env)
def sCnt : DenS := fun env => .ok (.cnt, env)
def sSeq (f g : DenS) : DenS := fun env => (f env).bind fun x => match x.1 with
  | .nx => g x.2
  | o => .ok (o, x.2)
def notMy (env : En) (i : Nat) : Bool := match env[i]? with
  | some (.own _) => false
  | some _ => true
  | none => false
/-- the slot gets a thing -/
def putV (i : Nat) (d : D) (env : En) : Option En := if notMy env i then some (env.set i (.val d)) else none
def sSet (i : Nat) (f : Den) : DenS := fun env => (f env).bind fun x => (R.of (putV i x.1 x.2)).bind fun e => .ok (.nx, e)
/-- the slot gets an own thing -/
def putO (i : Nat) (d : D) (env : En) : Option En := if d.fl && decide (i < env.length) then some (env.set i (.own d)) else none
def sOwn (i : Nat) (f : Den) : DenS := fun env => (f env).bind fun x => (R.of (putO i x.1 x.2)).bind fun e => .ok (.nx, e)
theorem putV_some {i : Nat} {d : D} {env e : En} (h : putV i d env = some e) : notMy env i = true ∧ e = env.set i (.val d) := by
  unfold putV at h
  split at h
  · cases h; exact ⟨by assumption, rfl⟩
  · cases h
theorem putO_some {i : Nat} {d : D} {env e : En} (h : putO i d env = some e) : d.fl = true ∧ i < env.length ∧ e = env.set i (.own d) := by
  unfold putO at h
  split at h
  · rename_i hc
    simp only [Bool.and_eq_true, decide_eq_true_eq] at hc
    cases h; exact ⟨hc.1, hc.2, rfl⟩
  · cases h
def sExp (f : Den) : DenS := fun env => (f env).bind fun x => .ok (.nx, x.2)
def sRet (f : Den) : DenS := fun env => (f env).bind fun x => .ok (.ret x.1, x.2)
def sRetN : DenS := fun env => .ok (.ret .non, env)
/-- an own thing of the def's handed back -/
def sRetO (i : Nat) : DenS := fun env => match env[i]? with
  | some (.own d) => .ok (.ret d, env)
  | _ => .stk
def sIf (t : DenT) (f g : DenS) : DenS := fun env => (t env).bind fun x => if x.1 then f x.2 else g x.2

/-! ### storing -/
section
variable {K : PySem.W.Frag} {io : Option Addr} {env : En} {σ : L2.St} {H : Hp} {i : Nat} {d : D} {v : V}
theorem notMy_lt (h : notMy env i = true) : i < env.length ∧ ∀ d, env[i]? ≠ some (.own d) := by
  unfold notMy at h
  split at h
  · cases h
  · rename_i s hs q
    exact ⟨lt_of_get q, fun d z => hs d (by rw [q] at z; exact Option.some.inj z)⟩
  · cases h
theorem Rel.setV (r : Rel K io env σ H) (h : notMy env i = true) (p : Rp K H d v) : Rel K io (env.set i (.val d)) (σ.set i (some v)) H ∧ Ev env σ H (env.set i (.val d)) (σ.set i (some v)) H := by
  obtain ⟨hl, hn⟩ := notMy_lt h
  have hσ : i < σ.length := by rw [← r.len]; exact hl
  have gσ : ∀ j, (σ.set i (some v))[j]? = if i = j then some (some v) else σ[j]? := fun j => by
    rw [List.getElem?_set]
    by_cases e : i = j
    · subst e; simp [hσ]
    · simp [e]
  have back : ∀ (j : Nat) (y : D), (env.set i (.val d))[j]? = some (.own y) → i ≠ j ∧ env[j]? = some (.own y) := fun j y q => by
    rw [set_get hl] at q
    by_cases z : i = j
    · subst z; simp at q
    · rw [if_neg z] at q; exact ⟨z, q⟩
  refine ⟨⟨by rw [List.length_set, List.length_set]; exact r.len, fun j x q => ?_, fun j x q => ?_, fun j k x y b q1 q2 s1 s2 => ?_, fun b q => ?_⟩, ⟨fun b o q n => ⟨q, ?_⟩, fun b o q => ⟨o, q⟩⟩⟩
  · rw [set_get hl] at q
    rw [gσ]
    by_cases z : i = j
    · subst z
      rw [if_pos rfl] at q ⊢
      cases q
      exact ⟨v, rfl, p⟩
    · rw [if_neg z] at q ⊢
      exact r.val j x q
  · obtain ⟨z, q⟩ := back j x q
    rw [gσ, if_neg z]
    exact r.own j x q
  · obtain ⟨z1, q1⟩ := back j x q1
    obtain ⟨z2, q2⟩ := back k y q2
    rw [gσ, if_neg z1] at s1
    rw [gσ, if_neg z2] at s2
    exact r.sep j k x y b q1 q2 s1 s2
  · obtain ⟨q1, y, q2⟩ := r.io b q
    have z : i ≠ 0 := fun z => by subst z; exact hn y q2
    rw [gσ, set_get hl, if_neg z, if_neg z]
    exact ⟨q1, y, q2⟩
  · rintro ⟨j, x, q1, q2⟩
    obtain ⟨z, q1⟩ := back j x q1
    rw [gσ, if_neg z] at q2
    exact n ⟨j, x, q1, q2⟩
theorem Rel.setO (r : Rel K io env σ H) (hl : i < env.length) (h0 : i ≠ 0) {a : Addr} (fl : d.fl = true) (p : ROwn K H d a) (na : ∀ (j : Nat) (y : D), env[j]? = some (Sl.own y) → σ[j]? ≠ some (some (.ref a))) : Rel K io (env.set i (.own d)) (σ.set i (some (.ref a))) H := by
  have hσ : i < σ.length := by rw [← r.len]; exact hl
  have gσ : ∀ j, (σ.set i (some (V.ref a)))[j]? = if i = j then some (some (.ref a)) else σ[j]? := fun j => by
    rw [List.getElem?_set]
    by_cases e : i = j
    · subst e; simp [hσ]
    · simp [e]
  refine ⟨by rw [List.length_set, List.length_set]; exact r.len, fun j x q => ?_, fun j x q => ?_, fun j k x y b q1 q2 s1 s2 => ?_, fun b q => ?_⟩
  · rw [set_get hl] at q
    rw [gσ]
    by_cases z : i = j
    · subst z; simp at q
    · rw [if_neg z] at q ⊢
      exact r.val j x q
  · rw [set_get hl] at q
    rw [gσ]
    by_cases z : i = j
    · rw [if_pos z] at q ⊢
      cases q
      exact ⟨a, rfl, p, fl⟩
    · rw [if_neg z] at q ⊢
      exact r.own j x q
  · rw [set_get hl] at q1 q2
    rw [gσ] at s1 s2
    by_cases z1 : i = j
    · by_cases z2 : i = k
      · exact z1.symm.trans z2
      · rw [if_pos z1] at s1
        rw [if_neg z2] at s2 q2
        cases s1
        exact absurd s2 (na k y q2)
    · rw [if_neg z1] at q1 s1
      by_cases z2 : i = k
      · rw [if_pos z2] at s2
        cases s2
        exact absurd s1 (na j x q1)
      · rw [if_neg z2] at q2 s2
        exact r.sep j k x y b q1 q2 s1 s2
  · obtain ⟨q1, y, q2⟩ := r.io b q
    rw [gσ, set_get hl, if_neg h0, if_neg h0]
    exact ⟨q1, y, q2⟩
theorem own_set_sub {a b : Addr} (hl : i < env.length) (len : env.length = σ.length) (h : OwnA (env.set i (.own d)) (σ.set i (some (.ref a))) b) : b = a ∨ OwnA env σ b := by
  obtain ⟨j, x, q1, q2⟩ := h
  rw [set_get hl] at q1
  rw [List.getElem?_set] at q2
  by_cases z : i = j
  · subst z
    simp [show i < σ.length by rw [← len]; exact hl] at q2
    exact .inl q2.symm
  · rw [if_neg z] at q1 q2
    exact .inr ⟨j, x, q1, q2⟩
end

section
variable {X : Cx} {W : WD} {fr : Bool} {e : Expr} {st : Stmt} {sts a b : List Stmt} {f g : Den} {F G : DenS} {t : DenT} {pos pos' : Pos} {x : Str} {i : Nat}
theorem dss_nil : DSs X W fr [] sNx := pss_imp pss_nil fun D σ H ⟨io, env, r, h⟩ => h σ H (Ev.refl _ _ _) r
theorem dss_cons (h : DS X W fr st F) (k : DSs X W fr sts G) : DSs X W fr (st :: sts) (sSeq F G) := pss_imp (pss_cons h k) fun D σ H ⟨io, env, r, q⟩ => ⟨io, env, r, WpS.seq q⟩
theorem dss_one (h : DS X W fr st F) : DSs X W fr [st] F := pss_one h
theorem ds_pass : DS X W fr (.Pass pos) sNx := ps_imp ps_pass fun D σ H ⟨io, env, r, h⟩ => h σ H (Ev.refl _ _ _) r
theorem ds_break : DS X W fr (.Break pos) sBrk := ps_imp ps_break fun D σ H ⟨io, env, r, h⟩ => h σ H (Ev.refl _ _ _) r
theorem ds_continue : DS X W fr (.Continue pos) sCnt := ps_imp ps_continue fun D σ H ⟨io, env, r, h⟩ => h σ H (Ev.refl _ _ _) r
theorem ds_doc {z j} : DS X W fr (.Expr (.Constant (.str z) j pos) pos') sNx := ps_imp ps_doc fun D σ H ⟨io, env, r, h⟩ => h σ H (Ev.refl _ _ _) r
theorem ds_expr (h : DE X W e f) (hs : swapsWith e none pos.line X.env = pure false := by rfl) : DS X W fr (.Expr e pos) (sExp f) :=
  ps_imp (ps_expr h hs) fun D σ H ⟨io, env, r, q⟩ => ⟨io, env, r, WpS.bindE q fun p b H' _ r' _ h' => h' σ H' (Ev.refl _ _ _) r'⟩
theorem ds_ret (h : DE X W e f) : DS X W false (.Return (some e) pos) (sRet f) :=
  ps_imp (ps_ret h) fun D σ H ⟨io, env, r, q⟩ => ⟨io, env, r, WpS.bindE q fun p v H' _ r' p' h' => h' v σ H' (Ev.refl _ _ _) r' p'⟩
theorem ds_retN : DS X W false (.Return none pos) sRetN :=
  ps_imp ps_retN fun D σ H ⟨io, env, r, q⟩ => q .non σ H (Ev.refl _ _ _) r (by unfold RetOk; simp [Rp])
theorem ds_retF (h : DF X W e f) : DS X W true (.Return (some e) pos) (sRet f) := by
  refine ps_imp (ps_ret h) fun D σ H ⟨io, env, r, q⟩ => ⟨io, env, r, ?_⟩
  cases z : f env with
  | stk => rw [show sRet f env = (f env).bind _ from rfl, z] at q; exact q
  | err c =>
    rw [show sRet f env = (f env).bind _ from rfl, z] at q
    exact fun env' H' ev => q env' σ H' ev.ev
  | ok p =>
    rw [show sRet f env = (f env).bind _ from rfl, z] at q
    intro v H' ev r' p'
    obtain ⟨l, rfl, nl, ow⟩ := p'
    exact q _ σ H' ev.ev r' (by unfold RetOk; rw [if_pos rfl]; exact ⟨l, rfl, ow, .inl nl⟩)
theorem ds_retO (i : Nat) (h0 : i ≠ 0 := by decide) (hN : X.N[i]? = some x := by rfl) (hv : Vis X.env.scope x := by first | exact Or.inl rfl | exact Or.inr (Or.inl rfl) | exact Or.inr (Or.inr rfl)) (hd : (x == ("__debug__" : Str)) = false := by decide)
    (hcd : (x == ("__classdict__" : Str)) = false := by decide) : DS X W true (.Return (some (.Name x pos)) pos') (sRetO i) := by
  refine ps_imp (ps_ret (pe_var hN hv hd hcd)) fun D σ H ⟨io, env, r, q⟩ => ?_
  unfold sRetO at q
  split at q
  · rename_i d hi
    obtain ⟨l, h1, h2, fl⟩ := r.own i d hi
    refine ⟨.ref l, h1, q _ σ H (Ev.refl _ _ _) r ?_⟩
    unfold RetOk
    rw [if_pos rfl]
    refine ⟨l, rfl, h2, .inr ⟨⟨i, d, hi, h1⟩, fun z => ?_⟩⟩
    obtain ⟨q1, y, q2⟩ := r.io l z
    exact h0 (r.sep i 0 d y l hi q2 h1 q1)
  · exact (show False from q).elim
theorem ds_if {c : Expr} (hc : DT X W c t) (ha : DSs X W fr a F) (hb : DSs X W fr b G) : DS X W fr (.If c a b pos) (sIf t F G) := by
  refine ps_imp (ps_if hc ha hb) fun D σ H ⟨io, env, r, q⟩ => ⟨io, env, r, WpS.bindE q fun p v H' _ r' p' h' => ?_⟩
  obtain ⟨pd, pe⟩ := p
  subst p'
  cases pd with
  | true => exact iteT ⟨io, pe, r', h'⟩
  | false => exact iteF ⟨io, pe, r', h'⟩
theorem rd_set {D : Ends} {σ : L2.St} {H : Hp} (h : RdS X.K W fr (sSet i f) D σ H) : tAsg (RdE X.K W f) (gName i) D σ H := by
  obtain ⟨io, env, r, q⟩ := h
  refine ⟨io, env, r, WpS.bindE q fun p v H' _ r' p' h' => ?_⟩
  cases zz : putV i p.1 p.2 with
  | none => rw [zz] at h'; exact (show False from h').elim
  | some e =>
    rw [zz] at h'
    obtain ⟨hn, rfl⟩ := putV_some zz
    obtain ⟨q1, q2⟩ := r'.setV hn p'
    exact h' _ H' q2 q1
theorem rd_own {D : Ends} {σ : L2.St} {H : Hp} (h0 : i ≠ 0) (h : RdS X.K W fr (sOwn i f) D σ H) : tAsg (RdF X.K W f) (gName i) D σ H := by
  obtain ⟨io, env, r, q⟩ := h
  refine ⟨io, env, r, ?_⟩
  cases z : f env with
  | stk => rw [show sOwn i f env = (f env).bind _ from rfl, z] at q; exact q
  | err c =>
    rw [show sOwn i f env = (f env).bind _ from rfl, z] at q
    exact fun env' H' ev => q env' σ H' ev.ev
  | ok p =>
    rw [show sOwn i f env = (f env).bind _ from rfl, z] at q
    intro v H' ev r' p'
    obtain ⟨l, rfl, nl, ow⟩ := p'
    rw [R.bind_ok] at q
    cases zz : putO i p.1 p.2 with
    | none => rw [zz] at q; exact (show False from q).elim
    | some e =>
      rw [zz] at q
      obtain ⟨hc1, hc2, rfl⟩ := putO_some zz
      have hc : p.1.fl = true ∧ i < p.2.length := ⟨hc1, hc2⟩
      have na : ∀ (j : Nat) (y : DL.D), p.2[j]? = some (Sl.own y) → σ[j]? ≠ some (some (.ref l)) := fun j y h1 h2 => by
        obtain ⟨y0, h0⟩ := ev.shp.back h1
        obtain ⟨b, g1, ⟨u, g2, _⟩, _⟩ := r.own j y0 h0
        rw [h2] at g1; cases g1
        rw [nl] at g2; cases g2
      have r2 := r'.setO hc.2 h0 hc.1 ow na
      refine q _ H' ⟨fun b o hb hn => ⟨ev.kp b o hb hn, fun y => ?_⟩, ev.dom⟩ r2
      rcases own_set_sub hc.2 r'.len y with rfl | y
      · rw [nl] at hb; cases hb
      · exact hn (ev.shp.ownA.mp y)
theorem ds_set (i : Nat) (hN : X.N.Nodup) (h : DE X W e f) (hi : X.N[i]? = some x := by rfl) (hx : Loc X.env.scope x := by first | exact Or.inl rfl | exact Or.inr rfl) (hs : swapsWith e (some (.Name x pos')) pos.line X.env = pure false := by rfl) (hf : X.fn x = true ∨ X.env.scope.names.lookup x = some .local := by first | exact .inl rfl | exact .inr rfl) :
    DS X W fr (.Assign [.Name x pos'] e pos) (sSet i f) := ps_imp (ps_set hN hi hx h hs hf) fun D σ H q => rd_set q
theorem ds_own (i : Nat) (hN : X.N.Nodup) (h : DF X W e f) (h0 : i ≠ 0 := by decide) (hi : X.N[i]? = some x := by rfl) (hx : Loc X.env.scope x := by first | exact Or.inl rfl | exact Or.inr rfl) (hs : swapsWith e (some (.Name x pos')) pos.line X.env = pure false := by rfl) (hf : X.fn x = true ∨ X.env.scope.names.lookup x = some .local := by first | exact .inl rfl | exact .inr rfl) :
    DS X W fr (.Assign [.Name x pos'] e pos) (sOwn i f) := ps_imp (ps_set hN hi hx h hs hf) fun D σ H q => rd_own h0 q
/-- the slot's new thing is frozen behind the store -/
theorem ds_setFz (h : ∀ t, (∀ D σ H, t D σ H → tAsg (RdF X.K W f) (gName i) D σ H) → PS X st t) : DS X W fr st (sSet i f) := by
  refine ⟨fun pins s σ H D I q => ?_⟩
  let D' : Ends := { nx := fun σ' H' => ∃ l u, H' l = some u ∧ Mut (some u) ∧ ∀ od, D.nx σ' (upd H' l (.frz od u)), rt := D.rt, bk := D.bk, ct := D.ct }
  refine thn ((h (fun D2 σ2 H2 => tAsg (RdF X.K W f) (gName i) D2 σ2 H2) (fun _ _ _ z => z)).run pins s σ H D' I ?_) fun fl s1 hs => ?_
  · obtain ⟨io, env, r, q⟩ := q
    refine ⟨io, env, r, ?_⟩
    cases z : f env with
    | stk => rw [show sSet i f env = (f env).bind _ from rfl, z] at q; exact q
    | err c =>
      rw [show sSet i f env = (f env).bind _ from rfl, z] at q
      exact fun (env' : En) (H' : Hp) (ev : EvE env σ H env' H') => q env' σ H' ev.ev
    | ok p =>
      rw [show sSet i f env = (f env).bind _ from rfl, z] at q
      intro v H' ev r' p'
      obtain ⟨l, rfl, nl, u, hu, how⟩ := p'
      refine ⟨l, u, hu, how.mut, fun od => ?_⟩
      have no : ¬ OwnA p.2 σ l := fun y => by
        obtain ⟨j, d, y1, y2⟩ := ev.shp.ownA.mp y
        obtain ⟨b, y3, ⟨w, y4, _⟩, _⟩ := r.own j d y1
        rw [y2] at y3; cases y3
        rw [nl] at y4; cases y4
      have nf : ∀ o, H' l = some o → ¬ Frm o := fun o ho' => by
        rw [hu] at ho'; cases ho'; exact how.notFrm
      have r2 : Rel X.K io p.2 σ (upd H' l (.frz od u)) := r'.upd_new nf no
      have fx : FExt H' (upd H' l (.frz od u)) := fun b o h f => by
        rw [upd_ne (fun z => by subst z; exact nf o h f)]; exact h
      rw [R.bind_ok] at q
      cases zz : putV i p.1 p.2 with
      | none => rw [zz] at q; exact (show False from q).elim
      | some e =>
        rw [zz] at q
        obtain ⟨hn, rfl⟩ := putV_some zz
        obtain ⟨q1, q2⟩ := r2.setV hn (Rp.of_frz (how.ext fx) upd_same)
        refine q _ _ (Ev.trans (e2 := p.2) (s2 := σ) (H2 := upd H' l (.frz od u)) ⟨fun b o hb hn => ⟨?_, fun y => hn (ev.shp.ownA.mp y)⟩, fun b o hb => ?_⟩ q2) q1
        · rw [upd_ne (ne_of_none hb nl)]; exact ev.kp b o hb hn
        · rw [upd_ne (ne_of_none hb nl)]; exact ev.dom b o hb
  · cases fl with
    | next =>
      obtain ⟨σ', H', I2, l, u, eu, mu, q2⟩ := hs
      obtain ⟨od, I3⟩ := I2.lock eu mu
      exact ⟨σ', _, I3, q2 od⟩
    | brk => exact hs
    | cont => exact hs
    | ret v => exact hs
end
end DL

/-! ## DLe -/
/-! DLe: targets, what is walked, for, while, list comprehensions. -/
namespace DL
open PySem PySem.Spec PyProof.Rows L2

/-- a target: a slot, or a tuple of targets -/
inductive Pt where
  | nm (i : Nat) | tu (ps : List Pt)
mutual
def Pt.asg : Pt → D → En → Option En
  | .nm i, d, env => putV i d env
  | .tu ps, .tup ds, env => asgL ps ds env
  | .tu _, _, _ => none
def asgL : List Pt → List D → En → Option En
  | [], [], env => some env
  | p :: ps, d :: ds, env => (p.asg d env).bind fun e => asgL ps ds e
  | _, _, _ => none
end
mutual
def Pt.slots : Pt → List Nat
  | .nm i => [i]
  | .tu ps => slotsL ps
def slotsL : List Pt → List Nat
  | [] => []
  | p :: ps => p.slots ++ slotsL ps
end
def OffS (vs : List Nat) (σ σ' : L2.St) : Prop := σ'.length = σ.length ∧ ∀ j, j ∉ vs → σ'[j]? = σ[j]?
theorem OffS.refl (vs : List Nat) (σ : L2.St) : OffS vs σ σ := ⟨rfl, fun _ _ => rfl⟩
def RdG (K : PySem.W.Frag) (p : Pt) : TG := fun v σ H Q => ∃ io env d env', Rel K io env σ H ∧ Rp K H d v ∧ p.asg d env = some env' ∧ ∀ σ', Rel K io env' σ' H → Ev env σ H env' σ' H → OffS p.slots σ σ' → Q σ' H
def RdGs (K : PySem.W.Frag) (ps : List Pt) : TGs := fun vs σ H Q => ∃ io env ds env', Rel K io env σ H ∧ RpL K H ds vs ∧ asgL ps ds env = some env' ∧ ∀ σ', Rel K io env' σ' H → Ev env σ H env' σ' H → OffS (slotsL ps) σ σ' → Q σ' H
abbrev DG (X : Cx) (e : Expr) (p : Pt) : Prop := PG X e (RdG X.K p)
abbrev DGs (X : Cx) (es : List Expr) (ps : List Pt) : Prop := PGs X es (RdGs X.K ps)
theorem pg_imp {X : Cx} {e : Expr} {t t' : TG} (h : PG X e t) (k : ∀ v σ H Q, t' v σ H Q → t v σ H Q) : PG X e t' := ⟨fun pins s σ H v u Q I r q => h.run pins s σ H v u Q I r (k v σ H Q q)⟩
theorem pgs_imp {X : Cx} {e : List Expr} {t t' : TGs} (h : PGs X e t) (k : ∀ v σ H Q, t' v σ H Q → t v σ H Q) : PGs X e t' := ⟨fun pins s σ H v u Q I r q => h.run pins s σ H v u Q I r (k v σ H Q q)⟩
section
variable {X : Cx} {x : Str} {pos : Pos} {e : Expr} {es : List Expr} {p : Pt} {ps : List Pt} {i : Nat}
theorem dg_nm (i : Nat) (hN : X.N.Nodup) (hi : X.N[i]? = some x := by rfl) (hx : Loc X.env.scope x := by first | exact Or.inl rfl | exact Or.inr rfl) (hf : X.fn x = true ∨ X.env.scope.names.lookup x = some .local := by first | exact .inl rfl | exact .inr rfl) : DG X (.Name x pos) (.nm i) := by
  refine pg_imp (pg_name hN hi hx hf) fun v σ H Q h => ?_
  obtain ⟨io, env, d, env', r, rp, ha, q⟩ := h
  obtain ⟨hn, rfl⟩ := putV_some (show putV i d env = some env' from ha)
  obtain ⟨q1, q2⟩ := r.setV hn rp
  refine q _ q1 q2 ⟨by rw [List.length_set], fun j hj => ?_⟩
  rw [List.getElem?_set_ne (fun z => hj (by subst z; exact List.mem_singleton.mpr rfl))]
theorem dgs_nil : DGs X [] [] := by
  refine pgs_imp pgs_nil fun v σ H Q h => ?_
  obtain ⟨io, env, ds, env', r, rp, ha, q⟩ := h
  cases ds with
  | nil =>
    simp only [RpL] at rp
    simp only [asgL, Option.some.injEq] at ha
    subst ha
    exact ⟨rp, q σ r (Ev.refl _ _ _) (OffS.refl _ _)⟩
  | cons d ds => simp [asgL] at ha
theorem dgs_cons (h : DG X e p) (k : DGs X es ps) (hs : (assignEach (e :: es) X.env).map (·.2) = assign e X.env :: (assignEach es X.env).map (·.2) := by rfl) : DGs X (e :: es) (p :: ps) := by
  refine pgs_imp (pgs_cons h k hs) fun v σ H Q h => ?_
  obtain ⟨io, env, ds, env', r, rp, ha, q⟩ := h
  cases ds with
  | nil => simp [asgL] at ha
  | cons d ds =>
    simp only [RpL] at rp
    obtain ⟨w, rest, e1, rp1, rp2⟩ := rp
    simp only [asgL] at ha
    cases z : p.asg d env with
    | none => rw [z] at ha; cases ha
    | some env1 =>
      rw [z] at ha
      refine ⟨w, rest, e1, io, env, d, env1, r, rp1, z, fun σ1 r1 ev1 o1 => ⟨io, env1, ds, env', r1, rp2, ha, fun σ2 r2 ev2 o2 => ?_⟩⟩
      refine q σ2 r2 (ev1.trans ev2) ⟨o2.1.trans o1.1, fun j hj => ?_⟩
      have hj : j ∉ p.slots ++ slotsL ps := hj
      rw [o2.2 j fun z => hj (List.mem_append_right _ z), o1.2 j fun z => hj (List.mem_append_left _ z)]
theorem dg_tu {k} (hc : X.calm = true) (h : DGs X es ps) (hl : ps.length = es.length := by rfl) (hn : (assignEach es X.env).length = es.length := by rfl) (hst : (assignEach es X.env).findIdx? (·.1) = none := by rfl) : DG X (.Tuple es k pos) (.tu ps) := by
  refine pg_imp (pg_tup hc h hn hst) fun v σ H Q h => ?_
  obtain ⟨io, env, d, env', r, rp, ha, q⟩ := h
  cases d with
  | tup ds =>
    simp only [Rp] at rp
    obtain ⟨a, vs, e1, e2, rp⟩ := rp
    have lens : ∀ (ps : List Pt) (ds : List D) (env env' : En), asgL ps ds env = some env' → ds.length = ps.length := by
      intro ps
      induction ps with
      | nil => intro ds env env' h; cases ds with
        | nil => rfl
        | cons _ _ => simp [asgL] at h
      | cons p ps ih => intro ds env env' h; cases ds with
        | nil => simp [asgL] at h
        | cons d ds =>
          simp only [asgL] at h
          cases z : p.asg d env with
          | none => rw [z] at h; cases h
          | some e => rw [z] at h; rw [List.length_cons, List.length_cons, ih _ _ _ h]
    refine ⟨a, vs, e1, SqT.of e2, ?_, io, env, ds, env', r, rp, ha, q⟩
    rw [rp.length, lens _ _ _ _ ha, hl]
  | _ => simp [Pt.asg] at ha
end

/-! ### what is walked -/
def Wk (K : PySem.W.Frag) (J : It) (xs : List D) (H : Hp) : Prop :=
  ∀ Ha, FExt H Ha → (∀ i, i < xs.length → J.go i Ha) ∧ J.stop xs.length Ha ∧ ∀ i d x Hb, xs[i]? = some d → J.yld i Ha x Hb → Ext Ha Hb ∧ Rp K Hb d x
def RdI (K : PySem.W.Frag) (W : WD) (f : DenL) : TI := fun σ H Rr => ∃ io env, Rel K io env σ H ∧ Wp K W io env σ H (f env) (fun H' xs J => Wk K J xs H') Rr
abbrev DI (X : Cx) (W : WD) (tg e : Expr) (f : DenL) : Prop := PI X tg e (RdI X.K W f)
theorem pi_imp {X : Cx} {tg e : Expr} {t t' : TI} (h : PI X tg e t) (k : ∀ σ H Q, t' σ H Q → t σ H Q) : PI X tg e t' := ⟨fun pins s σ H Q I q => h.run pins s σ H Q I (k σ H Q q)⟩
/-- the things of a list, of a tuple -/
def itL (f : Den) : DenL := fun env => (f env).bind fun x => match x.1 with
  | .lst ds => .ok (ds, x.2)
  | _ => .stk
def itT (f : Den) : DenL := fun env => (f env).bind fun x => match x.1 with
  | .tup ds => .ok (ds, x.2)
  | _ => .stk
def rgI (lo : Int) (n : Nat) : List D := (List.range n).map fun (i : Nat) => D.int (lo + (i : Int))
def small (i : Int) : Bool := decide (-1000000 ≤ i ∧ i ≤ 1000000)
def itR1 (F : DenL) : DenL := fun env => (F env).bind fun x => match x.1 with
  | [.int j] => if small j then .ok (rgI 0 j.toNat, x.2) else .stk
  | _ => .stk
def itR2 (F : DenL) : DenL := fun env => (F env).bind fun x => match x.1 with
  | [.int i, .int j] => if small i && small j then .ok (rgI i (j - i).toNat, x.2) else .stk
  | _ => .stk
theorem small_le {i : Int} (h : small i = true) : -(2 ^ 62) ≤ i ∧ i < 2 ^ 62 := by
  unfold small at h
  have := of_decide_eq_true h
  omega
section
variable {X : Cx} {W : WD} {tg e a b : Expr} {f : Den} {F : DenL} {p pos : Pos}
theorem wk_list {K : PySem.W.Frag} {H : Hp} {l : Addr} {ds : List D} {vs : List V} (h : FzL K H l vs) (hr : RpL K H ds vs) : Wk K (Itl K l) ds H := fun Ha e => by
  have hs := (h.ext e).sq
  have hl := hr.length
  refine ⟨fun i hi => ⟨vs, vs[i]'(by omega), hs, by simp⟩, ⟨vs, hs, by omega⟩, fun i d x Hb hd y => ?_⟩
  obtain ⟨rfl, y⟩ := y
  obtain ⟨v, h1, h2⟩ := hr.get hd
  have := (y vs hs).symm.trans h1
  cases this
  exact ⟨Ext.refl _, Rp.ext e _ _ h2⟩
theorem di_list (h : DE X W e f) : DI X W tg e (itL f) := by
  refine pi_imp (pi_list h) fun σ H Q hq => ?_
  obtain ⟨io, env, hr, hq⟩ := hq
  refine ⟨io, env, hr, Wp.bind hq fun x v H1 q0 e1 r1 p1 h1 => ?_⟩
  clear q0
  obtain ⟨pd, pe⟩ := x
  cases pd with
  | lst ds =>
    simp only [Rp] at p1
    obtain ⟨l, vs, rfl, hz, p1⟩ := p1
    exact ⟨l, rfl, ⟨vs, hz.sq⟩, h1 _ H1 (EvE.refl _ _ _) r1 (wk_list hz p1)⟩
  | _ => exact (show False from h1).elim
theorem di_tup (h : DE X W e f) : DI X W tg e (itT f) := by
  refine pi_imp (pi_tup h) fun σ H Q hq => ?_
  obtain ⟨io, env, hr, hq⟩ := hq
  refine ⟨io, env, hr, Wp.bind hq fun x v H1 q0 e1 r1 p1 h1 => ?_⟩
  clear q0
  obtain ⟨pd, pe⟩ := x
  cases pd with
  | tup ds =>
    simp only [Rp] at p1
    obtain ⟨l, vs, rfl, hz, p1⟩ := p1
    have hl := p1.length
    refine ⟨l, rfl, ⟨vs, SqT.of hz⟩, h1 _ H1 (EvE.refl _ _ _) r1 fun Ha e => ?_⟩
    have hs : SqT X.K Ha l vs := SqT.of (e _ _ hz trivial)
    have hl : vs.length = ds.length := p1.length
    show (∀ i, i < ds.length → _) ∧ (∃ xs, SqT X.K Ha l xs ∧ xs.length ≤ ds.length) ∧ _
    refine ⟨fun i hi => ⟨vs, vs[i]'(by omega), hs, by simp⟩, ⟨vs, hs, by omega⟩, fun i d x Hb hd y => ?_⟩
    obtain ⟨rfl, y⟩ := y
    obtain ⟨v, h1, h2⟩ := p1.get hd
    have := (y vs hs).symm.trans h1
    cases this
    exact ⟨Ext.refl _, Rp.ext e _ _ h2⟩
  | _ => exact (show False from h1).elim
theorem wk_ints {K : PySem.W.Frag} {H : Hp} {lo : Int} {n : Nat} : Wk K (Itr lo n) (rgI lo n) H := fun Ha e => by
  have hl : (rgI lo n).length = n := by unfold rgI; rw [List.length_map, List.length_range]
  refine ⟨fun i hi => (by rw [hl] at hi; exact hi), by rw [hl]; exact Nat.le_refl _, fun i d x Hb hd y => ?_⟩
  obtain ⟨rfl, rfl⟩ := y
  refine ⟨Ext.refl _, ?_⟩
  unfold rgI at hd
  rw [List.getElem?_map] at hd
  cases q : (List.range n)[i]? with
  | none => rw [q] at hd; cases hd
  | some j =>
    rw [q] at hd
    obtain ⟨h1, h2⟩ := List.getElem?_eq_some_iff.mp q
    rw [List.getElem_range] at h2
    subst h2
    cases hd
    simp [Rp]
theorem di_range1 (hg : Gl X "range") (hm : X.mg "range" = none) (ha : DA X W [a] F) (hs : starEach [a] X.env = [(false, eval a X.env)] := by rfl) : DI X W tg (.Call (.Name "range" p) [a] [] pos) (itR1 F) := by
  refine pi_imp (pi_range1 hg hm ha hs) fun σ H Q hq => ?_
  obtain ⟨io, env, hr, hq⟩ := hq
  refine ⟨io, env, hr, Wp.bind hq fun x vs H1 q0 e1 r1 p1 h1 => ?_⟩
  clear q0
  obtain ⟨pd, pe⟩ := x
  dsimp only at h1 p1
  split at h1
  · rename_i j
    split at h1
    · rename_i hj
      obtain ⟨s1, s2⟩ := small_le hj
      have e : vs = [.int j] := RpL.ints (ns := [j]) p1
      exact ⟨j, e, s1, s2, h1 _ H1 (EvE.refl _ _ _) r1 wk_ints⟩
    · exact (show False from h1).elim
  · exact (show False from h1).elim
theorem di_range2 (hg : Gl X "range") (hm : X.mg "range" = none) (ha : DA X W [a, b] F) (hs : starEach [a, b] X.env = [(false, eval a X.env), (false, eval b X.env)] := by rfl) (hs2 : starEach [b] X.env = [(false, eval b X.env)] := by rfl) :
    DI X W tg (.Call (.Name "range" p) [a, b] [] pos) (itR2 F) := by
  refine pi_imp (pi_range2 hg hm ha hs hs2) fun σ H Q hq => ?_
  obtain ⟨io, env, hr, hq⟩ := hq
  refine ⟨io, env, hr, Wp.bind hq fun x vs H1 q0 e1 r1 p1 h1 => ?_⟩
  clear q0
  obtain ⟨pd, pe⟩ := x
  dsimp only at h1 p1
  split at h1
  · rename_i i j
    split at h1
    · rename_i hj
      rw [Bool.and_eq_true] at hj
      obtain ⟨s1, s2⟩ := small_le hj.1
      obtain ⟨s3, s4⟩ := small_le hj.2
      have e : vs = [.int i, .int j] := RpL.ints (ns := [i, j]) p1
      exact ⟨i, j, e, ⟨s1, s2, s3, s4⟩, h1 _ H1 (EvE.refl _ _ _) r1 wk_ints⟩
    · exact (show False from h1).elim
  · exact (show False from h1).elim
end

/-! ### for -/
def sLoop (p : Pt) (body : DenS) : List D → DenS
  | [], env => .ok (.nx, env)
  | x :: xs, env => (R.of (p.asg x env)).bind fun e1 => (body e1).bind fun o => match o.1 with
    | .nx => sLoop p body xs o.2
    | .cnt => sLoop p body xs o.2
    | .brk => .ok (.nx, o.2)
    | .ret d => .ok (.ret d, o.2)
def sFor (it : DenL) (p : Pt) (body : DenS) : DenS := fun env => (it env).bind fun x => sLoop p body x.1 x.2
theorem drop_cons {α : Type} {xs : List α} {i : Nat} (h : i < xs.length) : xs.drop i = xs[i] :: xs.drop (i + 1) := List.drop_eq_getElem_cons h
theorem rd_for {K : PySem.W.Frag} {W : WD} {fr : Bool} {it : DenL} {p : Pt} {body : DenS} {Dn : Ends} {σ : L2.St} {H : Hp} (h : RdS K W fr (sFor it p body) Dn σ H) : tFor (RdI K W it) (RdG K p) (RdS K W fr body) Dn σ H := by
  obtain ⟨io, env, hr, h⟩ := h
  refine ⟨io, env, hr, WpS.bindE h fun x J H1 e1 r1 wk h1 => ?_⟩
  obtain ⟨xs, env1⟩ := x
  dsimp only at e1 r1 wk h1
  refine ⟨fun i m σ2 H2 => m = xs.length - i ∧ i ≤ xs.length ∧ FExt H1 H2 ∧ ∃ env2, Rel K io env2 σ2 H2 ∧ WpS K W fr io env2 σ2 H2 (sLoop p body (xs.drop i) env2) Dn, ⟨_, rfl, Nat.zero_le _, FExt.refl _, env1, r1, h1⟩, ?_⟩
  rintro i m σ2 H2 ⟨rfl, hi, fx, env2, r2, h2⟩
  obtain ⟨w1, w2, w3⟩ := wk H2 fx
  by_cases hl : i < xs.length
  · rw [drop_cons hl] at h2
    refine .inr ⟨w1 i hl, fun σ' H' => FExt H1 H' ∧ ∃ env', Rel K io env' σ' H' ∧ WpS K W fr io env' σ' H' (sLoop p body (xs.drop (i + 1)) env') Dn, fun σ' H' ⟨g1, env', g2, g3⟩ => ⟨xs.length - (i + 1), by omega, rfl, hl, g1, env', g2, g3⟩, fun v H' y => ?_⟩
    obtain ⟨x1, rp⟩ := w3 i xs[i] v H' (by simp [hl]) y
    have r3 := r2.ext x1
    have h3 := WpS.fwd (EvE.ext x1 : EvE env2 σ2 H2 env2 H').ev h2
    unfold sLoop at h3
    cases z : p.asg xs[i] env2 with
    | none => rw [z] at h3; exact (show False from h3).elim
    | some env3 =>
      rw [z] at h3
      refine ⟨io, env2, _, env3, r3, rp, z, fun σ3 r4 ev4 _ => ⟨io, env3, r4, ?_⟩⟩
      have h4 := WpS.fwd ev4 h3
      have fx4 : FExt H1 H' := fx.trans x1.fx
      rw [R.of_some, R.bind_ok] at h4
      cases zb : body env3 with
      | stk => rw [zb] at h4; exact h4
      | err c => rw [zb] at h4; exact h4
      | ok o =>
        rw [zb] at h4
        obtain ⟨fl, env4⟩ := o
        cases fl with
        | nx => exact fun σ5 H5 ev5 r5 => ⟨fx4.trans (r4.fxS ev5), env4, r5, WpS.fwd ev5 h4⟩
        | cnt => exact fun σ5 H5 ev5 r5 => ⟨fx4.trans (r4.fxS ev5), env4, r5, WpS.fwd ev5 h4⟩
        | brk => exact h4
        | ret d => exact h4
  · have e : i = xs.length := by omega
    subst e
    rw [List.drop_length] at h2
    exact .inl ⟨w2, h2 σ2 H2 (Ev.refl _ _ _) r2⟩
section
variable {X : Cx} {W : WD} {fr : Bool} {tg iter c : Expr} {body : List Stmt} {it : DenL} {p : Pt} {F : DenS} {t : DenT} {pos : Pos}
theorem ds_for (hp : PassesOwn (model X.prog X.w) X.A X.env X.xe) (hc : X.calm = true) (hi : DI X W tg iter it) (hg : DG X tg p) (hb : DSs X W fr body F) (hs : ∀ x, foldedSetIterable iter X.env x = pure x := by intro _; rfl) : DS X W fr (.For tg iter body [] pos) (sFor it p F) :=
  ps_imp (ps_for hp hc hi hg hb hs) fun D σ H h => rd_for h
end

/-! ### while -/
def sWhile (t : DenT) (body : DenS) : Nat → DenS
  | 0, _ => .stk
  | n + 1, env => (t env).bind fun x => if x.1 then (body x.2).bind fun o => (match o.1 with
    | .nx => sWhile t body n o.2
    | .cnt => sWhile t body n o.2
    | .brk => .ok (.nx, o.2)
    | .ret d => .ok (.ret d, o.2)) else .ok (.nx, x.2)
theorem rd_while {K : PySem.W.Frag} {W : WD} {fr : Bool} {t : DenT} {body : DenS} {n : Nat} {Dn : Ends} {σ : L2.St} {H : Hp} (h : RdS K W fr (sWhile t body n) Dn σ H) : tWhile (RdT K W t) (RdS K W fr body) Dn σ H := by
  refine ⟨fun m σ2 H2 => RdS K W fr (sWhile t body m) Dn σ2 H2, ⟨n, h⟩, fun m σ2 H2 h2 => ?_⟩
  obtain ⟨io, env, hr, h⟩ := h2
  cases m with
  | zero => exact (show False from h).elim
  | succ m =>
    refine ⟨io, env, hr, WpS.bindE h fun x b H1 e1 r1 p1 h1 => ?_⟩
    obtain ⟨xb, env1⟩ := x
    subst p1
    cases xb with
    | false => exact iteF (h1 σ2 H1 (Ev.refl _ _ _) r1)
    | true =>
      refine iteT ⟨fun σ' H' => RdS K W fr (sWhile t body m) Dn σ' H', fun σ' H' q => ⟨m, Nat.lt_succ_self m, q⟩, io, env1, r1, ?_⟩
      dsimp only at h1
      rw [if_pos rfl] at h1
      cases zb : body env1 with
      | stk => rw [zb] at h1; exact h1
      | err c => rw [zb] at h1; exact h1
      | ok o =>
        rw [zb] at h1
        obtain ⟨fl, env4⟩ := o
        cases fl with
        | nx => exact fun σ5 H5 ev5 r5 => ⟨io, env4, r5, WpS.fwd ev5 h1⟩
        | cnt => exact fun σ5 H5 ev5 r5 => ⟨io, env4, r5, WpS.fwd ev5 h1⟩
        | brk => exact h1
        | ret d => exact h1
theorem ds_while {X : Cx} {W : WD} {fr : Bool} {c : Expr} {body : List Stmt} {F : DenS} {t : DenT} {pos : Pos} (n : Nat) (hp : PassesOwn (model X.prog X.w) X.A X.env X.xe) (hc : DT X W c t) (hb : DSs X W fr body F) : DS X W fr (.While c body [] pos) (sWhile t F n) :=
  ps_imp (ps_while hp hc hb) fun D σ H h => rd_while h
end DL

/-! ## DLf -/
/-! DLf: list comprehensions. -/
namespace DL
open PySem PySem.Spec PyProof.Rows L2

def WF : WD := fun _ _ => False
/-- the slots are forgotten -/
def wipeE : En → List Nat → En
  | env, [] => env
  | env, i :: vs => wipeE (env.set i .no) vs
def hasOwn (env : En) (vs : List Nat) : Bool := vs.any fun i => match env[i]? with
  | some (.own _) => true
  | _ => false
/-- behind a turn: the block's own slots as they were, the others as they are -/
def cp1 (i : Nat) (env e : En) : En := match env[i]? with
  | some s => e.set i s
  | none => e
def backE : List Nat → En → En → En
  | [], _, e => e
  | i :: vs, env, e => backE vs env (cp1 i env e)
def cTurn (p : Pt) (vs : List Nat) (cond : DenT) (elt : Den) (x : D) (acc : List D) (env : En) : R (List D × En) :=
  if hasOwn env vs then .stk else
  (R.of (p.asg x (wipeE env vs))).bind fun e1 => (cond e1).hush.bind fun c => if c.1 then (elt c.2).hush.bind fun y => .ok (acc ++ [y.1], backE vs env y.2) else .ok (acc, backE vs env c.2)
def cLoop (p : Pt) (vs : List Nat) (cond : DenT) (elt : Den) : List D → List D → En → R (List D × En)
  | [], acc, env => .ok (acc, env)
  | x :: xs, acc, env => (cTurn p vs cond elt x acc env).bind fun q => cLoop p vs cond elt xs q.1 q.2
def fComp (it : DenL) (p : Pt) (vs : List Nat) (cond : DenT) (elt : Den) : Den := fun env => (it env).bind fun x => if x.1.length ≤ big then (cLoop p vs cond elt x.1 [] x.2).bind fun q => R.ok (D.lst q.1, q.2) else .stk
def tT : DenT := fun env => .ok (true, env)

theorem wipeE_len : ∀ (vs : List Nat) (env : En), (wipeE env vs).length = env.length
  | [], env => rfl
  | i :: vs, env => by
    show (wipeE (env.set i .no) vs).length = _
    rw [wipeE_len vs, List.length_set]
theorem wipeE_out {j : Nat} : ∀ (vs : List Nat) (env : En), j ∉ vs → (wipeE env vs)[j]? = env[j]?
  | [], env, _ => rfl
  | i :: vs, env, h => by
    show (wipeE (env.set i .no) vs)[j]? = _
    rw [wipeE_out vs _ (fun z => h (List.mem_cons_of_mem _ z)), List.getElem?_set_ne (fun z => h (by rw [← z]; exact List.mem_cons_self))]
theorem wipeE_in {j : Nat} : ∀ (vs : List Nat) (env : En), j ∈ vs → j < env.length → (wipeE env vs)[j]? = some .no
  | [], env, h, _ => by cases h
  | i :: vs, env, h, hl => by
    show (wipeE (env.set i .no) vs)[j]? = _
    by_cases q : j ∈ vs
    · exact wipeE_in vs _ q (by rw [List.length_set]; exact hl)
    · rw [wipeE_out vs _ q]
      rcases List.mem_cons.mp h with e | e
      · subst e; simp [hl]
      · exact absurd e q
theorem cp1_len (i : Nat) (env e : En) : (cp1 i env e).length = e.length := by
  unfold cp1
  split
  · exact List.length_set
  · rfl
theorem cp1_ne {i j : Nat} (h : i ≠ j) (env e : En) : (cp1 i env e)[j]? = e[j]? := by
  unfold cp1
  split
  · exact List.getElem?_set_ne h
  · rfl
theorem cp1_eq {i : Nat} {env e : En} (hl : e.length = env.length) : (cp1 i env e)[i]? = env[i]? := by
  unfold cp1
  split
  · rename_i s q
    have := lt_of_get q
    rw [List.getElem?_set_self (by omega), q]
  · rename_i q
    have := List.getElem?_eq_none_iff.mp q
    rw [q]
    exact List.getElem?_eq_none_iff.mpr (by omega)
theorem backE_len (env : En) : ∀ (vs : List Nat) (e : En), (backE vs env e).length = e.length
  | [], e => rfl
  | i :: vs, e => by
    show (backE vs env (cp1 i env e)).length = _
    rw [backE_len env vs, cp1_len]
theorem backE_out {j : Nat} (env : En) : ∀ (vs : List Nat) (e : En), j ∉ vs → (backE vs env e)[j]? = e[j]?
  | [], e, _ => rfl
  | i :: vs, e, h => by
    show (backE vs env (cp1 i env e))[j]? = _
    rw [backE_out env vs _ (fun z => h (List.mem_cons_of_mem _ z))]
    exact cp1_ne (fun z => h (by rw [← z]; exact List.mem_cons_self)) _ _
theorem backE_in {j : Nat} (env : En) : ∀ (vs : List Nat) (e : En), j ∈ vs → e.length = env.length → (backE vs env e)[j]? = env[j]?
  | [], e, h, _ => by cases h
  | i :: vs, e, h, hl => by
    show (backE vs env (cp1 i env e))[j]? = _
    by_cases q : j ∈ vs
    · exact backE_in env vs _ q (by rw [cp1_len]; exact hl)
    · rw [backE_out env vs _ q]
      rcases List.mem_cons.mp h with e' | e'
      · subst e'; exact cp1_eq hl
      · exact absurd e' q
theorem hasOwn_not {env : En} {vs : List Nat} (h : ¬ hasOwn env vs = true) {i : Nat} (hi : i ∈ vs) (d : D) : env[i]? ≠ some (.own d) := fun z => h (by
  unfold hasOwn
  rw [List.any_eq_true]
  exact ⟨i, hi, by rw [z]⟩)
section
variable {K : PySem.W.Frag} {io : Option Addr} {env env' : En} {σ σ' : L2.St} {H H' : Hp} {vs : List Nat}
theorem wipeE_own (hn : ¬ hasOwn env vs = true) {j : Nat} {d : D} : (wipeE env vs)[j]? = some (.own d) ↔ (env[j]? = some (.own d) ∧ j ∉ vs) := by
  constructor
  · intro h
    by_cases q : j ∈ vs
    · have hl : j < env.length := by rw [← wipeE_len vs env]; exact lt_of_get h
      rw [wipeE_in vs env q hl] at h; cases h
    · rw [wipeE_out vs env q] at h; exact ⟨h, q⟩
  · rintro ⟨h, q⟩
    rw [wipeE_out vs env q]; exact h
theorem Rel.wiped (r : Rel K io env σ H) (hn : ¬ hasOwn env vs = true) : Rel K io (wipeE env vs) (wipe σ vs) H := by
  refine ⟨by rw [wipeE_len, wipe_length]; exact r.len, fun j d h => ?_, fun j d h => ?_, fun j k d e a h1 h2 s1 s2 => ?_, fun a h => ?_⟩
  · by_cases q : j ∈ vs
    · have hl : j < env.length := by rw [← wipeE_len vs env]; exact lt_of_get h
      rw [wipeE_in vs env q hl] at h; cases h
    · rw [wipeE_out vs env q] at h
      rw [wipe_out q]
      exact r.val j d h
  · obtain ⟨h1, q⟩ := (wipeE_own hn).mp h
    rw [wipe_out q]
    exact r.own j d h1
  · obtain ⟨g1, q1⟩ := (wipeE_own hn).mp h1
    obtain ⟨g2, q2⟩ := (wipeE_own hn).mp h2
    rw [wipe_out q1] at s1
    rw [wipe_out q2] at s2
    exact r.sep j k d e a g1 g2 s1 s2
  · obtain ⟨h1, y, h2⟩ := r.io a h
    have q : (0 : Nat) ∉ vs := fun q => hasOwn_not hn q y h2
    exact ⟨by rw [wipe_out q]; exact h1, y, by rw [wipeE_out vs env q]; exact h2⟩
theorem ownA_wiped (hn : ¬ hasOwn env vs = true) {b : Addr} : OwnA (wipeE env vs) (wipe σ vs) b ↔ OwnA env σ b := by
  constructor
  · rintro ⟨j, d, h1, h2⟩
    obtain ⟨g1, q⟩ := (wipeE_own hn).mp h1
    rw [wipe_out q] at h2
    exact ⟨j, d, g1, h2⟩
  · rintro ⟨j, d, h1, h2⟩
    have q : j ∉ vs := fun q => hasOwn_not hn q d h1
    exact ⟨j, d, (wipeE_own hn).mpr ⟨h1, q⟩, by rw [wipe_out q]; exact h2⟩
end
/-- behind a turn's targets: as ahead, but for the block's slots -/
structure Blk (vs : List Nat) (env : En) (σ : L2.St) (env' : En) (σ' : L2.St) : Prop where
  len : env'.length = env.length
  off : OffS vs (wipe σ vs) σ'
  own : ∀ (j : Nat) (d : D), env'[j]? = some (.own d) → j ∉ vs
  shp : ∀ (j : Nat), j ∉ vs → env'[j]? = env[j]?
mutual
theorem asg_out : ∀ (p : Pt) (d : D) (env env' : En), p.asg d env = some env' → env'.length = env.length ∧ (∀ (j : Nat) (y : D), env'[j]? = some (.own y) → env[j]? = some (.own y)) ∧ ∀ j, j ∉ p.slots → env'[j]? = env[j]?
  | .nm i, d, env, env', h => by
    obtain ⟨hn, rfl⟩ := putV_some (show putV i d env = some env' from h)
    obtain ⟨hl, _⟩ := notMy_lt hn
    refine ⟨List.length_set, fun j y q => ?_, fun j hj => List.getElem?_set_ne (fun z => hj (by subst z; exact List.mem_singleton.mpr rfl))⟩
    rw [set_get hl] at q
    by_cases z : i = j
    · subst z; simp at q
    · rw [if_neg z] at q; exact q
  | .tu ps, d, env, env', h => by
    cases d with
    | tup ds => exact asgL_out ps ds env env' (by simpa [Pt.asg] using h)
    | _ => simp [Pt.asg] at h
theorem asgL_out : ∀ (ps : List Pt) (ds : List D) (env env' : En), asgL ps ds env = some env' → env'.length = env.length ∧ (∀ (j : Nat) (y : D), env'[j]? = some (.own y) → env[j]? = some (.own y)) ∧ ∀ j, j ∉ slotsL ps → env'[j]? = env[j]?
  | [], [], env, env', h => by
    simp only [asgL, Option.some.injEq] at h
    subst h
    exact ⟨rfl, fun _ _ q => q, fun _ _ => rfl⟩
  | [], _ :: _, _, _, h => by simp [asgL] at h
  | _ :: _, [], _, _, h => by simp [asgL] at h
  | p :: ps, d :: ds, env, env', h => by
    simp only [asgL] at h
    cases z : p.asg d env with
    | none => rw [z] at h; cases h
    | some e =>
      rw [z] at h
      obtain ⟨a1, a2, a3⟩ := asg_out p d env e z
      obtain ⟨b1, b2, b3⟩ := asgL_out ps ds e env' h
      refine ⟨b1.trans a1, fun j y q => a2 j y (b2 j y q), fun j hj => ?_⟩
      have hj : j ∉ p.slots ++ slotsL ps := hj
      rw [b3 j fun q => hj (List.mem_append_right _ q), a3 j fun q => hj (List.mem_append_left _ q)]
end
theorem rd_lc {K : PySem.W.Frag} {W : WD} {it : DenL} {p : Pt} {vs : List Nat} {cond : DenT} {elt : Den} {σ : L2.St} {H : Hp} {Q : VK} (hps : ∀ j ∈ p.slots, j ∈ vs) (h : RdF K W (fComp it p vs cond elt) σ H Q) :
    tLc (RdI K W it) (RdG K p) (RdT K WF cond) (RdE K WF elt) vs σ H Q := by
  obtain ⟨io, env, hr, h⟩ := h
  refine ⟨io, env, hr, Wp.bind h fun x J H1 q0 e1 r1 wk h1 => ?_⟩
  clear q0
  obtain ⟨xs, env1⟩ := x
  dsimp only at e1 r1 wk h1
  by_cases hbig : xs.length ≤ big
  · rw [if_pos hbig] at h1
    intro L hL
    have x0 : Ext H1 (upd H1 L (.lst [])) := Ext.new hL
    let PQ : Hp → D → V → Prop := fun H' d v => ∃ a, v = V.ref a ∧ H a = none ∧ ROwn K H' d a
    have hLH : H L = none := by
      cases z : H L with
      | none => rfl
      | some o =>
        obtain ⟨o', h'⟩ := e1.dom L o z
        rw [hL] at h'; cases h'
    refine ⟨fun i m H2 => m = xs.length - i ∧ i ≤ xs.length ∧ FExt H1 H2 ∧ ∃ env2 acc vacc, Rel K io env2 σ H2 ∧ EvE env1 σ H1 env2 H2 ∧ H2 L = some (.lst vacc) ∧ RpL K H2 acc vacc ∧ acc.length ≤ i ∧
      Wp K W io env1 σ H1 ((cLoop p vs cond elt (xs.drop i) acc env2).bind fun q => R.ok (D.lst q.1, q.2)) PQ Q, ⟨_, rfl, Nat.zero_le _, x0.fx, env1, [], [], r1.ext x0, EvE.ext x0, upd_same, RpL.nil, Nat.le_refl _, h1⟩, ?_⟩
    rintro i m H2 ⟨rfl, hi, fx, env2, acc, vacc, r2, ev2, hz, ra, hla, h2⟩
    obtain ⟨w1, w2, w3⟩ := wk H2 fx
    by_cases hl : i < xs.length
    · rw [drop_cons hl] at h2
      unfold cLoop cTurn at h2
      by_cases hn : hasOwn env2 vs = true
      · rw [if_pos hn] at h2; exact (show False from h2).elim
      rw [if_neg hn] at h2
      -- what the next turn asks
      let NX : Hp → Prop := fun H' => FExt H1 H' ∧ ∃ env2 acc vacc, Rel K io env2 σ H' ∧ EvE env1 σ H1 env2 H' ∧ H' L = some (.lst vacc) ∧ RpL K H' acc vacc ∧ acc.length ≤ i + 1 ∧
        Wp K W io env1 σ H1 ((cLoop p vs cond elt (xs.drop (i + 1)) acc env2).bind fun q => R.ok (D.lst q.1, q.2)) PQ Q
      refine .inr ⟨w1 i hl, NX, fun H' ⟨g1, env', acc', vacc', g2, g3, g4, g5, g6, g7⟩ => ⟨xs.length - (i + 1), by omega, rfl, hl, g1, env', acc', vacc', g2, g3, g4, g5, g6, g7⟩, fun v H3 y => ?_⟩
      obtain ⟨x3, rp⟩ := w3 i xs[i] v H3 (by simp [hl]) y
      have r3 := r2.ext x3
      have rw3 := r3.wiped hn
      cases za : p.asg xs[i] (wipeE env2 vs) with
      | none => rw [za] at h2; exact (show False from h2).elim
      | some envA =>
        rw [za, R.of_some, R.bind_ok] at h2
        obtain ⟨la, oa, sa⟩ := asg_out _ _ _ _ za
        refine ⟨io, _, _, envA, rw3, rp, za, fun σA rA evA offA => ?_⟩
        -- the slots of the block alone are others
        have offs : ∀ j, j ∉ vs → σA[j]? = σ[j]? := fun j hj => by
          rw [offA.2 j fun z => hj (hps j z), wipe_out hj]
        have wipes : wipe σA vs = wipe σ vs := by
          apply List.ext_getElem?
          intro j
          by_cases hj : j ∈ vs
          · have hlen : (wipe σA vs).length = (wipe σ vs).length := by rw [wipe_length, offA.1]
            by_cases hjl : j < (wipe σ vs).length
            · have n1 : ∀ s : L2.St, j < (wipe s vs).length → (wipe s vs)[j]? = some none := fun s hs => by
                cases q : (wipe s vs)[j]? with
                | none => exact absurd (List.getElem?_eq_none_iff.mp q) (by omega)
                | some o =>
                  cases o with
                  | none => rfl
                  | some w => exact absurd hj (wipe_some q).2
              rw [n1 σ hjl, n1 σA (by omega)]
            · rw [List.getElem?_eq_none_iff.mpr (by omega), List.getElem?_eq_none_iff.mpr (by omega)]
          · rw [wipe_out hj, wipe_out hj, offs j hj]
        refine ⟨wipes, io, envA, rA, ?_⟩
        -- the state behind the block's part
        have lenA : envA.length = env2.length := by rw [la, wipeE_len]
        have toOwn : ∀ (e : En), Shp envA e → ∀ b, OwnA e σA b → OwnA env2 σ b := fun e s b ⟨j, y, q1, q2⟩ => by
          obtain ⟨y0, h0⟩ := s.back q1
          obtain ⟨g1, g2⟩ := (wipeE_own hn).mp (oa j y0 h0)
          exact ⟨j, y0, g1, by rw [← offs j g2]; exact q2⟩
        have Lno : ¬ OwnA env2 σ L := fun z => by
          obtain ⟨j, y, q1, q2⟩ := ev2.shp.ownA.mp z
          obtain ⟨b, g1, ⟨u, g2, _⟩, _⟩ := r1.own j y q1
          rw [q2] at g1; cases g1
          rw [hL] at g2; cases g2
        -- from any end of the block's part: back to the walk; E3: what the part did
        have finish : ∀ (e : En) (H5 H6 : Hp) (acc' : List D) (vacc' : List V), EvE envA σA H3 e H5 → Rel K io e σA H5 → H6 = upd H5 L (.lst vacc') → RpL K H5 acc' vacc' → acc'.length ≤ i + 1 →
            Wp K W io env1 σ H1 ((cLoop p vs cond elt (xs.drop (i + 1)) acc' (backE vs env2 e)).bind fun q => R.ok (D.lst q.1, q.2)) PQ Q → NX H6 := by
          intro e H5 H6 acc' vacc' ee re e6 rac hlen hw
          have kp : ∀ b o, H3 b = some o → ¬ OwnA env2 σ b → H5 b = some o := fun b o q no => ee.kp b o q fun z => no (toOwn envA (Shp.refl _) b z)
          have L5 : H5 L = some (.lst vacc) := kp L _ (x3 _ _ hz) Lno
          have tf : ∀ o, H5 L = some o → ¬ Frm o := fun o q f => by rw [L5] at q; cases q; exact f
          have fx56 : FExt H5 H6 := fun b o q f => by
            rw [e6, upd_ne (fun z => by subst z; exact tf o q f)]; exact q
          have se := ee.shp
          have lenE : e.length = env2.length := se.1.trans lenA
          have ea : ∀ j, j ∉ vs → envA[j]? = env2[j]? := fun j hj => by rw [sa j fun z => hj (hps j z), wipeE_out vs env2 hj]
          have shpB : Shp env2 (backE vs env2 e) := by
            refine ⟨by rw [backE_len]; exact lenE, fun j => ⟨fun y q => ?_, fun q => ?_⟩⟩
            · have hj : j ∉ vs := fun z => hasOwn_not hn z y q
              rw [backE_out env2 vs e hj]
              exact (se.2 j).1 y (by rw [ea j hj]; exact q)
            · by_cases hj : j ∈ vs
              · rw [backE_in env2 vs e hj lenE]
              · rw [backE_out env2 vs e hj, ← ea j hj]
                exact (se.2 j).2 fun y z => q y (by rw [← ea j hj]; exact z)
          have fx26 : FExt H2 H6 := fun b o q f => fx56 b o (kp b o (x3 b o q) (r2.notOwn q f)) f
          have neL : ∀ b o, H1 b = some o → b ≠ L := fun b o q z => by rw [z, hL] at q; cases q
          have ev16 : EvE env1 σ H1 (backE vs env2 e) H6 := by
            refine ⟨ev2.shp.trans shpB, fun b o q no => ?_, fun b o q => ?_⟩
            · rw [e6, upd_ne (neL b o q)]
              exact kp b o (x3 b o (ev2.kp b o q no)) fun z => no (ev2.shp.ownA.mp z)
            · obtain ⟨o2, q2⟩ := ev2.dom b o q
              obtain ⟨o5, q5⟩ := ee.dom b o2 (x3 b o2 q2)
              exact ⟨o5, by rw [e6, upd_ne (neL b o q)]; exact q5⟩
          have r6 : Rel K io (backE vs env2 e) σ H6 := by
            refine ⟨by rw [backE_len, lenE]; exact r2.len, fun j d q => ?_, fun j d q => ?_, fun j k d d' a q1 q2 => ?_, fun a q => ?_⟩
            · by_cases hj : j ∈ vs
              · rw [backE_in env2 vs e hj lenE] at q
                obtain ⟨w, g1, g2⟩ := r2.val j d q
                exact ⟨w, g1, Rp.ext fx26 _ _ g2⟩
              · rw [backE_out env2 vs e hj] at q
                obtain ⟨w, g1, g2⟩ := re.val j d q
                exact ⟨w, by rw [← offs j hj]; exact g1, Rp.ext fx56 _ _ g2⟩
            · obtain ⟨d0, q0⟩ := shpB.back q
              have hj : j ∉ vs := fun z => hasOwn_not hn z d0 q0
              rw [backE_out env2 vs e hj] at q
              obtain ⟨a, g1, ⟨u, g2, g3⟩, g4⟩ := re.own j d q
              have g1' : σ[j]? = some (some (.ref a)) := by rw [← offs j hj]; exact g1
              refine ⟨a, g1', ⟨u, ?_, g3.ext fx56⟩, g4⟩
              rw [e6, upd_ne (fun z => Lno ⟨j, d0, q0, by rw [← z]; exact g1'⟩)]
              exact g2
            · obtain ⟨d0, q01⟩ := shpB.back q1
              obtain ⟨d1, q02⟩ := shpB.back q2
              exact r2.sep j k d0 d1 a q01 q02
            · obtain ⟨g1, y, g2⟩ := r2.io a q
              exact ⟨g1, (shpB.2 0).1 y g2⟩
          exact ⟨fx.trans fx26, backE vs env2 e, acc', vacc', r6, ev16, by rw [e6]; exact upd_same, RpL.ext fx56 _ _ rac, hlen, hw⟩
        cases zc : cond envA with
        | stk => rw [zc] at h2; exact (show False from h2).elim
        | err c => rw [zc] at h2; exact (show False from h2).elim
        | ok c =>
          obtain ⟨cb, envC⟩ := c
          rw [zc, R.hush_ok, R.bind_ok] at h2
          intro b H4 e4 r4 p4
          subst p4
          dsimp only at e4 r4 h2
          have L4 : H4 L = some (.lst vacc) := e4.kp L _ (x3 _ _ hz) fun z => Lno (toOwn envA (Shp.refl _) L z)
          cases cb with
          | false =>
            rw [if_neg (by decide)] at h2
            refine iteF (finish envC H4 H4 acc vacc e4 r4 ?_ (RpL.ext (x3.fx.trans (rA.fx e4)) _ _ ra) (by omega) h2)
            funext b
            by_cases z : b = L
            · subst z; rw [L4, upd_same]
            · rw [upd_ne z]
          | true =>
            rw [if_pos rfl] at h2
            refine iteT ⟨io, envC, r4, ?_⟩
            cases ze : elt envC with
            | stk => rw [ze] at h2; exact (show False from h2).elim
            | err c => rw [ze] at h2; exact (show False from h2).elim
            | ok q =>
              obtain ⟨qd, envQ⟩ := q
              rw [ze, R.hush_ok, R.bind_ok] at h2
              intro w H5 e5 r5 p5
              dsimp only at e5 r5 p5 h2
              have e35 := e4.trans e5
              have L5 : H5 L = some (.lst vacc) := e35.kp L _ (x3 _ _ hz) fun z => Lno (toOwn envA (Shp.refl _) L z)
              have ra5 : RpL K H5 acc vacc := RpL.ext (x3.fx.trans (rA.fx e35)) _ _ ra
              refine ⟨vacc, L5, ?_, finish envQ H5 _ (acc ++ [qd]) (vacc ++ [w]) e35 r5 rfl (RpL.append ra5 (RpL.cons p5 RpL.nil)) (by rw [List.length_append]; show acc.length + 1 ≤ i + 1; omega) h2⟩
              have := ra5.length
              exact big_lt (by omega)
    · have e : i = xs.length := by omega
      subst e
      rw [List.drop_length] at h2
      exact .inl ⟨w2, h2 (.ref L) H2 ev2 r2 ⟨L, rfl, hLH, .lst vacc, hz, ra⟩⟩
  · rw [if_neg hbig] at h1; exact (show False from h1).elim
section
variable {X : Cx} {W : WD} {fr : Bool} {elt tg iter : Expr} {ifs : List Expr} {scope : Scope} {own : List (Str × Nat)} {it : DenL} {p : Pt} {cond : DenT} {fe : Den} {pos spos py : Pos} {y : Str} {i : Nat}
abbrev DTs (X : Cx) (W : WD) (ifs : List Expr) (f : DenT) : Prop := PTs X ifs (RdT X.K W f)
theorem dts_nil : DTs X W [] tT := ⟨fun pins s σ H Q I ⟨io, env, r, h⟩ => pts_nil.run pins s σ H Q I (h true H (EvE.refl _ _ _) r rfl)⟩
theorem dts_one {c : Expr} (h : DT X W c cond) : DTs X W [c] cond := pts_one h
abbrev Bl (X : Cx) (scope : Scope) (Y : Cx → Prop) : Prop := ∀ (s : Shared) (H : Hp) (C : Addr) (cl : List (Str × Addr)) (fp : List Addr), Y (X.blk s H scope (compEnvC scope cl C X.env) fp)
theorem df_comp (hN : X.N.Nodup) (hi : DI X W tg iter it) (ok : BlkOk X.N X.env.scope scope own) (hg : Bl X scope fun Y => DG Y tg p) (ht : Bl X scope fun Y => DTs Y WF ifs cond) (he : Bl X scope fun Y => DE Y WF elt fe)
    (hps : ∀ j ∈ p.slots, j ∈ own.map (·.2)) (hc : X.calm = true := by rfl) (hs : ∀ x, foldedSetIterable iter X.env x = pure x := by intro _; rfl) : DF X W (.ListComp elt [⟨tg, iter, ifs, 0⟩] scope pos) (fComp it p (own.map (·.2)) cond fe) :=
  pe_imp (pe_lc hc hN hi ok hg ht he hs) fun σ H Q h => rd_lc hps h
theorem ds_setLc (i : Nat) (hN : X.N.Nodup) (hi : DI X W tg iter it) (ok : BlkOk X.N X.env.scope scope own) (hg : Bl X scope fun Y => DG Y tg p) (ht : Bl X scope fun Y => DTs Y WF ifs cond) (he : Bl X scope fun Y => DE Y WF elt fe)
    (hps : ∀ j ∈ p.slots, j ∈ own.map (·.2)) (hsw : swapsWith (.ListComp elt [⟨tg, iter, ifs, 0⟩] scope pos) (some (.Name y py)) spos.line X.env = pure true) (hy : X.N[i]? = some y := by rfl) (hyl : X.env.scope.names.lookup y = some .local := by rfl)
    (hc : X.calm = true := by rfl) (hs : ∀ x, foldedSetIterable iter X.env x = pure x := by intro _; rfl) :
    DS X W fr (.Assign [.Name y py] (.ListComp elt [⟨tg, iter, ifs, 0⟩] scope pos) spos) (sSet i (fComp it p (own.map (·.2)) cond fe)) :=
  ds_setFz fun t ht' => ps_imp (ps_setLc hc hN hy hyl hsw hi ok hg ht he hs) fun D σ H h => rd_lc hps (ht' D σ H h)
theorem ds_ownLc (i : Nat) (hN : X.N.Nodup) (hi : DI X W tg iter it) (ok : BlkOk X.N X.env.scope scope own) (hg : Bl X scope fun Y => DG Y tg p) (ht : Bl X scope fun Y => DTs Y WF ifs cond) (he : Bl X scope fun Y => DE Y WF elt fe)
    (hps : ∀ j ∈ p.slots, j ∈ own.map (·.2)) (hsw : swapsWith (.ListComp elt [⟨tg, iter, ifs, 0⟩] scope pos) (some (.Name y py)) spos.line X.env = pure true) (h0 : i ≠ 0 := by decide) (hy : X.N[i]? = some y := by rfl) (hyl : X.env.scope.names.lookup y = some .local := by rfl)
    (hc : X.calm = true := by rfl) (hs : ∀ x, foldedSetIterable iter X.env x = pure x := by intro _; rfl) :
    DS X W fr (.Assign [.Name y py] (.ListComp elt [⟨tg, iter, ifs, 0⟩] scope pos) spos) (sOwn i (fComp it p (own.map (·.2)) cond fe)) :=
  ps_imp (ps_setLc hc hN hy hyl hsw hi ok hg ht he hs) fun D σ H h => rd_lc hps (rd_own h0 h)
end
end DL

/-! ## DLg -/
/-! DLg: defs and calls, raise. -/
namespace DL
open PySem PySem.Spec PyProof.Rows L2

abbrev DenF := List D → R (D × D)
def ArgsOk (K : PySem.W.Frag) (H : Hp) : Bool → List D → List V → Prop
  | false, ds, vs => RpL K H ds vs
  | true, d :: ds, v :: vs => (∃ a, v = .ref a ∧ ROwn K H d a ∧ d.fl = true) ∧ RpL K H ds vs
  | true, _, _ => False
def EvC (io : Bool) (vs : List V) (H H' : Hp) : Prop := (∀ b o, H b = some o → (io = true → vs[0]? ≠ some (.ref b)) → H' b = some o) ∧ ∀ b o, H b = some o → ∃ o', H' b = some o'
def OutOk (K : PySem.W.Frag) (io : Bool) (vs : List V) (H' : Hp) (d : D) : Prop := io = true → ∃ a, vs[0]? = some (.ref a) ∧ ROwn K H' d a ∧ d.fl = true
/-- what a def promises whose result is F of the arguments; io: its first argument is an own thing that it may change; fr: it hands back a new thing -/
def spD (K : PySem.W.Frag) (mg : Str → Option Value) (io fr : Bool) (n : Nat) (F : DenF) : Sp := fun vs H Q E => vs.length = n ∧ ∃ ds, ArgsOk K H io ds vs ∧
  match F ds with
  | .stk => False
  | .err c => ∀ C H', mg c = some (.ref C) → EvC io vs H H' → E (.ref C) none H'
  | .ok p => ∀ v H', EvC io vs H H' → OutOk K io vs H' p.2 → (if fr then ∃ a, v = V.ref a ∧ H a = none ∧ ROwn K H' p.1 a else Rp K H' p.1 v) → Q v H'
def WE (mg : Str → Option Value) (E : XK) : WD := fun c H => ∀ C, mg c = some (.ref C) → E (.ref C) none H
def WT (mg : Str → Option Value) (W : WD) : WX := fun cls d _ H => ∃ c C, cls = .ref C ∧ d = none ∧ mg c = some (.ref C) ∧ W c H
theorem tk_def {X : Cx} {E : XK} (h : Takes X (fun cls d _ H => E cls d H)) : Takes X (WT X.mg (WE X.mg E)) := h.imp fun cls d σ H ⟨c, C, e1, e2, e3, w⟩ => by
  subst e1; subst e2; exact w C e3
theorem tk_blk {X : Cx} : Takes X (WT X.mg WF) := takes0.imp fun cls d σ H ⟨c, C, e1, e2, e3, w⟩ => w

def startE : Bool → List D → Nat → En
  | true, d :: ds, k => .own d :: (ds.map Sl.val ++ List.replicate k .no)
  | _, ds, k => ds.map Sl.val ++ List.replicate k .no
def outE (io : Bool) (env : En) : D := match env[0]? with
  | some (Sl.own d) => if io then d else .non
  | _ => .non
def runF (io fr : Bool) (k : Nat) (body : DenS) : DenF := fun ds => (body (startE io ds k)).bind fun o => match o.1 with
  | .ret d => .ok (d, outE io o.2)
  | .nx => if fr then .stk else .ok (.non, outE io o.2)
  | _ => .stk

section
variable {K : PySem.W.Frag} {H : Hp}
theorem rel_vals {ds : List D} {vs : List V} (k : Nat) (h : RpL K H ds vs) : (∀ (i : Nat) (d : D), (ds.map Sl.val ++ List.replicate k Sl.no)[i]? = some (.val d) → ∃ v, (vs.map some ++ List.replicate k none)[i]? = some (some v) ∧ Rp K H d v) ∧ ∀ (i : Nat) (d : D), (ds.map Sl.val ++ List.replicate k Sl.no)[i]? ≠ some (.own d) := by
  have hl := h.length
  refine ⟨fun i d q => ?_, fun i d q => ?_⟩
  · by_cases hi : i < ds.length
    · rw [List.getElem?_append_left (by simpa using hi), List.getElem?_map] at q
      cases z : ds[i]? with
      | none => rw [z] at q; cases q
      | some e =>
        rw [z] at q
        cases q
        obtain ⟨v, h1, h2⟩ := h.get z
        exact ⟨v, by rw [List.getElem?_append_left (by simp; omega), List.getElem?_map, h1]; rfl, h2⟩
    · rw [List.getElem?_append_right (by simp; omega), List.getElem?_replicate] at q
      split at q <;> cases q
  · by_cases hi : i < ds.length
    · rw [List.getElem?_append_left (by simpa using hi), List.getElem?_map] at q
      cases z : ds[i]? with
      | none => rw [z] at q; cases q
      | some e => rw [z] at q; cases q
    · rw [List.getElem?_append_right (by simp; omega), List.getElem?_replicate] at q
      split at q <;> cases q
theorem rel_start {io : Bool} {ds : List D} {vs : List V} {N : List Str} {n : Nat} (hv : vs.length = n) (hn : n ≤ N.length) (h : ArgsOk K H io ds vs) :
    ∃ ia : Option Addr, Rel K ia (startE io ds (N.length - n)) (L2.start N vs) H ∧ (∀ b, OwnA (startE io ds (N.length - n)) (L2.start N vs) b → io = true ∧ vs[0]? = some (.ref b)) ∧
      (io = true → ∃ a, ia = some a ∧ vs[0]? = some (.ref a)) := by
  subst hv
  cases io with
  | false =>
    have h' : RpL K H ds vs := h
    obtain ⟨r1, r2⟩ := rel_vals (N.length - vs.length) h'
    have hl := h'.length
    refine ⟨none, ⟨?_, r1, fun i d q => absurd q (r2 i d), fun i j d e a q => absurd q (r2 i d), fun a q => by cases q⟩, fun b ⟨i, d, q, _⟩ => absurd q (r2 i d), fun q => by cases q⟩
    show (ds.map Sl.val ++ List.replicate (N.length - vs.length) Sl.no).length = (vs.map some ++ List.replicate (N.length - vs.length) none).length
    simp [hl]
  | true =>
    cases ds with
    | nil => exact (show False from h).elim
    | cons d ds =>
      cases vs with
      | nil => exact (show False from h).elim
      | cons v vs =>
        obtain ⟨⟨a, rfl, ho, fl⟩, h'⟩ : (∃ a, v = .ref a ∧ ROwn K H d a ∧ d.fl = true) ∧ RpL K H ds vs := h
        obtain ⟨r1, r2⟩ := rel_vals (N.length - (vs.length + 1)) h'
        have hl := h'.length
        have eE : startE true (d :: ds) (N.length - (V.ref a :: vs).length) = Sl.own d :: (ds.map Sl.val ++ List.replicate (N.length - (vs.length + 1)) Sl.no) := rfl
        have eS : L2.start N (V.ref a :: vs) = some (V.ref a) :: (vs.map some ++ List.replicate (N.length - (vs.length + 1)) none) := rfl
        rw [eE, eS]
        refine ⟨some a, ⟨by simp [hl], fun i x q => ?_, fun i x q => ?_, fun i j x y b q1 q2 s1 s2 => ?_, fun b q => ?_⟩, fun b q => ?_, fun _ => ⟨a, rfl, rfl⟩⟩
        · cases i with
          | zero => simp at q
          | succ i => exact r1 i x (by simpa using q)
        · cases i with
          | zero =>
            simp at q
            subst q
            exact ⟨a, rfl, ho, fl⟩
          | succ i => exact absurd (by simpa using q) (r2 i x)
        · cases i with
          | zero => cases j with
            | zero => rfl
            | succ j => exact absurd (by simpa using q2) (r2 j y)
          | succ i => exact absurd (by simpa using q1) (r2 i x)
        · cases q
          exact ⟨rfl, d, rfl⟩
        · obtain ⟨i, x, q1, q2⟩ := q
          cases i with
          | zero =>
            refine ⟨rfl, ?_⟩
            simp at q2
            rw [q2]; rfl
          | succ i => exact absurd (by simpa using q1) (r2 i x)
end
section
variable {P : Program} {w : World} {K : PySem.W.Frag} {mg : Str → Option Value} {base : Heap}
/-- THE RULE for a def: its body is run by a function -/
theorem den_ok {x qual : Str} {st : Stmt} {f : Addr} {fd : FuncData} {N ps : List Str} {k : Nat} (io fr : Bool) {body : DenS} (F : Fun K x qual st f fd) (S : FnScope N ps (defScope st))
    (h : ∀ (cdv : Value) (A : Around) (outer : List Env) (s : Shared) (H : Hp) (E : XK), Room k (A.deeper (envOfC qual (defScope st) s.heap.objs.size f cdv)) →
      Takes (cxOf (L2.CX P w) P w K mg base N qual (defScope st) f cdv A outer s H E) (WT mg (WE mg E)) → DSs (cxOf (L2.CX P w) P w K mg base N qual (defScope st) f cdv A outer s H E) (WE mg E) fr (defBody st) body) :
    FnOk P w K mg base (L2.CX P w) (k + 1) f fd ps (spD K mg io fr ps.length (runF io fr (N.length - ps.length) body)) := by
  refine F.okX S (fun vs H Q E q => q.1) fun cdv A outer s H vs Q E hr hsp => ⟨_, h cdv A outer s H E hr (tk_def (X := cxOf (L2.CX P w) P w K mg base N qual (defScope st) f cdv A outer s H E) (takes_of rfl rfl rfl rfl)), ?_⟩
  obtain ⟨hv, ds, ha, q⟩ := hsp
  have hpl : ps.length ≤ N.length := by have := congrArg List.length S.pre; rw [List.length_take] at this; omega
  obtain ⟨ia, r, own, hio⟩ := rel_start (N := N) hv hpl ha
  refine ⟨ia, _, r, ?_⟩
  unfold runF at q
  have evc : ∀ {env' : En} {σ' : L2.St} {H' : Hp}, Ev (startE io ds (N.length - ps.length)) (L2.start N vs) H env' σ' H' → EvC io vs H H' := fun ev => ⟨fun b o hb hn => (ev.kp b o hb fun z => let ⟨z1, z2⟩ := own b z; hn z1 z2).1, ev.dom⟩
  have out : ∀ {env' : En} {σ' : L2.St} {H' : Hp}, Rel K ia env' σ' H' → OutOk K io vs H' (outE io env') := fun {env' σ' H'} rr hz => by
    obtain ⟨a, e1, e2⟩ := hio hz
    obtain ⟨g1, d, g2⟩ := rr.io a e1
    obtain ⟨b, g3, g4, g5⟩ := rr.own 0 d g2
    rw [g1] at g3; cases g3
    refine ⟨a, e2, ?_⟩
    unfold outE
    rw [g2]
    show ROwn K H' (if io = true then d else .non) a ∧ D.fl (if io = true then d else .non) = true
    rw [if_pos hz]
    exact ⟨g4, g5⟩
  cases z : body (startE io ds (N.length - ps.length)) with
  | stk => rw [z] at q; exact q
  | err c =>
    rw [z] at q
    exact fun env' σ' H' ev C hC => q C H' hC (evc ev)
  | ok o =>
    rw [z] at q
    obtain ⟨fl, env'⟩ := o
    cases fl with
    | brk => exact (show False from q).elim
    | cnt => exact (show False from q).elim
    | nx =>
      cases fr with
      | true => exact (show False from q).elim
      | false => exact fun σ' H' ev rr => q .non H' (evc ev) (out rr) (by rw [if_neg (by decide)]; simp [Rp])
    | ret d =>
      intro v σ' H' ev rr ro
      refine q v H' (evc ev) (out rr) ?_
      unfold RetOk at ro
      cases fr with
      | false => exact ro
      | true =>
        rw [if_pos rfl] at ro ⊢
        obtain ⟨a, e1, e2, e3⟩ := ro
        refine ⟨a, e1, ?_, e2⟩
        rcases e3 with e3 | ⟨e3, e4⟩
        · exact e3
        · obtain ⟨z1, z2⟩ := own a e3
          obtain ⟨b, z3, z4⟩ := hio z1
          rw [z2] at z4; cases z4
          exact absurd z3 e4
end

theorem free_back {H0 H1 : Hp} {a : Addr} (dm : ∀ b o, H0 b = some o → ∃ o', H1 b = some o') (e : H1 a = none) : H0 a = none := by
  cases z : H0 a with
  | none => rfl
  | some o =>
    obtain ⟨o', h'⟩ := dm a o z
    rw [e] at h'; cases h'
/-! ### calls -/
def eCall (n : Nat) (F : DenF) (Fa : DenL) : Den := fun env => (Fa env).bind fun x => if x.1.length = n then (F x.1).bind fun r => .ok (r.1, x.2) else .stk
/-- the first argument is the own thing of slot i -/
def eCallO (i : Nat) (n : Nat) (F : DenF) (Fa : DenL) : Den := fun env => match env[i]? with
  | some (.own _) => (Fa env).bind fun x => (match x.2[i]? with
    | some (.own d) => if x.1.length + 1 = n then (F (d :: x.1)).bind fun r => .ok (r.1, x.2.set i (.own r.2)) else .stk
    | _ => .stk)
  | _ => .stk
section
variable {K : PySem.W.Frag} {mg : Str → Option Value} {W : WD} {σ : L2.St} {H : Hp} {n : Nat} {F : DenF} {Fa : DenL}
theorem rd_call {fr : Bool} {P0 : Hp → Hp → D → V → Prop} (hP : ∀ (H0 H1 H' : Hp) (d : D) (v : V), (∀ b o, H0 b = some o → ∃ o', H1 b = some o') → (if fr then ∃ a, v = V.ref a ∧ H1 a = none ∧ ROwn K H' d a else Rp K H' d v) → P0 H0 H' d v) {Q : VK}
    (h : ∃ io env, Rel K io env σ H ∧ Wp K W io env σ H (eCall n F Fa env) (P0 H) Q) : tCallS (spD K mg false fr n F) (fun σ => L2.WE (WT mg W) σ) (RdA K W Fa) σ H Q := by
  obtain ⟨io, env, hr, h⟩ := h
  refine ⟨io, env, hr, Wp.bind h fun x vs H1 q0 e1 r1 p1 h1 => ?_⟩
  clear q0
  by_cases hl : x.1.length = n
  · rw [if_pos hl] at h1
    refine ⟨by rw [p1.length, hl], x.1, p1, ?_⟩
    cases z : F x.1 with
    | stk => rw [z] at h1; exact h1
    | err c =>
      rw [z] at h1
      exact fun C H' hC ev => ⟨c, C, rfl, rfl, hC, h1 x.2 H' ⟨Shp.refl _, fun b o hb _ => ev.1 b o hb (fun q => by cases q), ev.2⟩⟩
    | ok r =>
      rw [z] at h1
      intro v H' ev _ p'
      have x1 : Ext H1 H' := fun b o hb => ev.1 b o hb (fun q => by cases q)
      exact h1 v H' (EvE.ext x1) (r1.ext x1) (hP H H1 H' _ _ e1.dom p')
  · rw [if_neg hl] at h1; exact (show False from h1).elim
theorem rd_callO {i : Nat} {fr : Bool} {P0 : Hp → Hp → D → V → Prop} (hP : ∀ (H0 H1 H' : Hp) (d : D) (v : V), (∀ b o, H0 b = some o → ∃ o', H1 b = some o') → (if fr then ∃ a, v = V.ref a ∧ H1 a = none ∧ ROwn K H' d a else Rp K H' d v) → P0 H0 H' d v) {Q : VK}
    (h : ∃ io env, Rel K io env σ H ∧ Wp K W io env σ H (eCallO i n F Fa env) (P0 H) Q) : tCallS (spD K mg true fr n F) (fun σ => L2.WE (WT mg W) σ) (tCons (tVar i) (RdA K W Fa)) σ H Q := by
  obtain ⟨io, env, hr, h⟩ := h
  unfold eCallO at h
  split at h
  · rename_i d0 q
    obtain ⟨a, s1, _, _⟩ := hr.own i d0 q
    refine ⟨.ref a, s1, io, env, hr, Wp.bind h fun x vs H1 q0 e1 r1 p1 h1 => ?_⟩
    clear q0
    obtain ⟨d1, q1⟩ := (e1.shp.2 i).1 d0 q
    rw [q1] at h1
    dsimp only at h1
    obtain ⟨a', s1', ho, fl⟩ := r1.own i d1 q1
    rw [s1] at s1'; cases s1'
    have hlt := lt_of_get q1
    by_cases hl : x.1.length + 1 = n
    · rw [if_pos hl] at h1
      refine ⟨by rw [List.length_cons, p1.length, hl], d1 :: x.1, ⟨⟨a, rfl, ho, fl⟩, p1⟩, ?_⟩
      have keep : ∀ {H' : Hp}, EvC true (V.ref a :: vs) H1 H' → ∀ b o, H1 b = some o → ¬ OwnA x.2 σ b → H' b = some o := fun ev b o hb no => ev.1 b o hb fun _ z => no ⟨i, d1, q1, by
        have z' : some (V.ref a) = some (V.ref b) := z
        cases z'; exact s1⟩
      cases z : F (d1 :: x.1) with
      | stk => rw [z] at h1; exact h1
      | err c =>
        rw [z] at h1
        exact fun C H' hC ev => ⟨c, C, rfl, rfl, hC, h1 x.2 H' ⟨Shp.refl _, keep ev, ev.2⟩⟩
      | ok r =>
        rw [z] at h1
        intro v H' ev oo p'
        obtain ⟨a2, z2, ho2, fl2⟩ := oo rfl
        have z2' : some (V.ref a) = some (V.ref a2) := z2
        cases z2'
        have fx : FExt H1 H' := fun b o hb f => keep ev b o hb (r1.notOwn hb f)
        have shp : Shp x.2 (x.2.set i (.own r.2)) := by
          refine ⟨List.length_set, fun j => ⟨fun y g => ?_, fun g => ?_⟩⟩
          · rw [set_get hlt]
            by_cases e : i = j
            · exact ⟨r.2, by rw [if_pos e]⟩
            · exact ⟨y, by rw [if_neg e]; exact g⟩
          · rw [set_get hlt, if_neg (fun e => by subst e; exact g d1 q1)]
        refine h1 v H' ⟨shp, keep ev, ev.2⟩ ⟨by rw [List.length_set]; exact r1.len, fun j y g => ?_, fun j y g => ?_, fun j k y y' b g1 g2 => ?_, fun b g => ?_⟩ (hP H H1 H' _ _ e1.dom p')
        · rw [set_get hlt] at g
          by_cases e : i = j
          · rw [if_pos e] at g; cases g
          · rw [if_neg e] at g
            obtain ⟨w, g1, g2⟩ := r1.val j y g
            exact ⟨w, g1, Rp.ext fx _ _ g2⟩
        · rw [set_get hlt] at g
          by_cases e : i = j
          · rw [if_pos e] at g
            cases g
            subst e
            exact ⟨a, s1, ho2, fl2⟩
          · rw [if_neg e] at g
            obtain ⟨b, g1, ⟨u, g2, g3⟩, g4⟩ := r1.own j y g
            refine ⟨b, g1, ⟨u, ev.1 b u g2 fun _ z => e ?_, g3.ext fx⟩, g4⟩
            have z' : some (V.ref a) = some (V.ref b) := z
            cases z'
            exact r1.sep i j d1 y a q1 g s1 g1
        · obtain ⟨y0, g10⟩ := shp.back g1
          obtain ⟨y1, g20⟩ := shp.back g2
          exact r1.sep j k y0 y1 b g10 g20
        · obtain ⟨g1, y, g2⟩ := r1.io b g
          exact ⟨g1, (shp.2 0).1 y g2⟩
    · rw [if_neg hl] at h1; exact (show False from h1).elim
  · exact (show False from h).elim
end
section
variable {X : Cx} {W : WD} {k n : Nat} {f : Addr} {fd : FuncData} {ps : List Str} {F : DenF} {Fa : DenL} {x y : Str} {p pos pos' : Pos} {e : Expr} {es : List Expr}
abbrev FnD (X : Cx) (k : Nat) (f : Addr) (fd : FuncData) (ps : List Str) (io fr : Bool) (n : Nat) (F : DenF) : Prop := FnOk X.prog X.w X.K X.mg X.base (L2.CX X.prog X.w) k f fd ps (spD X.K X.mg io fr n F)
theorem de_call (G : FnD X k f fd ps false false n F) (hr : Room k X.A) (tk : Takes X (WT X.mg W)) (hg : Gl X x) (hm : X.mg x = some (.ref f)) (hk : PySem.W.keepIn X.K (.ref f) = true) (hb : Binds X.K fd ps []) (ha : DA X W (e :: es) Fa)
    (hdb : (x == ("__debug__" : Str)) = false := by decide) (he : starEach (e :: es) X.env = (false, eval e X.env) :: starEach es X.env := by rfl) (hpl : (backTo pos (starEach es X.env)).any (·.1) = false := by rfl) : DE X W (.Call (.Name x p) (e :: es) [] pos) (eCall n F Fa) :=
  pe_imp (pe_callS (E := fun σ => L2.WE (WT X.mg W) σ) G hr hg hm hk hb (passAt tk) ha hdb he hpl) fun σ H Q h => rd_call (fr := false) (P0 := fun _ H' d v => Rp X.K H' d v) (fun _ _ _ _ _ _ q => q) h
theorem df_call (G : FnD X k f fd ps false true n F) (hr : Room k X.A) (tk : Takes X (WT X.mg W)) (hg : Gl X x) (hm : X.mg x = some (.ref f)) (hk : PySem.W.keepIn X.K (.ref f) = true) (hb : Binds X.K fd ps []) (ha : DA X W (e :: es) Fa)
    (hdb : (x == ("__debug__" : Str)) = false := by decide) (he : starEach (e :: es) X.env = (false, eval e X.env) :: starEach es X.env := by rfl) (hpl : (backTo pos (starEach es X.env)).any (·.1) = false := by rfl) : DF X W (.Call (.Name x p) (e :: es) [] pos) (eCall n F Fa) :=
  pe_imp (pe_callS (E := fun σ => L2.WE (WT X.mg W) σ) G hr hg hm hk hb (passAt tk) ha hdb he hpl) fun σ H Q h => rd_call (fr := true) (P0 := fun H0 H' d v => ∃ a, v = V.ref a ∧ H0 a = none ∧ ROwn X.K H' d a) (fun H0 H1 H' d v dm ⟨a, e1, e2, e3⟩ => ⟨a, e1, free_back dm e2, e3⟩) h
theorem pa_own (i : Nat) (ha : DA X W es Fa) (hN : X.N[i]? = some y) (hv : Vis X.env.scope y) (hd : (y == ("__debug__" : Str)) = false) (hcd : (y == ("__classdict__" : Str)) = false) (hs : starEach (.Name y pos' :: es) X.env = (false, eval (.Name y pos') X.env) :: starEach es X.env) :
    PA X (.Name y pos' :: es) (tCons (tVar i) (RdA X.K W Fa)) := pa_cons (pe_var hN hv hd hcd) ha hs
theorem de_callO (i : Nat) (G : FnD X k f fd ps true false n F) (hr : Room k X.A) (tk : Takes X (WT X.mg W)) (hg : Gl X x) (hm : X.mg x = some (.ref f)) (hk : PySem.W.keepIn X.K (.ref f) = true) (hb : Binds X.K fd ps []) (ha : DA X W es Fa)
    (hN : X.N[i]? = some y := by rfl) (hv : Vis X.env.scope y := by first | exact Or.inl rfl | exact Or.inr (Or.inl rfl) | exact Or.inr (Or.inr rfl)) (hd : (y == ("__debug__" : Str)) = false := by decide) (hcd : (y == ("__classdict__" : Str)) = false := by decide)
    (hdb : (x == ("__debug__" : Str)) = false := by decide) (he : starEach (.Name y pos' :: es) X.env = (false, eval (.Name y pos') X.env) :: starEach es X.env := by rfl) (hpl : (backTo pos (starEach es X.env)).any (·.1) = false := by rfl) : DE X W (.Call (.Name x p) (.Name y pos' :: es) [] pos) (eCallO i n F Fa) :=
  pe_imp (pe_callS (E := fun σ => L2.WE (WT X.mg W) σ) G hr hg hm hk hb (passAt tk) (pa_own i ha hN hv hd hcd he) hdb he hpl) fun σ H Q h => rd_callO (fr := false) (P0 := fun _ H' d v => Rp X.K H' d v) (fun _ _ _ _ _ _ q => q) h
theorem df_callO (i : Nat) (G : FnD X k f fd ps true true n F) (hr : Room k X.A) (tk : Takes X (WT X.mg W)) (hg : Gl X x) (hm : X.mg x = some (.ref f)) (hk : PySem.W.keepIn X.K (.ref f) = true) (hb : Binds X.K fd ps []) (ha : DA X W es Fa)
    (hN : X.N[i]? = some y := by rfl) (hv : Vis X.env.scope y := by first | exact Or.inl rfl | exact Or.inr (Or.inl rfl) | exact Or.inr (Or.inr rfl)) (hd : (y == ("__debug__" : Str)) = false := by decide) (hcd : (y == ("__classdict__" : Str)) = false := by decide)
    (hdb : (x == ("__debug__" : Str)) = false := by decide) (he : starEach (.Name y pos' :: es) X.env = (false, eval (.Name y pos') X.env) :: starEach es X.env := by rfl) (hpl : (backTo pos (starEach es X.env)).any (·.1) = false := by rfl) : DF X W (.Call (.Name x p) (.Name y pos' :: es) [] pos) (eCallO i n F Fa) :=
  pe_imp (pe_callS (E := fun σ => L2.WE (WT X.mg W) σ) G hr hg hm hk hb (passAt tk) (pa_own i ha hN hv hd hcd he) hdb he hpl) fun σ H Q h => rd_callO (fr := true) (P0 := fun H0 H' d v => ∃ a, v = V.ref a ∧ H0 a = none ∧ ROwn X.K H' d a) (fun H0 H1 H' d v dm ⟨a, e1, e2, e3⟩ => ⟨a, e1, free_back dm e2, e3⟩) h
end

/-! ### raise -/
def sErr (c : Str) : DenS := fun _ => .err c
def sStk : DenS := fun _ => .stk
section
variable {X : Cx} {W : WD} {fr : Bool} {C : Addr} {bmB : List Value} {B newId initId : String} {x m : Str} {j : Nat} {p p2 pos pos' : Pos} {st : Stmt}
theorem ds_raise (hc : X.calm = true) (tk : Takes X (WT X.mg W)) (F : ExcBaseFacts B newId initId bmB) (q : PySem.W.excIn X.K C bmB newId = true) (gC : X.mg x = some (.ref C)) (kC : PySem.W.keepIn X.K (.ref C) = true) (r : Raises X (.ref C)) (hg : Gl X x)
    (hdb : (x == ("__debug__" : Str)) = false := by decide) : DS X W fr (.Raise (some (.Call (.Name x p) [.Constant (.str m) j p2] [] pos)) none pos') (sErr x) :=
  ps_imp (ps_raise hc tk (pmk_own F q gC kC r hg hdb)) fun D σ H ⟨io, env, rr, h⟩ => ⟨x, C, rfl, rfl, gC, h env σ H (Ev.refl _ _ _)⟩
/-- a statement that is never come to -/
theorem ds_never : DS X W fr st sStk := ps_imp ps_never fun D σ H ⟨io, env, rr, h⟩ => h
end
end DL

/-! ## DLh -/
/-! DLh: own things are changed: append, x[i] = e, x[i] op= e, x op= e; several targets. -/
namespace DL
open PySem PySem.Spec PyProof.Rows L2

section
variable {K : PySem.W.Frag} {io : Option Addr} {env : En} {σ : L2.St} {H : Hp} {i : Nat} {d d' : D} {a : Addr} {u' : HO}
theorem Rel.updO (r : Rel K io env σ H) (hi : env[i]? = some (.own d)) (ha : σ[i]? = some (some (.ref a))) (fl : d'.fl = true) (ho : ∀ H', FExt H H' → HOr K H' d' u') :
    Rel K io (env.set i (.own d')) σ (upd H a u') ∧ EvE env σ H (env.set i (.own d')) (upd H a u') := by
  have hl := lt_of_get hi
  obtain ⟨a0, s0, ⟨u, hu, hou⟩, _⟩ := r.own i d hi
  rw [ha] at s0; cases s0
  have fx : FExt H (upd H a u') := fun b o h f => by
    rw [upd_ne (fun z => by subst z; rw [hu] at h; cases h; exact hou.notFrm f)]; exact h
  have shp : Shp env (env.set i (.own d')) := by
    refine ⟨List.length_set, fun j => ⟨fun y g => ?_, fun g => ?_⟩⟩
    · rw [set_get hl]
      by_cases e : i = j
      · exact ⟨d', by rw [if_pos e]⟩
      · exact ⟨y, by rw [if_neg e]; exact g⟩
    · rw [set_get hl, if_neg (fun e => by subst e; exact g d hi)]
  refine ⟨⟨by rw [List.length_set]; exact r.len, fun j y g => ?_, fun j y g => ?_, fun j k y y' b g1 g2 => ?_, fun b g => ?_⟩, ⟨shp, fun b o h no => ?_, fun b o h => ?_⟩⟩
  · rw [set_get hl] at g
    by_cases e : i = j
    · rw [if_pos e] at g; cases g
    · rw [if_neg e] at g
      obtain ⟨w, g1, g2⟩ := r.val j y g
      exact ⟨w, g1, Rp.ext fx _ _ g2⟩
  · rw [set_get hl] at g
    by_cases e : i = j
    · rw [if_pos e] at g
      cases g
      subst e
      exact ⟨a, ha, ⟨u', upd_same, ho _ fx⟩, fl⟩
    · rw [if_neg e] at g
      obtain ⟨b, g1, ⟨w, g2, g3⟩, g4⟩ := r.own j y g
      exact ⟨b, g1, ⟨w, by rw [upd_ne (fun z => e (r.sep i j d y b hi g (by rw [z]; exact ha) g1))]; exact g2, g3.ext fx⟩, g4⟩
  · obtain ⟨y0, q1⟩ := shp.back g1
    obtain ⟨y1, q2⟩ := shp.back g2
    exact r.sep j k y0 y1 b q1 q2
  · obtain ⟨g1, y, g2⟩ := r.io b g
    exact ⟨g1, (shp.2 0).1 y g2⟩
  · rw [upd_ne (fun z => by subst z; exact no ⟨i, d, hi, ha⟩)]; exact h
  · by_cases z : b = a
    · exact ⟨u', by rw [z]; exact upd_same⟩
    · exact ⟨o, by rw [upd_ne z]; exact h⟩
end
theorem flatL_append : ∀ (xs ys : List D), flatL (xs ++ ys) = (flatL xs && flatL ys)
  | [], ys => by simp [flatL]
  | x :: xs, ys => by
    show (x.flat && flatL (xs ++ ys)) = ((x.flat && flatL xs) && flatL ys)
    rw [flatL_append xs ys, Bool.and_assoc]
theorem flatL_set : ∀ (xs : List D) (i : Nat) (y : D), flatL xs = true → y.flat = true → flatL (xs.set i y) = true
  | [], _, _, h, _ => h
  | x :: xs, 0, y, h, hy => by
    simp only [flatL, Bool.and_eq_true] at h
    simp only [List.set, flatL, Bool.and_eq_true]
    exact ⟨hy, h.2⟩
  | x :: xs, i + 1, y, h, hy => by
    simp only [flatL, Bool.and_eq_true] at h
    simp only [List.set, flatL, Bool.and_eq_true]
    exact ⟨h.1, flatL_set xs i y h.2 hy⟩

/-! ### append -/
/-- the own list at slot i, changed -/
def chL (i : Nat) (g : List D → Option (List D)) (env : En) : Option En := match env[i]? with
  | some (.own (.lst ds)) => (g ds).map fun es => env.set i (.own (.lst es))
  | _ => none
def isOwn (env : En) (i : Nat) : Bool := match env[i]? with
  | some (.own (.lst _)) => true
  | _ => false
def sApp (i : Nat) (f : Den) : DenS := fun env => if isOwn env i then (f env).bind fun x => (R.of (chL i (fun ds => if decide (ds.length < big) then some (ds ++ [x.1]) else none) x.2)).bind fun e => .ok (.nx, e) else .stk
theorem isOwn_get {env : En} {i : Nat} (h : isOwn env i = true) : ∃ ds, env[i]? = some (.own (.lst ds)) := by
  unfold isOwn at h
  split at h
  · rename_i ds q; exact ⟨ds, q⟩
  · cases h
theorem chL_some {i : Nat} {g : List D → Option (List D)} {env e : En} (h : chL i g env = some e) : ∃ ds es, env[i]? = some (.own (.lst ds)) ∧ g ds = some es ∧ e = env.set i (.own (.lst es)) := by
  unfold chL at h
  split at h
  · rename_i ds q
    cases z : g ds with
    | none => rw [z] at h; cases h
    | some es => rw [z] at h; cases h; exact ⟨ds, es, q, z, rfl⟩
  · cases h
section
variable {X : Cx} {W : WD} {fr : Bool} {e ei : Expr} {f fi : Den} {x : Str} {i : Nat} {pos pos' p1 p2 : Pos}
theorem own_lst {K : PySem.W.Frag} {io : Option Addr} {env : En} {σ : L2.St} {H : Hp} {ds : List D} (r : Rel K io env σ H) (h : env[i]? = some (.own (.lst ds))) : ∃ a vs, σ[i]? = some (some (.ref a)) ∧ H a = some (.lst vs) ∧ RpL K H ds vs ∧ (D.lst ds).fl = true := by
  obtain ⟨a, s1, ⟨u, h1, h2⟩, fl⟩ := r.own i _ h
  cases u with
  | lst vs => exact ⟨a, vs, s1, h1, h2, fl⟩
  | _ => exact (show False from h2).elim
theorem ds_append (i : Nat) {pos : Pos} (h : PE X e (tBM X.K "list" rAppend (tVar i) (tCons (RdE X.K W f) tNil))) (hs : swapsWith e none pos.line X.env = pure false := by rfl) : DS X W fr (.Expr e pos) (sApp i f) := by
  refine ps_imp (ps_expr h hs) fun D σ H q => ?_
  obtain ⟨io, env, r, q⟩ := q
  unfold sApp at q
  by_cases hb : isOwn env i = true
  · rw [if_pos hb] at q
    obtain ⟨ds0, h0⟩ := isOwn_get hb
    obtain ⟨a, vs0, s1, h1, h2, fl0⟩ := own_lst r h0
    refine ⟨.ref a, s1, .inl ⟨rfl, _, SqL.of h1⟩, io, env, r, WpS.bindE q fun p v H' ev r' p' h' => ?_⟩
    cases zz : chL i (fun ds => if decide (ds.length < big) then some (ds ++ [p.1]) else none) p.2 with
    | none => rw [zz] at h'; exact (show False from h').elim
    | some e =>
      rw [zz] at h'
      obtain ⟨ds, es, g1, g2, rfl⟩ := chL_some zz
      split at g2
      · rename_i hc
        simp only [decide_eq_true_eq] at hc
        cases g2
        obtain ⟨a', vs, s2, h3, h4, fl⟩ := own_lst r' g1
        rw [s1] at s2; cases s2
        obtain ⟨r2, ev2⟩ := r'.updO (d' := .lst (ds ++ [p.1])) (u' := .lst (vs ++ [v])) g1 s1 rfl (fun H' fx => RpL.append (RpL.ext fx _ _ h4) (RpL.cons (Rp.ext fx _ _ p') RpL.nil))
        exact ⟨a, vs, v, rfl, rfl, h3, big_lt (by rw [h4.length]; exact hc), h' σ _ ev2.ev r2⟩
      · cases g2
  · rw [if_neg hb] at q; exact (show False from q).elim

/-! ### x[i] = e -/
def sPut (i : Nat) (fi fv : Den) : DenS := fun env => (fv env).bind fun x => if isOwn x.2 i then (fi x.2).bind fun k => (match k.1 with
    | .int j => (R.of (chL i (fun ds => (ixN ds.length j).map fun m => ds.set m x.1) k.2)).bind fun e => .ok (.nx, e)
    | _ => .stk) else .stk
theorem ds_put (i : Nat) (hv : DE X W e f) (hi : DE X W ei fi) (hN : X.N[i]? = some x := by rfl) (hvis : Vis X.env.scope x := by first | exact Or.inl rfl | exact Or.inr (Or.inl rfl) | exact Or.inr (Or.inr rfl)) (hd : (x == ("__debug__" : Str)) = false := by decide)
    (hcd : (x == ("__classdict__" : Str)) = false := by decide)
    (ha : ∀ v, assign (.Subscript (.Name x p1) ei p2) X.env v = (do
      let ov ← holding [v] (eval (.Name x p1) X.env)
      let iv ← holding [v, ov] (eval ei X.env)
      standAt p2
      holding [v, ov, iv] (setItem ov iv v)
      release [v, ov, iv] []) := by intro _; rfl)
    (hs : swapsWithSole [.Subscript (.Name x p1) ei p2] e pos.line X.env = pure false := by rfl) (hw : swappedStores [.Subscript (.Name x p1) ei p2] e X.env = pure none := by rfl) (h1 : (assignEach [.Subscript (.Name x p1) ei p2] X.env).map (·.2) = [assign (.Subscript (.Name x p1) ei p2) X.env] := by rfl) :
    DS X W fr (.Assign [.Subscript (.Name x p1) ei p2] e pos) (sPut i fi f) := by
  refine ps_imp (ps_asg hv (pg_sub (pe_var (i := i) hN hvis hd hcd) hi set_list ha) hs hw h1) fun D σ H q => ?_
  obtain ⟨io, env, r, q⟩ := q
  refine ⟨io, env, r, WpS.bindE q fun p v H1 ev1 r1 p1' q1 => ?_⟩
  by_cases hb : isOwn p.2 i = true
  · rw [if_pos hb] at q1
    obtain ⟨ds0, h0⟩ := isOwn_get hb
    obtain ⟨a, vs0, s1, _, _, _⟩ := own_lst r1 h0
    refine ⟨.ref a, s1, io, p.2, r1, WpS.bindE q1 fun k w H2 ev2 r2 p2' q2 => ?_⟩
    obtain ⟨kd, ke⟩ := k
    cases kd with
    | int j =>
      dsimp only at q2
      cases zz : chL i (fun ds => (ixN ds.length j).map fun m => ds.set m p.1) ke with
      | none => rw [zz] at q2; exact (show False from q2).elim
      | some e =>
        rw [zz] at q2
        obtain ⟨ds, es, g1, g2, rfl⟩ := chL_some zz
        cases z2 : ixN ds.length j with
        | none => rw [z2] at g2; cases g2
        | some m =>
          rw [z2] at g2
          cases g2
          obtain ⟨a', vs, s2, h3, h4, fl⟩ := own_lst r2 g1
          rw [s1] at s2; cases s2
          have pv : Rp X.K H2 p.1 v := Rp.ext (r1.fx ev2) _ _ p1'
          obtain ⟨r3, ev3⟩ := r2.updO (d' := .lst (ds.set m p.1)) (u' := .lst (vs.set m v)) g1 s1 rfl (fun H' fx => RpL.set (Rp.ext fx _ _ pv) m (RpL.ext fx _ _ h4))
          have p2'' : w = .int j := by simpa [Rp] using p2'
          exact ⟨a, vs, j, m, rfl, p2'', h3, by rw [h4.length]; exact z2, q2 σ _ ev3.ev r3⟩
    | _ => exact (show False from q2).elim
  · rw [if_neg hb] at q1; exact (show False from q1).elim

/-! ### x op= e, ints -/
def sAug (i : Nat) (g : Int → Int → Int) (f : Den) : DenS := fun env => match env[i]? with
  | some (.val (.int a)) => (f env).bind fun x => (match x.1 with
    | .int b => (R.of (putV i (.int (g a b)) x.2)).bind fun e => .ok (.nx, e)
    | _ => .stk)
  | _ => .stk
theorem ds_aug (i : Nat) {op : Operator} {g : Int → Int → Int} (hN : X.N.Nodup) (h : DE X W e f) (ho : PIp X op (ipI g)) (hi : X.N[i]? = some x := by rfl) (hx : Loc X.env.scope x := by first | exact Or.inl rfl | exact Or.inr rfl) (hf : X.fn x = true ∨ X.env.scope.names.lookup x = some .local := by first | exact .inl rfl | exact .inr rfl) :
    DS X W fr (.AugAssign (.Name x pos') op e pos) (sAug i g f) := by
  refine ps_imp (ps_aug hN hi hx h ho hf) fun D σ H q => ?_
  obtain ⟨io, env, r, q⟩ := q
  unfold sAug at q
  split at q
  · rename_i a ha
    obtain ⟨v, s1, rv⟩ := r.val i _ ha
    refine ⟨v, s1, io, env, r, WpS.bindE q fun p w H1 ev1 r1 p1' q1 => ?_⟩
    obtain ⟨pd, pe⟩ := p
    cases pd with
    | int b =>
      dsimp only at q1
      cases zz : putV i (.int (g a b)) pe with
      | none => rw [zz] at q1; exact (show False from q1).elim
      | some e =>
        rw [zz] at q1
        obtain ⟨hn, rfl⟩ := putV_some zz
        obtain ⟨z1, z2⟩ := r1.setV (v := .int (g a b)) (d := .int (g a b)) hn (by simp [Rp])
        exact ⟨a, b, by simpa [Rp] using rv, by simpa [Rp] using p1', q1 _ H1 z2 z1⟩
    | _ => exact (show False from q1).elim
  · exact (show False from q).elim

/-! ### x[i] op= e, ints in an own list -/
theorem pget_list : PGet X (rIxL X.K) := by
  intro pins s σ H o k ov iv Q I ro rk h
  obtain ⟨p, xs, j, z, rfl, rfl, hq, he, q⟩ := h
  obtain rfl : ov = .ref p := ro
  obtain ⟨t, rfl⟩ := rk
  obtain ⟨its, r, pl, hz⟩ := I.list hq
  obtain ⟨m, h1, h2, h3, h4, h5⟩ := atI_get he
  obtain ⟨w, ew, rw'⟩ := r.get h2
  have len := r.length
  have lim := line63
  by_cases neg : 0 ≤ j
  · have e1 : j.toNat = m := by
      rw [seqIndex_of neg h5] at h1
      exact Option.some.inj h1
    exact wpAny_getItem_list pl.isList neg (by omega) (by rw [e1]; simpa using ew) ⟨z, H, I, rw', q⟩
  · have e1 : (j + (its.toArray.size : Int)).toNat = m := by
      rw [seqIndex_neg (by omega) h4] at h1
      rw [List.size_toArray, ← len]
      exact Option.some.inj h1
    exact wpAny_getItem_list_neg pl.isList (by omega) (by rw [List.size_toArray] <;> omega) (by omega) (by rw [e1]; simpa using ew) ⟨z, H, I, rw', q⟩
def sAugL (i : Nat) (g : Int → Int → Int) (fi f : Den) : DenS := fun env => if isOwn env i then (fi env).bind fun k => (match k.1, k.2[i]? with
    | .int j, some (.own (.lst ds)) => (match atI ds j with
      | some (.int a) => (f k.2).bind fun x => (match x.1 with
        | .int b => (R.of (chL i (fun es => (ixN es.length j).map fun m => es.set m (.int (g a b))) x.2)).bind fun e => .ok (.nx, e)
        | _ => .stk)
      | _ => .stk)
    | _, _ => .stk) else .stk
theorem atI_rp {K : PySem.W.Frag} {H : Hp} {ds : List D} {vs : List V} {j : Int} {d : D} (h : RpL K H ds vs) (e : atI ds j = some d) : ∃ v, atI vs j = some v ∧ Rp K H d v := by
  unfold atI at e ⊢
  rw [h.length]
  cases z : ixN ds.length j with
  | none => rw [z] at e; cases e
  | some m =>
    rw [z] at e
    obtain ⟨v, g1, g2⟩ := h.get (show ds[m]? = some d from e)
    exact ⟨v, g1, g2⟩
theorem ds_augL (i : Nat) {op : Operator} {g : Int → Int → Int} (hk : DE X W ei fi) (h : DE X W e f) (ho : PIp X op (ipI g)) (hN : X.N[i]? = some x := by rfl) (hvis : Vis X.env.scope x := by first | exact Or.inl rfl | exact Or.inr (Or.inl rfl) | exact Or.inr (Or.inr rfl)) (hd : (x == ("__debug__" : Str)) = false := by decide)
    (hcd : (x == ("__classdict__" : Str)) = false := by decide) (ha : ∀ ov iv new, augStore ei ov iv new = (do holding [new, ov, iv] (setItem ov iv new); release [new, ov, iv] []; pure .next) := by intros; rfl) :
    DS X W fr (.AugAssign (.Subscript (.Name x p1) ei p2) op e pos) (sAugL i g fi f) := by
  refine ps_imp (ps_augS (pe_var (i := i) hN hvis hd hcd) hk pget_list h ho set_list ha) fun D σ H q => ?_
  obtain ⟨io, env, r, q⟩ := q
  unfold sAugL at q
  by_cases hb : isOwn env i = true
  · rw [if_pos hb] at q
    obtain ⟨ds0, h0⟩ := isOwn_get hb
    obtain ⟨a, vs0, s1, _, _, _⟩ := own_lst r h0
    refine ⟨.ref a, s1, io, env, r, WpS.bindE q fun k w H1 ev1 r1 p1' q1 => ?_⟩
    obtain ⟨kd, ke⟩ := k
    dsimp only at q1 ev1 r1 p1'
    split at q1
    · rename_i j ds hke
      split at q1
      · rename_i z hz
        obtain ⟨a', vs, s2, h3, h4, fl⟩ := own_lst r1 hke
        rw [s1] at s2; cases s2
        obtain ⟨v, g1, g2⟩ := atI_rp h4 hz
        refine ⟨a, vs, j, v, rfl, by simpa [Rp] using p1', SqL.of h3, g1, io, ke, r1, WpS.bindE q1 fun p w2 H2 ev2 r2 p2' q2 => ?_⟩
        obtain ⟨pd, pe⟩ := p
        cases pd with
        | int b =>
          dsimp only at q2
          cases zz : chL i (fun es => (ixN es.length j).map fun m => es.set m (.int (g z b))) pe with
          | none => rw [zz] at q2; exact (show False from q2).elim
          | some e =>
            rw [zz] at q2
            obtain ⟨ds2, es, k1, k2, rfl⟩ := chL_some zz
            cases z2 : ixN ds2.length j with
            | none => rw [z2] at k2; cases k2
            | some m =>
              rw [z2] at k2
              cases k2
              obtain ⟨a2, vs2, s3, h5, h6, fl2⟩ := own_lst r2 k1
              rw [s1] at s3; cases s3
              obtain ⟨r3, ev3⟩ := r2.updO (d' := .lst (ds2.set m (.int (g z b)))) (u' := .lst (vs2.set m (.int (g z b)))) k1 s1 rfl (fun H' fx => RpL.set (by simp [Rp]) m (RpL.ext fx _ _ h6))
              exact ⟨z, b, by simpa [Rp] using g2, by simpa [Rp] using p2', a, vs2, j, m, rfl, by simpa [Rp] using p1', h5, by rw [h6.length]; exact z2, q2 σ _ ev3.ev r3⟩
        | _ => exact (show False from q2).elim
      · exact (show False from q1).elim
    · exact (show False from q1).elim
  · rw [if_neg hb] at q; exact (show False from q).elim

/-! ### target = e, by a target -/
def sTgt (p : Pt) (f : Den) : DenS := fun env => (f env).bind fun x => (R.of (p.asg x.1 x.2)).bind fun e => .ok (.nx, e)
theorem ds_tgt {tg : Expr} {p : Pt} (h : DE X W e f) (hg : DG X tg p) (hs : swapsWithSole [tg] e pos.line X.env = pure false := by rfl) (hw : swappedStores [tg] e X.env = pure none := by rfl) (h1 : (assignEach [tg] X.env).map (·.2) = [assign tg X.env] := by rfl) : DS X W fr (.Assign [tg] e pos) (sTgt p f) := by
  refine ps_imp (ps_asg h hg hs hw h1) fun D σ H q => ?_
  obtain ⟨io, env, r, q⟩ := q
  refine ⟨io, env, r, WpS.bindE q fun x v H1 ev1 r1 p1' q1 => ?_⟩
  cases zz : p.asg x.1 x.2 with
  | none => rw [zz] at q1; exact (show False from q1).elim
  | some e =>
    rw [zz] at q1
    exact ⟨io, x.2, x.1, e, r1, p1', zz, fun σ' r2 ev2 _ => q1 σ' H1 ev2 r2⟩
/-- a, b = e1, e2 -/
def sPar2 (i j : Nat) (F : DenL) : DenS := fun env => (F env).bind fun x => match x.1 with
  | [d, e] => (R.of ((putV i d x.2).bind fun e1 => putV j e e1)).bind fun e2 => .ok (.nx, e2)
  | _ => .stk
theorem ds_par2 (i j : Nat) {y : Str} {a b : Expr} {F : DenL} {px py pt : Pos} {kt k2 pt2} (hN : X.N.Nodup) (ha : DA X W [a, b] F) (hc : X.calm = true := by rfl) (hi : X.N[i]? = some x := by rfl) (hj : X.N[j]? = some y := by rfl) (hij : i ≠ j := by decide)
    (hx : X.env.scope.names.lookup x = some .local := by rfl) (hy : X.env.scope.names.lookup y = some .local := by rfl)
    (hw : swappedStores [.Tuple [.Name x px, .Name y py] kt pt] (.Tuple [a, b] k2 pt2) X.env = pure (some [x, y]) := by rfl)
    (hs : swapsWithSole [.Tuple [.Name x px, .Name y py] kt pt] (.Tuple [a, b] k2 pt2) pos.line X.env = pure false := by rfl) :
    DS X W fr (.Assign [.Tuple [.Name x px, .Name y py] kt pt] (.Tuple [a, b] k2 pt2) pos) (sPar2 i j F) := by
  refine ps_imp (ps_par hc hN hi hj hij hx hy ha hw hs) fun D σ H q => ?_
  obtain ⟨io, env, r, q⟩ := q
  refine ⟨io, env, r, WpS.bindE q fun p vs H1 ev1 r1 p1' q1 => ?_⟩
  obtain ⟨pd, pe⟩ := p
  dsimp only at q1 r1 p1'
  split at q1
  · rename_i d e
    simp only [RpL] at p1'
    obtain ⟨v, rest, rfl, rv, w, rest', rfl, rw', rfl⟩ := p1'
    cases zz : (putV i d pe).bind fun e1 => putV j e e1 with
    | none => rw [zz] at q1; exact (show False from q1).elim
    | some e2 =>
      rw [zz] at q1
      cases z1 : putV i d pe with
      | none => rw [z1] at zz; cases zz
      | some e1 =>
        rw [z1] at zz
        obtain ⟨n1, rfl⟩ := putV_some z1
        obtain ⟨n2, rfl⟩ := putV_some (show putV j e _ = some e2 from zz)
        obtain ⟨a1, a2⟩ := r1.setV n1 rv
        obtain ⟨b1, b2⟩ := a1.setV n2 rw'
        exact ⟨v, w, rfl, q1 _ H1 (a2.trans b2) b1⟩
  · exact (show False from q1).elim
end

/-! ### an own list's item; an own thing that is frozen behind a statement -/
def eIxO (i : Nat) (fi : Den) : Den := fun env => if isOwn env i then (fi env).bind fun k => (match k.1, k.2[i]? with
    | .int j, some (.own (.lst ds)) => (R.of (atI ds j)).bind fun d => .ok (d, k.2)
    | _, _ => .stk) else .stk
def sFz (i : Nat) : DenS := fun env => match env[i]? with
  | some (.own d) => .ok (.nx, env.set i (.val d))
  | _ => .ok (.nx, env)
section
variable {X : Cx} {W : WD} {fr : Bool} {e ei : Expr} {f fi : Den} {x : Str} {i : Nat} {pos p1 : Pos} {st : Stmt} {g : DenS}
theorem de_ixO (i : Nat) (hi : DE X W ei fi) (hN : X.N[i]? = some x := by rfl) (hvis : Vis X.env.scope x := by first | exact Or.inl rfl | exact Or.inr (Or.inl rfl) | exact Or.inr (Or.inr rfl)) (hd : (x == ("__debug__" : Str)) = false := by decide)
    (hcd : (x == ("__classdict__" : Str)) = false := by decide) (hs : PlainIx ei := by exact fun _ _ => rfl) : DE X W (.Subscript (.Name x p1) ei pos) (eIxO i fi) := by
  refine pe_imp (pe_ix ix_list (pe_var (i := i) hN hvis hd hcd) hi hs) fun σ H Q q => ?_
  obtain ⟨io, env, r, q⟩ := q
  unfold eIxO at q
  by_cases hb : isOwn env i = true
  · rw [if_pos hb] at q
    obtain ⟨ds0, h0⟩ := isOwn_get hb
    obtain ⟨a, vs0, s1, _, _, _⟩ := own_lst r h0
    refine ⟨.ref a, s1, io, env, r, Wp.bind q fun k w H2 q0 ev2 r2 p2' q2 => ?_⟩
    obtain ⟨kd, ke⟩ := k
    dsimp only at q2 ev2 r2 p2'
    split at q2
    · rename_i j ds hke
      cases z : atI ds j with
      | none => rw [z] at q2; exact (show False from q2).elim
      | some d =>
        rw [z] at q2
        obtain ⟨a', vs, s2, h3, h4, fl⟩ := own_lst r2 hke
        rw [s1] at s2; cases s2
        obtain ⟨v, g1, g2⟩ := atI_rp h4 z
        exact ⟨a, vs, j, v, rfl, by simpa [Rp] using p2', SqL.of h3, g1, q2 v H2 (EvE.refl _ _ _) r2 g2⟩
    · exact (show False from q2).elim
  · rw [if_neg hb] at q; exact (show False from q).elim
theorem lend_for {K : PySem.W.Frag} {io : Option Addr} {env : En} {σ : L2.St} {H : Hp} {d : D} {a : Addr} {u : HO} {od : Obj} (h0 : i ≠ 0) (r : Rel K io env σ H) (hi : env[i]? = some (.own d)) (ha : σ[i]? = some (some (.ref a))) (hu : H a = some u) (ho : HOr K H d u) :
    Rel K io (env.set i (.val d)) σ (upd H a (.frz od u)) ∧ Ev env σ H (env.set i (.val d)) σ (upd H a (.frz od u)) := by
  have r1 := lend (od := od) r hi ha hu ho
  refine ⟨⟨r1.len, r1.val, r1.own, r1.sep, fun b h => ?_⟩, ⟨fun b o h no => ⟨?_, fun z => no (lend_sub hi z)⟩, fun b o h => ?_⟩⟩
  · obtain ⟨q1, y, q2⟩ := r.io b h
    exact ⟨q1, y, by rw [set_get (lt_of_get hi), if_neg h0]; exact q2⟩
  · rw [upd_ne (fun z => by subst z; exact no ⟨i, d, hi, ha⟩)]; exact h
  · by_cases z : b = a
    · exact ⟨_, by rw [z]; exact upd_same⟩
    · exact ⟨o, by rw [upd_ne z]; exact h⟩
theorem ds_fz (i : Nat) (h : DS X W fr st g) (h0 : i ≠ 0 := by decide) : DS X W fr st (sSeq g (sFz i)) := by
  refine ⟨fun pins s σ H D I q => ?_⟩
  obtain ⟨io, env, r, q⟩ := q
  let D' : Ends := { D with nx := fun σ' H' => D.nx σ' H' ∨ ∃ l u, H' l = some u ∧ Mut (some u) ∧ ∀ od, D.nx σ' (upd H' l (.frz od u)) }
  refine thn (h.run pins s σ H D' I ⟨io, env, r, ?_⟩) fun fl s1 hs => ?_
  · have q := WpS.seq q
    cases z : g env with
    | stk => rw [z] at q; exact q
    | err c => rw [z] at q; exact q
    | ok p =>
      rw [z] at q
      obtain ⟨fl, env1⟩ := p
      cases fl with
      | brk => exact q
      | cnt => exact q
      | ret d => exact q
      | nx =>
        intro σ1 H1 ev1 r1
        obtain ⟨io2, env2, r2, q2⟩ := q σ1 H1 ev1 r1
        unfold sFz at q2
        split at q2
        · rename_i d hd
          obtain ⟨a, ha, ⟨u, hu, ho⟩, fl⟩ := r2.own i d hd
          refine .inr ⟨a, u, hu, ho.mut, fun od => ?_⟩
          obtain ⟨r3, ev3⟩ := lend_for (od := od) h0 r2 hd ha hu ho
          exact q2 σ1 _ ev3 r3
        · exact .inl (q2 σ1 H1 (Ev.refl _ _ _) r2)
  · cases fl with
    | next =>
      obtain ⟨σ', H', I2, q2⟩ := hs
      rcases q2 with q2 | ⟨l, u, eu, mu, q2⟩
      · exact ⟨σ', H', I2, q2⟩
      · obtain ⟨od, I3⟩ := I2.lock eu mu
        exact ⟨σ', _, I3, q2 od⟩
    | brk => exact hs
    | cont => exact hs
    | ret v => exact hs
end
end DL

/-! ## DLp -/
/-! DLp: the built-in operations as functions on data. -/
namespace DL
open PySem PySem.Spec PyProof.Rows L2

/-! ### a value or a new thing -/
abbrev MaB (K : PySem.W.Frag) (H H' : Hp) (d : D) (v : V) : Prop := Rp K H' d v ∨ ∃ a, v = V.ref a ∧ H a = none ∧ ROwn K H' d a
def PrM2 (K : PySem.W.Frag) (r : R2) (p : D → D → Option D) : Prop :=
  ∀ (H : Hp) (x y : V) (a b d : D), Rp K H a x → Rp K H b y → p a b = some d → ∀ Q : VK, (∀ v H', Ext H H' → MaB K H H' d v → Q v H') → r x y H Q
def PrM (K : PySem.W.Frag) (r : List V → Hp → VK → Prop) (p : List D → Option D) : Prop :=
  ∀ (H : Hp) (vs : List V) (ds : List D) (d : D), RpL K H ds vs → p ds = some d → ∀ Q : VK, (∀ v H', Ext H H' → MaB K H H' d v → Q v H') → r vs H Q
def RdM (K : PySem.W.Frag) (W : WD) (f : Den) : TE := fun σ H Q => ∃ io env, Rel K io env σ H ∧ Wp K W io env σ H (f env) (fun H' d v => MaB K H H' d v) Q
abbrev DM (X : Cx) (W : WD) (e : Expr) (f : Den) : Prop := PE X e (RdM X.K W f)
theorem MaB.back {K : PySem.W.Frag} {H0 H1 H' : Hp} {d : D} {v : V} (dm : ∀ b o, H0 b = some o → ∃ o', H1 b = some o') (h : MaB K H1 H' d v) : MaB K H0 H' d v := by
  rcases h with h | ⟨a, e1, e2, e3⟩
  · exact .inl h
  · exact .inr ⟨a, e1, free_back dm e2, e3⟩
theorem rd_opM {K : PySem.W.Frag} {W : WD} {σ : L2.St} {H : Hp} {fa fb : Den} {r : R2} {p : D → D → Option D} (hp : PrM2 K r p) {Q : VK} (h : RdM K W (e2 p fa fb) σ H Q) : tOp r (RdE K W fa) (RdE K W fb) σ H Q := by
  obtain ⟨io, env, hr, h⟩ := h
  refine ⟨io, env, hr, Wp.bind h fun x v H1 _ e1 r1 p1 h1 => ⟨io, x.2, r1, Wp.bind h1 fun y w H2 _ e2 r2 p2 h2 => ?_⟩⟩
  cases q : p x.1 y.1 with
  | none => rw [q] at h2; exact (show False from h2).elim
  | some d =>
    rw [q] at h2
    exact hp H2 v w x.1 y.1 d (Rp.ext (r1.fx e2) _ _ p1) p2 q Q fun z H3 e3 rz => h2 z H3 (EvE.ext e3) (r2.ext e3) (rz.back (e1.trans e2).dom)
theorem rd_cbM {K : PySem.W.Frag} {W : WD} {σ : L2.St} {H : Hp} {F : DenL} {r : List V → Hp → VK → Prop} {p : List D → Option D} (hp : PrM K r p) {Q : VK} (h : RdM K W (eN p F) σ H Q) : tCB r (RdA K W F) σ H Q := by
  obtain ⟨io, env, hr, h⟩ := h
  refine ⟨io, env, hr, Wp.bind h fun x vs H1 _ e1 r1 p1 h1 => ?_⟩
  cases q : p x.1 with
  | none => rw [q] at h1; exact (show False from h1).elim
  | some d =>
    rw [q] at h1
    exact hp H1 vs x.1 d p1 q Q fun z H3 e3 rz => h1 z H3 (EvE.ext e3) (r1.ext e3) (rz.back e1.dom)
/-- a new thing is frozen, a value stays -/
theorem DM.fz {X : Cx} {W : WD} {e : Expr} {f : Den} (h : DM X W e f) : DE X W e f := by
  refine ⟨fun pins s σ H Q I hq => ?_⟩
  obtain ⟨io, env, hr, hq⟩ := hq
  refine thn (h.run pins s σ H (fun v H1 => Q v H1 ∨ ∃ a u, v = .ref a ∧ H1 a = some u ∧ Mut (some u) ∧ ∀ od, Q v (upd H1 a (.frz od u))) I ⟨io, env, hr, ?_⟩) fun v s1 ⟨x, H1, I1, rx, q⟩ => ?_
  · cases z : f env with
    | stk => rw [z] at hq; exact hq
    | err c => rw [z] at hq; exact hq
    | ok p =>
      rw [z] at hq
      intro v H1 e1 r1 p1
      rcases p1 with p1 | ⟨a, rfl, na, u, hu, ho⟩
      · exact .inl (hq v H1 e1 r1 p1)
      · have no : ¬ OwnA p.2 σ a := fun y => by
          obtain ⟨i, d, y1, y2⟩ := e1.shp.ownA.mp y
          obtain ⟨b, y3, ⟨w, y4, _⟩, _⟩ := hr.own i d y1
          rw [y2] at y3; cases y3
          rw [na] at y4; cases y4
        have nf : ∀ o, H1 a = some o → ¬ Frm o := fun o ho' => by
          rw [hu] at ho'; cases ho'; exact ho.notFrm
        refine .inr ⟨a, u, rfl, hu, ho.mut, fun od => ?_⟩
        have r2 : Rel X.K io p.2 σ (upd H1 a (.frz od u)) := r1.upd_new nf no
        have fx : FExt H1 (upd H1 a (.frz od u)) := fun b o h f => by
          rw [upd_ne (fun z => by subst z; exact nf o h f)]; exact h
        refine hq (.ref a) _ ⟨e1.shp, fun b o hb hn => ?_, fun b o hb => ?_⟩ r2 (Rp.of_frz (ho.ext fx) upd_same)
        · rw [upd_ne (ne_of_none hb na)]; exact e1.kp b o hb hn
        · rw [upd_ne (ne_of_none hb na)]; exact e1.dom b o hb
  · rcases q with q | ⟨a, u, ex, eu, mu, q⟩
    · exact ⟨x, H1, I1, rx, q⟩
    · obtain ⟨od, I2⟩ := I1.lock eu mu
      exact ⟨x, _, I2, rx, q od⟩
/-- two rules, one after the other -/
def orD (p q : D → D → Option D) : D → D → Option D := fun a b => (p a b).or (q a b)
theorem PrR2.m {K : PySem.W.Frag} {r : R2} {p : D → D → Option D} (h : PrR2 K r p) : PrM2 K r p := fun H x y a b d ra rb e Q k => h H x y a b d ra rb e Q fun v H' x1 rv => k v H' x1 (.inl rv)
theorem PrF2.m {K : PySem.W.Frag} {r : R2} {p : D → D → Option D} (h : PrF2 K r p) : PrM2 K r p := fun H x y a b d ra rb e Q k => h H x y a b d ra rb e Q fun l H' x1 nl ow => k _ H' x1 (.inr ⟨l, rfl, nl, ow⟩)
theorem PrM2.or {K : PySem.W.Frag} {r r' : R2} {p q : D → D → Option D} (h : PrM2 K r p) (h' : PrM2 K r' q) : PrM2 K (fun x y H Q => r x y H Q ∨ r' x y H Q) (orD p q) := by
  intro H x y a b d ra rb e Q k
  unfold orD at e
  cases z : p a b with
  | some d' => rw [z] at e; exact .inl (h H x y a b d ra rb (z.trans e) Q k)
  | none => rw [z] at e; exact .inr (h' H x y a b d ra rb e Q k)
theorem PrR2.or {K : PySem.W.Frag} {r r' : R2} {p q : D → D → Option D} (h : PrR2 K r p) (h' : PrR2 K r' q) : PrR2 K (fun x y H Q => r x y H Q ∨ r' x y H Q) (orD p q) := by
  intro H x y a b d ra rb e Q k
  unfold orD at e
  cases z : p a b with
  | some d' => rw [z] at e; exact .inl (h H x y a b d ra rb (z.trans e) Q k)
  | none => rw [z] at e; exact .inr (h' H x y a b d ra rb e Q k)
section
variable {X : Cx} {W : WD} {a b e : Expr} {es : List Expr} {fa fb : Den} {F : DenL} {pos : Pos}
theorem dm_bin {op : Operator} {r : R2} {p : D → D → Option D} (hp : PrM2 X.K r p) (ho : OpR X (binaryOp op) r) (ha : DE X W a fa) (hb : DE X W b fb) : DM X W (.BinOp a op b pos) (e2 p fa fb) :=
  pe_imp (pe_op ho ha hb) fun σ H Q h => rd_opM hp h
theorem dm_ct {x : Str} {T : String} {r : List V → Hp → VK → Prop} {p : List D → Option D} {q : Pos} (hp : PrM X.K r p) (hc : CallR X (.type T) r) (hg : Gl X x) (hm : X.mg x = none) (hv : bootBuiltins x = some (.type T)) (ha : DA X W (e :: es) F)
    (hn : x ≠ "__name__" := by decide) (hdb : (x == ("__debug__" : Str)) = false := by decide) (he : starEach (e :: es) X.env = (false, eval e X.env) :: starEach es X.env := by rfl) (hpl : (backTo pos (starEach es X.env)).any (·.1) = false := by rfl) :
    DM X W (.Call (.Name x q) (e :: es) [] pos) (eN p F) := pe_imp (pe_callTy hc hg hm hv ha hn hdb he hpl) fun σ H Q h => rd_cbM hp h
end

/-! ### ints -/
def i2 (g : Int → Int → D) : D → D → Option D
  | .int i, .int j => some (g i j)
  | _, _ => none
def i2c (C : Int → Int → Bool) (g : Int → Int → D) : D → D → Option D
  | .int i, .int j => if C i j then some (g i j) else none
  | _, _ => none
section
variable {K : PySem.W.Frag} {H : Hp}
theorem rp_int {i : Int} {v : V} (h : Rp K H (.int i) v) : v = .int i := by simpa [Rp] using h
theorem pr_i2 {g : Int → Int → Int} : PrR2 K (rI0 fun i j => .int (g i j)) (i2 fun i j => .int (g i j)) := by
  intro H x y a b d ra rb e Q k
  cases a <;> cases b <;> simp only [i2] at e <;> first
    | (cases e; exact ⟨_, _, rp_int ra, rp_int rb, k _ H (Ext.refl _) (by simp [Rp])⟩)
    | cases e
theorem pr_i2b {g : Int → Int → Bool} : PrR2 K (rI0 fun i j => .bl (g i j)) (i2 fun i j => .bl (g i j)) := by
  intro H x y a b d ra rb e Q k
  cases a <;> cases b <;> simp only [i2] at e <;> first
    | (cases e; exact ⟨_, _, rp_int ra, rp_int rb, k _ H (Ext.refl _) (by simp [Rp])⟩)
    | cases e
theorem pr_i2c {C : Int → Int → Prop} {B : Int → Int → Bool} {g : Int → Int → Int} (hB : ∀ i j, B i j = true → C i j) : PrR2 K (rI C fun i j => .int (g i j)) (i2c B fun i j => .int (g i j)) := by
  intro H x y a b d ra rb e Q k
  cases a <;> cases b <;> simp only [i2c] at e <;> first
    | (split at e
       · rename_i hc; cases e; exact ⟨_, _, rp_int ra, rp_int rb, hB _ _ hc, k _ H (Ext.refl _) (by simp [Rp])⟩
       · cases e)
    | cases e
end
def pAddI := i2 fun i j => D.int (i + j)
def pSubI := i2 fun i j => D.int (i - j)
/-- a bool among ints, ahead -/
def b2 (g : Int → Int → D) : D → D → Option D
  | .bl k, .int j => some (g (if k = true then 1 else 0) j)
  | _, _ => none
def pAddB := b2 fun i j => D.int (i + j)
def pSubB := b2 fun i j => D.int (i - j)
def pSub := orD pSubI pSubB
def mulB (i j : Int) : Bool := decide ((-(2 ^ 64) < i ∧ i < 2 ^ 64) ∨ (-(2 ^ 64) < j ∧ j < 2 ^ 64))
def pMulI := i2c mulB fun i j => D.int (i * j)
def divB (i j : Int) : Bool := decide (0 < j ∧ j < 1073741824)
def pDiv := i2c divB fun i j => D.int (i / j)
def pMod := i2c (fun _ j => decide (0 < j)) fun i j => D.int (i % j)
def powB (i j : Int) : Bool := decide (0 ≤ j ∧ j ≤ 1000000 ∧ i.natAbs < 2 ^ 64)
def pPow := i2c powB fun i j => D.int (i ^ j.toNat)
def pLtI := i2 fun i j => D.bl (decide (i < j))
def pLe := i2 fun i j => D.bl (decide (i ≤ j))
def pGt := i2 fun i j => D.bl (decide (j < i))
def pGe := i2 fun i j => D.bl (decide (j ≤ i))
def pNeg : D → Option D
  | .int i => some (.int (-i))
  | _ => none
section
variable {K : PySem.W.Frag}
theorem pr_addI : PrR2 K (rI0 fun i j => .int (i + j)) pAddI := pr_i2
def rB2 (g : Int → Int → Int) : R2 := fun x y H Q => ∃ (k : Bool) (i : Int), x = .bl k ∧ y = .int i ∧ Q (.int (g (if k = true then 1 else 0) i)) H
theorem pr_b2 {g : Int → Int → Int} : PrR2 K (rB2 g) (b2 fun i j => .int (g i j)) := by
  intro H x y a b d ra rb e Q k
  cases a <;> cases b <;> simp only [b2] at e <;> first
    | (cases e; exact ⟨_, _, by simpa [Rp] using ra, rp_int rb, k _ H (Ext.refl _) (by simp [Rp])⟩)
    | cases e
theorem op_addB {X : Cx} : OpR X (binaryOp .Add) (rB2 fun i j => i + j) := by
  intro pins s σ H x y v u Q I rx ry h
  obtain ⟨k, i, rfl, rfl, q⟩ := h
  cases rx
  obtain ⟨t, rfl⟩ := ry
  exact PySem.IntBool.add_bool_int ⟨.int _, H, I.tok _, ⟨_, rfl⟩, q⟩
theorem op_subB0 {X : Cx} : OpR X (binaryOp .Sub) (rB2 fun i j => i - j) := by
  intro pins s σ H x y v u Q I rx ry h
  obtain ⟨k, i, rfl, rfl, q⟩ := h
  cases rx
  obtain ⟨t, rfl⟩ := ry
  exact PySem.IntBool.sub_bool_int ⟨.int _, H, I.tok _, ⟨_, rfl⟩, q⟩
def rSubB : R2 := fun x y H Q => rI0 (fun i j => .int (i - j)) x y H Q ∨ rB2 (fun i j => i - j) x y H Q
theorem op_subB {X : Cx} : OpR X (binaryOp .Sub) rSubB := op_sub.or op_subB0
theorem pr_sub : PrR2 K rSubB pSub := PrR2.or (pr_i2 (g := fun i j => i - j)) (pr_b2 (g := fun i j => i - j))
theorem pr_mulI : PrR2 K (rI CMul fun i j => .int (i * j)) pMulI := pr_i2c fun i j h => of_decide_eq_true (p := (-(2 ^ 64) < i ∧ i < 2 ^ 64) ∨ (-(2 ^ 64) < j ∧ j < 2 ^ 64)) h
theorem pr_div : PrR2 K (rI CDiv fun i j => .int (i / j)) pDiv := pr_i2c fun i j h => of_decide_eq_true (p := 0 < j ∧ j < 1073741824) h
theorem pr_mod : PrR2 K (rI (fun _ j => 0 < j) fun i j => .int (i % j)) pMod := pr_i2c fun i j h => of_decide_eq_true h
theorem pr_pow : PrR2 K (rI CPow fun i j => .int (i ^ j.toNat)) pPow := pr_i2c fun i j h => of_decide_eq_true (p := 0 ≤ j ∧ j ≤ 1000000 ∧ i.natAbs < 2 ^ 64) h
theorem pr_ltI : PrR2 K (rI0 fun i j => .bl (decide (i < j))) pLtI := pr_i2b
theorem pr_le : PrR2 K (rI0 fun i j => .bl (decide (i ≤ j))) pLe := pr_i2b
theorem pr_gt : PrR2 K (rI0 fun i j => .bl (decide (j < i))) pGt := pr_i2b
theorem pr_ge : PrR2 K (rI0 fun i j => .bl (decide (j ≤ i))) pGe := pr_i2b
theorem pr_neg : PrR1 K (rU fun i => .int (-i)) pNeg := by
  intro H x a d ra e Q k
  cases a <;> simp only [pNeg] at e <;> first
    | (cases e; exact ⟨_, rp_int ra, k _ H (Ext.refl _) (by simp [Rp])⟩)
    | cases e
end

/-! ### ints of a list -/
def asI : List D → Option (List Int)
  | [] => some []
  | .int i :: ds => (asI ds).map (i :: ·)
  | _ :: _ => none
theorem asI_some : ∀ {ds : List D} {ns : List Int}, asI ds = some ns → ds = ns.map D.int
  | [], ns, h => by simp only [asI, Option.some.injEq] at h; subst h; rfl
  | .int i :: ds, ns, h => by
    simp only [asI] at h
    cases z : asI ds with
    | none => rw [z] at h; cases h
    | some ms => rw [z] at h; cases h; rw [List.map_cons, asI_some z]
  | .non :: _, _, h => by simp [asI] at h
  | .bl _ :: _, _, h => by simp [asI] at h
  | .str _ :: _, _, h => by simp [asI] at h
  | .tup _ :: _, _, h => by simp [asI] at h
  | .lst _ :: _, _, h => by simp [asI] at h
  | .dk _ :: _, _, h => by simp [asI] at h
  | .dt _ :: _, _, h => by simp [asI] at h
@[simp] theorem asI_map : ∀ (ns : List Int), asI (ns.map D.int) = some ns
  | [] => rfl
  | n :: ns => by simp [asI, asI_map ns]
def asB : List D → Option (List Bool)
  | [] => some []
  | .bl i :: ds => (asB ds).map (i :: ·)
  | _ :: _ => none
theorem asB_some : ∀ {ds : List D} {ns : List Bool}, asB ds = some ns → ds = ns.map D.bl
  | [], ns, h => by simp only [asB, Option.some.injEq] at h; subst h; rfl
  | .bl i :: ds, ns, h => by
    simp only [asB] at h
    cases z : asB ds with
    | none => rw [z] at h; cases h
    | some ms => rw [z] at h; cases h; rw [List.map_cons, asB_some z]
  | .non :: _, _, h => by simp [asB] at h
  | .int _ :: _, _, h => by simp [asB] at h
  | .str _ :: _, _, h => by simp [asB] at h
  | .tup _ :: _, _, h => by simp [asB] at h
  | .lst _ :: _, _, h => by simp [asB] at h
  | .dk _ :: _, _, h => by simp [asB] at h
  | .dt _ :: _, _, h => by simp [asB] at h
@[simp] theorem asB_map : ∀ (ns : List Bool), asB (ns.map D.bl) = some ns
  | [] => rfl
  | n :: ns => by simp [asB, asB_map ns]

/-! ### tuples and lists put together -/
def pAddT : D → D → Option D
  | .tup xs, .tup ys => (short (xs ++ ys)).map .tup
  | _, _ => none
def pAddL : D → D → Option D
  | .lst xs, .lst ys => (short (xs ++ ys)).map .lst
  | _, _ => none
def pAdd := orD pAddI (orD pAddT (orD pAddL pAddB))
theorem pr_addT {K : PySem.W.Frag} : PrR2 K (rCatA K) pAddT := by
  intro H x y a b d ra rb e Q k
  cases a with
  | tup xs =>
    cases b with
    | tup ys =>
      simp only [pAddT] at e
      cases z : short (xs ++ ys) with
      | none => rw [z] at e; cases e
      | some es =>
        rw [z] at e
        cases e
        obtain ⟨rfl, hl⟩ := short_some z
        simp only [Rp] at ra rb
        obtain ⟨p, vs, rfl, hp, r1⟩ := ra
        obtain ⟨q, ws, rfl, hq, r2⟩ := rb
        have l1 := r1.length
        have l2 := r2.length
        rw [List.length_append] at hl
        refine ⟨p, q, vs, ws, rfl, rfl, SqT.of hp, SqT.of hq, big_le (by omega), fun hn => ?_, fun _ hn => ?_, fun _ _ l nl => ?_⟩
        · subst hn
          have : xs = [] := List.length_eq_zero_iff.mp (by simpa using l1.symm)
          subst this
          exact k _ H (Ext.refl _) (by simp only [Rp, List.nil_append]; exact ⟨q, ws, rfl, hq, r2⟩)
        · subst hn
          have : ys = [] := List.length_eq_zero_iff.mp (by simpa using l2.symm)
          subst this
          exact k _ H (Ext.refl _) (by simp only [Rp, List.append_nil]; exact ⟨p, vs, rfl, hp, r1⟩)
        · exact k _ _ (Ext.new nl) (by simp only [Rp]; exact ⟨l, vs ++ ws, rfl, upd_same, RpL.ext (Ext.new nl).fx _ _ (RpL.append r1 r2)⟩)
    | _ => simp [pAddT] at e
  | _ => simp [pAddT] at e
/-- two lists that are read make a new one -/
def rCatS (K : PySem.W.Frag) : R2 := fun x y H Q => ∃ l b xs zs, x = .ref l ∧ y = .ref b ∧ SqL K H l xs ∧ SqL K H b zs ∧ xs.length + zs.length ≤ sizeLine ∧ ∀ p, H p = none → Q (.ref p) (upd H p (.lst (xs ++ zs)))
theorem op_catS {X : Cx} : OpR X (binaryOp .Add) (rCatS X.K) := by
  intro pins s σ H x y v u Q I rx ry h
  obtain ⟨l, b, xs, zs, rfl, rfl, hX, hZ, hz, q⟩ := h
  cases rx
  cases ry
  obtain ⟨its, r1, ⟨⟨c1, d1, t1, s1⟩, n1, g1, e1, _, f1⟩, z1⟩ := I.list hX
  obtain ⟨its2, r2, ⟨⟨c2, d2, t2, s2⟩, n2, g2, e2, _, f2⟩, z2⟩ := I.list hZ
  dsimp only at e1 f1 e2 f2
  subst e1 f1 e2 f2
  have l1 := r1.length
  have l2 := r2.length
  refine concat_meets ⟨_, g1, rfl⟩ ⟨_, g2, rfl⟩ noFill_list_add
    seq_list_add PySem.F.slot_list_add PySem.F.entry_list_add
    (PySem.F.args_list_add_2 _ _)
    (list_addW l b its.toArray its2.toArray n1 n2 d1 d2 s1 s2 (by rw [List.size_toArray, List.size_toArray]; omega)) ⟨g1, g2, ?_⟩
  rw [show its.toArray ++ its2.toArray = (its ++ its2).toArray by simp]
  exact ⟨.ref _, _, I.lnew (t' := s.toks) (r1.append r2) (by rw [List.length_append]; omega), rfl, q _ I.fresh⟩
theorem pr_addL {K : PySem.W.Frag} : PrF2 K (rCatS K) pAddL := by
  intro H x y a b d ra rb e Q k
  cases a with
  | lst xs =>
    cases b with
    | lst ys =>
      simp only [pAddL] at e
      cases z : short (xs ++ ys) with
      | none => rw [z] at e; cases e
      | some es =>
        rw [z] at e
        cases e
        obtain ⟨rfl, hl⟩ := short_some z
        simp only [Rp] at ra rb
        obtain ⟨p, vs, rfl, hp, r1⟩ := ra
        obtain ⟨q, ws, rfl, hq, r2⟩ := rb
        have l1 := r1.length
        have l2 := r2.length
        rw [List.length_append] at hl
        exact ⟨p, q, vs, ws, rfl, rfl, hp.sq, hq.sq, big_le (by omega), fun l nl => k l _ (Ext.new nl) nl ⟨.lst (vs ++ ws), upd_same, RpL.ext (Ext.new nl).fx _ _ (RpL.append r1 r2)⟩⟩
    | _ => simp [pAddL] at e
  | _ => simp [pAddL] at e
def rAddA (K : PySem.W.Frag) : R2 := fun x y H Q => rI0 (fun i j => .int (i + j)) x y H Q ∨ (rCatA K x y H Q ∨ (rCatS K x y H Q ∨ rB2 (fun i j => i + j) x y H Q))
theorem op_addA {X : Cx} : OpR X (binaryOp .Add) (rAddA X.K) := op_add.or (op_catA.or (op_catS.or op_addB))
theorem pr_add {K : PySem.W.Frag} : PrM2 K (rAddA K) pAdd := pr_addI.m.or (pr_addT.m.or (pr_addL.m.or (pr_b2 (g := fun i j => i + j)).m))

/-! ### equality of data -/
mutual
def D.py : D → Option PyData
  | .non => some .none
  | .bl b => some (.bool b)
  | .int i => some (.int i)
  | .str x => some (.str x)
  | .tup ds => (pyL ds).map .tuple
  | .lst ds => (pyL ds).map .list
  | _ => none
def pyL : List D → Option (List PyData)
  | [] => some []
  | d :: ds => d.py.bind fun e => (pyL ds).map (e :: ·)
end
mutual
theorem Rp.dp {K : PySem.W.Frag} {H : Hp} : ∀ (d : D) (v : V) (e : PyData), d.py = some e → Rp K H d v → Dp K H v e
  | .non, v, e, h, r => by simp [D.py] at h; simp [Rp] at r; subst h; subst r; exact .non
  | .bl b, v, e, h, r => by simp [D.py] at h; simp [Rp] at r; subst h; subst r; exact .bl b
  | .int i, v, e, h, r => by simp [D.py] at h; simp [Rp] at r; subst h; subst r; exact .int i
  | .str x, v, e, h, r => by simp [D.py] at h; simp [Rp] at r; subst h; subst r; exact .str x
  | .tup ds, v, e, h, r => by
    simp only [D.py] at h
    cases z : pyL ds with
    | none => rw [z] at h; cases h
    | some es =>
      rw [z] at h
      cases h
      simp only [Rp] at r
      obtain ⟨a, vs, rfl, h1, h2⟩ := r
      exact .tup (SqT.of h1) (RpL.dp ds vs es z h2)
  | .lst ds, v, e, h, r => by
    simp only [D.py] at h
    cases z : pyL ds with
    | none => rw [z] at h; cases h
    | some es =>
      rw [z] at h
      cases h
      simp only [Rp] at r
      obtain ⟨a, vs, rfl, h1, h2⟩ := r
      exact .lst h1.sq (RpL.dp ds vs es z h2)
  | .dk _, _, _, h, _ => by simp [D.py] at h
  | .dt _, _, _, h, _ => by simp [D.py] at h
theorem RpL.dp {K : PySem.W.Frag} {H : Hp} : ∀ (ds : List D) (vs : List V) (es : List PyData), pyL ds = some es → RpL K H ds vs → DpAll K H vs es
  | [], vs, es, h, r => by simp [pyL] at h; simp only [RpL] at r; subst h; subst r; exact .nil
  | d :: ds, vs, es, h, r => by
    simp only [pyL] at h
    cases z : d.py with
    | none => rw [z] at h; cases h
    | some e =>
      cases z2 : pyL ds with
      | none => rw [z, z2] at h; cases h
      | some fs =>
        rw [z, z2] at h
        cases h
        simp only [RpL] at r
        obtain ⟨v, rest, rfl, h1, h2⟩ := r
        exact .cons (Rp.dp d v e z h1) (RpL.dp ds rest fs z2 h2)
end
/-- scalars, as == tells them apart -/
def eqS : D → D → Option Bool
  | .non, .non => some true
  | .int i, .int j => some (decide (i = j))
  | .bl i, .bl j => some (decide (i = j))
  | .str i, .str j => some (decide (i = j))
  | .non, .int _ => some false
  | .int _, .non => some false
  | .non, .bl _ => some false
  | .bl _, .non => some false
  | .non, .str _ => some false
  | .str _, .non => some false
  | .int _, .str _ => some false
  | .str _, .int _ => some false
  | .bl _, .str _ => some false
  | .str _, .bl _ => some false
  | _, _ => none
def eqD (a b : D) : Option Bool := match a.py, b.py with
  | some x, some y => if SeqAt.shaped x && SeqAt.shaped y then some (PyData.eqv x y) else none
  | _, _ => none
def pEq : D → D → Option D := fun a b => ((eqS a b).or (eqD a b)).map D.bl
def pNe : D → D → Option D := fun a b => ((eqS a b).or (eqD a b)).map fun c => D.bl (!c)
theorem eqS_scal {K : PySem.W.Frag} {H : Hp} {a b : D} {x y : V} {c : Bool} (h : eqS a b = some c) (ra : Rp K H a x) (rb : Rp K H b y) : scal x y = true ∧ decide (x = y) = c := by
  cases a <;> cases b <;> simp only [eqS, Option.some.injEq] at h <;> first
    | cases h; done
    | (simp only [Rp] at ra rb; subst ra; subst rb; subst h; exact ⟨rfl, by simp⟩)
def rEqA (K : PySem.W.Frag) : R2 := fun x y H Q => rEq x y H Q ∨ rEqD K x y H Q
def rNeA (K : PySem.W.Frag) : R2 := fun x y H Q => rNe x y H Q ∨ rNeD K x y H Q
theorem op_eqA {X : Cx} (hu : X.A.units + 64 < cLine) : OpR X (compareOp .Eq) (rEqA X.K) := op_eq.or (op_eqD hu)
theorem op_neA {X : Cx} (hu : X.A.units + 64 < cLine) : OpR X (compareOp .NotEq) (rNeA X.K) := op_ne.or (op_neD hu)
theorem pr_eq {K : PySem.W.Frag} : PrR2 K (rEqA K) pEq := by
  intro H x y a b d ra rb e Q k
  unfold pEq at e
  cases z : eqS a b with
  | some c =>
    rw [z] at e
    cases e
    obtain ⟨h1, h2⟩ := eqS_scal z ra rb
    exact .inl ⟨h1, by rw [h2]; exact k _ H (Ext.refl _) (by simp [Rp])⟩
  | none =>
    rw [z] at e
    unfold eqD at e
    cases z1 : a.py with
    | none => rw [z1] at e; cases e
    | some p =>
      cases z2 : b.py with
      | none => rw [z1, z2] at e; cases e
      | some q =>
        rw [z1, z2] at e
        dsimp only at e
        split at e
        · rename_i hs
          rw [Bool.and_eq_true] at hs
          cases e
          exact .inr ⟨p, q, Rp.dp _ _ _ z1 ra, Rp.dp _ _ _ z2 rb, hs.1, hs.2, k _ H (Ext.refl _) (by simp [Rp])⟩
        · cases e
theorem pr_ne {K : PySem.W.Frag} : PrR2 K (rNeA K) pNe := by
  intro H x y a b d ra rb e Q k
  unfold pNe at e
  cases z : eqS a b with
  | some c =>
    rw [z] at e
    cases e
    obtain ⟨h1, h2⟩ := eqS_scal z ra rb
    exact .inl ⟨h1, by rw [h2]; exact k _ H (Ext.refl _) (by simp [Rp])⟩
  | none =>
    rw [z] at e
    unfold eqD at e
    cases z1 : a.py with
    | none => rw [z1] at e; cases e
    | some p =>
      cases z2 : b.py with
      | none => rw [z1, z2] at e; cases e
      | some q =>
        rw [z1, z2] at e
        dsimp only at e
        split at e
        · rename_i hs
          rw [Bool.and_eq_true] at hs
          cases e
          exact .inr ⟨p, q, Rp.dp _ _ _ z1 ra, Rp.dp _ _ _ z2 rb, hs.1, hs.2, k _ H (Ext.refl _) (by simp [Rp])⟩
        · cases e
/-- is None -/
def pIsN : D → D → Option D
  | .non, .non => some (.bl true)
  | _, .non => some (.bl false)
  | _, _ => none
def pNotN : D → D → Option D
  | .non, .non => some (.bl false)
  | _, .non => some (.bl true)
  | _, _ => none
theorem rp_non {K : PySem.W.Frag} {H : Hp} {d : D} {v : V} (h : Rp K H d v) : (v = .non) ↔ d = .non := by
  cases d <;> simp only [Rp] at h <;> first
    | (subst h; simp)
    | (obtain ⟨a, _, e, _⟩ := h; subst e; simp)
def rIsN : R2 := fun x y H Q => y = .non ∧ Q (.bl (decide (x = .non))) H
def rNoN : R2 := fun x y H Q => y = .non ∧ Q (.bl (!decide (x = .non))) H
theorem pr_isN {K : PySem.W.Frag} : PrR2 K rIsN pIsN := by
  intro H x y a b d ra rb e Q k
  have hx := rp_non ra
  cases b with
  | non =>
    refine ⟨(rp_non rb).mpr rfl, ?_⟩
    cases a <;> simp only [pIsN, Option.some.injEq] at e <;> subst e <;> first
      | (rw [decide_eq_true (hx.mpr rfl)]; exact k _ H (Ext.refl _) (by simp [Rp]))
      | (rw [decide_eq_false (fun z => by cases hx.mp z)]; exact k _ H (Ext.refl _) (by simp [Rp]))
  | _ => cases a <;> simp [pIsN] at e
theorem pr_notN {K : PySem.W.Frag} : PrR2 K rNoN pNotN := by
  intro H x y a b d ra rb e Q k
  have hx := rp_non ra
  cases b with
  | non =>
    refine ⟨(rp_non rb).mpr rfl, ?_⟩
    cases a <;> simp only [pNotN, Option.some.injEq] at e <;> subst e <;> first
      | (rw [decide_eq_true (hx.mpr rfl)]; exact k _ H (Ext.refl _) (by simp [Rp]))
      | (rw [decide_eq_false (fun z => by cases hx.mp z)]; exact k _ H (Ext.refl _) (by simp [Rp]))
  | _ => cases a <;> simp [pNotN] at e

/-! ### subscripts -/
def pIx : D → D → Option D
  | .lst ds, .int j => atI ds j
  | .tup ds, .int j => atI ds j
  | _, _ => none
def rIxA (K : PySem.W.Frag) : R2 := fun x y H Q => rIxL K x y H Q ∨ rIxT K x y H Q
theorem ix_A {X : Cx} : IxR X (rIxA X.K) := ix_list.or ix_tup
theorem pr_ix {K : PySem.W.Frag} : PrR2 K (rIxA K) pIx := by
  intro H x y a b d ra rb e Q k
  cases b with
  | int j =>
    cases a with
    | lst ds =>
      simp only [Rp] at ra
      obtain ⟨p, vs, rfl, hp, r1⟩ := ra
      obtain ⟨v, g1, g2⟩ := atI_rp r1 e
      exact .inl ⟨p, vs, j, v, rfl, rp_int rb, hp.sq, g1, k v H (Ext.refl _) g2⟩
    | tup ds =>
      simp only [Rp] at ra
      obtain ⟨p, vs, rfl, hp, r1⟩ := ra
      obtain ⟨v, g1, g2⟩ := atI_rp r1 e
      exact .inr ⟨p, vs, j, v, rfl, rp_int rb, SqT.of hp, g1, k v H (Ext.refl _) g2⟩
    | _ => simp [pIx] at e
  | _ => cases a <;> simp [pIx] at e

/-! ### slices -/
def cutD (xs : List D) (lo hi : Option Int) : List D := (xs.drop (HT.sIx xs.length 0 lo)).take (HT.sIx xs.length xs.length hi - HT.sIx xs.length 0 lo)
theorem RpL.cut {K : PySem.W.Frag} {H : Hp} {ds : List D} {vs : List V} (h : RpL K H ds vs) (lo hi : Option Int) : RpL K H (cutD ds lo hi) (cutV vs lo hi) := by
  unfold cutD cutV
  rw [h.length]
  exact RpL.take _ (RpL.drop _ h)
abbrev DenO := En → R (Option Int × En)
def oN : DenO := fun env => .ok (none, env)
def oS (f : Den) : DenO := fun env => (f env).bind fun x => match x.1 with
  | .int i => .ok (some i, x.2)
  | _ => .stk
def RdO (K : PySem.W.Frag) (W : WD) (f : DenO) : TO := fun σ H Q => ∃ io env, Rel K io env σ H ∧ Wp K W io env σ H (f env) (fun _ o o' => o = o') Q
abbrev DO (X : Cx) (W : WD) (e : Option Expr) (f : DenO) : Prop := PO X e (RdO X.K W f)
theorem po_imp {X : Cx} {e : Option Expr} {t t' : TO} (h : PO X e t) (k : ∀ σ H Q, t' σ H Q → t σ H Q) : PO X e t' := ⟨fun pins s σ H Q I q => h.run pins s σ H Q I (k σ H Q q)⟩
def eSl (f : Den) (lo hi : DenO) : Den := fun env => (f env).bind fun x => (lo x.2).bind fun l => (hi l.2).bind fun u => match x.1 with
  | .lst ds => .ok (.lst (cutD ds l.1 u.1), u.2)
  | .tup ds => .ok (.tup (cutD ds l.1 u.1), u.2)
  | _ => .stk
def rSlB (K : PySem.W.Frag) : V → Option Int → Option Int → Hp → VK → Prop := fun x lo hi H Q => rSlL K x lo hi H Q ∨ rSlA K x lo hi H Q
section
variable {X : Cx} {W : WD} {e : Expr} {lo hi : Option Expr} {f : Den} {fl fh : DenO} {pos p2 : Pos}
theorem do_n : DO X W none oN := po_imp po_none fun σ H Q ⟨io, env, r, h⟩ => h none H (EvE.refl _ _ _) r rfl
theorem do_s (h : DE X W e f) : DO X W (some e) (oS f) := by
  refine po_imp (po_some h) fun σ H Q hq => ?_
  obtain ⟨io, env, hr, hq⟩ := hq
  refine ⟨io, env, hr, Wp.bind hq fun x v H1 q0 e1 r1 p1 h1 => ?_⟩
  clear q0
  obtain ⟨pd, pe⟩ := x
  cases pd with
  | int i => exact ⟨i, rp_int p1, h1 (some i) H1 (EvE.refl _ _ _) r1 rfl⟩
  | _ => exact (show False from h1).elim
theorem dm_slice (he : DE X W e f) (hl : DO X W lo fl) (hu : DO X W hi fh) : DM X W (.Subscript e (.Slice lo hi none p2) pos) (eSl f fl fh) := by
  refine pe_imp (pe_slice (sl_list.or sl_tupA : SlR X (rSlB X.K)) he hl hu) fun σ H Q hq => ?_
  obtain ⟨io, env, hr, hq⟩ := hq
  refine ⟨io, env, hr, Wp.bind hq fun x v H1 q0 e1 r1 p1 h1 => ⟨io, x.2, r1, Wp.bind h1 fun l l' H2 q1 e2 r2 p2 h2 => ⟨io, l.2, r2, Wp.bind h2 fun u u' H3 q2 e3 r3 p3 h3 => ?_⟩⟩⟩
  clear q0 q1 q2
  subst p2
  subst p3
  obtain ⟨pd, pe⟩ := x
  have p1 := Rp.ext ((r1.fx e2).trans (r2.fx e3)) _ _ p1
  cases pd with
  | lst ds =>
    simp only [Rp] at p1
    obtain ⟨p, vs, rfl, hp, rr⟩ := p1
    refine .inl ⟨p, vs, rfl, hp.sq, fun q nq => h3 _ _ (EvE.ext (Ext.new nq)) (r3.ext (Ext.new nq)) (.inr ⟨q, rfl, free_back ((e1.trans e2).trans e3).dom nq, .lst _, upd_same, RpL.ext (Ext.new nq).fx _ _ (rr.cut _ _)⟩)⟩
  | tup ds =>
    simp only [Rp] at p1
    obtain ⟨p, vs, rfl, hp, rr⟩ := p1
    have hl := rr.length
    refine .inr ⟨p, vs, rfl, SqT.of hp, fun ⟨a1, a2⟩ => ?_, fun _ q nq => h3 _ _ (EvE.ext (Ext.new nq)) (r3.ext (Ext.new nq)) (.inl ?_)⟩
    · refine h3 _ H3 (EvE.refl _ _ _) r3 (.inl ?_)
      have : cutD ds l.1 u.1 = ds := by
        unfold cutD
        rw [← hl, a1, a2, Nat.sub_zero, List.drop_zero, List.take_of_length_le (by omega)]
      dsimp only
      rw [this]
      simp only [Rp]
      exact ⟨p, vs, rfl, hp, rr⟩
    · simp only [Rp]
      exact ⟨q, _, rfl, upd_same, RpL.ext (Ext.new nq).fx _ _ (rr.cut _ _)⟩
  | _ => exact (show False from h3).elim
end
end DL

/-! ## DLq -/
/-! DLq: built-in calls. -/
namespace DL
open PySem PySem.Spec PyProof.Rows L2

section
variable {K : PySem.W.Frag} {H : Hp}
theorem rp1 {d : D} {vs : List V} (h : RpL K H [d] vs) : ∃ v, vs = [v] ∧ Rp K H d v := by
  simp only [RpL] at h
  obtain ⟨v, r, e, h1, e2⟩ := h
  subst e2
  exact ⟨v, e, h1⟩
theorem rp2 {d e : D} {vs : List V} (h : RpL K H [d, e] vs) : ∃ v w, vs = [v, w] ∧ Rp K H d v ∧ Rp K H e w := by
  simp only [RpL] at h
  obtain ⟨v, r, e1, h1, w, r2, e2, h2, e3⟩ := h
  subst e3
  subst e2
  exact ⟨v, w, e1, h1, h2⟩
theorem rp_lst {ds : List D} {v : V} (h : Rp K H (.lst ds) v) : ∃ a vs, v = .ref a ∧ FzL K H a vs ∧ RpL K H ds vs := by simpa only [Rp] using h
theorem rp_tup {ds : List D} {v : V} (h : Rp K H (.tup ds) v) : ∃ a vs, v = .ref a ∧ H a = some (.tup vs) ∧ RpL K H ds vs := by simpa only [Rp] using h
end

/-! ### len -/
def pLen : List D → Option D
  | [.lst ds] => some (.int ds.length)
  | [.tup ds] => some (.int ds.length)
  | [.str x] => if x.length ≤ sizeLine then some (.int x.length) else none
  | _ => none
def rLen (K : PySem.W.Frag) : List V → Hp → VK → Prop := fun xs H Q => ∃ x n, xs = [x] ∧ LenV K x H n ∧ Q (.int n) H
theorem pr_len {K : PySem.W.Frag} : PrR K (rLen K) pLen := by
  intro H vs ds d r e Q k
  unfold pLen at e
  split at e
  · rename_i es
    obtain ⟨v, rfl, h⟩ := rp1 r
    obtain ⟨a, ws, rfl, h1, h2⟩ := rp_lst h
    cases e
    refine ⟨_, es.length, rfl, .inl ⟨ws, h1.sq, h2.length.symm⟩, k _ H (Ext.refl _) (by simp [Rp])⟩
  · rename_i es
    obtain ⟨v, rfl, h⟩ := rp1 r
    obtain ⟨a, ws, rfl, h1, h2⟩ := rp_tup h
    cases e
    refine ⟨_, es.length, rfl, .inr ⟨ws, SqT.of h1, h2.length.symm⟩, k _ H (Ext.refl _) (by simp [Rp])⟩
  · rename_i x
    obtain ⟨v, rfl, h⟩ := rp1 r
    have hv : v = .str x := by simpa [Rp] using h
    subst hv
    split at e
    · rename_i hl
      cases e
      exact ⟨_, x.length, rfl, ⟨hl, rfl⟩, k _ H (Ext.refl _) (by simp [Rp])⟩
    · cases e
  · cases e

/-! ### list(..), tuple(..) -/
def pList : List D → Option D
  | [.lst ds] => some (.lst ds)
  | [.tup ds] => some (.lst ds)
  | _ => none
def rList (K : PySem.W.Frag) : List V → Hp → VK → Prop := fun xs H Q => ∃ p ys, xs = [.ref p] ∧ (SqL K H p ys ∨ SqT K H p ys) ∧ ∀ l, H l = none → Q (.ref l) (upd H l (.lst ys))
theorem pr_list {K : PySem.W.Frag} : PrF K (rList K) pList := by
  intro H vs ds d r e Q k
  unfold pList at e
  split at e
  · obtain ⟨v, rfl, h⟩ := rp1 r
    obtain ⟨a, ws, rfl, h1, h2⟩ := rp_lst h
    cases e
    exact ⟨a, ws, rfl, .inl h1.sq, fun l nl => k l _ (Ext.new nl) nl ⟨.lst ws, upd_same, RpL.ext (Ext.new nl).fx _ _ h2⟩⟩
  · obtain ⟨v, rfl, h⟩ := rp1 r
    obtain ⟨a, ws, rfl, h1, h2⟩ := rp_tup h
    cases e
    exact ⟨a, ws, rfl, .inr (SqT.of h1), fun l nl => k l _ (Ext.new nl) nl ⟨.lst ws, upd_same, RpL.ext (Ext.new nl).fx _ _ h2⟩⟩
  · cases e
def pTuple : List D → Option D
  | [.lst ds] => some (.tup ds)
  | [.tup ds] => some (.tup ds)
  | _ => none
def rTuple (K : PySem.W.Frag) : List V → Hp → VK → Prop := fun xs H Q => ∃ p ys, xs = [.ref p] ∧ ((SqL K H p ys ∧ ∀ l, H l = none → Q (.ref l) (upd H l (.tup ys))) ∨ (SqT K H p ys ∧ Q (.ref p) H))
theorem pr_tuple {K : PySem.W.Frag} : PrR K (rTuple K) pTuple := by
  intro H vs ds d r e Q k
  unfold pTuple at e
  split at e
  · obtain ⟨v, rfl, h⟩ := rp1 r
    obtain ⟨a, ws, rfl, h1, h2⟩ := rp_lst h
    cases e
    exact ⟨a, ws, rfl, .inl ⟨h1.sq, fun l nl => k _ _ (Ext.new nl) (by simp only [Rp]; exact ⟨l, ws, rfl, upd_same, RpL.ext (Ext.new nl).fx _ _ h2⟩)⟩⟩
  · obtain ⟨v, rfl, h⟩ := rp1 r
    obtain ⟨a, ws, rfl, h1, h2⟩ := rp_tup h
    cases e
    exact ⟨a, ws, rfl, .inr ⟨SqT.of h1, k _ H (Ext.refl _) (by simp only [Rp]; exact ⟨a, ws, rfl, h1, h2⟩)⟩⟩
  · cases e

/-! ### numbers of lists -/
def pAll : List D → Option D
  | [.lst ds] => (asB ds).map fun bs => .bl (bs.all id)
  | _ => none
def pAny : List D → Option D
  | [.lst ds] => (asB ds).map fun bs => .bl (bs.any id)
  | _ => none
def pSum : List D → Option D
  | [.lst ds] => (asI ds).map fun ns => .int ns.sum
  | _ => none
theorem pr_all {K : PySem.W.Frag} : PrR K (rAll K) pAll := by
  intro H vs ds d r e Q k
  unfold pAll at e
  split at e
  · rename_i es
    obtain ⟨v, rfl, h⟩ := rp1 r
    obtain ⟨a, ws, rfl, h1, h2⟩ := rp_lst h
    cases z : asB es with
    | none => rw [z] at e; cases e
    | some bs =>
      rw [z] at e
      cases e
      rw [asB_some z] at h2
      have := RpL.bls h2
      subst this
      exact ⟨a, bs, rfl, h1.sq, k _ H (Ext.refl _) (by simp [Rp])⟩
  · cases e
theorem pr_any {K : PySem.W.Frag} : PrR K (rAny K) pAny := by
  intro H vs ds d r e Q k
  unfold pAny at e
  split at e
  · rename_i es
    obtain ⟨v, rfl, h⟩ := rp1 r
    obtain ⟨a, ws, rfl, h1, h2⟩ := rp_lst h
    cases z : asB es with
    | none => rw [z] at e; cases e
    | some bs =>
      rw [z] at e
      cases e
      rw [asB_some z] at h2
      have := RpL.bls h2
      subst this
      exact ⟨a, bs, rfl, h1.sq, k _ H (Ext.refl _) (by simp [Rp])⟩
  · cases e
theorem pr_sum {K : PySem.W.Frag} : PrR K (rSum K) pSum := by
  intro H vs ds d r e Q k
  unfold pSum at e
  split at e
  · rename_i es
    obtain ⟨v, rfl, h⟩ := rp1 r
    obtain ⟨a, ws, rfl, h1, h2⟩ := rp_lst h
    cases z : asI es with
    | none => rw [z] at e; cases e
    | some bs =>
      rw [z] at e
      cases e
      rw [asI_some z] at h2
      have := RpL.ints h2
      subst this
      exact ⟨a, bs, rfl, h1.sq, k _ H (Ext.refl _) (by simp [Rp])⟩
  · cases e
/-- the greatest, the least of ints -/
def mxI : List Int → Option Int
  | [] => none
  | x :: r => some (r.foldl max x)
def mnI : List Int → Option Int
  | [] => none
  | x :: r => some (r.foldl min x)
theorem foldl_max : ∀ (r : List Int) (x : Int), (r.foldl max x = x ∨ r.foldl max x ∈ r) ∧ x ≤ r.foldl max x ∧ ∀ y ∈ r, y ≤ r.foldl max x
  | [], x => ⟨.inl rfl, Int.le_refl _, fun _ h => by cases h⟩
  | z :: r, x => by
    obtain ⟨h1, h2, h3⟩ := foldl_max r (max x z)
    have e : (z :: r).foldl max x = r.foldl max (max x z) := rfl
    rw [e]
    refine ⟨?_, by omega, fun y hy => ?_⟩
    · rcases h1 with h1 | h1
      · rw [h1]
        by_cases q : x ≤ z
        · right; rw [show max x z = z by omega]; exact List.mem_cons_self
        · left; omega
      · right; exact List.mem_cons_of_mem _ h1
    · rcases List.mem_cons.mp hy with rfl | hy
      · omega
      · exact h3 y hy
theorem foldl_min : ∀ (r : List Int) (x : Int), (r.foldl min x = x ∨ r.foldl min x ∈ r) ∧ r.foldl min x ≤ x ∧ ∀ y ∈ r, r.foldl min x ≤ y
  | [], x => ⟨.inl rfl, Int.le_refl _, fun _ h => by cases h⟩
  | z :: r, x => by
    obtain ⟨h1, h2, h3⟩ := foldl_min r (min x z)
    have e : (z :: r).foldl min x = r.foldl min (min x z) := rfl
    rw [e]
    refine ⟨?_, by omega, fun y hy => ?_⟩
    · rcases h1 with h1 | h1
      · rw [h1]
        by_cases q : z ≤ x
        · right; rw [show min x z = z by omega]; exact List.mem_cons_self
        · left; omega
      · right; exact List.mem_cons_of_mem _ h1
    · rcases List.mem_cons.mp hy with rfl | hy
      · omega
      · exact h3 y hy
theorem mxI_some {ns : List Int} {m : Int} (h : mxI ns = some m) : 0 < ns.length ∧ m ∈ ns ∧ ∀ y ∈ ns, y ≤ m := by
  cases ns with
  | nil => cases h
  | cons x r =>
    cases h
    obtain ⟨h1, h2, h3⟩ := foldl_max r x
    refine ⟨by simp, ?_, fun y hy => ?_⟩
    · rcases h1 with h1 | h1
      · rw [h1]; exact List.mem_cons_self
      · exact List.mem_cons_of_mem _ h1
    · rcases List.mem_cons.mp hy with rfl | hy
      · exact h2
      · exact h3 y hy
theorem mnI_some {ns : List Int} {m : Int} (h : mnI ns = some m) : 0 < ns.length ∧ m ∈ ns ∧ ∀ y ∈ ns, m ≤ y := by
  cases ns with
  | nil => cases h
  | cons x r =>
    cases h
    obtain ⟨h1, h2, h3⟩ := foldl_min r x
    refine ⟨by simp, ?_, fun y hy => ?_⟩
    · rcases h1 with h1 | h1
      · rw [h1]; exact List.mem_cons_self
      · exact List.mem_cons_of_mem _ h1
    · rcases List.mem_cons.mp hy with rfl | hy
      · exact h2
      · exact h3 y hy
def pMax : List D → Option D
  | [.lst ds] => ((asI ds).bind mxI).map .int
  | [.int i, .int j] => some (.int (if j > i then j else i))
  | _ => none
def pMin : List D → Option D
  | [.lst ds] => ((asI ds).bind mnI).map .int
  | [.int i, .int j] => some (.int (if j < i then j else i))
  | _ => none
def rMaxA (K : PySem.W.Frag) : List V → Hp → VK → Prop := fun xs H Q => rMax K xs H Q ∨ ∃ i j, xs = [.int i, .int j] ∧ Q (.int (if j > i then j else i)) H
def rMinA (K : PySem.W.Frag) : List V → Hp → VK → Prop := fun xs H Q => rMin K xs H Q ∨ ∃ i j, xs = [.int i, .int j] ∧ Q (.int (if j < i then j else i)) H
theorem cr_maxA {X : Cx} (hc : X.calm = true) : CallR X (.builtin "max") (rMaxA X.K) := (cr_max hc).or (call_max2 hc)
theorem cr_minA {X : Cx} (hc : X.calm = true) : CallR X (.builtin "min") (rMinA X.K) := (cr_min hc).or (call_min2 hc)
theorem pr_max {K : PySem.W.Frag} : PrR K (rMaxA K) pMax := by
  intro H vs ds d r e Q k
  unfold pMax at e
  split at e
  · rename_i es
    obtain ⟨v, rfl, h⟩ := rp1 r
    obtain ⟨a, ws, rfl, h1, h2⟩ := rp_lst h
    cases z : asI es with
    | none => rw [z] at e; cases e
    | some bs =>
      rw [z] at e
      cases z2 : mxI bs with
      | none => simp [z2] at e
      | some m =>
        simp only [Option.bind_some, z2, Option.map_some, Option.some.injEq] at e
        subst e
        obtain ⟨m1, m2, m3⟩ := mxI_some z2
        rw [asI_some z] at h2
        have := RpL.ints h2
        subst this
        exact .inl ⟨a, bs, rfl, h1.sq, m1, fun m' k1 k2 => by
          rw [show m' = m from Int.le_antisymm (m3 m' k1) (k2 m m2)]
          exact k _ H (Ext.refl _) (by simp [Rp])⟩
  · obtain ⟨v, w, rfl, h1, h2⟩ := rp2 r
    cases e
    exact .inr ⟨_, _, by rw [rp_int h1, rp_int h2], k _ H (Ext.refl _) (by simp [Rp])⟩
  · cases e
theorem pr_min {K : PySem.W.Frag} : PrR K (rMinA K) pMin := by
  intro H vs ds d r e Q k
  unfold pMin at e
  split at e
  · rename_i es
    obtain ⟨v, rfl, h⟩ := rp1 r
    obtain ⟨a, ws, rfl, h1, h2⟩ := rp_lst h
    cases z : asI es with
    | none => rw [z] at e; cases e
    | some bs =>
      rw [z] at e
      cases z2 : mnI bs with
      | none => simp [z2] at e
      | some m =>
        simp only [Option.bind_some, z2, Option.map_some, Option.some.injEq] at e
        subst e
        obtain ⟨m1, m2, m3⟩ := mnI_some z2
        rw [asI_some z] at h2
        have := RpL.ints h2
        subst this
        exact .inl ⟨a, bs, rfl, h1.sq, m1, fun m' k1 k2 => by
          rw [show m' = m from Int.le_antisymm (k2 m m2) (m3 m' k1)]
          exact k _ H (Ext.refl _) (by simp [Rp])⟩
  · obtain ⟨v, w, rfl, h1, h2⟩ := rp2 r
    cases e
    exact .inr ⟨_, _, by rw [rp_int h1, rp_int h2], k _ H (Ext.refl _) (by simp [Rp])⟩
  · cases e

/-! ### isinstance -/
def D.ty : D → String
  | .non => "NoneType" | .bl _ => "bool" | .int _ => "int" | .str _ => "str" | .tup _ => "tuple" | .lst _ => "list" | .dk _ => "dict" | .dt _ => "dict"
def D.plain : D → Bool
  | .dk _ | .dt _ => false
  | _ => true
/-- whether a thing is of a built-in type -/
def D.isT (d : D) (T : String) : Bool := d.ty == T || (d.ty == "bool" && T == "int")
theorem tyX_of {K : PySem.W.Frag} {H : Hp} {d : D} {v : V} (hp : d.plain = true) (h : Rp K H d v) : TyX K H v (.type d.ty) := by
  cases d with
  | non => simp only [Rp] at h; subst h; exact .base .non
  | bl b => simp only [Rp] at h; subst h; exact .base (.bl b)
  | int b => simp only [Rp] at h; subst h; exact .base (.int b)
  | str b => simp only [Rp] at h; subst h; exact .base (.str b)
  | tup ds => obtain ⟨a, ws, rfl, h1, _⟩ := rp_tup h; exact .base (.tup h1)
  | lst ds =>
    obtain ⟨a, ws, rfl, h1, _⟩ := rp_lst h
    rcases h1 with ⟨o, h1⟩ | ⟨o, its, n, q1, q2, _⟩
    · exact .base (.frz h1)
    · exact .kList q1 q2
  | dk _ => cases hp
  | dt _ => cases hp
/-- the five types that are asked for -/
def kitT (T : String) : Bool := T == "int" || T == "bool" || T == "str" || T == "tuple" || T == "list"
theorem kit_all : ∀ t ∈ ["NoneType", "bool", "int", "str", "tuple", "list"], ∀ T ∈ ["int", "bool", "str", "tuple", "list"], kitB t T = some (t == T || (t == "bool" && T == "int")) := by decide +kernel
theorem kit_is {K : PySem.W.Frag} {d : D} {T : String} (hp : d.plain = true) (hT : kitT T = true) : PySem.W.kitOne K (.type d.ty) (.type T) = some (d.isT T) := by
  refine kit_ty ?_
  unfold kitT at hT
  simp only [Bool.or_eq_true, beq_iff_eq] at hT
  have m2 : T ∈ ["int", "bool", "str", "tuple", "list"] := by
    rcases hT with (((h | h) | h) | h) | h <;> subst h <;> simp
  refine kit_all d.ty ?_ T m2
  cases d <;> first
    | (cases hp; done)
    | simp [D.ty]
def eIsT (T : String) (f : Den) : Den := e1 (fun d => if d.plain then some (.bl (d.isT T)) else none) f
def eIsT2 (T U : String) (f : Den) : Den := e1 (fun d => if d.plain then some (.bl (d.isT T || d.isT U)) else none) f
section
variable {X : Cx} {W : WD} {e : Expr} {f : Den} {p pos p1 p2 p3 : Pos} {T U : String} {x y : Str}
theorem de_isT (hT : kitT T = true) (hg : Gl X "isinstance") (hm : X.mg "isinstance" = none) (hgT : Gl X x) (hmT : X.mg x = none) (hvT : bootBuiltins x = some (.type T)) (h : DE X W e f) (hi : bootBuiltins "isinstance" = some (.builtin "isinstance")) (hn : x ≠ "__name__" := by decide) (hd : (x == ("__debug__" : Str)) = false := by decide)
    (he : starEach (e :: [.Name x p1]) X.env = (false, eval e X.env) :: starEach [.Name x p1] X.env := by rfl) (he2 : starEach [.Name x p1] X.env = (false, eval (.Name x p1) X.env) :: starEach [] X.env := by rfl) (hpl : (backTo pos (starEach [.Name x p1] X.env)).any (·.1) = false := by rfl) :
    DE X W (.Call (.Name "isinstance" p) [e, .Name x p1] [] pos) (eIsT T f) := by
  refine pe_imp (pe_callB call_isi hg hm hi (pa_cons h (pa_cons (pe_bltn (v := .ty T) hgT hmT hvT rfl hn hd) pa_nil he2) he) (by decide) (by decide) he hpl) fun σ H Q hq => ?_
  obtain ⟨io, env, hr, hq⟩ := hq
  refine ⟨io, env, hr, Wp.bind hq fun q v H1 q0 e1 r1 p1 h1 => ?_⟩
  clear q0
  by_cases hp : q.1.plain = true
  · dsimp only at h1; rw [if_pos hp] at h1
    exact ⟨v, .ty T, .type q.1.ty, .type T, q.1.isT T, rfl, .ty T, tyX_of hp p1, kit_is hp hT, h1 _ H1 (EvE.refl _ _ _) r1 (by simp [Rp])⟩
  · dsimp only at h1; rw [if_neg hp] at h1; exact (show False from h1).elim
theorem de_isT2 {k} (hT : kitT T = true) (hU : kitT U = true) (hg : Gl X "isinstance") (hm : X.mg "isinstance" = none) (hgT : Gl X x) (hmT : X.mg x = none) (hvT : bootBuiltins x = some (.type T)) (hgU : Gl X y) (hmU : X.mg y = none) (hvU : bootBuiltins y = some (.type U)) (h : DE X W e f) (hi : bootBuiltins "isinstance" = some (.builtin "isinstance"))
    (hn : x ≠ "__name__" := by decide) (hd : (x == ("__debug__" : Str)) = false := by decide) (hn' : y ≠ "__name__" := by decide) (hd' : (y == ("__debug__" : Str)) = false := by decide)
    (he : starEach (e :: [.Tuple [.Name x p1, .Name y p2] k p3]) X.env = (false, eval e X.env) :: starEach [.Tuple [.Name x p1, .Name y p2] k p3] X.env := by rfl) (he2 : starEach [.Tuple [.Name x p1, .Name y p2] k p3] X.env = (false, eval (.Tuple [.Name x p1, .Name y p2] k p3) X.env) :: starEach [] X.env := by rfl) (hpl : (backTo pos (starEach [.Tuple [.Name x p1, .Name y p2] k p3] X.env)).any (·.1) = false := by rfl)
    (he3 : starEach [.Name x p1, .Name y p2] X.env = (false, eval (.Name x p1) X.env) :: starEach [.Name y p2] X.env := by rfl) (he4 : starEach [.Name y p2] X.env = (false, eval (.Name y p2) X.env) :: starEach [] X.env := by rfl) :
    DE X W (.Call (.Name "isinstance" p) [e, .Tuple [.Name x p1, .Name y p2] k p3] [] pos) (eIsT2 T U f) := by
  refine pe_imp (pe_callB call_isiT hg hm hi (pa_cons h (pa_cons (pe_tup (pa_cons (pe_bltn (v := .ty T) hgT hmT hvT rfl hn hd) (pa_cons (pe_bltn (v := .ty U) hgU hmU hvU rfl hn' hd') pa_nil he4) he3)) pa_nil he2) he) (by decide) (by decide) he hpl) fun σ H Q hq => ?_
  obtain ⟨io, env, hr, hq⟩ := hq
  refine ⟨io, env, hr, Wp.bind hq fun q v H1 q0 e1 r1 p1 h1 => ⟨by show 2 ≤ sizeLine; decide, fun t nt => ?_⟩⟩
  clear q0
  by_cases hp : q.1.plain = true
  · dsimp only at h1; rw [if_pos hp] at h1
    have x1 : Ext H1 (upd H1 t (.tup [.ty T, .ty U])) := Ext.new nt
    refine ⟨v, t, [.ty T, .ty U], .type q.1.ty, [.type T, .type U], (q.1.isT T || q.1.isT U), rfl, upd_same, .cons (.ty T) (.cons (.ty U) .nil), tyX_of hp (Rp.ext x1.fx _ _ p1), ?_, h1 _ _ (EvE.ext x1) (r1.ext x1) (by simp [Rp])⟩
    refine kitAny_cons (kit_is hp hT) (fun z => ?_) (fun z => by rw [z]; rfl)
    rw [z]
    refine kitAny_cons (kit_is hp hU) (fun z2 => ?_) (fun z2 => by rw [z2]; rfl)
    rw [z2]
    exact kitAny_nil
  · dsimp only at h1; rw [if_neg hp] at h1; exact (show False from h1).elim
end

/-! ### str(n), int(b) -/
def pStr : List D → Option D
  | [.int i] => if i.natAbs.log2 < 1920 then some (.str (toString i)) else none
  | [.bl b] => some (.str (if b then "True" else "False"))
  | _ => none
def rStrB : List V → Hp → VK → Prop := fun xs H Q => (∃ i : Int, xs = [.int i] ∧ i.natAbs.log2 < 1920 ∧ Q (.str (toString i)) H) ∨ ∃ b : Bool, xs = [.bl b] ∧ Q (.str (if b then "True" else "False")) H
theorem call_strB {X : Cx} : CallR X (.type "str") rStrB := by
  intro pins s σ H xs us Q I r h
  rcases h with h | ⟨b, rfl, q⟩
  · exact call_str_int pins s σ H xs us Q I r h
  · obtain ⟨u, rfl, r1⟩ := vals1 r
    cases r1
    exact PySem.P.str_of_bool ⟨.str _, H, I.tok _, ⟨_, rfl⟩, q⟩
theorem pr_str {K : PySem.W.Frag} : PrR K rStrB pStr := by
  intro H vs ds d r e Q k
  unfold pStr at e
  split at e
  · obtain ⟨v, rfl, h⟩ := rp1 r
    split at e
    · rename_i hl
      cases e
      exact .inl ⟨_, by rw [rp_int h], hl, k _ H (Ext.refl _) (by simp [Rp])⟩
    · cases e
  · obtain ⟨v, rfl, h⟩ := rp1 r
    cases e
    exact .inr ⟨_, by rw [show v = .bl _ by simpa [Rp] using h], k _ H (Ext.refl _) (by simp [Rp])⟩
  · cases e
def pInt : List D → Option D
  | [.int i] => some (.int i)
  | [.bl b] => some (.int (if b then 1 else 0))
  | _ => none
def rInt1 : List V → Hp → VK → Prop := fun xs H Q => (∃ i, xs = [.int i] ∧ Q (.int i) H) ∨ ∃ k, xs = [.bl k] ∧ Q (.int (if k then 1 else 0)) H
theorem pr_int {K : PySem.W.Frag} : PrR K rInt1 pInt := by
  intro H vs ds d r e Q k
  unfold pInt at e
  split at e
  · obtain ⟨v, rfl, h⟩ := rp1 r
    cases e
    exact .inl ⟨_, by rw [rp_int h], k _ H (Ext.refl _) (by simp [Rp])⟩
  · obtain ⟨v, rfl, h⟩ := rp1 r
    cases e
    simp only [Rp] at h
    subst h
    exact .inr ⟨_, rfl, k _ H (Ext.refl _) (by simp [Rp])⟩
  · cases e
end DL

/-! ## DLr -/
/-! DLr: order of tuples, repeated lists and tuples, walks of any sequence, calls by one fact. -/
namespace DL
open PySem PySem.Spec PyProof.Rows L2

/-! ### < of ints, of tuples of ints -/
def pLtT : D → D → Option D
  | .tup xs, .tup ys => match asI xs, asI ys with
    | some ns, some ms => some (.bl (HT.lexLt ns ms))
    | _, _ => none
  | _, _ => none
def pLt := orD pLtI pLtT
def rLtA (K : PySem.W.Frag) : R2 := fun x y H Q => rI0 (fun i j => .bl (decide (i < j))) x y H Q ∨ rLtT K x y H Q
theorem op_ltA {X : Cx} (hu : X.A.units < cLine) : OpR X (compareOp .Lt) (rLtA X.K) := op_lt.or (op_ltT hu)
theorem pr_ltT {K : PySem.W.Frag} : PrR2 K (rLtT K) pLtT := by
  intro H x y a b d ra rb e Q k
  cases a with
  | tup xs =>
    cases b with
    | tup ys =>
      simp only [pLtT] at e
      split at e
      · rename_i ns ms h1 h2
        cases e
        obtain ⟨p, vs, rfl, g1, g2⟩ := rp_tup ra
        obtain ⟨q, ws, rfl, g3, g4⟩ := rp_tup rb
        rw [asI_some h1] at g2
        rw [asI_some h2] at g4
        have e1 := RpL.ints g2
        have e2 := RpL.ints g4
        subst e1
        subst e2
        exact ⟨p, q, ns, ms, rfl, rfl, SqT.of g1, SqT.of g3, k _ H (Ext.refl _) (by simp [Rp])⟩
      · cases e
    | _ => simp [pLtT] at e
  | _ => simp [pLtT] at e
theorem pr_lt {K : PySem.W.Frag} : PrR2 K (rLtA K) pLt := pr_ltI.or pr_ltT

/-! ### repeated -/
def fRep (fa fb : Den) : Den := fun env => (fa env).bind fun x => (fb x.2).bind fun y => match x.1, y.1 with
  | .lst ds, .int k => if small k && decide (ds.length * k.toNat ≤ big) then .ok (.lst (List.replicate k.toNat ds).flatten, y.2) else .stk
  | _, _ => .stk
theorem df_rep {X : Cx} {W : WD} {a b : Expr} {fa fb : Den} {pos : Pos} (ha : DF X W a fa) (hb : DE X W b fb) : DF X W (.BinOp a .Mult b pos) (fRep fa fb) := by
  refine pe_imp (pe_op op_rep ha hb) fun σ H Q hq => ?_
  obtain ⟨io, env, hr, hq⟩ := hq
  refine ⟨io, env, hr, Wp.bind hq fun x v H1 q0 e1 r1 p1 h1 => ⟨io, x.2, r1, Wp.bind h1 fun y w H2 q1 e2 r2 p2 h2 => ?_⟩⟩
  clear q0 q1
  obtain ⟨xd, xe⟩ := x
  obtain ⟨yd, ye⟩ := y
  obtain ⟨l, rfl, nl, u, hu, ho⟩ := p1
  dsimp only at h2 e1 e2 r1 r2 p2 ho
  split at h2
  · rename_i ds k
    split at h2
    · rename_i hc
      rw [Bool.and_eq_true] at hc
      have hk := small_le hc.1
      have hz := of_decide_eq_true hc.2
      cases u with
      | lst vs =>
        have ho' : RpL X.K H1 ds vs := ho
        have no : ¬ OwnA xe σ l := fun z => by
          obtain ⟨j, d0, z1, z2⟩ := e1.shp.ownA.mp z
          obtain ⟨b0, z3, ⟨u0, z4, _⟩, _⟩ := hr.own j d0 z1
          rw [z2] at z3; cases z3
          rw [nl] at z4; cases z4
        have hu2 := e2.kp l _ hu no
        have ho2 := RpL.ext (r1.fx e2) _ _ ho'
        have hl := ho2.length
        have hlim : (2 : Int) ^ 62 < 2 ^ 63 := by decide
        refine ⟨l, k, vs, rfl, rp_int p2, hu2, by omega, by omega, big_le (by rw [hl]; exact hz), fun q nq => ?_⟩
        exact h2 _ _ (EvE.ext (Ext.new nq)) (r2.ext (Ext.new nq)) ⟨q, rfl, free_back (e1.trans e2).dom nq, .lst _, upd_same, RpL.ext (Ext.new nq).fx _ _ (ho2.rep _)⟩
      | _ => exact (show False from ho).elim
    · exact (show False from h2).elim
  · exact (show False from h2).elim
def pRepT : D → D → Option D
  | .tup ds, .int k => if decide (2 ≤ k ∧ k ≤ 1000 ∧ ds.length ≤ 1000) && !ds.isEmpty then some (.tup (List.replicate k.toNat ds).flatten) else none
  | _, _ => none
theorem pr_repT {K : PySem.W.Frag} : PrR2 K (rRepT K) pRepT := by
  intro H x y a b d ra rb e Q k
  cases a with
  | tup xs =>
    cases b with
    | int j =>
      simp only [pRepT] at e
      split at e
      · rename_i hc
        rw [Bool.and_eq_true] at hc
        obtain ⟨h1, h2, h3⟩ := of_decide_eq_true hc.1
        cases e
        obtain ⟨p, vs, rfl, g1, g2⟩ := rp_tup ra
        have hl := g2.length
        have hne : vs ≠ [] := fun z => by
          subst z
          have : xs = [] := List.length_eq_zero_iff.mp (by simpa using hl.symm)
          subst this
          exact absurd hc.2 (by simp)
        exact ⟨p, j, vs, rfl, rp_int rb, SqT.of g1, hne, h1, h2, by omega, fun q nq => k _ _ (Ext.new nq) (by simp only [Rp]; exact ⟨q, _, rfl, upd_same, RpL.ext (Ext.new nq).fx _ _ (g2.rep _)⟩)⟩
      · cases e
    | _ => simp [pRepT] at e
  | _ => simp [pRepT] at e

/-! ### any sequence walked -/
def itS (f : Den) : DenL := fun env => (f env).bind fun x => match x.1 with
  | .lst ds => .ok (ds, x.2)
  | .tup ds => .ok (ds, x.2)
  | _ => .stk
section
variable {X : Cx} {W : WD} {tg e : Expr} {f : Den}
theorem wk_tup {K : PySem.W.Frag} {H : Hp} {l : Addr} {ds : List D} {vs : List V} (h : H l = some (.tup vs)) (hr : RpL K H ds vs) : Wk K (Itt K l) ds H := fun Ha e => by
  have hs : SqT K Ha l vs := SqT.of (e _ _ h trivial)
  have hl := hr.length
  refine ⟨fun i hi => ⟨vs, vs[i]'(by omega), hs, by simp⟩, ⟨vs, hs, by omega⟩, fun i d x Hb hd y => ?_⟩
  obtain ⟨rfl, y⟩ := y
  obtain ⟨v, h1, h2⟩ := hr.get hd
  have := (y vs hs).symm.trans h1
  cases this
  exact ⟨Ext.refl _, Rp.ext e _ _ h2⟩
theorem di_seq (h : DE X W e f) : DI X W tg e (itS f) := by
  refine ⟨fun pins s σ H Rr I hq => ?_⟩
  obtain ⟨io, env, hr, hq⟩ := hq
  let QQ : VK := fun v H1 => ∃ a, v = V.ref a ∧ ((∃ vs, FzL X.K H1 a vs ∧ Rr (Itl X.K a) H1) ∨ ∃ vs, H1 a = some (.tup vs) ∧ Rr (Itt X.K a) H1)
  refine thn (h.run pins s σ H QQ I ⟨io, env, hr, Wp.bind hq fun x v H1 q0 e1 r1 p1 h1 => ?_⟩) fun v s1 ⟨x, H1, I1, r1, q1⟩ => ?_
  · clear q0
    obtain ⟨xd, xe⟩ := x
    cases xd with
    | lst ds =>
      obtain ⟨a, vs, rfl, g1, g2⟩ := rp_lst p1
      exact ⟨a, rfl, .inl ⟨vs, g1, h1 _ H1 (EvE.refl _ _ _) r1 (wk_list g1 g2)⟩⟩
    | tup ds =>
      obtain ⟨a, vs, rfl, g1, g2⟩ := rp_tup p1
      exact ⟨a, rfl, .inr ⟨vs, g1, h1 _ H1 (EvE.refl _ _ _) r1 (wk_tup g1 g2)⟩⟩
    | _ => exact (show False from h1).elim
  · obtain ⟨a, rfl, q1⟩ := q1
    obtain rfl : v = .ref a := r1
    have new : ∀ (o : Obj), ∀ b ∈ [s1.heap.objs.size], FpOk X pins H1 b := fun o b hb => by
      have e : b = s1.heap.objs.size := by simpa using hb
      subst e
      exact I1.fpOk (Nat.le_refl _) (I1.hok.fresh (Nat.le_refl _))
    rcases q1 with ⟨vs, g1, g2⟩ | ⟨vs, g1, g2⟩
    · obtain ⟨its, rv, pl, hz⟩ := I1.list g1.sq
      refine wpAny_pyIter_list pl.isList ⟨s1.heap.objs.size, [s1.heap.objs.size], _, _, H1, rfl, ?_, turn_list a _, ⟨_, Heap.get?_push_size _ rfl, rfl, rfl⟩, ?_, g2⟩
      · exact I1.kept (t' := s1.toks) fun b o e => Heap.get?_push_of_some _ e
      · exact new pl.choose
    · obtain ⟨its, rv, pl, hz⟩ := I1.tuple (SqT.of g1)
      refine wpAny_pyIter_tuple (show s1.heap.IsTuple a its.toArray from pl) ⟨s1.heap.objs.size, [s1.heap.objs.size], _, _, H1, rfl, ?_, turn_tuple a _, ⟨_, Heap.get?_push_size _ rfl, rfl, rfl⟩, ?_, g2⟩
      · exact I1.kept (t' := s1.toks) fun b o e => Heap.get?_push_of_some _ e
      · exact new pl.choose
end

/-! ### a module's whole number, an own exception class -/
structure TopI (mg : Str → Option Value) (x : Str) (i : Int) : Prop where
  ex : ∃ t, mg x = some (.int i t)
structure TopX (K : PySem.W.Frag) (mg : Str → Option Value) (x : Str) : Prop where
  ex : ∃ C, mg x = some (.ref C) ∧ PySem.W.excIn K C [.type "ValueError", .type "Exception", .type "BaseException", .type "object"] "ValueError.__new__" = true ∧ PySem.W.keepIn K (.ref C) = true ∧
    PySem.W.subIn K (.ref C) (.type "BaseException") = some true ∧ PySem.W.typeIn K (.ref C) = some (.type "type")
theorem de_topI {X : Cx} {W : WD} {x : Str} {i : Int} {pos : Pos} (hg : Gl X x) (h : TopI X.mg x i) (hd : (x == ("__debug__" : Str)) = false := by decide) : DE X W (.Name x pos) (eC (.int i)) :=
  let ⟨t, e⟩ := h.ex; de_globI hg e ⟨t, rfl⟩ hd
/-! ### a def by one fact -/
def Cal (P : Program) (w : World) (K : PySem.W.Frag) (mg : Str → Option Value) (base : Heap) (k : Nat) (x : Str) (io fr : Bool) (n : Nat) (F : DenF) : Prop :=
  ∃ (f : Addr) (fd : FuncData) (ps : List Str), mg x = some (.ref f) ∧ PySem.W.keepIn K (.ref f) = true ∧ Binds K fd ps [] ∧ FnOk P w K mg base (L2.CX P w) k f fd ps (spD K mg io fr n F)
abbrev CalX (X : Cx) (k : Nat) (x : Str) (io fr : Bool) (n : Nat) (F : DenF) : Prop := Cal X.prog X.w X.K X.mg X.base k x io fr n F
section
variable {X : Cx} {W : WD} {k n : Nat} {F : DenF} {Fa : DenL} {x y : Str} {p pos pos' : Pos} {e : Expr} {es : List Expr}
theorem de_callC (C : CalX X k x false false n F) (hr : Room k X.A) (tk : Takes X (WT X.mg W)) (hg : Gl X x) (ha : DA X W (e :: es) Fa)
    (hdb : (x == ("__debug__" : Str)) = false := by decide) (he : starEach (e :: es) X.env = (false, eval e X.env) :: starEach es X.env := by rfl) (hpl : (backTo pos (starEach es X.env)).any (·.1) = false := by rfl) : DE X W (.Call (.Name x p) (e :: es) [] pos) (eCall n F Fa) :=
  let ⟨f, fd, ps, hm, hk, hb, G⟩ := C; de_call G hr tk hg hm hk hb ha hdb he hpl
theorem df_callC (C : CalX X k x false true n F) (hr : Room k X.A) (tk : Takes X (WT X.mg W)) (hg : Gl X x) (ha : DA X W (e :: es) Fa)
    (hdb : (x == ("__debug__" : Str)) = false := by decide) (he : starEach (e :: es) X.env = (false, eval e X.env) :: starEach es X.env := by rfl) (hpl : (backTo pos (starEach es X.env)).any (·.1) = false := by rfl) : DF X W (.Call (.Name x p) (e :: es) [] pos) (eCall n F Fa) :=
  let ⟨f, fd, ps, hm, hk, hb, G⟩ := C; df_call G hr tk hg hm hk hb ha hdb he hpl
theorem de_callOC (i : Nat) (C : CalX X k x true false n F) (hr : Room k X.A) (tk : Takes X (WT X.mg W)) (hg : Gl X x) (ha : DA X W es Fa)
    (hN : X.N[i]? = some y := by rfl) (hv : Vis X.env.scope y := by first | exact Or.inl rfl | exact Or.inr (Or.inl rfl) | exact Or.inr (Or.inr rfl)) (hd : (y == ("__debug__" : Str)) = false := by decide) (hcd : (y == ("__classdict__" : Str)) = false := by decide)
    (hdb : (x == ("__debug__" : Str)) = false := by decide) (he : starEach (.Name y pos' :: es) X.env = (false, eval (.Name y pos') X.env) :: starEach es X.env := by rfl) (hpl : (backTo pos (starEach es X.env)).any (·.1) = false := by rfl) : DE X W (.Call (.Name x p) (.Name y pos' :: es) [] pos) (eCallO i n F Fa) :=
  let ⟨f, fd, ps, hm, hk, hb, G⟩ := C; de_callO i G hr tk hg hm hk hb ha hN hv hd hcd hdb he hpl
theorem df_callOC (i : Nat) (C : CalX X k x true true n F) (hr : Room k X.A) (tk : Takes X (WT X.mg W)) (hg : Gl X x) (ha : DA X W es Fa)
    (hN : X.N[i]? = some y := by rfl) (hv : Vis X.env.scope y := by first | exact Or.inl rfl | exact Or.inr (Or.inl rfl) | exact Or.inr (Or.inr rfl)) (hd : (y == ("__debug__" : Str)) = false := by decide) (hcd : (y == ("__classdict__" : Str)) = false := by decide)
    (hdb : (x == ("__debug__" : Str)) = false := by decide) (he : starEach (.Name y pos' :: es) X.env = (false, eval (.Name y pos') X.env) :: starEach es X.env := by rfl) (hpl : (backTo pos (starEach es X.env)).any (·.1) = false := by rfl) : DF X W (.Call (.Name x p) (.Name y pos' :: es) [] pos) (eCallO i n F Fa) :=
  let ⟨f, fd, ps, hm, hk, hb, G⟩ := C; df_callO i G hr tk hg hm hk hb ha hN hv hd hcd hdb he hpl
end
theorem fnNone {P : Program} {w : World} {K : PySem.W.Frag} {mg : Str → Option Value} {base : Heap} {k : Nat} {f : Addr} {fd : FuncData} {ps : List Str} {io fr : Bool} {n : Nat} : FnOk P w K mg base (L2.CX P w) k f fd ps (spD K mg io fr n fun _ => .stk) :=
  ⟨fun vs H Q E ⟨_, ds, _, z⟩ => z.elim, fun A outer s H args us vs Q E _ _ _ _ ⟨_, ds, _, z⟩ => z.elim⟩
end DL

/-! ## DLs -/
/-! DLs: enumerate and zip over lists and tuples, reversed slices, sorted(set(..)). -/
namespace DL
open PySem PySem.Spec PyProof.Rows L2

/-! ### either kind of sequence -/
def SqB (K : PySem.W.Frag) (b : Bool) (H : Hp) (a : Addr) (xs : List V) : Prop := match b with | true => SqT K H a xs | false => SqL K H a xs
def ItB (b : Bool) (h : Heap) (it a : Addr) (i : Nat) : Prop := match b with | true => h.IsTupleIter it a i | false => h.IsListIter it a i
def HasB (b : Bool) (h : Heap) (a : Addr) (its : Array Value) : Prop := match b with | true => h.IsTuple a its | false => h.IsList a its
def bgB (b : Bool) (a : Addr) : Obj := match b with
  | true => { cls := .type "tuple_iterator", data := .fields #[.ref a, .int 0 0] }
  | false => { cls := .type "list_iterator", data := .fields #[.ref a, .int 0 0] }
theorem begins_B (b : Bool) (a : Addr) (its : Array Value) : Begins (.ref a) (bgB b a) (fun h => HasB b h a its) := by
  cases b
  · exact begins_list a its
  · exact begins_tuple a its
theorem ItB.new {b : Bool} {h : Heap} {it a : Addr} (e : h.get? it = some (bgB b a)) : ItB b h it a 0 := by
  cases b
  · exact ⟨_, e, rfl, rfl⟩
  · exact ⟨_, e, rfl, rfl⟩
theorem draws_B {prog : Program} {w : World} {A : Around} (b : Bool) (hh : A.handled = none) (it a : Addr) (hne : a ≠ it) (its : Array Value) :
    Draws prog w A it [it, a] its.size (fun i v => its[i]? = some v) (fun i h => ItB b h it a i ∧ HasB b h a its) := by
  cases b
  · exact Draws.list hh it a hne its
  · exact Draws.tuple hh it a hne its
theorem ItB.at {b : Bool} {h h' : Heap} {it a : Addr} {i : Nat} (e : ItB b h it a i) (k : ∀ o, h.get? it = some o → h'.get? it = some o) : ItB b h' it a i := by
  cases b
  · exact Heap.IsListIter.at e k
  · exact Heap.IsTupleIter.at e k
theorem ItB.obj {b : Bool} {h : Heap} {it a : Addr} {i : Nat} (e : ItB b h it a i) : ∃ o, h.get? it = some o ∧ ∀ v, o.data ≠ .cell v := by
  cases b
  · obtain ⟨o, ho, hc, hd⟩ := e
    exact ⟨o, ho, fun v q => by rw [hd] at q; cases q⟩
  · obtain ⟨o, ho, hc, hd⟩ := e
    exact ⟨o, ho, fun v q => by rw [hd] at q; cases q⟩
section
variable {X : Cx} {pins : List (Addr × Obj)} {σ : L2.St} {H : Hp} {s : Shared} {b : Bool} {a : Addr} {xs ys : List V}
theorem seqB (I : Inv X pins σ H s) (h : SqB X.K b H a xs) : ∃ its : List Value, Vals xs its ∧ HasB b s.heap a its.toArray := by
  cases b
  · obtain ⟨its, r, p, _⟩ := I.list h
    exact ⟨its, r, p.isList⟩
  · obtain ⟨its, r, p, _⟩ := I.tuple h
    exact ⟨its, r, p⟩
theorem injB (I : Inv X pins σ H s) (h : SqB X.K b H a xs) (h' : SqB X.K b H a ys) : xs = ys := by
  cases b
  · exact I.list_inj h h'
  · exact I.tuple_inj h h'
theorem HasB.lt {h : Heap} {its : Array Value} (e : HasB b h a its) : a < h.objs.size := by
  cases b
  · obtain ⟨o, ho, _⟩ := e
    exact Heap.lt_size ho
  · obtain ⟨o, ho, _⟩ := e
    exact Heap.lt_size ho
end

/-! ### enumerate -/
def IteB (K : PySem.W.Frag) (b : Bool) (a : Addr) : It :=
  ⟨fun i H => ∃ (xs : List V) (x : V), SqB K b H a xs ∧ xs[i]? = some x, fun i H v H' => ∃ T x, v = .ref T ∧ H T = none ∧ H' = upd H T (.tup [.int (i : Nat), x]) ∧ ∀ xs, SqB K b H a xs → xs[i]? = some x,
    fun i H => ∃ xs : List V, SqB K b H a xs ∧ xs.length = i⟩
theorem turn_enumB {P : Program} {w : World} {K : PySem.W.Frag} {elts : List Expr} {kk : Nat} {tpos : Pos} {b : Bool} {a e it : Addr} (hne : e ≠ it) (hae : a ≠ e) (hai : a ≠ it) :
    Turn P w K (.Tuple elts kk tpos) (IteB K b a) [e, it] e (fun i h => (∃ old, IsEnum h e it ((i : Nat) : Int) old) ∧ ItB b h it a i) where
  mem := by simp
  obj := fun i h st c hc => by
    obtain ⟨⟨old, he⟩, hi⟩ := st
    have e' : c = e ∨ c = it := by simpa using hc
    rcases e' with z | z
    · rw [z]; exact ⟨_, he, fun v q => nomatch q⟩
    · rw [z]; exact hi.obj
  keep := fun i h h' st k => let ⟨⟨old, he⟩, hi⟩ := st; ⟨⟨old, k e (by simp) _ he⟩, hi.at fun o q => k it (by simp) o q⟩
  item := by
    intro X hP hw hK hc i pins s σ H E I hf st hg
    subst hP hw hK
    obtain ⟨⟨old, he⟩, hit⟩ := st
    obtain ⟨xs, x, hq, hx⟩ := hg
    obtain ⟨its, rv, p⟩ := seqB I hq
    obtain ⟨u, hu, ru⟩ := rv.get hx
    have hh : X.A.in1.handled = none := I.ok.hd hc
    have hlt : i < its.toArray.size := by
      rw [List.size_toArray]
      exact (List.getElem?_eq_some_iff.mp hu).1
    have hel : e < s.heap.objs.size := Heap.lt_size he
    have hil : it < s.heap.objs.size := by obtain ⟨_, q, _⟩ := hit.obj; exact Heap.lt_size q
    refine wpAny_pyNext_enum_itemD (draws_B b hh it a hai its.toArray) he ⟨hit, p⟩ hlt hne (by simp [hne, Ne.symm hae]) fun x2 h' tk hP2 ho st2 hT hsz hk => ?_
    have hx2 : x2 = u := by
      have hP2 : its[i]? = some x2 := by simpa using hP2
      rw [hu] at hP2
      exact (Option.some.inj hP2).symm
    rw [hx2] at ho hT
    refine ⟨_, rfl, wpAny_letOwnedTupleGo_enum (s := { s with heap := h', toks := tk + 1 }) ho fun h'' he' sb => ?_⟩
    have hT2 : h''.get? s.heap.objs.size = some { cls := .type "tuple", data := .seq #[.int i tk, u] } := (sb.2 _ (Nat.ne_of_gt hel)).trans hT
    have new : ObjOk X.prog X.w (upd H s.heap.objs.size (.tup [.int (i : Nat), x])) h'' s.heap.objs.size (.tup [.int (i : Nat), x]) :=
      ⟨by show 2 ≤ sizeLine; decide, [.int i tk, u], .cons ⟨_, rfl⟩ (.cons ru .nil), ⟨_, hT2, rfl, _, rfl⟩⟩
    have I1 : Inv X pins σ (upd H s.heap.objs.size (.tup [.int (i : Nat), x])) { s with heap := h'', toks := tk + 1 } :=
      I.turnedNew (ch := [e, it]) (fun c ob hb q => (sb.2 c (fun z => hb (by simp [z]))).trans (hk c ob (fun z => hb (by simp [z])) (fun z => hb (by simp [z])) q)) hf (Nat.le_refl _) new
    refine ⟨.ref s.heap.objs.size, _, I1, rfl, ⟨_, x, rfl, I.hok.fresh (Nat.le_refl _), rfl, fun ys hy => by rw [injB I hy hq]; exact hx⟩, ⟨⟨u, ?_⟩, st2.1.at fun o q => (sb.2 it (Ne.symm hne)).trans q⟩, fun c hb => ?_⟩
    · have e1 : ((i + 1 : Nat) : Int) = (i : Int) + 1 := by omega
      rw [e1]; exact he'
    · have hb' : c < s.heap.objs.size := by
        have e' : c = e ∨ c = it := by simpa using hb
        rcases e' with z | z
        · rw [z]; exact hel
        · rw [z]; exact hil
      rw [upd_ne (Nat.ne_of_lt hb')]
      exact (hf c hb).1
  done := by
    intro X hP hw hK hc i pins s σ H E I hf st hg
    subst hP hw hK
    obtain ⟨⟨old, he⟩, hit⟩ := st
    obtain ⟨xs, hq, hx⟩ := hg
    obtain ⟨its, rv, p⟩ := seqB I hq
    obtain ⟨f0, f1, f2, f3, f4, f5⟩ := hf it (by simp)
    have hh : X.A.in1.handled = none := I.ok.hd hc
    have hl : its.toArray.size = i := by rw [List.size_toArray, ← rv.length, hx]
    exact wpAny_pyNext_enum_endD (draws_B b hh it a hai its.toArray) he ⟨by rw [hl]; exact hit, p⟩ fun h' eb => ⟨rfl, I.turned (t' := s.toks) (fun c o hb q => eb c o hb q) f0 f1 f3 f4 f5⟩
  self := fun A i s Q E st h => let ⟨⟨_, he⟩, _⟩ := st; wpAny_pyIter_enum he h
theorem meets_enumB {v : Value} {o : Obj} {H : Heap → Prop} (B : Begins v o H) :
    Meets (Builtin.«enumerate.__new__» ⟨[.type "enumerate", v], []⟩) (fun _ R s => H s.heap ∧
      R (.ok (.ret (.ref (s.heap.push o).objs.size))) { s with heap := (s.heap.push o).push { cls := .type "enumerate", data := .fields #[.none, .bool false, .ref s.heap.objs.size, rawInt 0, .none, .none] } }) :=
  .of_wp fun prog w A R s h => by
    obtain ⟨hp, g, d, tk, os⟩ := s; obtain ⟨h1, h⟩ := h
    have hsub := sub_enumerate
    have q1 : ∀ {A' : Around} {E : Value → Shared → Prop} {Q : Value → Shared → Prop}, Q (.ref hp.objs.size) ⟨hp.push o, g, d, tk, os⟩ → wpAny (model prog w) A' (pyIter v) Q E ⟨hp, g, d, tk, os⟩ :=
      fun q => B.iter prog w _ _ ⟨hp, g, d, tk, os⟩ _ h1 q
    wp_walk using q1
    refine wpAny_stack_any fun st => wpAny_pure ?_
    split
    · rename_i c _ _ _ _ _
      cases (c == Value.type "enumerate")
      · wp_walk using q1
        exact ⟨_, rfl, h⟩
      · wp_walk using q1
        exact ⟨_, rfl, h⟩
    · wp_walk using q1
      exact ⟨_, rfl, h⟩
theorem enum_beginsB {prog : Program} {w : World} {A : Around} {E : Value → Shared → Prop} {s : Shared} {v : Value} {o : Obj} {H : Heap → Prop} {Q : Value → Shared → Prop} (B : Begins v o H) (h1 : H s.heap)
    (h : ∀ h', IsEnum h' (s.heap.objs.size + 1) s.heap.objs.size 0 .none → h'.get? s.heap.objs.size = some o → h'.objs.size = s.heap.objs.size + 2 →
      (∀ b o, s.heap.get? b = some o → h'.get? b = some o) → Q (.ref (s.heap.objs.size + 1)) { s with heap := h' }) :
    wpAny (model prog w) A (call (.type "enumerate") [v]) Q E s := by
  refine callType_new F.called_enumerate (by decide) (F.typeCall_enumerate_1 _) (F.newCall_enumerate_1 _) (fun obj => F.args_object_init_2 obj _) F.entry_enumerate_new
    (meets_enumB B) ⟨h1, ?_⟩
  have hz : (s.heap.push o).objs.size = s.heap.objs.size + 1 := Heap.size_push ..
  show _ ∧ _
  rw [hz]
  have he : IsEnum ((s.heap.push o).push { cls := .type "enumerate", data := .fields #[.none, .bool false, .ref s.heap.objs.size, rawInt 0, .none, .none] }) (s.heap.objs.size + 1) s.heap.objs.size 0 .none := by
    have := Heap.get?_push_size (s.heap.push o) (o := { cls := .type "enumerate", data := .fields #[.none, .bool false, .ref s.heap.objs.size, rawInt 0, .none, .none] }) rfl
    rw [hz] at this; exact this
  exact ⟨⟨_, he, rfl⟩, h _ he (Heap.get?_push_of_some _ (Heap.get?_push_size _ B.free)) (by rw [Heap.size_push, hz]) fun b o x => Heap.get?_push_of_some _ (Heap.get?_push_of_some _ x)⟩
def iEnumB (K : PySem.W.Frag) (ta : TA) : TI := fun σ H R => ta σ H fun vs H1 => ∃ b a xs, vs = [.ref a] ∧ SqB K b H1 a xs ∧ R (IteB K b a) H1
theorem pi_enumB {X : Cx} {e : Expr} {ta : TA} {p pos tpos : Pos} {elts : List Expr} {kk : Nat} (hg : Gl X "enumerate") (hm : X.mg "enumerate" = none) (ha : PA X [e] ta) (hs : starEach [e] X.env = [(false, eval e X.env)] := by rfl) :
    PI X (.Tuple elts kk tpos) (.Call (.Name "enumerate" p) [e] [] pos) (iEnumB X.K ta) := by
  refine ⟨fun pins s σ H R I h => ?_⟩
  refine Call_ (ld_blt I hg hm boot_enumerate (PyProof.Rows.callWith_type1 (thn (ha.run pos pins s σ H _ I h) fun us s1 ⟨vs, H1, I1, r1, q1⟩ => ?_) hs rfl))
  obtain ⟨b, a, xs, ex, hq, q⟩ := q1
  subst ex
  cases r1 with
  | cons r rr =>
    cases rr
    cases r
    obtain ⟨its, rv, p'⟩ := seqB I1 hq
    have hal := p'.lt
    refine enum_beginsB (begins_B b a its.toArray) p' fun h' he hit hsz hk => wpAny_pyIter_enum he ?_
    have I2 : Inv X pins σ H1 { s1 with heap := h' } := I1.kept (t' := s1.toks) hk
    refine ⟨s1.heap.objs.size + 1, [s1.heap.objs.size + 1, s1.heap.objs.size], _, _, H1, rfl, I2, turn_enumB (b := b) (a := a) (Nat.succ_ne_self _) (Nat.ne_of_lt (Nat.lt_succ_of_lt hal)) (Nat.ne_of_lt hal), ⟨⟨.none, he⟩, ItB.new hit⟩, fun c hb => ?_, q⟩
    have e' : c = s1.heap.objs.size + 1 ∨ c = s1.heap.objs.size := by simpa using hb
    have hle : s1.heap.objs.size ≤ c := by
      rcases e' with z | z
      · rw [z]; exact Nat.le_add_right _ _
      · rw [z]; exact Nat.le_refl _
    exact I1.fpOk hle (I1.hok.fresh hle)

/-! ### zip of two -/
def ItzB (K : PySem.W.Frag) (b1 b2 : Bool) (a1 a2 : Addr) : It :=
  ⟨fun i H => ∃ (xs ys : List V) (x y : V), SqB K b1 H a1 xs ∧ SqB K b2 H a2 ys ∧ xs[i]? = some x ∧ ys[i]? = some y,
    fun i H v H' => ∃ T x y, v = .ref T ∧ H T = none ∧ H' = upd H T (.tup [x, y]) ∧ (∀ xs, SqB K b1 H a1 xs → xs[i]? = some x) ∧ ∀ ys, SqB K b2 H a2 ys → ys[i]? = some y,
    fun i H => ∃ xs ys : List V, SqB K b1 H a1 xs ∧ SqB K b2 H a2 ys ∧ i ≤ xs.length ∧ i ≤ ys.length ∧ (i = xs.length ∨ i = ys.length)⟩
theorem turn_zipB {P : Program} {w : World} {K : PySem.W.Frag} {elts : List Expr} {kk : Nat} {tpos : Pos} {b1 b2 : Bool} {a1 a2 z TI TO i1 i2 : Addr} (S : ZipSep2 z TI TO i1 i2 [i1, a1] [i2, a2]) (n1 : a1 ≠ i1) (n2 : a2 ≠ i2) :
    Turn P w K (.Tuple elts kk tpos) (ItzB K b1 b2 a1 a2) [z, TI, TO, i1, i2] z (fun i h => IsZip h z TI TO .none ∧ IsTupOf2 h TI (.ref i1) (.ref i2) ∧ (∃ x y, IsTupOf2 h TO x y) ∧ ItB b1 h i1 a1 i ∧ ItB b2 h i2 a2 i) where
  mem := by simp
  obj := fun i h st c hc => by
    obtain ⟨hz, hTI, ⟨x, y, hTO⟩, h1, h2⟩ := st
    have e' : c = z ∨ c = TI ∨ c = TO ∨ c = i1 ∨ c = i2 := by simpa using hc
    rcases e' with q | q | q | q | q
    · rw [q]; exact ⟨_, hz, fun v q => nomatch q⟩
    · rw [q]; exact ⟨_, hTI, fun v q => nomatch q⟩
    · rw [q]; exact ⟨_, hTO, fun v q => nomatch q⟩
    · rw [q]; exact h1.obj
    · rw [q]; exact h2.obj
  keep := fun i h h' st k => by
    obtain ⟨hz, hTI, ⟨x, y, hTO⟩, h1, h2⟩ := st
    exact ⟨k z (by simp) _ hz, k TI (by simp) _ hTI, ⟨x, y, k TO (by simp) _ hTO⟩, h1.at fun o q => k i1 (by simp) o q, h2.at fun o q => k i2 (by simp) o q⟩
  item := by
    intro X hP hw hK hc i pins s σ H E I hf st hg
    subst hP hw hK
    obtain ⟨hz, hTI, ⟨x0, y0, hTO⟩, h1, h2⟩ := st
    obtain ⟨xs, ys, x, y, hqx, hqy, hx, hy⟩ := hg
    obtain ⟨its, rv, p⟩ := seqB I hqx
    obtain ⟨its2, rv2, p2⟩ := seqB I hqy
    obtain ⟨u, hu, ru⟩ := rv.get hx
    obtain ⟨u2, hu2, ru2⟩ := rv2.get hy
    have hh : X.A.in1.handled = none := I.ok.hd hc
    have hl1 : i < its.toArray.size := by rw [List.size_toArray]; exact (List.getElem?_eq_some_iff.mp hu).1
    have hl2 : i < its2.toArray.size := by rw [List.size_toArray]; exact (List.getElem?_eq_some_iff.mp hu2).1
    have hzl : z < s.heap.objs.size := Heap.lt_size hz
    refine wpAny_pyNext_zipD2_item S (draws_B b1 hh i1 a1 n1 its.toArray) (draws_B b2 hh i2 a2 n2 its2.toArray) hz hTI hTO ⟨h1, p⟩ ⟨h2, p2⟩ hl1 hl2 fun x1 x2 h' tk e1 e2 z' TO' st1 st2 hT hsz hk => ?_
    have ex1 : x1 = u := by
      have e1 : its[i]? = some x1 := by simpa using e1
      rw [hu] at e1
      exact (Option.some.inj e1).symm
    have ex2 : x2 = u2 := by
      have e2 : its2[i]? = some x2 := by simpa using e2
      rw [hu2] at e2
      exact (Option.some.inj e2).symm
    rw [ex1, ex2] at hT TO'
    refine ⟨_, rfl, wpAny_letOwnedTupleGo_zip (s := { s with heap := h', toks := tk }) z' fun h'' z'' sb => ?_⟩
    have hT2 : h''.get? s.heap.objs.size = some { cls := .type "tuple", data := .seq #[u, u2] } := (sb.2 _ (Nat.ne_of_gt hzl)).trans hT
    have new : ObjOk X.prog X.w (upd H s.heap.objs.size (.tup [x, y])) h'' s.heap.objs.size (.tup [x, y]) :=
      ⟨by show 2 ≤ sizeLine; decide, [u, u2], .cons ru (.cons ru2 .nil), ⟨_, hT2, rfl, _, rfl⟩⟩
    have I1 : Inv X pins σ (upd H s.heap.objs.size (.tup [x, y])) { s with heap := h'', toks := tk } :=
      I.turnedNew (t' := tk) (ch := [z, TI, TO, i1, i2]) (fun c o hb q => (sb.2 c (fun q' => hb (by simp [q']))).trans (hk c o (fun q' => hb (by simp [q'])) (fun q' => hb (by simp [q'])) (fun q' => hb (by simp [q'])) (fun q' => hb (by simp [q'])) q)) hf (Nat.le_refl _) new
    refine ⟨.ref s.heap.objs.size, _, I1, rfl, ⟨_, x, y, rfl, I.hok.fresh (Nat.le_refl _), rfl, fun l hl => by rw [injB I hl hqx]; exact hx, fun l hl => by rw [injB I hl hqy]; exact hy⟩, ⟨z'', ?_, ⟨u, u2, ?_⟩, ?_, ?_⟩, fun c hcm => ?_⟩
    · exact (sb.2 _ S.TIz).trans (hk _ _ S.TIz S.TITO S.TIi1 S.TIi2 hTI)
    · exact (sb.2 _ S.TOz).trans TO'
    · exact st1.1.at fun o q => (sb.2 _ (Ne.symm S.zi1)).trans q
    · exact st2.1.at fun o q => (sb.2 _ (Ne.symm S.zi2)).trans q
    · have hlt : c < s.heap.objs.size := by
        have e' : c = z ∨ c = TI ∨ c = TO ∨ c = i1 ∨ c = i2 := by simpa using hcm
        rcases e' with q | q | q | q | q
        · rw [q]; exact hzl
        · rw [q]; exact Heap.lt_size hTI
        · rw [q]; exact Heap.lt_size hTO
        · rw [q]; obtain ⟨_, e1, _⟩ := h1.obj; exact Heap.lt_size e1
        · rw [q]; obtain ⟨_, e2, _⟩ := h2.obj; exact Heap.lt_size e2
      rw [upd_ne (Nat.ne_of_lt hlt)]
      exact (hf c hcm).1
  done := by
    intro X hP hw hK hc i pins s σ H E I hf st hg
    subst hP hw hK
    obtain ⟨hz, hTI, ⟨x0, y0, hTO⟩, h1, h2⟩ := st
    obtain ⟨xs, ys, hqx, hqy, hi1, hi2, hend⟩ := hg
    obtain ⟨its, rv, p⟩ := seqB I hqx
    obtain ⟨its2, rv2, p2⟩ := seqB I hqy
    have hh : X.A.in1.handled = none := I.ok.hd hc
    have l1 : its.toArray.size = xs.length := by rw [List.size_toArray, rv.length]
    have l2 : its2.toArray.size = ys.length := by rw [List.size_toArray, rv2.length]
    exact wpAny_pyNext_zipD2_end S (draws_B b1 hh i1 a1 n1 its.toArray) (draws_B b2 hh i2 a2 n2 its2.toArray) hz hTI hTO ⟨h1, p⟩ ⟨h2, p2⟩ (by rw [l1]; exact hi1) (by rw [l2]; exact hi2) (by rw [l1, l2]; exact hend)
      fun h' tk hk => ⟨rfl, I.turnedL (t' := tk) (ch := [z, TI, TO, i1, i2]) (fun c o hb q =>
      hk c o (fun q' => hb (by simp [q'])) (fun q' => hb (by simp [q'])) (fun q' => hb (by simp [q'])) (fun q' => hb (by simp [q'])) q) hf⟩
  self := fun A i s Q E st h => wpAny_pyIter_zip st.1 h
def iZipB (K : PySem.W.Frag) (ta : TA) : TI := fun σ H R => ta σ H fun vs H1 => ∃ b1 b2 a1 a2 xs ys, vs = [.ref a1, .ref a2] ∧ SqB K b1 H1 a1 xs ∧ SqB K b2 H1 a2 ys ∧ R (ItzB K b1 b2 a1 a2) H1
theorem pi_zipB {X : Cx} {e e2 : Expr} {ta : TA} {p pos tpos : Pos} {elts : List Expr} {kk : Nat} (hg : Gl X "zip") (hm : X.mg "zip" = none) (ha : PA X [e, e2] ta)
    (hs : starEach [e, e2] X.env = (false, eval e X.env) :: starEach [e2] X.env := by rfl) (hpl : (backTo pos (starEach [e2] X.env)).any (·.1) = false := by rfl) :
    PI X (.Tuple elts kk tpos) (.Call (.Name "zip" p) [e, e2] [] pos) (iZipB X.K ta) := by
  refine ⟨fun pins s σ H R I h => ?_⟩
  refine Call_ (ld_blt I hg hm PyProof.Rows.boot_zip (PyProof.Rows.callWith_type1 (thn (ha.run pos pins s σ H _ I h) fun us s1 ⟨vs, H1, I1, r1, q1⟩ => ?_) hs hpl))
  obtain ⟨b1, b2, a1, a2, xs, ys, ex, hqx, hqy, q⟩ := q1
  subst ex
  cases r1 with
  | cons r rr =>
    cases rr with
    | cons r' rr =>
      cases rr
      cases r
      cases r'
      obtain ⟨its, rv, p1⟩ := seqB I1 hqx
      obtain ⟨its2, rv2, p2⟩ := seqB I1 hqy
      have la := p1.lt
      have lb := p2.lt
      refine zip_begins2 (begins_B b1 a1 its.toArray) (begins_B b2 a2 its2.toArray) p1 p2 fun h' hz hTI hTO h1 h2 hsz hk => wpAny_pyIter_zip hz ?_
      have I2 : Inv X pins σ H1 { s1 with heap := h' } := I1.kept (t' := s1.toks) hk
      have S := zip_sep2 (N := s1.heap.objs.size) (fp1 := [a1]) (fp2 := [a2]) (by simpa using la) (by simpa using lb)
      refine ⟨s1.heap.objs.size + 4, [s1.heap.objs.size + 4, s1.heap.objs.size + 2, s1.heap.objs.size + 3, s1.heap.objs.size, s1.heap.objs.size + 1], _, _, H1, rfl, I2, turn_zipB (b1 := b1) (b2 := b2) S (Nat.ne_of_lt la) (Nat.ne_of_lt (Nat.lt_succ_of_lt lb)), ⟨hz, hTI, ⟨_, _, hTO⟩, ItB.new h1, ItB.new h2⟩, fun c hcm => ?_, q⟩
      have e' : c = s1.heap.objs.size + 4 ∨ c = s1.heap.objs.size + 2 ∨ c = s1.heap.objs.size + 3 ∨ c = s1.heap.objs.size ∨ c = s1.heap.objs.size + 1 := by simpa using hcm
      have hle : s1.heap.objs.size ≤ c := by
        rcases e' with z | z | z | z | z
        · rw [z]; exact Nat.le_add_right _ _
        · rw [z]; exact Nat.le_add_right _ _
        · rw [z]; exact Nat.le_add_right _ _
        · rw [z]; exact Nat.le_refl _
        · rw [z]; exact Nat.le_add_right _ _
      exact I1.fpOk hle (I1.hok.fresh hle)

/-! ### set(xs) of a list of ints -/
abbrev noSet (w : World) : Obj := { cls := .type "set", dict := none, data := .set #[] 0 (.fresh 0 0 (!w.params.followText "set-order")) }
section
variable {P : Program} {w : World} {A : Around} {E : Value → Shared → Prop} {s : Shared}
theorem call_setL {l : Addr} {its : Array Value} (ns : List Int) {Q : Value → Shared → Prop} (hh : A.handled = none) (hl : s.heap.IsList l its) (hi : IntsAre its.toList ns) (hb : ns.length + 1 < scanBound)
    (h : ∀ (h' : Heap) (tk c : Nat), SetR w h' s.heap.objs.size (fun j => decide (j ∈ ns)) c → c ≤ ns.length → (∀ b o, s.heap.get? b = some o → h'.get? b = some o) → Q (.ref s.heap.objs.size) { s with heap := h', toks := tk }) :
    wpAny (model P w) A (call (.type "set") [.ref l]) Q E s := by
  have hz : its.size = ns.length := (Array.length_toList (xs := its)).symm.trans (IntsAre.length hi)
  obtain ⟨c, tl, mro⟩ := F.called_set.mro
  have hmade := F.called_set.made
  have hsub := F.called_set.sub
  refine wpAny_call (codeAny_of_tree ?_)
  show wpAny _ _ (callAny (.type "set") _) _ _ _
  refine wpAny_pure ⟨Code.quiet_builtin _ (by decide +kernel), codeAny_builtin F.entry_type_call ?_⟩
  rw [Around.under_plain (weight_type_call_type "set" [.ref l] []) rfl]
  have h1 := F.called_set.notType
  have h2 := F.called_set.canCreate
  have h3 := F.typeCall_set_1 (.ref l)
  repeat (any_goals (first | assumption | wp_step))
  refine codeAny_mono (code_set_led1 (.ref l) (E := E) (Q₁ := fun x t => x = .ref s.heap.objs.size ∧ t = { s with heap := s.heap.push (noSet w) }) ⟨rfl, rfl⟩) fun r t hr => ?_
  cases r with
  | error e => exact hr
  | ok fl =>
    cases fl with
    | ret x =>
      obtain ⟨rfl, rfl⟩ := hr
      have gS : (s.heap.push (noSet w)).get? s.heap.objs.size = some (noSet w) := Heap.get?_push_size _ rfl
      have tS : Shared.TypeIs { s with heap := s.heap.push (noSet w) } (.ref s.heap.objs.size) "set" := ⟨_, gS, rfl⟩
      have k1 := F.called_set.init.lookup
      have k2 := F.called_set.init.bind (.ref s.heap.objs.size)
      repeat (any_goals (first | assumption | wp_step))
      refine codeAny_mono (codeAny_call_builtin (R := wants (fun r t => r = .none ∧ ∃ h' tk c, t = { s with heap := h', toks := tk } ∧ SetR w h' s.heap.objs.size (fun j => decide (j ∈ ns)) c ∧ c ≤ ns.length ∧
          (∀ b o, s.heap.get? b = some o → h'.get? b = some o)) E) F.called_set.init.plain F.entry_set_init (check_set_init_1 tS ?_)) fun r2 t2 hr2 => ?_
      · obtain ⟨⟨oc, od, oda, os⟩, ho, hc, nl, hd⟩ := hl
        simp only at hc hd
        subst hc hd
        have ho' : (s.heap.push (noSet w)).get? l = some { cls := .type "list", dict := od, data := .seq its nl, slots := os } := Heap.get?_push_of_some _ ho
        have n1 := F.sub_list_set
        have n2 := F.sub_list_frozenset
        have n3 : (Value.type "list" == Value.type "dict") = false := by decide
        have isl : (s.heap.push (noSet w)).IsList l its := ⟨_, ho', rfl, nl, rfl⟩
        unfold Builtin.«set.__init__» noKeywords Builtin.Frozenset.updateFrom
        generalize hPI : pyIter = PI
        wp_walk
        subst hPI
        refine wpAny_pyIter_list isl ?_
        refine wpAny_bind (wpAny_runValue ?_)
        have lt0 : l < s.heap.objs.size := Heap.lt_size ho
        have hh3 : A.in1.in1.in1.handled = none := by simp [hh]
        have sz1 : (s.heap.push (noSet w)).objs.size = s.heap.objs.size + 1 := Heap.size_push ..
        have ne1 : l ≠ (s.heap.push (noSet w)).objs.size := by
          rw [sz1]; exact Nat.ne_of_lt (Nat.lt_succ_of_lt lt0)
        have nf : s.heap.objs.size ∉ [(s.heap.push (noSet w)).objs.size, l] := by
          rw [sz1]
          intro z
          have z : s.heap.objs.size = s.heap.objs.size + 1 ∨ s.heap.objs.size = l := by simpa using z
          rcases z with z | z
          · exact absurd z (Nat.ne_of_lt (Nat.lt_succ_self _))
          · exact absurd z (Nat.ne_of_gt lt0)
        have hv : ∀ (i : Nat) (v : Value), its[i]? = some v → ∃ k t, ns[i]? = some k ∧ v = .int k t := fun i v hv => by
          have q : i < ns.length := by rw [← hz]; exact (Array.getElem?_eq_some_iff.mp hv).1
          obtain ⟨t, e⟩ := PyProof.Rows.IntsAre.int_at hi i v (by rw [Array.getElem?_toList]; exact hv)
          refine ⟨ns[i], t, List.getElem?_eq_getElem q, ?_⟩
          rw [e, List.getD_eq_getElem?_getD, List.getElem?_eq_getElem q] <;> rfl
        refine set_update_ints ((Walks.list hh3 _ l ne1 its).toS) s.heap.objs.size nf ns hz hb hv (its.size - 0) 0 _ (by omega) (Nat.zero_le _) ⟨⟨_, Heap.get?_push_size _ rfl, rfl, rfl⟩, (isl.push _)⟩
          ⟨0, Nat.le_refl 0, setR_new_at (Heap.get?_push_of_some _ gS)⟩ ?_
        intro t c' hm hc' hS'
        obtain ⟨h', g2, d', tk', os'⟩ := t
        have eg : g2 = s.gens := hm.gens
        have ed : d' = s.drawn := hm.drawn
        have eo : os' = s.os := hm.os
        subst eg ed eo
        show wpAny _ _ _ _ _ _
        refine wpAny_pure ?_
        show wpAny _ _ (ret Value.none) _ _ _
        rw [hz] at hc'
        refine wpAny_pure ⟨rfl, h', tk', c', rfl, hS', hc', fun b o e => ?_⟩
        have b0 : b < s.heap.objs.size := Heap.lt_size e
        refine hm.heap b o (fun z => ?_) (Heap.get?_push_of_some _ (Heap.get?_push_of_some _ e))
        rw [sz1] at z
        have z : b = s.heap.objs.size ∨ b = s.heap.objs.size + 1 := by simpa using z
        rcases z with z | z
        · exact absurd z (Nat.ne_of_lt b0)
        · exact absurd z (Nat.ne_of_lt (Nat.lt_succ_of_lt b0))
      · cases r2 with
        | error e => exact hr2
        | ok f2 =>
          cases f2 with
          | ret r =>
            obtain ⟨rfl, h', tk, c', rfl, g1, g2, g3⟩ := hr2
            repeat (any_goals (first | assumption | wp_step))
            exact h _ _ _ g1 g2 g3
          | _ => exact hr2.elim
    | _ => exact hr.elim
end

/-- sorted(set(xs)) -/
def tSortSet (K : PySem.W.Frag) (ta : TE) : TE := fun σ H Q => ta σ H fun x H1 => ∃ (l : Addr) (ns : List Int), x = .ref l ∧ SqL K H1 l (ns.map V.int) ∧ ns.length < 64 ∧
  ∀ (p : Addr) (ms : List Int), H1 p = none → ms.Pairwise (· < ·) → (∀ k : Int, k ∈ ms ↔ k ∈ ns) → Q (.ref p) (upd H1 p (.lst (ms.map V.int)))
theorem pe_sortSet {X : Cx} {a : Expr} {ta : TE} {p p2 q pos : Pos} (hg : Gl X "sorted") (hm : X.mg "sorted" = none) (hg2 : Gl X "set") (hm2 : X.mg "set" = none) (ha : PE X a ta) (hc : X.calm = true := by rfl)
    (na : starEach [a] X.env = (false, eval a X.env) :: starEach [] X.env := by rfl) : PE X (.Call (.Name "sorted" p) [.Call (.Name "set" p2) [a] [] q] [] pos) (tSortSet X.K ta) := by
  refine ⟨fun pins s σ H Q I h => ?_⟩
  unfold tSortSet at h
  refine Call_ (ld_blt I hg hm boot_sorted ?_)
  refine PyProof.Rows.callWith_builtin1 (PyProof.Rows.args_cons ?_ rfl) rfl rfl
  refine Call_ (ld_blt I hg2 hm2 boot_set ?_)
  refine PyProof.Rows.callWith_type1 (PyProof.Rows.args_cons (thn (ha.run pins s σ H _ I h) fun v s1 ⟨x, H1, I1, r1, q1⟩ => PyProof.Rows.args_nil ?_) na) na rfl
  obtain ⟨l, ns, rfl, hq, hl, q1⟩ := q1
  cases r1
  obtain ⟨its, r, pl, hz⟩ := I1.list hq
  have hi : IntsAre its.toArray.toList ns := by simpa using intsAre_of r
  have hh : X.A.handled = none := I1.ok.hd hc
  refine call_setL ns hh pl.isList hi (by unfold scanBound; omega) fun h' tk c hS hcl hk => ?_
  refine PyProof.Rows.args_nil ?_
  have I2 : Inv X pins σ H1 { s1 with heap := h', toks := tk } := I1.kept fun b o e => hk b o e
  refine sorted_set hS hh (by omega) fun s' pp out cc ms k1 k2 k3 k4 k5 k6 k7 k8 k9 => ?_
  have hlen : (ms.map V.int).length ≤ sizeLine := by rw [List.length_map, k9, sizeLine_eq]; omega
  have hn : H1 pp = none := I2.hok.fresh k4
  have J : Inv X pins σ (upd H1 pp (.lst (ms.map V.int))) { { s1 with heap := h', toks := tk } with heap := s'.heap, gens := s'.gens, drawn := s'.drawn, toks := s'.toks } :=
    I2.call (ch := []) (Un.laid k1 k4 hn) (I2.hok.laid k1 k4 ⟨hlen, out.toList, cc, vals_of_ints k6, k5⟩) (by rw [k2]; exact I2.bare) (fun _ z => nomatch z)
  have e : s' = { s1 with heap := s'.heap, gens := s'.gens, drawn := s'.drawn, toks := s'.toks } := by
    cases s'
    cases s1
    cases k3
    rfl
  rw [e]
  exact ⟨.ref pp, _, J, rfl, q1 pp ms hn k7 (fun k => (k8 k).trans (by simp))⟩

end DL

/-! ## DLt -/
/-! DLt: reversed slices, enumerate, zip, sorted(set(..)), by value. -/
namespace DL
open PySem PySem.Spec PyProof.Rows L2

def eRev (f : Den) : Den := fun env => (f env).bind fun x => match x.1 with
  | .lst ds => .ok (.lst ds.reverse, x.2)
  | .tup ds => .ok (.tup ds.reverse, x.2)
  | _ => .stk
def sqD : D → Option (List D)
  | .lst ds => some ds
  | .tup ds => some ds
  | _ => none
def enumD (ds : List D) : List D := ds.zipIdx.map fun p => D.tup [.int (p.2 : Nat), p.1]
def itEnum (F : DenL) : DenL := fun env => (F env).bind fun x => match x.1 with
  | [a] => (R.of (sqD a)).bind fun ds => .ok (enumD ds, x.2)
  | _ => .stk
def zipD (xs ys : List D) : List D := (xs.zip ys).map fun p => D.tup [p.1, p.2]
def itZip (F : DenL) : DenL := fun env => (F env).bind fun x => match x.1 with
  | [a, b] => (R.of (do let xs ← sqD a; let ys ← sqD b; some (zipD xs ys))).bind fun ds => .ok (ds, x.2)
  | _ => .stk
/-- sorted, no one twice -/
def insI (x : Int) : List Int → List Int
  | [] => [x]
  | y :: r => if x < y then x :: y :: r else if x = y then y :: r else y :: insI x r
def sortI (ns : List Int) : List Int := ns.foldr insI []
theorem insI_mem (x k : Int) : ∀ l : List Int, k ∈ insI x l ↔ k = x ∨ k ∈ l
  | [] => by simp [insI]
  | y :: r => by
    unfold insI
    split
    · simp
    · split
      · rename_i h1 h2
        subst h2
        simp
      · rw [List.mem_cons, insI_mem x k r, List.mem_cons]
        constructor
        · rintro (h | h | h)
          · exact .inr (.inl h)
          · exact .inl h
          · exact .inr (.inr h)
        · rintro (h | h | h)
          · exact .inr (.inl h)
          · exact .inl h
          · exact .inr (.inr h)
theorem insI_rising (x : Int) : ∀ l : List Int, l.Pairwise (· < ·) → (insI x l).Pairwise (· < ·)
  | [], _ => by simp [insI]
  | y :: r, h => by
    have h' := List.pairwise_cons.mp h
    unfold insI
    split
    · rename_i q
      refine List.pairwise_cons.mpr ⟨fun z hz => ?_, h⟩
      rcases List.mem_cons.mp hz with e | e
      · omega
      · have := h'.1 z e
        omega
    · split
      · exact h
      · rename_i q1 q2
        refine List.pairwise_cons.mpr ⟨fun z hz => ?_, insI_rising x r h'.2⟩
        rcases (insI_mem x z r).mp hz with e | e
        · omega
        · exact h'.1 z e
theorem sortI_mem (k : Int) : ∀ ns : List Int, k ∈ sortI ns ↔ k ∈ ns
  | [] => by simp [sortI]
  | x :: r => by
    show k ∈ insI x (sortI r) ↔ _
    rw [insI_mem, sortI_mem k r, List.mem_cons]
theorem sortI_rising : ∀ ns : List Int, (sortI ns).Pairwise (· < ·)
  | [] => List.Pairwise.nil
  | x :: r => insI_rising x _ (sortI_rising r)
theorem rising_one : ∀ {l m : List Int}, l.Pairwise (· < ·) → m.Pairwise (· < ·) → (∀ k : Int, k ∈ l ↔ k ∈ m) → l = m
  | [], [], _, _, _ => rfl
  | [], y :: m, _, _, h => absurd ((h y).mpr List.mem_cons_self) (by simp)
  | x :: l, [], _, _, h => absurd ((h x).mp List.mem_cons_self) (by simp)
  | x :: l, y :: m, hl, hm, h => by
    have a := List.pairwise_cons.mp hl
    have b := List.pairwise_cons.mp hm
    have exy : x = y := by
      rcases List.mem_cons.mp ((h x).mp List.mem_cons_self) with e | e
      · exact e
      · rcases List.mem_cons.mp ((h y).mpr List.mem_cons_self) with e2 | e2
        · exact e2.symm
        · have := a.1 y e2
          have := b.1 x e
          omega
    subst exy
    refine congrArg _ (rising_one a.2 b.2 fun k => ⟨fun hk => ?_, fun hk => ?_⟩)
    · rcases List.mem_cons.mp ((h k).mp (List.mem_cons_of_mem _ hk)) with e | e
      · have := a.1 k hk
        omega
      · exact e
    · rcases List.mem_cons.mp ((h k).mpr (List.mem_cons_of_mem _ hk)) with e | e
      · have := b.1 k hk
        omega
      · exact e
def eSortSet (f : Den) : Den := fun env => (f env).bind fun x => match x.1 with
  | .lst ds => (match asI ds with
    | some ns => if ns.length < 64 then .ok (.lst ((sortI ns).map D.int), x.2) else .stk
    | none => .stk)
  | _ => .stk

theorem enumD_get {ds : List D} {i : Nat} {d : D} (h : (enumD ds)[i]? = some d) : ∃ x, ds[i]? = some x ∧ d = .tup [.int (i : Nat), x] := by
  unfold enumD at h
  rw [List.getElem?_map, List.getElem?_zipIdx] at h
  cases q : ds[i]? with
  | none => rw [q] at h; cases h
  | some x =>
    rw [q] at h
    simp at h
    exact ⟨x, rfl, h.symm⟩
theorem enumD_len (ds : List D) : (enumD ds).length = ds.length := by
  unfold enumD
  rw [List.length_map, List.length_zipIdx]
theorem zipD_get {xs ys : List D} {i : Nat} {d : D} (h : (zipD xs ys)[i]? = some d) : ∃ x y, xs[i]? = some x ∧ ys[i]? = some y ∧ d = .tup [x, y] := by
  unfold zipD at h
  rw [List.getElem?_map] at h
  cases q : (xs.zip ys)[i]? with
  | none => rw [q] at h; cases h
  | some p =>
    rw [q] at h
    obtain ⟨h1, h2⟩ := List.getElem?_zip_eq_some.mp q
    cases h
    exact ⟨p.1, p.2, h1, h2, rfl⟩
theorem zipD_len (xs ys : List D) : (zipD xs ys).length = min xs.length ys.length := by
  unfold zipD
  rw [List.length_map, List.length_zip]
theorem rpL_one {K : PySem.W.Frag} {H : Hp} {a : D} {vs : List V} (h : RpL K H [a] vs) : ∃ v, vs = [v] ∧ Rp K H a v := by
  simp only [RpL] at h
  obtain ⟨v, w, rfl, h1, rfl⟩ := h
  exact ⟨v, rfl, h1⟩
theorem rpL_two {K : PySem.W.Frag} {H : Hp} {a b : D} {vs : List V} (h : RpL K H [a, b] vs) : ∃ v w, vs = [v, w] ∧ Rp K H a v ∧ Rp K H b w := by
  simp only [RpL] at h
  obtain ⟨v, w, rfl, h1, u, z, rfl, h2, rfl⟩ := h
  exact ⟨v, u, rfl, h1, h2⟩
/-- a sequence by value, at either kind of address -/
theorem seq_rep {K : PySem.W.Frag} {H : Hp} {d : D} {v : V} {ds : List D} (h : sqD d = some ds) (r : Rp K H d v) : ∃ b a vs, v = .ref a ∧ RpL K H ds vs ∧ ∀ Ha, FExt H Ha → SqB K b Ha a vs := by
  cases d with
  | lst xs =>
    simp only [sqD, Option.some.injEq] at h
    subst h
    obtain ⟨a, vs, rfl, g1, g2⟩ := rp_lst r
    exact ⟨false, a, vs, rfl, g2, fun Ha e => (g1.ext e).sq⟩
  | tup xs =>
    simp only [sqD, Option.some.injEq] at h
    subst h
    obtain ⟨a, vs, rfl, g1, g2⟩ := rp_tup r
    exact ⟨true, a, vs, rfl, g2, fun Ha e => SqT.of (e _ _ g1 trivial)⟩
  | _ => simp [sqD] at h
theorem sqB_one {K : PySem.W.Frag} {b : Bool} {H : Hp} {a : Addr} {xs ys : List V} {i : Nat} {x : V} (h : SqB K b H a xs) (k : ∀ xs, SqB K b H a xs → xs[i]? = some x) : xs[i]? = some x := k _ h
theorem rp_pair {K : PySem.W.Frag} {H : Hp} {T : Addr} {a b : D} {x y : V} (hT : H T = none) (ra : Rp K H a x) (rb : Rp K H b y) : Ext H (upd H T (.tup [x, y])) ∧ Rp K (upd H T (.tup [x, y])) (.tup [a, b]) (.ref T) := by
  have e : Ext H (upd H T (.tup [x, y])) := Ext.new hT
  refine ⟨e, ?_⟩
  simp only [Rp]
  exact ⟨T, _, rfl, upd_same, RpL.cons (Rp.ext e.fx _ _ ra) (RpL.cons (Rp.ext e.fx _ _ rb) RpL.nil)⟩
section
variable {X : Cx} {W : WD} {e : Expr} {es elts : List Expr} {f : Den} {F : DenL} {k kk : Nat} {p p1 p2 p3 pos pos' tpos : Pos}
theorem wk_enum {K : PySem.W.Frag} {H : Hp} {b : Bool} {a : Addr} {ds : List D} {vs : List V} (hs : ∀ Ha, FExt H Ha → SqB K b Ha a vs) (hr : RpL K H ds vs) : Wk K (IteB K b a) (enumD ds) H := fun Ha e => by
  have hq := hs Ha e
  have hl := hr.length
  rw [enumD_len]
  refine ⟨fun i hi => ⟨vs, vs[i]'(by omega), hq, by simp⟩, ⟨vs, hq, hl⟩, fun i d x Hb hd y => ?_⟩
  obtain ⟨T, x0, rfl, hT, rfl, g⟩ := y
  obtain ⟨d0, h0, rfl⟩ := enumD_get hd
  obtain ⟨v, h1, h2⟩ := hr.get h0
  have := (g vs hq).symm.trans h1
  cases this
  exact rp_pair hT (by simp [Rp]) (Rp.ext e _ _ h2)
theorem di_enum (hg : Gl X "enumerate") (hm : X.mg "enumerate" = none) (ha : DA X W [e] F) (hs : starEach [e] X.env = [(false, eval e X.env)] := by rfl) : DI X W (.Tuple elts kk tpos) (.Call (.Name "enumerate" p) [e] [] pos) (itEnum F) := by
  refine pi_imp (pi_enumB hg hm ha hs) fun σ H Q hq => ?_
  obtain ⟨io, env, hr, hq⟩ := hq
  refine ⟨io, env, hr, Wp.bind hq fun x vs H1 q0 e1 r1 p1 h1 => ?_⟩
  clear q0
  obtain ⟨xd, xe⟩ := x
  dsimp only at h1 p1
  split at h1
  · rename_i a
    obtain ⟨v, rfl, pv⟩ := rpL_one p1
    cases q : sqD a with
    | none => rw [q] at h1; exact (show False from h1).elim
    | some ds =>
      rw [q] at h1
      obtain ⟨b, l, ws, rfl, g1, g2⟩ := seq_rep q pv
      exact ⟨b, l, ws, rfl, g2 _ (FExt.refl _), h1 _ H1 (EvE.refl _ _ _) r1 (wk_enum g2 g1)⟩
  · exact (show False from h1).elim
theorem wk_zip {K : PySem.W.Frag} {H : Hp} {b1 b2 : Bool} {a1 a2 : Addr} {ds1 ds2 : List D} {vs1 vs2 : List V} (hs1 : ∀ Ha, FExt H Ha → SqB K b1 Ha a1 vs1) (hr1 : RpL K H ds1 vs1) (hs2 : ∀ Ha, FExt H Ha → SqB K b2 Ha a2 vs2) (hr2 : RpL K H ds2 vs2) :
    Wk K (ItzB K b1 b2 a1 a2) (zipD ds1 ds2) H := fun Ha e => by
  have q1 := hs1 Ha e
  have q2 := hs2 Ha e
  have l1 := hr1.length
  have l2 := hr2.length
  rw [zipD_len]
  refine ⟨fun i hi => ⟨vs1, vs2, vs1[i]'(by omega), vs2[i]'(by omega), q1, q2, by simp, by simp⟩, ⟨vs1, vs2, q1, q2, by omega, by omega, by omega⟩, fun i d x Hb hd y => ?_⟩
  obtain ⟨T, x0, y0, rfl, hT, rfl, g1, g2⟩ := y
  obtain ⟨d1, d2, h1, h2, rfl⟩ := zipD_get hd
  obtain ⟨v1, e1, e2⟩ := hr1.get h1
  obtain ⟨v2, e3, e4⟩ := hr2.get h2
  have := (g1 vs1 q1).symm.trans e1
  cases this
  have := (g2 vs2 q2).symm.trans e3
  cases this
  exact rp_pair hT (Rp.ext e _ _ e2) (Rp.ext e _ _ e4)
theorem di_zip {a b : Expr} (hg : Gl X "zip") (hm : X.mg "zip" = none) (ha : DA X W [a, b] F) (hs : starEach [a, b] X.env = (false, eval a X.env) :: starEach [b] X.env := by rfl) (hpl : (backTo pos (starEach [b] X.env)).any (·.1) = false := by rfl) :
    DI X W (.Tuple elts kk tpos) (.Call (.Name "zip" p) [a, b] [] pos) (itZip F) := by
  refine pi_imp (pi_zipB hg hm ha hs hpl) fun σ H Q hq => ?_
  obtain ⟨io, env, hr, hq⟩ := hq
  refine ⟨io, env, hr, Wp.bind hq fun x vs H1 q0 e1 r1 p1 h1 => ?_⟩
  clear q0
  obtain ⟨xd, xe⟩ := x
  dsimp only at h1 p1
  split at h1
  · rename_i a b
    obtain ⟨v1, v2, rfl, pa, pb⟩ := rpL_two p1
    cases q1 : sqD a with
    | none => rw [q1] at h1; exact (show False from h1).elim
    | some xs =>
      cases q2 : sqD b with
      | none => rw [q1, q2] at h1; exact (show False from h1).elim
      | some ys =>
        rw [q1, q2] at h1
        obtain ⟨b1, a1, ws1, rfl, g1, g2⟩ := seq_rep q1 pa
        obtain ⟨b2, a2, ws2, rfl, g3, g4⟩ := seq_rep q2 pb
        exact ⟨b1, b2, a1, a2, ws1, ws2, rfl, g2 _ (FExt.refl _), g4 _ (FExt.refl _), h1 _ H1 (EvE.refl _ _ _) r1 (wk_zip g2 g1 g4 g3)⟩
  · exact (show False from h1).elim

/-! ### the other way round -/
theorem revPick (its : Array Value) : ((List.range its.size).filterMap fun (m : Nat) => its[(((its.size : Int) - 1) + (m : Int) * (-1)).toNat]?).toArray = its.toList.reverse.toArray := by
  have e : (List.range its.size).filterMap (fun (m : Nat) => its[(((its.size : Int) - 1) + (m : Int) * (-1)).toNat]?) = ((List.range its.size).map fun k => its.size - 1 - k).filterMap (its[·]?) := by
    rw [List.filterMap_map]
    refine congrArg (fun g => List.filterMap g (List.range its.size)) (funext fun m => ?_)
    have e1 : (((its.size : Int) - 1) + (m : Int) * (-1)).toNat = its.size - 1 - m := by omega
    show its[(((its.size : Int) - 1) + (m : Int) * (-1)).toNat]? = its[its.size - 1 - m]?
    rw [e1]
  rw [e, PySem.W.krv_range, List.filterMap_reverse, PySem.W.krv_all]
theorem revPlaces (n : Nat) : Builtin.Slice.slicePlaces ((n : Int) - 1) (-1) (-1) = n := by
  unfold Builtin.Slice.slicePlaces
  have h1 : ¬ ((-1 : Int) > 0) := by decide
  rw [if_neg h1]
  by_cases h : (n : Int) - 1 > -1
  · rw [if_pos h, show (- -1 : Int) = 1 by decide, Int.ediv_one]
    omega
  · rw [if_neg h]
    omega
section
variable {prog : Program} {w : World} {A : Around} {E : Value → Shared → Prop} {s : Shared}
theorem applied_rev {sl : Addr} {vl vu vk : Value} {n : Nat} {Q : Int × Int × Nat → Shared → Prop} (hs : s.heap.IsSliceOf sl vl vu vk) (pl : IsPart vl none) (pu : IsPart vu none) (pk : IsPart vk (some (-1)))
    (h : Q ((n : Int) - 1, -1, n) s) : wpAny (model prog w) A (Builtin.Slice.sliceApplied (.ref sl) (pure (n : Int))) Q E s := by
  obtain ⟨os, hos, hcs, hds⟩ := id hs
  unfold Builtin.Slice.sliceApplied Builtin.Slice.sliceFields
  refine wpAny_bind (wpAny_bind (wpAny_field hos hds (x := vl) rfl (wpAny_bind (wpAny_field hos hds (x := vu) rfl (wpAny_bind (wpAny_field hos hds (x := vk) rfl (wpAny_pure ?_)))))))
  refine wpAny_bind (HT.slicePart_ pk ?_)
  show wpAny _ _ (if ((-1 : Int) == 0) = true then _ else _) _ _ s
  rw [if_neg (by decide)]
  refine wpAny_bind (HT.slicePart_ pl (wpAny_bind (HT.slicePart_ pu (wpAny_bind (wpAny_pure ?_)))))
  show wpAny _ _ (pure ((n : Int) - 1, (-1 : Int), Builtin.Slice.slicePlaces ((n : Int) - 1) (-1) (-1))) _ _ s
  rw [revPlaces]
  exact wpAny_pure h
theorem getItem_tuple_rev {t sl : Addr} {its : Array Value} {vl vu vk : Value} {Q : Value → Shared → Prop} (ht : IsTup s.heap t its) (hs : s.heap.IsSliceOf sl vl vu vk) (pl : IsPart vl none) (pu : IsPart vu none) (pk : IsPart vk (some (-1)))
    (h : Q (.ref s.heap.objs.size) { s with heap := s.heap.push { cls := .type "tuple", data := .seq its.toList.reverse.toArray } }) (hz : its.size ≤ sizeLine) : wpAny (model prog w) A (getItem (.ref t) (.ref sl)) Q E s := by
  have hz2 : sizeOk (.seq its.toList.reverse.toArray) := by
    show its.toList.reverse.toArray.size ≤ sizeLine
    rw [List.size_toArray, List.length_reverse, Array.length_toList]
    exact hz
  obtain ⟨os, hos, hcs, hds⟩ := id hs
  have tS : s.TypeIs (.ref sl) "slice" := ⟨os, hos, hcs⟩
  unfold getItem
  try with_reducible refine wpAny_holding ?_
  first | refine wpAny_bind (wpAny_pure ?_) | skip
  refine wpAny_bind (wpAny_sequenceKey ht.typeIs (by decide) ?_)
  refine wpAny_bind (wpAny_callSpecial?_slot (name := Str.ofString "__getitem__") ht.typeIs PyProof.Rows.slot_tuple_getitem
    (wpAny_call_entry PyProof.Rows.slot_tuple_getitem ht.typeIs PyProof.Rows.entry_tuple_getitem ?_ (PyProof.Rows.args_tuple_getitem _ _)))
  show wpAny _ _ (Builtin.Tuple.tupleItemsOf (.ref t) >>= _) _ _ s
  refine wpAny_bind (PyProof.Rows.tupleItemsOf_ ht ?_)
  refine wpAny_bind (wpAny_typeOf tS ?_)
  rw [if_pos (by decide)]
  refine wpAny_bind (applied_rev hs pl pu pk ?_)
  have no : ¬ ((((its.size : Int) - 1) == 0 && (-1 : Int) == 1 && its.size == its.size) = true) := by
    intro q
    rw [Bool.and_eq_true, Bool.and_eq_true] at q
    exact absurd q.1.2 (by decide)
  show wpAny _ _ (if (((its.size : Int) - 1) == 0 && (-1 : Int) == 1 && its.size == its.size) = true then _ else _) _ _ s
  rw [if_neg no, revPick]
  first
    | exact wpAny_bind (m := Builtin.Tuple.tupleExact _) (wpAny_newObj_type (wpAny_pure ⟨_, rfl, wpAny_pure h⟩) hz2)
    | exact wpAny_bind (m := Builtin.Tuple.tupleExact _) (wpAny_newObj_type (wpAny_bind (wpAny_pure (wpAny_pure ⟨_, rfl, wpAny_pure h⟩))) hz2)
    | exact wpAny_bind (wpAny_bind (m := Builtin.Tuple.tupleExact _) (wpAny_newObj_type (wpAny_pure (wpAny_pure ⟨_, rfl, wpAny_pure h⟩)) hz2))
    | exact wpAny_bind (wpAny_bind (m := Builtin.Tuple.tupleExact _) (wpAny_newObj_type (wpAny_pure ⟨_, rfl, wpAny_pure h⟩) hz2))
end
def tRevB (K : PySem.W.Frag) (te : TE) : TE := fun σ H Q => te σ H fun x H1 => ∃ a xs, x = .ref a ∧ ((SqL K H1 a xs ∧ ∀ p, H1 p = none → Q (.ref p) (upd H1 p (.lst xs.reverse))) ∨ (SqT K H1 a xs ∧ ∀ p, H1 p = none → Q (.ref p) (upd H1 p (.tup xs.reverse))))
theorem pe_revB {te : TE} (he : PE X e te) : PE X (.Subscript e (.Slice none none (some (.UnaryOp .USub (.Constant (.int 1) k p1) p2)) p3) pos) (tRevB X.K te) := by
  refine ⟨fun pins s σ H Q I h => ?_⟩
  unfold tRevB at h
  refine Subscript_ (thn (he.run pins s σ H _ I h) fun v s1 ⟨x, H1, I1, r1, q1⟩ => ?_)
  obtain ⟨a, xs, ex, q⟩ := q1
  subst ex
  cases r1
  have hst : PO X (some (.UnaryOp .USub (.Constant (.int 1) k p1) p2)) (tPart (tUn (rU fun i => .int (-i)) (tC (.int 1)))) := po_some (pe_un un_neg pe_int)
  refine wpAny_Slice (thn (po_none.run pins s1 σ H1 (fun o H2 => o = none ∧ H2 = H1) I1 ⟨rfl, rfl⟩) fun vl s2 ⟨l, H2, I2, pl, el, e2⟩ => ?_)
  subst el e2
  refine thn (po_none.run pins s2 σ H2 (fun o H3 => o = none ∧ H3 = H2) I2 ⟨rfl, rfl⟩) fun vu s3 ⟨u, H3, I3, pu, eu, e3⟩ => ?_
  subst eu e3
  refine thn (hst.run pins s3 σ H3 (fun o H4 => o = some (-1) ∧ H4 = H3) I3 ⟨1, rfl, -1, rfl, rfl, rfl⟩) fun vs s4 ⟨o, H4, I4, ps, eo, e4⟩ => ?_
  subst eo e4
  have I5 : Inv X pins σ H4 { s4 with heap := s4.heap.push { cls := .type "slice", data := .fields #[vl, vu, vs] } } := I4.kept (t' := s4.toks) fun b ob q => Heap.get?_push_of_some _ q
  have hS := Heap.IsSliceOf.new s4.heap vl vu vs
  show wpAny (model X.prog X.w) X.A (subscriptTail e (.Slice none none (some (.UnaryOp .USub (.Constant (.int 1) k p1) p2)) p3) (.ref a) (.ref s4.heap.objs.size)) (EP X pins σ Q) X.xe { s4 with heap := s4.heap.push { cls := .type "slice", data := .fields #[vl, vu, vs] } }
  rcases q with ⟨hx, q⟩ | ⟨hx, q⟩
  · obtain ⟨its, r, ht, hz⟩ := I5.list hx
    have hlen := r.length
    refine tail_any (ops := [.ref a, .ref s4.heap.objs.size]) ht.isList.typeIs (PySem.slot_list_getitem.lookup) ?_ (by with_unfolding_all rfl)
    refine wpAny_getItem_list_slice ht.isList hS pl pu ps (by decide) ?_ (by rw [List.size_toArray]; omega)
    rw [PySem.W.krv_pick]
    refine ⟨.ref _, _, I5.laid (t' := s4.toks) (o := .lst xs.reverse) (fun b ob q => Heap.get?_push_of_some _ q) (Nat.le_refl _) ?_, rfl, q _ (I5.hok.fresh (Nat.le_refl _))⟩
    exact ⟨by rw [List.length_reverse]; exact hz, _, 0, r.reverse, Heap.get?_push_size _ rfl⟩
  · obtain ⟨its, r, ht, hz⟩ := I5.tuple hx
    have hlen := r.length
    refine tail_any (ops := [.ref a, .ref s4.heap.objs.size]) ht.typeIs (PyProof.Rows.slot_tuple_getitem.lookup) ?_ (by with_unfolding_all rfl)
    refine getItem_tuple_rev ht hS pl pu ps ?_ (by rw [List.size_toArray]; omega)
    refine ⟨.ref _, _, I5.laid (t' := s4.toks) (o := .tup xs.reverse) (fun b ob q => Heap.get?_push_of_some _ q) (Nat.le_refl _) ?_, rfl, q _ (I5.hok.fresh (Nat.le_refl _))⟩
    exact ⟨by rw [List.length_reverse]; exact hz, _, r.reverse, IsTup.new _ _⟩
theorem dm_rev (he : DE X W e f) : DM X W (.Subscript e (.Slice none none (some (.UnaryOp .USub (.Constant (.int 1) k p1) p2)) p3) pos) (eRev f) := by
  refine pe_imp (pe_revB he) fun σ H Q hq => ?_
  obtain ⟨io, env, hr, hq⟩ := hq
  refine ⟨io, env, hr, Wp.bind hq fun x v H1 q0 e1 r1 p1 h1 => ?_⟩
  clear q0
  obtain ⟨xd, xe⟩ := x
  dsimp only at h1 p1
  cases xd with
  | lst ds =>
    obtain ⟨a, vs, rfl, g1, g2⟩ := rp_lst p1
    exact ⟨a, vs, rfl, .inl ⟨g1.sq, fun q nq => h1 _ _ (EvE.ext (Ext.new nq)) (r1.ext (Ext.new nq)) (.inr ⟨q, rfl, free_back e1.dom nq, .lst _, upd_same, RpL.ext (Ext.new nq).fx _ _ g2.reverse⟩)⟩⟩
  | tup ds =>
    obtain ⟨a, vs, rfl, g1, g2⟩ := rp_tup p1
    refine ⟨a, vs, rfl, .inr ⟨SqT.of g1, fun q nq => h1 _ _ (EvE.ext (Ext.new nq)) (r1.ext (Ext.new nq)) (.inl ?_)⟩⟩
    simp only [Rp]
    exact ⟨q, _, rfl, upd_same, RpL.ext (Ext.new nq).fx _ _ g2.reverse⟩
  | _ => exact (show False from h1).elim
theorem df_sortset (hg : Gl X "sorted") (hm : X.mg "sorted" = none) (hg2 : Gl X "set") (hm2 : X.mg "set" = none) (he : DE X W e f) (hc : X.calm = true := by rfl) (na : starEach [e] X.env = (false, eval e X.env) :: starEach [] X.env := by rfl) :
    DF X W (.Call (.Name "sorted" p) [.Call (.Name "set" p2) [e] [] p3] [] pos) (eSortSet f) := by
  refine pe_imp (pe_sortSet hg hm hg2 hm2 he hc na) fun σ H Q hq => ?_
  obtain ⟨io, env, hr, hq⟩ := hq
  refine ⟨io, env, hr, Wp.bind hq fun x v H1 q0 e1 r1 p1 h1 => ?_⟩
  clear q0
  obtain ⟨xd, xe⟩ := x
  dsimp only at h1 p1
  split at h1
  · rename_i ds
    split at h1
    · rename_i ns hn
      split at h1
      · rename_i hl
        obtain ⟨l, vs, rfl, g1, g2⟩ := rp_lst p1
        rw [asI_some hn] at g2
        have ev := RpL.ints g2
        subst ev
        refine ⟨l, ns, rfl, g1.sq, hl, fun q ms nq r1' r2' => ?_⟩
        have ems : ms = sortI ns := rising_one r1' (sortI_rising ns) fun k => (r2' k).trans (sortI_mem k ns).symm
        subst ems
        exact h1 _ _ (EvE.ext (Ext.new nq)) (r1.ext (Ext.new nq)) ⟨q, rfl, free_back e1.dom nq, .lst _, upd_same, RpL.of_ints _⟩
      · exact (show False from h1).elim
    · exact (show False from h1).elim
  · exact (show False from h1).elim
end
end DL

/-! ## DLu -/
/-! DLu: what the head needs. -/
namespace DL
open PySem PySem.Spec PyProof.Rows L2
section
variable {K : PySem.W.Frag}
theorem fun_of {x q : Str} {st : Stmt} {f : Addr} {fd : FuncData} (F : FunD K x q (defArgs st) (defBody st) (defScope st) [] [] f fd) : Fun K x q st f fd := by
  obtain ⟨oc, od, dV, kV, doc, pm, an, cdv, ct, osl, e, lk, hc, hD, hK⟩ := F.ex
  rcases hD with ⟨_, rfl⟩ | ⟨z, _⟩
  · exact ⟨⟨oc, od, kV, doc, pm, an, cdv, ct, osl, e, lk, hc⟩, F.kp⟩
  · exact absurd rfl z
end
/-- the law's promise at a script of whole numbers -/
theorem spD_law {K : PySem.W.Frag} {mg : Str → Option Value} {F : DenF} {H : Hp} {a : Addr} {ns : List Int} (hO : Only H) (hS : SqL K H a (ns.map V.int)) (hF : ∃ d, F [.lst (ns.map D.int)] = .ok (.bl true, d)) :
    spD K mg false false 1 F [.ref a] H (fun v _ => v = .bl true) fun _ _ _ => False := by
  obtain ⟨d, hF⟩ := hF
  have fz : FzL K H a (ns.map V.int) := by
    rcases hS with (h | h) | h
    · rcases hO a with z | ⟨o, xs, z⟩
      · rw [z] at h; cases h
      · rw [z] at h; cases h
    · exact .inl h
    · exact .inr h
  refine ⟨rfl, [.lst (ns.map D.int)], ?_, ?_⟩
  · show RpL K H [.lst (ns.map D.int)] [.ref a]
    refine RpL.cons ?_ RpL.nil
    simp only [Rp]
    exact ⟨a, _, rfl, fz, RpL.of_ints ns⟩
  · rw [hF]
    intro v H' _ _ r
    rw [if_neg (by decide)] at r
    simpa [Rp] using r
theorem walk_W {l : PySem.W.OpenLaw} {n k : Nat} {q : Program} {loose : List Str} {XP : (Str → Option Value) → Heap → Prop} {YP : World → Heap → Prop} {d : DefRec} {x : Str}
    (hn : l.most = some n) (hn2 : n ≤ sizeLine) (hdf : d.params.defaults = []) (hr : Room k callerA)
    (F : ∀ (w : World) (mg : Str → Option Value) (fa : Addr) (h : Heap), YP w h → h.Ns mainGlobals mg → mg d.name = some (.ref fa) →
      ∃ (K : PySem.W.Frag) (fd : FuncData) (sp : Sp), K.In h ∧ (∀ (s : Shared) (u : Value), BindsTo s fd ⟨[u], []⟩ [(x, u)]) ∧
        (∀ (H : Hp) (a : Addr) (ns : List Int), ns.length ≤ n → Only H → SqL K H a (ns.map V.int) → sp [.ref a] H (fun v _ => v = .bl true) fun _ _ _ => False) ∧
        ∀ base : Heap, K.In base → base.Ns mainGlobals mg → FnOk l.prog w K mg base (L2.CX l.prog w) k fa fd [x] sp) :
    PySem.W.WalkO q loose XP YP l.row.toRowW d [] (fun f vs => PySem.call f vs) := by
  refine Att.attach_call hn hdf fun w s₀ s₁ mg mb fa o pm cd doc a vs ns G Y ho hd hcd hmg hobj hints hlen hg => ?_
  obtain ⟨K, fd, sp, KX, hb, hsp, hF⟩ := F w mg fa _ Y G.T.g hmg
  refine law_call KX G.T.g G.T.b G.T.builtins G.T.nolimit hg hobj hints (Nat.le_trans hlen hn2) hr hF hb (fun H hO hS => hsp H a ns hlen hO hS) fun H e s' h => ?_
  obtain ⟨_, _, _, _, _, _, _, _, _, _, _, _, z⟩ := h
  exact z
end DL

/-! ## DLv -/
/-! DLv: plain evaluation of the functions. -/
namespace DL
open PySem PySem.Spec PyProof.Rows L2
section
variable {f g fa fb fc fi fv : Den} {F Fa : DenL} {t u : DenT} {env : En} {i j n : Nat} {d : D} {s1 s2 : DenS}
@[simp] theorem v_var : eVar i env = (match env[i]? with | some (.val d) => .ok (d, env) | _ => .stk) := rfl
@[simp] theorem v_c : eC d env = .ok (d, env) := rfl
@[simp] theorem v_e2 {p} : e2 p fa fb env = (fa env).bind fun x => (fb x.2).bind fun y => (R.of (p x.1 y.1)).bind fun d => .ok (d, y.2) := rfl
@[simp] theorem v_e1 {p} : e1 p fa env = (fa env).bind fun x => (R.of (p x.1)).bind fun d => .ok (d, x.2) := rfl
@[simp] theorem v_eN {p} : eN p F env = (F env).bind fun x => (R.of (p x.1)).bind fun d => .ok (d, x.2) := rfl
@[simp] theorem v_nil : aNil env = .ok ([], env) := rfl
@[simp] theorem v_cons : aCons f F env = (f env).bind fun x => (F x.2).bind fun y => .ok (x.1 :: y.1, y.2) := rfl
@[simp] theorem v_tst : tst f env = (f env).bind fun p => match p.1 with | .bl b => .ok (b, p.2) | _ => .stk := rfl
@[simp] theorem v_tand : tAndD t u env = (t env).bind fun x => if x.1 then u x.2 else .ok (false, x.2) := rfl
@[simp] theorem v_tor : tOrD t u env = (t env).bind fun x => if x.1 then .ok (true, x.2) else u x.2 := rfl
@[simp] theorem v_tnot : tNotD t env = (t env).bind fun x => .ok (!x.1, x.2) := rfl
@[simp] theorem v_eand : eAnd f g env = (f env).bind fun x => match x.1 with | .bl true => g x.2 | .bl false => .ok (.bl false, x.2) | _ => .stk := rfl
@[simp] theorem v_enot : eNot f env = (f env).bind fun x => match x.1 with | .bl b => .ok (.bl (!b), x.2) | _ => .stk := rfl
@[simp] theorem v_eif : eIf t f g env = (t env).bind fun x => if x.1 then f x.2 else g x.2 := rfl
@[simp] theorem v_chain {p q} : eChain p q fa fb fc env = (fa env).bind fun x => (fb x.2).bind fun y => (R.of (p x.1 y.1)).bind fun d => match d with | .bl true => (fc y.2).bind fun z => (R.of (q y.1 z.1)).bind fun d => .ok (d, z.2) | .bl false => .ok (.bl false, y.2) | _ => .stk := rfl
@[simp] theorem v_lock : eLock i f env = (match env[i]? with | some (.own d) => (f (env.set i (.val d))).bind fun p => if p.1.flat && offF p.2 then .ok (p.1, p.2.set i (.own d)) else .stk | _ => .stk) := rfl
@[simp] theorem v_flock : fLock i f env = (match env[i]? with | some (.own d) => (f (env.set i (.val d))).bind fun p => if p.1.ff && offF p.2 then .ok (p.1, p.2.set i (.own d)) else .stk | _ => .stk) := rfl
@[simp] theorem v_seq : sSeq s1 s2 env = (s1 env).bind fun x => match x.1 with | .nx => s2 x.2 | o => .ok (o, x.2) := rfl
@[simp] theorem v_nx : sNx env = .ok (.nx, env) := rfl
@[simp] theorem v_set : sSet i f env = (f env).bind fun x => (R.of (putV i x.1 x.2)).bind fun e => .ok (.nx, e) := rfl
@[simp] theorem v_putV : putV i d env = if notMy env i then some (env.set i (.val d)) else none := rfl
def Sl.free : Sl → Bool
  | .own _ => false
  | _ => true
@[simp] theorem v_notMy : notMy env i = (match env[i]? with | some s => s.free | none => false) := by
  unfold notMy
  cases env[i]? with
  | none => rfl
  | some s => cases s <;> rfl
@[simp] theorem free_no : Sl.free .no = true := rfl
@[simp] theorem free_val : Sl.free (.val d) = true := rfl
@[simp] theorem free_own : Sl.free (.own d) = false := rfl
@[simp] theorem v_own : sOwn i f env = (f env).bind fun x => (R.of (putO i x.1 x.2)).bind fun e => .ok (.nx, e) := rfl
@[simp] theorem v_putO : putO i d env = if d.fl && decide (i < env.length) then some (env.set i (.own d)) else none := rfl
@[simp] theorem v_exp : sExp f env = (f env).bind fun x => .ok (.nx, x.2) := rfl
@[simp] theorem v_ret : sRet f env = (f env).bind fun x => .ok (.ret x.1, x.2) := rfl
@[simp] theorem v_if : sIf t s1 s2 env = (t env).bind fun x => if x.1 then s1 x.2 else s2 x.2 := rfl
@[simp] theorem v_call {G : DenF} : eCall n G Fa env = (Fa env).bind fun x => if x.1.length = n then (G x.1).bind fun r => .ok (r.1, x.2) else .stk := rfl
@[simp] theorem v_callO {G : DenF} : eCallO i n G Fa env = (match env[i]? with | some (.own _) => (Fa env).bind fun x => (match x.2[i]? with | some (.own d) => if x.1.length + 1 = n then (G (d :: x.1)).bind fun r => .ok (r.1, x.2.set i (.own r.2)) else .stk | _ => .stk) | _ => .stk) := rfl
@[simp] theorem v_put : sPut i fi fv env = (fv env).bind fun x => if isOwn x.2 i then (fi x.2).bind fun k => (match k.1 with
    | .int j => (R.of (chL i (fun ds => (ixN ds.length j).map fun m => ds.set m x.1) k.2)).bind fun e => .ok (.nx, e)
    | _ => .stk) else .stk := rfl
@[simp] theorem v_ixO : eIxO i fi env = if isOwn env i then (fi env).bind fun k => (match k.1, k.2[i]? with
    | .int j, some (.own (.lst ds)) => (R.of (atI ds j)).bind fun d => .ok (d, k.2)
    | _, _ => .stk) else .stk := rfl
@[simp] theorem v_isOwn : isOwn env i = (match env[i]? with | some (.own (.lst _)) => true | _ => false) := rfl
@[simp] theorem v_chL {g : List D → Option (List D)} : chL i g env = (match env[i]? with | some (.own (.lst ds)) => (g ds).map fun es => env.set i (.own (.lst es)) | _ => none) := rfl
@[simp] theorem v_fz : sFz i env = (match env[i]? with | some (.own d) => .ok (.nx, env.set i (.val d)) | _ => .ok (.nx, env)) := rfl
@[simp] theorem v_app : sApp i f env = if isOwn env i then (f env).bind fun x => (R.of (chL i (fun ds => if decide (ds.length < big) then some (ds ++ [x.1]) else none) x.2)).bind fun e => .ok (.nx, e) else .stk := rfl
@[simp] theorem v_tup : eTup F env = (F env).bind fun x => (R.of ((short x.1).map D.tup)).bind fun d => .ok (d, x.2) := rfl
@[simp] theorem v_lst : fLst F env = (F env).bind fun x => (R.of ((short x.1).map D.lst)).bind fun d => .ok (d, x.2) := rfl
@[simp] theorem outE_false : outE false env = .non := by
  unfold outE
  split <;> rfl
@[simp] theorem outE_true : outE true env = (match env[0]? with | some (Sl.own d) => d | _ => .non) := rfl
theorem v_run {io fr : Bool} {k : Nat} {body : DenS} {ds : List D} : runF io fr k body ds = (body (startE io ds k)).bind fun o => match o.1 with
  | .ret d => .ok (d, outE io o.2)
  | .nx => if fr then .stk else .ok (.non, outE io o.2)
  | _ => .stk := rfl
end
section
variable {i j : Int}
@[simp] theorem p_addI : pAdd (.int i) (.int j) = some (.int (i + j)) := rfl
@[simp] theorem p_sub : pSub (.int i) (.int j) = some (.int (i - j)) := rfl
@[simp] theorem p_addB {b : Bool} : pAdd (.bl b) (.int j) = some (.int ((if b = true then 1 else 0) + j)) := rfl
@[simp] theorem p_subB {b : Bool} : pSub (.bl b) (.int j) = some (.int ((if b = true then 1 else 0) - j)) := rfl
@[simp] theorem v_short {ds : List D} : short ds = if ds.length ≤ 1000000 then some ds else none := rfl
@[simp] theorem p_addL {xs ys : List D} : pAdd (.lst xs) (.lst ys) = if xs.length + ys.length ≤ 1000000 then some (.lst (xs ++ ys)) else none := by
  simp only [pAdd, orD, pAddI, i2, pAddT, pAddL, pAddB, b2, v_short, List.length_append]
  split <;> rfl
@[simp] theorem p_addT {xs ys : List D} : pAdd (.tup xs) (.tup ys) = if xs.length + ys.length ≤ 1000000 then some (.tup (xs ++ ys)) else none := by
  simp only [pAdd, orD, pAddI, i2, pAddT, pAddL, pAddB, b2, v_short, List.length_append]
  split <;> rfl
@[simp] theorem p_catL {xs ys : List D} : pAddL (.lst xs) (.lst ys) = if xs.length + ys.length ≤ 1000000 then some (.lst (xs ++ ys)) else none := by
  simp only [pAddL, v_short, List.length_append]
  split <;> rfl
@[simp] theorem p_listL {ds : List D} : pList [.lst ds] = some (.lst ds) := rfl
@[simp] theorem p_listT {ds : List D} : pList [.tup ds] = some (.lst ds) := rfl
@[simp] theorem p_tupL {ds : List D} : pTuple [.lst ds] = some (.tup ds) := rfl
@[simp] theorem p_tupT {ds : List D} : pTuple [.tup ds] = some (.tup ds) := rfl
@[simp] theorem p_strI : pStr [.int i] = if i.natAbs.log2 < 1920 then some (.str (toString i)) else none := rfl
@[simp] theorem p_strB {b : Bool} : pStr [.bl b] = some (.str (if b then "True" else "False")) := rfl
@[simp] theorem v_sl {f : Den} {lo hi : DenO} {env : En} : eSl f lo hi env = (f env).bind fun x => (lo x.2).bind fun l => (hi l.2).bind fun u => match x.1 with
  | .lst ds => .ok (.lst (cutD ds l.1 u.1), u.2)
  | .tup ds => .ok (.tup (cutD ds l.1 u.1), u.2)
  | _ => .stk := rfl
@[simp] theorem v_oN {env : En} : oN env = .ok (none, env) := rfl
@[simp] theorem v_oS {f : Den} {env : En} : oS f env = (f env).bind fun x => match x.1 with
  | .int i => .ok (some i, x.2)
  | _ => .stk := rfl
@[simp] theorem v_rev {f : Den} {env : En} : eRev f env = (f env).bind fun x => match x.1 with
  | .lst ds => .ok (.lst ds.reverse, x.2)
  | .tup ds => .ok (.tup ds.reverse, x.2)
  | _ => .stk := rfl
@[simp] theorem v_itS {f : Den} {env : En} : itS f env = (f env).bind fun x => match x.1 with
  | .lst ds => .ok (ds, x.2)
  | .tup ds => .ok (ds, x.2)
  | _ => .stk := rfl
@[simp] theorem v_itR1 {F : DenL} {env : En} : itR1 F env = (F env).bind fun x => match x.1 with
  | [.int j] => if small j then .ok (rgI 0 j.toNat, x.2) else .stk
  | _ => .stk := rfl
@[simp] theorem fl_lst {ds : List D} : (D.lst ds).fl = true := rfl
@[simp] theorem ff_lst {ds : List D} : (D.lst ds).ff = flatL ds := rfl
@[simp] theorem flat_non : D.non.flat = true := by simp [D.flat]
@[simp] theorem flat_bl {b : Bool} : (D.bl b).flat = true := by simp [D.flat]
@[simp] theorem flat_int {i : Int} : (D.int i).flat = true := by simp [D.flat]
@[simp] theorem flat_str {x : Str} : (D.str x).flat = true := by simp [D.flat]
@[simp] theorem flat_tup {ds : List D} : (D.tup ds).flat = flatL ds := by simp [D.flat]
@[simp] theorem flatL_nil : flatL [] = true := by simp [flatL]
@[simp] theorem flatL_cons {d : D} {ds : List D} : flatL (d :: ds) = (d.flat && flatL ds) := by simp [flatL]
@[simp] theorem offF_nil : offF [] = true := rfl
@[simp] theorem offF_own {y : D} {e : En} : offF (.own y :: e) = (y.ff && offF e) := rfl
@[simp] theorem offF_val {y : D} {e : En} : offF (.val y :: e) = offF e := rfl
@[simp] theorem offF_no {e : En} : offF (.no :: e) = offF e := rfl
@[simp] theorem p_mul : pMulI (.int i) (.int j) = if mulB i j then some (.int (i * j)) else none := rfl
@[simp] theorem p_div : pDiv (.int i) (.int j) = if divB i j then some (.int (i / j)) else none := rfl
@[simp] theorem p_mod : pMod (.int i) (.int j) = if decide (0 < j) then some (.int (i % j)) else none := rfl
@[simp] theorem p_pow : pPow (.int i) (.int j) = if powB i j then some (.int (i ^ j.toNat)) else none := rfl
@[simp] theorem p_lt : pLt (.int i) (.int j) = some (.bl (decide (i < j))) := rfl
@[simp] theorem p_le : pLe (.int i) (.int j) = some (.bl (decide (i ≤ j))) := rfl
@[simp] theorem p_gt : pGt (.int i) (.int j) = some (.bl (decide (j < i))) := rfl
@[simp] theorem p_ge : pGe (.int i) (.int j) = some (.bl (decide (j ≤ i))) := rfl
@[simp] theorem p_neg : pNeg (.int i) = some (.int (-i)) := rfl
@[simp] theorem p_eqI : pEq (.int i) (.int j) = some (.bl (decide (i = j))) := rfl
@[simp] theorem p_neI : pNe (.int i) (.int j) = some (.bl (!decide (i = j))) := rfl
@[simp] theorem p_eqB {a b : Bool} : pEq (.bl a) (.bl b) = some (.bl (decide (a = b))) := rfl
@[simp] theorem p_neB {a b : Bool} : pNe (.bl a) (.bl b) = some (.bl (!decide (a = b))) := rfl
@[simp] theorem p_lenL {ds : List D} : pLen [.lst ds] = some (.int ds.length) := rfl
@[simp] theorem p_lenT {ds : List D} : pLen [.tup ds] = some (.int ds.length) := rfl
@[simp] theorem p_ixL {ds : List D} : pIx (.lst ds) (.int j) = atI ds j := rfl
@[simp] theorem p_ixT {ds : List D} : pIx (.tup ds) (.int j) = atI ds j := rfl
end

@[simp] theorem v_atI {α : Type} {xs : List α} {j : Int} : atI xs j = (ixN xs.length j).bind fun m => xs[m]? := rfl
@[simp] theorem v_ixN {n : Nat} {j : Int} : ixN n j = (if 0 ≤ j then (if j < n then some j.toNat else none) else if -(n : Int) ≤ j then some (j + n).toNat else none) := rfl
@[simp] theorem v_isT {T : String} {f : Den} {env : En} : eIsT T f env = (f env).bind fun x => (R.of (if x.1.plain then some (.bl (x.1.isT T)) else none)).bind fun d => .ok (d, x.2) := rfl
@[simp] theorem v_isT2 {T U : String} {f : Den} {env : En} : eIsT2 T U f env = (f env).bind fun x => (R.of (if x.1.plain then some (.bl (x.1.isT T || x.1.isT U)) else none)).bind fun d => .ok (d, x.2) := rfl
@[simp] theorem plain_non : D.non.plain = true := rfl
@[simp] theorem isT_non_int : D.non.isT "int" = false := by simp [D.isT, D.ty]
@[simp] theorem isT_non_bool : D.non.isT "bool" = false := by simp [D.isT, D.ty]
@[simp] theorem isT_non_str : D.non.isT "str" = false := by simp [D.isT, D.ty]
@[simp] theorem isT_non_tuple : D.non.isT "tuple" = false := by simp [D.isT, D.ty]
@[simp] theorem isT_non_list : D.non.isT "list" = false := by simp [D.isT, D.ty]
@[simp] theorem plain_bl {b : Bool} : (D.bl b).plain = true := rfl
@[simp] theorem isT_bl_int {b : Bool} : (D.bl b).isT "int" = true := by simp [D.isT, D.ty]
@[simp] theorem isT_bl_bool {b : Bool} : (D.bl b).isT "bool" = true := by simp [D.isT, D.ty]
@[simp] theorem isT_bl_str {b : Bool} : (D.bl b).isT "str" = false := by simp [D.isT, D.ty]
@[simp] theorem isT_bl_tuple {b : Bool} : (D.bl b).isT "tuple" = false := by simp [D.isT, D.ty]
@[simp] theorem isT_bl_list {b : Bool} : (D.bl b).isT "list" = false := by simp [D.isT, D.ty]
@[simp] theorem plain_int {i : Int} : (D.int i).plain = true := rfl
@[simp] theorem isT_int_int {i : Int} : (D.int i).isT "int" = true := by simp [D.isT, D.ty]
@[simp] theorem isT_int_bool {i : Int} : (D.int i).isT "bool" = false := by simp [D.isT, D.ty]
@[simp] theorem isT_int_str {i : Int} : (D.int i).isT "str" = false := by simp [D.isT, D.ty]
@[simp] theorem isT_int_tuple {i : Int} : (D.int i).isT "tuple" = false := by simp [D.isT, D.ty]
@[simp] theorem isT_int_list {i : Int} : (D.int i).isT "list" = false := by simp [D.isT, D.ty]
@[simp] theorem plain_str {x : Str} : (D.str x).plain = true := rfl
@[simp] theorem isT_str_int {x : Str} : (D.str x).isT "int" = false := by simp [D.isT, D.ty]
@[simp] theorem isT_str_bool {x : Str} : (D.str x).isT "bool" = false := by simp [D.isT, D.ty]
@[simp] theorem isT_str_str {x : Str} : (D.str x).isT "str" = true := by simp [D.isT, D.ty]
@[simp] theorem isT_str_tuple {x : Str} : (D.str x).isT "tuple" = false := by simp [D.isT, D.ty]
@[simp] theorem isT_str_list {x : Str} : (D.str x).isT "list" = false := by simp [D.isT, D.ty]
@[simp] theorem plain_tup {ds : List D} : (D.tup ds).plain = true := rfl
@[simp] theorem isT_tup_int {ds : List D} : (D.tup ds).isT "int" = false := by simp [D.isT, D.ty]
@[simp] theorem isT_tup_bool {ds : List D} : (D.tup ds).isT "bool" = false := by simp [D.isT, D.ty]
@[simp] theorem isT_tup_str {ds : List D} : (D.tup ds).isT "str" = false := by simp [D.isT, D.ty]
@[simp] theorem isT_tup_tuple {ds : List D} : (D.tup ds).isT "tuple" = true := by simp [D.isT, D.ty]
@[simp] theorem isT_tup_list {ds : List D} : (D.tup ds).isT "list" = false := by simp [D.isT, D.ty]
@[simp] theorem plain_lst {ds : List D} : (D.lst ds).plain = true := rfl
@[simp] theorem isT_lst_int {ds : List D} : (D.lst ds).isT "int" = false := by simp [D.isT, D.ty]
@[simp] theorem isT_lst_bool {ds : List D} : (D.lst ds).isT "bool" = false := by simp [D.isT, D.ty]
@[simp] theorem isT_lst_str {ds : List D} : (D.lst ds).isT "str" = false := by simp [D.isT, D.ty]
@[simp] theorem isT_lst_tuple {ds : List D} : (D.lst ds).isT "tuple" = false := by simp [D.isT, D.ty]
@[simp] theorem isT_lst_list {ds : List D} : (D.lst ds).isT "list" = true := by simp [D.isT, D.ty]
@[simp] theorem plain_dk {l : List (Int × Int)} : (D.dk l).plain = false := rfl
@[simp] theorem plain_dt {l : List ((Int × Int) × Int)} : (D.dt l).plain = false := rfl
/-! ### the laws' decks -/
abbrev dk (a b c : Int) : D := .lst [.int a, .int b, .int c]
def Dk (n : Int) (d : D) : Prop := ∃ a b c, d = dk a b c ∧ 0 ≤ b ∧ b < 2147483579 ∧ 0 ≤ c ∧ c ≤ n
theorem Dk.ff {n : Int} {d : D} (h : Dk n d) : d.ff = true := by
  obtain ⟨_, _, _, rfl, _⟩ := h
  simp
theorem Dk.fl {n : Int} {d : D} (h : Dk n d) : d.fl = true := by
  obtain ⟨_, _, _, rfl, _⟩ := h
  rfl
theorem Dk.mono {n m : Int} {d : D} (h : Dk n d) (e : n ≤ m) : Dk m d := by
  obtain ⟨a, b, c, e1, h1, h2, h3, h4⟩ := h
  exact ⟨a, b, c, e1, h1, h2, h3, by omega⟩

/-! ### loops -/
theorem sLoop_inv {p : Pt} {body : DenS} (I : En → Prop) : ∀ (xs : List D), (∀ x ∈ xs, ∀ env, I env → ∃ e1, p.asg x env = some e1 ∧ ∃ e2, body e1 = .ok (.nx, e2) ∧ I e2) →
    ∀ env, I env → ∃ e2, sLoop p body xs env = .ok (.nx, e2) ∧ I e2
  | [], _, env, hi => ⟨env, rfl, hi⟩
  | x :: xs, h, env, hi => by
    obtain ⟨e1, h1, e2, h2, h3⟩ := h x List.mem_cons_self env hi
    obtain ⟨e3, h4, h5⟩ := sLoop_inv I xs (fun y hy => h y (List.mem_cons_of_mem _ hy)) e2 h3
    exact ⟨e3, by simp [sLoop, h1, h2, h4], h5⟩
/-- a loop whose invariant counts -/
theorem sLoop_cnt {p : Pt} {body : DenS} (I : Nat → En → Prop) (N : Nat) : ∀ (xs : List D) (k : Nat), k + xs.length ≤ N → (∀ x ∈ xs, ∀ j env, j < N → I j env → ∃ e1, p.asg x env = some e1 ∧ ∃ e2, body e1 = .ok (.nx, e2) ∧ I (j + 1) e2) →
    ∀ env, I k env → ∃ e2, sLoop p body xs env = .ok (.nx, e2) ∧ I (k + xs.length) e2
  | [], k, _, _, env, hi => ⟨env, rfl, hi⟩
  | x :: xs, k, hN, h, env, hi => by
    rw [List.length_cons] at hN
    obtain ⟨e1, h1, e2, h2, h3⟩ := h x List.mem_cons_self k env (by omega) hi
    obtain ⟨e3, h4, h5⟩ := sLoop_cnt I N xs (k + 1) (by omega) (fun y hy => h y (List.mem_cons_of_mem _ hy)) e2 h3
    exact ⟨e3, by simp [sLoop, h1, h2, h4], by rw [List.length_cons]; rw [show k + (xs.length + 1) = k + 1 + xs.length by omega]; exact h5⟩
theorem sLoop_ret {p : Pt} {body : DenS} (bad : D → Bool) (r : D) (I : En → Prop) : ∀ (xs : List D),
    (∀ x ∈ xs, ∀ env, I env → ∃ e1, p.asg x env = some e1 ∧ ((bad x = true ∧ ∃ e2, body e1 = .ok (.ret r, e2)) ∨ (bad x = false ∧ ∃ e2, body e1 = .ok (.nx, e2) ∧ I e2))) →
    ∀ env, I env → (xs.any bad = true ∧ ∃ e2, sLoop p body xs env = .ok (.ret r, e2)) ∨ (xs.any bad = false ∧ ∃ e2, sLoop p body xs env = .ok (.nx, e2) ∧ I e2)
  | [], _, env, hi => .inr ⟨rfl, env, rfl, hi⟩
  | x :: xs, h, env, hi => by
    obtain ⟨e1, h1, h2⟩ := h x List.mem_cons_self env hi
    rcases h2 with ⟨hb, e2, h2⟩ | ⟨hb, e2, h2, h3⟩
    · exact .inl ⟨by simp [hb], e2, by simp [sLoop, h1, h2]⟩
    · rcases sLoop_ret bad r I xs (fun y hy => h y (List.mem_cons_of_mem _ hy)) e2 h3 with ⟨q1, e3, q2⟩ | ⟨q1, e3, q2, q3⟩
      · exact .inl ⟨by simp [hb, q1], e3, by simp [sLoop, h1, h2, q2]⟩
      · exact .inr ⟨by simp [hb, q1], e3, by simp [sLoop, h1, h2, q2], q3⟩
theorem cLoop_pure {p : Pt} {vs : List Nat} {cond : DenT} {elt : Den} {env : En} (c : D → Bool) (g : D → D) (ho : hasOwn env vs = false) : ∀ (xs acc : List D),
    (∀ x ∈ xs, ∃ e1, p.asg x (wipeE env vs) = some e1 ∧ ∃ e2, cond e1 = .ok (c x, e2) ∧ (c x = true → ∃ e3, elt e2 = .ok (g x, e3) ∧ backE vs env e3 = env) ∧ (c x = false → backE vs env e2 = env)) →
    cLoop p vs cond elt xs acc env = .ok (acc ++ (xs.filter c).map g, env)
  | [], acc, _ => by simp [cLoop]
  | x :: xs, acc, h => by
    obtain ⟨e1, h1, e2, h2, h3, h4⟩ := h x List.mem_cons_self
    have ih := fun acc => cLoop_pure (cond := cond) (elt := elt) c g ho xs acc fun y hy => h y (List.mem_cons_of_mem _ hy)
    cases hc : c x with
    | true =>
      obtain ⟨e3, h5, h6⟩ := h3 hc
      simp [cLoop, cTurn, ho, h1, h2, hc, h5, h6, ih]
    | false =>
      have h6 := h4 hc
      simp [cLoop, cTurn, ho, h1, h2, hc, h6, ih]
theorem comp_pure {it : DenL} {p : Pt} {vs : List Nat} {cond : DenT} {elt : Den} {env env1 : En} {xs : List D} (c : D → Bool) (g : D → D) (hit : it env = .ok (xs, env1)) (hl : xs.length ≤ big) (ho : hasOwn env1 vs = false)
    (h : ∀ x ∈ xs, ∃ e1, p.asg x (wipeE env1 vs) = some e1 ∧ ∃ e2, cond e1 = .ok (c x, e2) ∧ (c x = true → ∃ e3, elt e2 = .ok (g x, e3) ∧ backE vs env1 e3 = env1) ∧ (c x = false → backE vs env1 e2 = env1)) :
    fComp it p vs cond elt env = .ok (.lst ((xs.filter c).map g), env1) := by
  simp [fComp, hit, hl, cLoop_pure c g ho xs [] h]
theorem comp_map {it : DenL} {p : Pt} {vs : List Nat} {elt : Den} {env env1 : En} {xs : List D} (g : D → D) (hit : it env = .ok (xs, env1)) (hl : xs.length ≤ big) (ho : hasOwn env1 vs = false)
    (h : ∀ x ∈ xs, ∃ e1, p.asg x (wipeE env1 vs) = some e1 ∧ ∃ e3, elt e1 = .ok (g x, e3) ∧ backE vs env1 e3 = env1) : fComp it p vs tT elt env = .ok (.lst (xs.map g), env1) := by
  rw [comp_pure (fun _ => true) g hit hl ho, List.filter_eq_self.mpr (fun _ _ => rfl)]
  intro x hx
  obtain ⟨e1, h1, e3, h2, h3⟩ := h x hx
  exact ⟨e1, h1, e1, rfl, fun _ => ⟨e3, h2, h3⟩, fun z => by cases z⟩
theorem cLoop_inv {p : Pt} {vs : List Nat} {cond : DenT} {elt : Den} (I : Nat → En → Prop) (P : D → Prop) (N : Nat) : ∀ (xs acc : List D) (k : Nat) (env : En), k + xs.length ≤ N →
    (∀ x ∈ xs, ∀ j env, j < N → I j env → hasOwn env vs = false ∧ ∃ e1, p.asg x (wipeE env vs) = some e1 ∧ cond e1 = .ok (true, e1) ∧ ∃ y e3, elt e1 = .ok (y, e3) ∧ P y ∧ I (j + 1) (backE vs env e3)) →
    (∀ y ∈ acc, P y) → I k env → ∃ ys e2, cLoop p vs cond elt xs acc env = .ok (ys, e2) ∧ (∀ y ∈ ys, P y) ∧ ys.length = acc.length + xs.length ∧ I (k + xs.length) e2
  | [], acc, k, env, _, _, ha, hi => ⟨acc, env, rfl, ha, rfl, hi⟩
  | x :: xs, acc, k, env, hN, h, ha, hi => by
    rw [List.length_cons] at hN
    obtain ⟨ho, e1, h1, h2, y, e3, h3, h4, h5⟩ := h x List.mem_cons_self k env (by omega) hi
    obtain ⟨ys, e4, q1, q2, q3, q4⟩ := cLoop_inv (cond := cond) (elt := elt) I P N xs (acc ++ [y]) (k + 1) (backE vs env e3) (by omega) (fun z hz => h z (List.mem_cons_of_mem _ hz)) (fun z hz => by
      rcases List.mem_append.mp hz with hz | hz
      · exact ha z hz
      · rw [List.mem_singleton.mp hz]; exact h4) h5
    refine ⟨ys, e4, by simp [cLoop, cTurn, ho, h1, h2, h3, q1], q2, by rw [q3]; simp; omega, ?_⟩
    rw [List.length_cons, show k + (xs.length + 1) = k + 1 + xs.length by omega]
    exact q4
theorem comp_inv {it : DenL} {p : Pt} {vs : List Nat} {cond : DenT} {elt : Den} {env env1 : En} {xs : List D} (I : Nat → En → Prop) (P : D → Prop) (hit : it env = .ok (xs, env1)) (hl : xs.length ≤ big)
    (h : ∀ x ∈ xs, ∀ j env, j < xs.length → I j env → hasOwn env vs = false ∧ ∃ e1, p.asg x (wipeE env vs) = some e1 ∧ cond e1 = .ok (true, e1) ∧ ∃ y e3, elt e1 = .ok (y, e3) ∧ P y ∧ I (j + 1) (backE vs env e3)) (hi : I 0 env1) :
    ∃ ys e2, fComp it p vs cond elt env = .ok (.lst ys, e2) ∧ (∀ y ∈ ys, P y) ∧ ys.length = xs.length ∧ I xs.length e2 := by
  obtain ⟨ys, e2, q1, q2, q3, q4⟩ := cLoop_inv (cond := cond) (elt := elt) I P xs.length xs [] 0 env1 (by omega) h (fun y hy => by cases hy) hi
  exact ⟨ys, e2, by simp [fComp, hit, hl, q1], q2, by simpa using q3, by simpa using q4⟩

/-! ### things: depth, lengths, ints -/
def Th (m : Nat) (B : Int) : Nat → D → Prop
  | _, .non => True
  | _, .bl _ => True
  | _, .str x => PyData.strOk x = true
  | _, .int i => -B ≤ i ∧ i ≤ B
  | k + 1, .tup ds => ds.length ≤ m ∧ ∀ d ∈ ds, Th m B k d
  | k + 1, .lst ds => ds.length ≤ m ∧ ∀ d ∈ ds, Th m B k d
  | _, _ => False
theorem strOk_of (s : String) : PyData.strOk (Str.ofString s) = true := by
  rw [Str.ofString_eq_toList]
  unfold PyData.strOk
  rw [List.all_toArray, List.all_map, List.all_eq_true]
  intro c _
  have h := c.valid
  have e : c.toNat = c.val.toNat := rfl
  simp only [Function.comp, decide_eq_true_eq]
  rw [e]
  rcases h with h | ⟨_, h⟩
  · have : c.val.toNat < 55296 := h
    omega
  · exact h
theorem Th.mono {m m' : Nat} {B B' : Int} (hm : m ≤ m') (hB : B ≤ B') : ∀ {k k' : Nat} {d : D}, k ≤ k' → Th m B k d → Th m' B' k' d := by
  intro k
  induction k with
  | zero =>
    intro k' d hk h
    cases d <;> cases k' <;> simp only [Th] at h ⊢ <;> first | exact h | omega
  | succ k ih =>
    intro k' d hk h
    obtain ⟨k', rfl⟩ : ∃ j, k' = j + 1 := ⟨k' - 1, by omega⟩
    cases d <;> simp only [Th] at h ⊢
    · omega
    · exact h
    · exact ⟨by omega, fun d hd => ih (by omega) (h.2 d hd)⟩
    · exact ⟨by omega, fun d hd => ih (by omega) (h.2 d hd)⟩
theorem Th.plain {m : Nat} {B : Int} {k : Nat} {d : D} (h : Th m B k d) : d.plain = true := by
  cases d <;> cases k <;> simp_all [Th, D.plain]
mutual
theorem canLay_py {m : Nat} {B : Int} : ∀ (d : D) (k : Nat), Th m B k d → ∃ e, d.py = some e ∧ e.canLay0 = true ∧ e.depth ≤ k
  | .non, k, _ => ⟨_, rfl, by simp [PyData.canLay0], by simp [PyData.depth]⟩
  | .bl _, k, _ => ⟨_, rfl, by simp [PyData.canLay0], by simp [PyData.depth]⟩
  | .int _, k, _ => ⟨_, rfl, by simp [PyData.canLay0], by simp [PyData.depth]⟩
  | .str _, k, h => ⟨_, rfl, by cases k <;> simpa [PyData.canLay0, Th] using h, by simp [PyData.depth]⟩
  | .tup ds, k, h => by
    cases k with
    | zero => simp [Th] at h
    | succ k =>
      simp only [Th] at h
      obtain ⟨es, h1, h2, h3⟩ := canLay_pyL ds k h.2
      exact ⟨_, by simp only [D.py, h1]; rfl, by simpa [PyData.canLay0] using h2, by simp only [PyData.depth]; omega⟩
  | .lst ds, k, h => by
    cases k with
    | zero => simp [Th] at h
    | succ k =>
      simp only [Th] at h
      obtain ⟨es, h1, h2, h3⟩ := canLay_pyL ds k h.2
      exact ⟨_, by simp only [D.py, h1]; rfl, by simpa [PyData.canLay0] using h2, by simp only [PyData.depth]; omega⟩
  | .dk _, k, h => by cases k <;> simp [Th] at h
  | .dt _, k, h => by cases k <;> simp [Th] at h
theorem canLay_pyL {m : Nat} {B : Int} : ∀ (ds : List D) (k : Nat), (∀ d ∈ ds, Th m B k d) → ∃ es, pyL ds = some es ∧ PyData.canLayAll0 es = true ∧ PyData.depthAll es ≤ k
  | [], k, _ => ⟨[], rfl, by simp [PyData.canLayAll0], by simp [PyData.depthAll]⟩
  | d :: ds, k, h => by
    obtain ⟨e, h1, h2, h3⟩ := canLay_py d k (h d List.mem_cons_self)
    obtain ⟨es, h4, h5, h6⟩ := canLay_pyL ds k fun x hx => h x (List.mem_cons_of_mem _ hx)
    exact ⟨e :: es, by simp only [pyL, h1, h4]; rfl, by simp [PyData.canLayAll0, h2, h5], by simp only [PyData.depthAll]; omega⟩
end
theorem eqD_nil {m : Nat} {B : Int} {k : Nat} {ds : List D} (h : ∀ d ∈ ds, Th m B k d) (hk : k ≤ 60) : pEq (.lst ds) (.lst []) = some (.bl ds.isEmpty) := by
  obtain ⟨es, h1, h2, h3⟩ := canLay_pyL ds k h
  have e1 : (D.lst ds).py = some (.list es) := by simp only [D.py, h1]; rfl
  have e2 : (D.lst []).py = some (.list []) := by simp [D.py, pyL]
  have s1 : SeqAt.shaped (.list es) = true := by
    unfold SeqAt.shaped
    have ed : (PyData.list es).depth = PyData.depthAll es + 1 := by simp [PyData.depth]
    rw [ed]
    simp only [PyData.canLay0, h2, Bool.true_and, decide_eq_true_eq]
    omega
  have s2 : SeqAt.shaped (.list []) = true := by decide
  have e3 : PyData.eqv (.list es) (.list []) = ds.isEmpty := by
    cases ds with
    | nil => simp [pyL] at h1; subst h1; simp [PyData.eqv, PyData.eqvAll]
    | cons d ds =>
      cases es with
      | nil => simp only [pyL] at h1; cases z : d.py with
        | none => rw [z] at h1; cases h1
        | some e => rw [z] at h1; cases z2 : pyL ds with
          | none => rw [z2] at h1; cases h1
          | some es => rw [z2] at h1; cases h1
      | cons e es => simp [PyData.eqv, PyData.eqvAll]
  show ((eqS (.lst ds) (.lst [])).or (eqD (.lst ds) (.lst []))).map D.bl = _
  simp [eqS, eqD, e1, e2, s1, s2, e3]

/-! ### lists of ints: equal, rising -/
theorem pyL_ints : ∀ ns : List Int, pyL (ns.map D.int) = some (ns.map PyData.int)
  | [] => rfl
  | n :: ns => by simp only [List.map_cons, pyL, D.py, pyL_ints ns]; rfl
theorem eqv_ints : ∀ ns ms : List Int, PyData.eqvAll (ns.map PyData.int) (ms.map PyData.int) = decide (ns = ms)
  | [], [] => by simp [PyData.eqvAll]
  | [], m :: ms => by simp [PyData.eqvAll]
  | n :: ns, [] => by simp [PyData.eqvAll]
  | n :: ns, m :: ms => by
    simp only [List.map_cons, PyData.eqvAll, PyData.eqv, eqv_ints ns ms, List.cons.injEq]
    by_cases h : n = m <;> by_cases h2 : ns = ms <;> simp [h, h2]
theorem canLay_ints : ∀ ns : List Int, PyData.canLayAll0 (ns.map PyData.int) = true
  | [] => by simp [PyData.canLayAll0]
  | n :: ns => by simp [PyData.canLayAll0, PyData.canLay0, canLay_ints ns]
theorem depth_ints : ∀ ns : List Int, PyData.depthAll (ns.map PyData.int) = 0
  | [] => by simp [PyData.depthAll]
  | n :: ns => by simp [PyData.depthAll, PyData.depth, depth_ints ns]
theorem shaped_ints (ns : List Int) : SeqAt.shaped (.list (ns.map PyData.int)) = true := by
  unfold SeqAt.shaped
  have e : (PyData.list (ns.map PyData.int)).depth = PyData.depthAll (ns.map PyData.int) + 1 := by simp [PyData.depth]
  rw [e, depth_ints]
  simp [PyData.canLay0, canLay_ints]
theorem p_eqInts (ns ms : List Int) : pEq (.lst (ns.map D.int)) (.lst (ms.map D.int)) = some (.bl (decide (ns = ms))) := by
  have e1 : (D.lst (ns.map D.int)).py = some (.list (ns.map PyData.int)) := by simp only [D.py, pyL_ints]; rfl
  have e2 : (D.lst (ms.map D.int)).py = some (.list (ms.map PyData.int)) := by simp only [D.py, pyL_ints]; rfl
  show ((eqS (.lst _) (.lst _)).or (eqD (.lst _) (.lst _))).map D.bl = _
  simp only [eqS, eqD, e1, e2, shaped_ints, Bool.and_self, if_true, PyData.eqv, eqv_ints]
  rfl
def riseB : List Int → Bool
  | [] => true
  | x :: r => (match r with | [] => true | y :: _ => decide (x < y)) && riseB r
theorem riseB_iff : ∀ ns : List Int, riseB ns = true ↔ ns.Pairwise (· < ·)
  | [] => by simp [riseB]
  | [x] => by simp [riseB]
  | x :: y :: r => by
    have ih := riseB_iff (y :: r)
    unfold riseB
    rw [Bool.and_eq_true, ih, List.pairwise_cons (a := x)]
    simp only [decide_eq_true_eq]
    constructor
    · rintro ⟨h1, h2⟩
      refine ⟨fun z hz => ?_, h2⟩
      rcases List.mem_cons.mp hz with e | e
      · omega
      · have := (List.pairwise_cons.mp h2).1 z e
        omega
    · rintro ⟨h1, h2⟩
      exact ⟨h1 y List.mem_cons_self, h2⟩
theorem rise_sort (ns : List Int) : decide (ns = sortI ns) = riseB ns := by
  rw [Bool.eq_iff_iff, riseB_iff, decide_eq_true_eq]
  constructor
  · intro h
    rw [h]
    exact sortI_rising ns
  · intro h
    exact rising_one h (sortI_rising ns) fun k => (sortI_mem k ns).symm
theorem zip_rise : ∀ ns : List Int, ((ns.zip (ns.drop 1)).all fun p => decide (p.1 < p.2)) = riseB ns
  | [] => rfl
  | [x] => rfl
  | x :: y :: r => by
    have ih := zip_rise (y :: r)
    unfold riseB
    rw [← ih]
    rfl
end DL

/-! ## G01 -/
namespace DL
open PySem PySem.Spec PyProof.Rows L2

def topS (i : Nat) : Stmt := PySem.Challenge.pw_allwinters_k01_books_and_rooms.main.body.getD i (.Pass ⟨0, 0, 0, 0⟩)
def b_is_from : DenS := (sRet (eAnd (eIsT "int" (eVar 0)) (eAnd (eNot (eIsT "bool" (eVar 0))) (eChain pLe pLe (eVar 1) (eVar 0) (eVar 2)))))
def f_is_from : DenF := runF false false 0 b_is_from
def b_is_rising : DenS := (sRet (eN pAll (aCons (fComp (itZip (aCons (eVar 0) (aCons (eSl (eVar 0) (oS (eC (.int 1))) oN) aNil))) (.tu [(.nm 1), (.nm 2)]) [1, 2] tT (e2 pLt (eVar 1) (eVar 2))) aNil)))
def f_is_rising : DenF := runF false false 2 b_is_rising
def b_are_tuples : DenS := (sRet (eAnd (eIsT "tuple" (eVar 0)) (eN pAll (aCons (fComp (itS (eVar 0)) (.nm 2) [2] tT (eAnd (eIsT "tuple" (eVar 2)) (e2 pEq (eN pLen (aCons (eVar 2) aNil)) (eVar 1)))) aNil))))
def f_are_tuples : DenF := runF false false 1 b_are_tuples
def b_is_span : DenS := (sSeq (sIf (tOrD (tNotD (tst (eIsT "tuple" (eVar 1)))) (tOrD (tst (e2 pNe (eN pLen (aCons (eVar 1) aNil)) (eC (.int 2)))) (tNotD (tst (eCall 3 f_is_from (aCons (e2 pIx (eVar 1) (eC (.int 0))) (aCons (eC (.int 1)) (aCons (eVar 0) aNil)))))))) (sRet (eC (.bl false))) sNx) (sRet (eCall 3 f_is_from (aCons (e2 pIx (eVar 1) (eC (.int 1))) (aCons (e2 pIx (eVar 1) (eC (.int 0))) (aCons (eVar 0) aNil))))))
def f_is_span : DenF := runF false false 0 b_is_span
def b_is_winter : DenS := (sRet (eAnd (eIsT "tuple" (eVar 1)) (eAnd (e2 pLe (eN pLen (aCons (eVar 1) aNil)) (eC (.int 8))) (eN pAll (aCons (fComp (itS (eVar 1)) (.nm 2) [2] tT (eCall 2 f_is_span (aCons (eVar 0) (aCons (eVar 2) aNil)))) aNil)))))
def f_is_winter : DenF := runF false false 1 b_is_winter
def b_is_book : DenS := (sSeq (sIf (tOrD (tNotD (tst (eIsT "tuple" (eVar 0)))) (tOrD (tst (e2 pNe (eN pLen (aCons (eVar 0) aNil)) (eC (.int 2)))) (tNotD (tst (eCall 3 f_is_from (aCons (e2 pIx (eVar 0) (eC (.int 0))) (aCons (eC (.int 1)) (aCons (eC (.int 16)) aNil)))))))) (sRet (eC (.bl false))) sNx) (sSeq (sIf (tOrD (tNotD (tst (eIsT "tuple" (e2 pIx (eVar 0) (eC (.int 1)))))) (tNotD (tst (eChain pLe pLe (eC (.int 1)) (eN pLen (aCons (e2 pIx (eVar 0) (eC (.int 1))) aNil)) (eC (.int 5)))))) (sRet (eC (.bl false))) sNx) (sRet (eN pAll (aCons (fComp (itS (e2 pIx (eVar 0) (eC (.int 1)))) (.nm 1) [1] tT (eCall 2 f_is_winter (aCons (e2 pIx (eVar 0) (eC (.int 0))) (aCons (eVar 1) aNil)))) aNil)))))
def f_is_book : DenF := runF false false 1 b_is_book
def b_need_book : DenS := (sIf (tNotD (tst (eCall 1 f_is_book (aCons (eVar 0) aNil)))) sStk sNx)
def f_need_book : DenF := runF false false 0 b_need_book
def b_is_stock : DenS := (sSeq (sIf (tNotD (tst (eCall 2 f_are_tuples (aCons (eVar 1) (aCons (eC (.int 2)) aNil))))) (sRet (eC (.bl false))) sNx) (sSeq (sIf (tNotD (tst (eN pAll (aCons (fComp (itS (eVar 1)) (.nm 2) [2] tT (eAnd (eCall 3 f_is_from (aCons (e2 pIx (eVar 2) (eC (.int 0))) (aCons (eC (.int 1)) (aCons (e2 pIx (eVar 0) (eC (.int 0))) aNil)))) (eCall 3 f_is_from (aCons (e2 pIx (eVar 2) (eC (.int 1))) (aCons (eC (.int 1)) (aCons (eC (.int 99)) aNil)))))) aNil)))) (sRet (eC (.bl false))) sNx) (sRet (eCall 1 f_is_rising (aCons (fComp (itS (eVar 1)) (.nm 2) [2] tT (e2 pIx (eVar 2) (eC (.int 0)))) aNil)))))
def f_is_stock : DenF := runF false false 1 b_is_stock
def b_is_room : DenS := (sSeq (sExp (eCall 1 f_need_book (aCons (eVar 0) aNil))) (sRet (eCall 2 f_is_stock (aCons (eVar 0) (aCons (eVar 1) aNil)))))
def f_is_room : DenF := runF false false 0 b_is_room
def b__law_deck : DenS := (sSeq (sIf (tst (e2 pGe (eVar 0) (e2 pPow (eC (.int 10)) (eC (.int 18))))) (sRet (fLst (aCons (e2 pSub (eVar 0) (e2 pPow (eC (.int 10)) (eC (.int 18)))) (aCons (e2 pMod (eVar 0) (eC (.int 2147483579))) (aCons (eVar 1) aNil))))) sNx) (sRet (fLst (aCons (eC (.int 0)) (aCons (e2 pMod (eVar 0) (eC (.int 2147483579))) (aCons (eVar 1) aNil))))))
def f__law_deck : DenF := runF false true 0 b__law_deck
def b__law_pick : DenS := (sSeq (sIf (tst (e2 pGt (eIxO 0 (eC (.int 0))) (eC (.int 1)))) (sSeq (sSet 3 (e2 pMod (eIxO 0 (eC (.int 0))) (eVar 1))) (sSeq (sPut 0 (eC (.int 0)) (e2 pDiv (eIxO 0 (eC (.int 0))) (eVar 1))) (sRet (eVar 3)))) sNx) (sSeq (sPut 0 (eC (.int 2)) (e2 pAdd (eIxO 0 (eC (.int 2))) (eC (.int 1)))) (sSeq (sSet 2 (e2 pMod (e2 pPow (e2 pAdd (eIxO 0 (eC (.int 1))) (e2 pMulI (eC (.int 15485867)) (eIxO 0 (eC (.int 2))))) (eC (.int 5))) (eC (.int 2147483647)))) (sSeq (sSet 3 (e2 pDiv (e2 pMod (e2 pPow (e2 pAdd (eVar 2) (e2 pMulI (eC (.int 7919)) (eIxO 0 (eC (.int 2))))) (eC (.int 3))) (eC (.int 2147483629))) (eC (.int 32)))) (sRet (e2 pMod (eVar 3) (eVar 1)))))))
def f__law_pick : DenF := runF true false 2 b__law_pick
def b__law_whole : DenS := (sRet (eAnd (eIsT "int" (eVar 0)) (eNot (eIsT "bool" (eVar 0)))))
def f__law_whole : DenF := runF false false 0 b__law_whole
def b__law_one : DenS := (sRet (e2 pIx (eVar 1) (eCallO 0 2 f__law_pick (aCons (eN pLen (aCons (eVar 1) aNil)) aNil))))
def f__law_one : DenF := runF true false 0 b__law_one
def b__law_sort : DenS := (sSeq (sIf (tst (eIsT "bool" (eVar 0))) (sRet (eC (.int 1))) sNx) (sSeq (sIf (tst (eIsT "int" (eVar 0))) (sRet (eC (.int 2))) sNx) (sSeq (sIf (tst (eIsT "str" (eVar 0))) (sRet (eC (.int 3))) sNx) (sSeq (sIf (tst (eIsT "list" (eVar 0))) (sRet (eC (.int 4))) sNx) (sRet (eIf (tst (eIsT "tuple" (eVar 0))) (eC (.int 5)) (eC (.int 6))))))))
def f__law_sort : DenF := runF false false 0 b__law_sort
def b__law_same (f__law_same : DenF) : DenS := (sSeq (sIf (tst (e2 pNe (eCall 1 f__law_sort (aCons (eVar 0) aNil)) (eCall 1 f__law_sort (aCons (eVar 1) aNil)))) (sRet (eC (.bl false))) sNx) (sSeq (sIf (tAndD (tst (e2 pGt (eCall 1 f__law_sort (aCons (eVar 0) aNil)) (eC (.int 3)))) (tst (e2 pLt (eCall 1 f__law_sort (aCons (eVar 0) aNil)) (eC (.int 6))))) (sSeq (sIf (tst (e2 pNe (eN pLen (aCons (eVar 0) aNil)) (eN pLen (aCons (eVar 1) aNil)))) (sRet (eC (.bl false))) sNx) (sRet (e2 pEq (fComp (itEnum (aCons (eVar 0) aNil)) (.tu [(.nm 2), (.nm 3)]) [2, 3] (tNotD (tst (eCall 2 f__law_same (aCons (eVar 3) (aCons (e2 pIx (eVar 1) (eVar 2)) aNil))))) (eVar 2)) (fLst aNil)))) sNx) (sRet (e2 pEq (eVar 0) (eVar 1)))))
def fr__law_same : Nat → DenF
  | 0 => fun _ => .stk
  | k + 1 => runF false false 2 (b__law_same (fr__law_same k))
def f__law_same : DenF := fr__law_same 12
def b__law_odd : DenS := (sSeq (sSet 1 (fLst (aCons (eC .non) (aCons (eC (.bl true)) (aCons (eC (.str (Str.ofString ""))) (aCons (eC (.str (Str.ofString "a"))) (aCons (eTup aNil) (aCons (fLst aNil) (aCons (eTup (aCons (eTup aNil) aNil)) (aCons (eC (.int 7)) (aCons (e1 pNeg (eC (.int 1))) (aCons (e2 pPow (eC (.int 10)) (eC (.int 30))) (aCons (eTup (aCons (eC (.int 1)) (aCons (eC (.int 2)) aNil))) (aCons (eTup (aCons (eTup (aCons (eC (.int 1)) (aCons (eC (.int 1)) aNil))) aNil)) (aCons (fLst (aCons (eTup (aCons (eC (.int 1)) (aCons (eC (.int 1)) aNil))) aNil)) (aCons (eTup (aCons (eTup (aCons (eC (.int 2)) (aCons (eC (.int 1)) aNil))) (aCons (eTup (aCons (eC (.int 1)) (aCons (eC (.int 1)) aNil))) aNil))) aNil)))))))))))))))) (sRet (eCallO 0 2 f__law_one (aCons (eVar 1) aNil))))
def f__law_odd : DenF := runF true false 1 b__law_odd
def b__law_spoilt (f__law_spoilt : DenF) : DenS := (sSeq (sIf (tAndD (tst (eIsT2 "tuple" "list" (eVar 1))) (tAndD (tst (e2 pGt (eN pLen (aCons (eVar 1) aNil)) (eC (.int 0)))) (tst (e2 pGt (eCallO 0 2 f__law_pick (aCons (eC (.int 5)) aNil)) (eC (.int 0)))))) (sSeq (sOwn 2 (eN pList (aCons (eVar 1) aNil))) (sSeq (sSet 3 (eCallO 0 2 f__law_pick (aCons (eLock 2 (eN pLen (aCons (eVar 2) aNil))) aNil))) (sSeq (sSeq (sPut 2 (eVar 3) (eCallO 0 2 f__law_spoilt (aCons (eIxO 2 (eVar 3)) aNil))) (sFz 2)) (sRet (eIf (tst (eIsT "tuple" (eVar 1))) (eN pTuple (aCons (eVar 2) aNil)) (eVar 2)))))) sNx) (sSeq (sIf (tst (eIsT2 "tuple" "list" (eVar 1))) (sSeq (sSet 4 (eIf (tst (eIsT "tuple" (eVar 1))) (eN pList (aCons (eVar 1) aNil)) (eN pTuple (aCons (eVar 1) aNil)))) (sRet (e2 pIx (fLst (aCons (eVar 4) (aCons (e2 pAdd (eVar 1) (eSl (eVar 1) oN (oS (eC (.int 1))))) (aCons (eSl (eVar 1) (oS (eC (.int 1))) oN) (aCons (eRev (eVar 1)) (aCons (eC .non) aNil)))))) (eCallO 0 2 f__law_pick (aCons (eC (.int 5)) aNil))))) sNx) (sSeq (sIf (tst (eIsT "int" (eVar 1))) (sRet (e2 pIx (fLst (aCons (e2 pAdd (eVar 1) (eC (.int 1))) (aCons (e2 pSub (eVar 1) (eC (.int 1))) (aCons (eC (.bl true)) (aCons (eC .non) (aCons (eC (.int 0)) (aCons (eC (.int 16)) (aCons (eN pStr (aCons (eVar 1) aNil)) aNil)))))))) (eCallO 0 2 f__law_pick (aCons (eC (.int 7)) aNil)))) sNx) (sRet (e2 pIx (fLst (aCons (eC .non) (aCons (eC (.int 7)) (aCons (eC (.str (Str.ofString "n"))) (aCons (eC (.str (Str.ofString ""))) (aCons (eC (.str (Str.ofString "A"))) (aCons (eC (.str (Str.ofString "abcdefghi"))) (aCons (eC (.str (Str.ofString "a"))) (aCons (eC (.str (Str.ofString "row"))) aNil))))))))) (eCallO 0 2 f__law_pick (aCons (eC (.int 8)) aNil)))))))
def fr__law_spoilt : Nat → DenF
  | 0 => fun _ => .stk
  | k + 1 => runF true false 3 (b__law_spoilt (fr__law_spoilt k))
def f__law_spoilt : DenF := fr__law_spoilt 12
def b__law_span : DenS := (sSeq (sSet 2 (e2 pAdd (eC (.int 1)) (eCallO 0 2 f__law_pick (aCons (eVar 1) aNil)))) (sSeq (sSet 3 (eN pMin (aCons (eVar 1) (aCons (e2 pAdd (eVar 2) (eCallO 0 2 f__law_one (aCons (fLst (aCons (eC (.int 0)) (aCons (eC (.int 0)) (aCons (eC (.int 1)) (aCons (eC (.int 2)) (aCons (eCallO 0 2 f__law_pick (aCons (eVar 1) aNil)) aNil)))))) aNil))) aNil)))) (sRet (eTup (aCons (eVar 2) (aCons (eVar 3) aNil))))))
def f__law_span : DenF := runF true false 2 b__law_span
def b__law_book : DenS := (sSeq (sSet 4 (e2 pAdd (eC (.int 1)) (eCallO 0 2 f__law_pick (aCons (eVar 1) aNil)))) (sSeq (sOwn 5 (fLst aNil)) (sSeq (sSeq (sFor (itR1 (aCons (e2 pAdd (eC (.int 1)) (eCallO 0 2 f__law_pick (aCons (eVar 2) aNil))) aNil)) (.nm 6) (sApp 5 (eN pTuple (aCons (fComp (itR1 (aCons (eCallO 0 2 f__law_pick (aCons (e2 pAdd (eVar 3) (eC (.int 1))) aNil)) aNil)) (.nm 7) [7] tT (eCallO 0 2 f__law_span (aCons (eVar 4) aNil))) aNil)))) (sFz 5)) (sRet (eTup (aCons (eVar 4) (aCons (eN pTuple (aCons (eVar 5) aNil)) aNil)))))))
def f__law_book : DenF := runF true false 4 b__law_book
def b__law_room_of : DenS := (sRet (eN pTuple (aCons (fComp (itEnum (aCons (eVar 0) aNil)) (.tu [(.nm 1), (.nm 2)]) [1, 2] (tst (e2 pGt (eVar 2) (eC (.int 0)))) (eTup (aCons (e2 pAdd (eVar 1) (eC (.int 1))) (aCons (eVar 2) aNil)))) aNil)))
def f__law_room_of : DenF := runF false false 2 b__law_room_of
def b__law_room : DenS := (sRet (eCall 1 f__law_room_of (aCons (fComp (itR1 (aCons (e2 pIx (eVar 1) (eC (.int 0))) aNil)) (.nm 3) [3] tT (eCallO 0 2 f__law_one (aCons (fLst (aCons (eC (.int 0)) (aCons (eC (.int 0)) (aCons (eC (.int 1)) (aCons (eC (.int 1)) (aCons (eCallO 0 2 f__law_pick (aCons (e2 pAdd (eVar 2) (eC (.int 1))) aNil)) aNil)))))) aNil))) aNil)))
def f__law_room : DenF := runF true false 1 b__law_room
def b__law_in : DenS := (sRet (eAnd (eCall 1 f__law_whole (aCons (eVar 0) aNil)) (eChain pLe pLe (eVar 1) (eVar 0) (eVar 2))))
def f__law_in : DenF := runF false false 0 b__law_in
def b__law_are_pairs : DenS := (sSeq (sIf (tNotD (tst (eIsT "tuple" (eVar 0)))) (sRet (eC (.bl false))) sNx) (sRet (e2 pEq (fComp (itS (eVar 0)) (.nm 1) [1] (tOrD (tNotD (tst (eIsT "tuple" (eVar 1)))) (tst (e2 pNe (eN pLen (aCons (eVar 1) aNil)) (eC (.int 2))))) (eVar 1)) (fLst aNil))))
def f__law_are_pairs : DenF := runF false false 1 b__law_are_pairs
def b__law_is_book : DenS := (sSeq (sIf (tOrD (tNotD (tst (eIsT "tuple" (eVar 0)))) (tOrD (tst (e2 pNe (eN pLen (aCons (eVar 0) aNil)) (eC (.int 2)))) (tNotD (tst (eCall 3 f__law_in (aCons (e2 pIx (eVar 0) (eC (.int 0))) (aCons (eC (.int 1)) (aCons (eC (.int 16)) aNil)))))))) (sRet (eC (.bl false))) sNx) (sSeq (sIf (tOrD (tNotD (tst (eIsT "tuple" (e2 pIx (eVar 0) (eC (.int 1)))))) (tNotD (tst (eChain pLe pLe (eC (.int 1)) (eN pLen (aCons (e2 pIx (eVar 0) (eC (.int 1))) aNil)) (eC (.int 5)))))) (sRet (eC (.bl false))) sNx) (sSeq (sFor (itS (e2 pIx (eVar 0) (eC (.int 1)))) (.nm 1) (sSeq (sIf (tOrD (tNotD (tst (eCall 1 f__law_are_pairs (aCons (eVar 1) aNil)))) (tst (e2 pGt (eN pLen (aCons (eVar 1) aNil)) (eC (.int 8))))) (sRet (eC (.bl false))) sNx) (sFor (itS (eVar 1)) (.tu [(.nm 2), (.nm 3)]) (sIf (tOrD (tNotD (tst (eCall 3 f__law_in (aCons (eVar 2) (aCons (eC (.int 1)) (aCons (e2 pIx (eVar 0) (eC (.int 0))) aNil)))))) (tNotD (tst (eCall 3 f__law_in (aCons (eVar 3) (aCons (eVar 2) (aCons (e2 pIx (eVar 0) (eC (.int 0))) aNil))))))) (sRet (eC (.bl false))) sNx)))) (sRet (eC (.bl true))))))
def f__law_is_book : DenF := runF false false 3 b__law_is_book
def b__law_is_room : DenS := (sSeq (sIf (tNotD (tst (eCall 1 f__law_are_pairs (aCons (eVar 1) aNil)))) (sRet (eC (.bl false))) sNx) (sSeq (sFor (itS (eVar 1)) (.tu [(.nm 3), (.nm 4)]) (sIf (tOrD (tNotD (tst (eCall 3 f__law_in (aCons (eVar 3) (aCons (eC (.int 1)) (aCons (e2 pIx (eVar 0) (eC (.int 0))) aNil)))))) (tNotD (tst (eCall 3 f__law_in (aCons (eVar 4) (aCons (eC (.int 1)) (aCons (eC (.int 99)) aNil))))))) (sRet (eC (.bl false))) sNx)) (sSeq (sSet 2 (fComp (itS (eVar 1)) (.nm 5) [5] tT (e2 pIx (eVar 5) (eC (.int 0))))) (sRet (e2 pEq (eVar 2) (eSortSet (eVar 2)))))))
def f__law_is_room : DenF := runF false false 4 b__law_is_room
def b_law : DenS := (sSeq (sOwn 1 (fLst (aCons (eTup (aCons (eC (.int 16)) (aCons (eTup (aCons (eTup aNil) aNil)) aNil))) (aCons (eTup (aCons (eC (.int 17)) (aCons (eTup (aCons (eTup aNil) aNil)) aNil))) (aCons (eTup (aCons (eC (.int 0)) (aCons (eTup (aCons (eTup aNil) aNil)) aNil))) (aCons (eTup (aCons (eC (.int 1)) (aCons (eTup aNil) aNil))) (aCons (eTup (aCons (eC (.int 1)) (aCons (e2 pRepT (eTup (aCons (eTup aNil) aNil)) (eC (.int 5))) aNil))) (aCons (eTup (aCons (eC (.int 1)) (aCons (e2 pRepT (eTup (aCons (eTup aNil) aNil)) (eC (.int 6))) aNil))) (aCons (eTup (aCons (eC (.bl true)) (aCons (eTup (aCons (eTup aNil) aNil)) aNil))) aNil))))))))) (sSeq (sOwn 1 (fLock 1 (e2 pAddL (eVar 1) (fLst (aCons (eTup (aCons (eC (.int 2)) (aCons (eTup (aCons (e2 pRepT (eTup (aCons (eTup (aCons (eC (.int 1)) (aCons (eC (.int 2)) aNil))) aNil)) (eC (.int 8))) aNil)) aNil))) (aCons (eTup (aCons (eC (.int 2)) (aCons (eTup (aCons (e2 pRepT (eTup (aCons (eTup (aCons (eC (.int 1)) (aCons (eC (.int 2)) aNil))) aNil)) (eC (.int 9))) aNil)) aNil))) (aCons (eTup (aCons (eC (.int 2)) (aCons (eTup (aCons (eTup (aCons (eTup (aCons (eC (.int 2)) (aCons (eC (.int 1)) aNil))) aNil)) aNil)) aNil))) (aCons (eTup (aCons (eC (.int 2)) (aCons (eTup (aCons (eTup (aCons (eTup (aCons (eC (.int 1)) (aCons (eC (.int 3)) aNil))) aNil)) aNil)) aNil))) aNil)))))))) (sSeq (sSeq (sApp 1 (eTup (aCons (eC (.int 2)) (aCons (eTup (aCons (fLst (aCons (eTup (aCons (eC (.int 1)) (aCons (eC (.int 2)) aNil))) aNil)) aNil)) aNil)))) (sFz 1)) (sSeq (sFor (itS (eSl (e2 pAdd (fLst (aCons (eC (.int 0)) aNil)) (eVar 0)) oN (oS (eC (.int 10))))) (.nm 2) (sSeq (sOwn 3 (eCall 2 f__law_deck (aCons (eVar 2) (aCons (eC (.int 1)) aNil)))) (sSeq (sSet 4 (eCallO 3 4 f__law_book (aCons (eC (.int 16)) (aCons (eC (.int 5)) (aCons (eC (.int 8)) aNil))))) (sSeq (sSet 5 (eCallO 3 2 f__law_spoilt (aCons (eVar 4) aNil))) (sSeq (sSet 6 (fLst (aCons (eVar 4) (aCons (eVar 5) (aCons (eCallO 3 2 f__law_spoilt (aCons (eVar 5) aNil)) (aCons (eRev (eVar 4)) (aCons (eN pList (aCons (eVar 4) aNil)) (aCons (eTup aNil) (aCons (eC .non) (aCons (eCallO 3 1 f__law_odd aNil) aNil)))))))))) (sSeq (sFor (itS (e2 pAdd (e2 pAdd (eVar 6) (fComp (itR1 (aCons (eC (.int 8)) aNil)) (.nm 9) [9] tT (eCallO 3 2 f__law_spoilt (aCons (eVar 4) aNil)))) (eVar 1))) (.nm 7) (sIf (tNotD (tst (eCall 2 f__law_same (aCons (eCall 1 f_is_book (aCons (eVar 7) aNil)) (aCons (eCall 1 f__law_is_book (aCons (eVar 7) aNil)) aNil))))) (sRet (eC (.bl false))) sNx)) (sSeq (sSet 8 (eCallO 3 3 f__law_room (aCons (eVar 4) (aCons (eC (.int 99)) aNil)))) (sSeq (sSet 5 (eCallO 3 2 f__law_spoilt (aCons (eVar 8) aNil))) (sSeq (sSet 6 (fLst (aCons (eVar 8) (aCons (eVar 5) (aCons (eCallO 3 2 f__law_spoilt (aCons (eVar 5) aNil)) (aCons (eRev (eVar 8)) (aCons (eN pList (aCons (eVar 8) aNil)) (aCons (eTup aNil) (aCons (eC .non) (aCons (eTup (aCons (eTup (aCons (eC (.int 1)) (aCons (eC (.int 99)) aNil))) aNil)) (aCons (eTup (aCons (eTup (aCons (eC (.int 1)) (aCons (eC (.int 100)) aNil))) aNil)) aNil))))))))))) (sSeq (sSet 6 (e2 pAdd (eVar 6) (fLst (aCons (eTup (aCons (eTup (aCons (eC (.int 1)) (aCons (eC (.int 0)) aNil))) aNil)) (aCons (eTup (aCons (eTup (aCons (eC (.int 1)) (aCons (eC (.bl true)) aNil))) aNil)) (aCons (eTup (aCons (eTup (aCons (e2 pAdd (e2 pIx (eVar 4) (eC (.int 0))) (eC (.int 1))) (aCons (eC (.int 1)) aNil))) aNil)) (aCons (eTup (aCons (eTup (aCons (eC (.int 1)) (aCons (eC (.int 1)) aNil))) (aCons (eTup (aCons (eC (.int 1)) (aCons (eC (.int 2)) aNil))) aNil))) (aCons (eCallO 3 1 f__law_odd aNil) aNil)))))))) (sFor (itS (e2 pAdd (eVar 6) (fComp (itR1 (aCons (eC (.int 6)) aNil)) (.nm 9) [9] tT (eCallO 3 2 f__law_spoilt (aCons (eVar 8) aNil))))) (.nm 7) (sIf (tNotD (tst (eCall 2 f__law_same (aCons (eCall 2 f_is_room (aCons (eVar 4) (aCons (eVar 7) aNil))) (aCons (eCall 2 f__law_is_room (aCons (eVar 4) (aCons (eVar 7) aNil))) aNil))))) (sRet (eC (.bl false))) sNx)))))))))))) (sRet (eC (.bl true)))))))
def f_law : DenF := runF false false 9 b_law
structure Tops (K : PySem.W.Frag) (mg : Str → Option Value) : Prop where
  b_all : mg "all" = none
  b_bool : mg "bool" = none
  b_enumerate : mg "enumerate" = none
  b_int : mg "int" = none
  b_isinstance : mg "isinstance" = none
  b_len : mg "len" = none
  b_list : mg "list" = none
  b_min : mg "min" = none
  b_range : mg "range" = none
  b_set : mg "set" = none
  b_sorted : mg "sorted" = none
  b_str : mg "str" = none
  b_tuple : mg "tuple" = none
  b_zip : mg "zip" = none
  c_MOST_CHILDREN : TopI mg "MOST_CHILDREN" 8
  c_MOST_COATS : TopI mg "MOST_COATS" 99
  c_MOST_SIZES : TopI mg "MOST_SIZES" 16
  c_MOST_WINTERS : TopI mg "MOST_WINTERS" 5
section
variable {P : Program} {w : World} {K : PySem.W.Frag} {mg : Str → Option Value} {base : Heap}
abbrev st_is_from : Stmt := topS 8
theorem sc_is_from : FnScope ["thing", "low", "high"] ["thing", "low", "high"] (defScope st_is_from) := ⟨rfl, rfl, rfl, by decide +kernel, rfl, by decide +kernel, by decide +kernel⟩
theorem ok_is_from {f : Addr} {fd : FuncData} (F : Fun K "is_from" "is_from" st_is_from f fd) (T : Tops K mg)  : FnOk P w K mg base (L2.CX P w) 1 f fd ["thing", "low", "high"] (spD K mg false false 3 f_is_from) :=
  den_ok (N := ["thing", "low", "high"]) false false F sc_is_from fun cdv A outer s H E hr tk => (dss_one (ds_ret (de_and (de_isT (by decide) (by rfl) T.b_isinstance (by rfl) T.b_int (by decide +kernel) (de_var 0) (by decide +kernel)) (de_and (de_not (de_isT (by decide) (by rfl) T.b_isinstance (by rfl) T.b_bool (by decide +kernel) (de_var 0) (by decide +kernel))) (de_one (de_chain pr_le pr_le op_le op_le (de_var 1) (de_var 0) (de_var 2)))))))
abbrev st_is_rising : Stmt := topS 9
theorem sc_is_rising : FnScope ["things", "one", "other"] ["things"] (defScope st_is_rising) := ⟨rfl, rfl, rfl, by decide +kernel, rfl, by decide +kernel, by decide +kernel⟩
theorem ok_is_rising {f : Addr} {fd : FuncData} (F : Fun K "is_rising" "is_rising" st_is_rising f fd) (T : Tops K mg)  : FnOk P w K mg base (L2.CX P w) 1 f fd ["things"] (spD K mg false false 1 f_is_rising) :=
  den_ok (N := ["things", "one", "other"]) false false F sc_is_rising fun cdv A outer s H E hr tk => (dss_one (ds_ret (de_cb pr_all (cr_all rfl) (by rfl) T.b_all (by decide +kernel) (da_cons (DF.fz (df_comp sc_is_rising.nd (di_zip (by rfl) T.b_zip (da_cons (de_var 0) (da_cons (DM.fz (dm_slice (de_var 0) (do_s de_int) do_n)) da_nil))) (blkOk_by (own := [("one", 1), ("other", 2)]) (by kernel_rfl)) (fun _ _ _ _ _ => (dg_tu rfl (dgs_cons (dg_nm 1 sc_is_rising.nd) (dgs_cons (dg_nm 2 sc_is_rising.nd) dgs_nil)))) (fun _ _ _ _ _ => dts_nil) (fun _ _ _ _ _ => (de_cmp pr_lt (op_ltA hr.units0) (de_var 1) (de_var 2) (nomark _))) (by decide))) da_nil))))
abbrev st_are_tuples : Stmt := topS 10
theorem sc_are_tuples : FnScope ["thing", "size", "row"] ["thing", "size"] (defScope st_are_tuples) := ⟨rfl, rfl, rfl, by decide +kernel, rfl, by decide +kernel, by decide +kernel⟩
theorem ok_are_tuples {f : Addr} {fd : FuncData} (F : Fun K "are_tuples" "are_tuples" st_are_tuples f fd) (T : Tops K mg)  : FnOk P w K mg base (L2.CX P w) 1 f fd ["thing", "size"] (spD K mg false false 2 f_are_tuples) :=
  den_ok (N := ["thing", "size", "row"]) false false F sc_are_tuples fun cdv A outer s H E hr tk => (dss_one (ds_ret (de_and (de_isT (by decide) (by rfl) T.b_isinstance (by rfl) T.b_tuple (by decide +kernel) (de_var 0) (by decide +kernel)) (de_one (de_cb pr_all (cr_all rfl) (by rfl) T.b_all (by decide +kernel) (da_cons (DF.fz (df_comp sc_are_tuples.nd (di_seq (de_var 0)) (blkOk_by (own := [("row", 2)]) (by kernel_rfl)) (fun _ _ _ _ _ => (dg_nm 2 sc_are_tuples.nd)) (fun _ _ _ _ _ => dts_nil) (fun _ _ _ _ _ => (de_and (de_isT (by decide) (by rfl) T.b_isinstance (by rfl) T.b_tuple (by decide +kernel) (de_var 2) (by decide +kernel)) (de_one (de_cmp pr_eq (op_eqA hr.units) (de_cb pr_len call_len (by rfl) T.b_len (by decide +kernel) (da_cons (de_var 2) da_nil)) (de_var 1) (nomark _))))) (by decide))) da_nil))))))
abbrev st_is_span : Stmt := topS 11
theorem sc_is_span : FnScope ["sizes", "thing"] ["sizes", "thing"] (defScope st_is_span) := ⟨rfl, rfl, rfl, by decide +kernel, rfl, by decide +kernel, by decide +kernel⟩
theorem ok_is_span {f : Addr} {fd : FuncData} (F : Fun K "is_span" "is_span" st_is_span f fd) (T : Tops K mg) (C_is_from : Cal P w K mg base 1 "is_from" false false 3 f_is_from) : FnOk P w K mg base (L2.CX P w) 2 f fd ["sizes", "thing"] (spD K mg false false 2 f_is_span) :=
  den_ok (N := ["sizes", "thing"]) false false F sc_is_span fun cdv A outer s H E hr tk => (dss_cons (ds_if (PW.pt (dw_or (dt_not (dt_val (de_isT (by decide) (by rfl) T.b_isinstance (by rfl) T.b_tuple (by decide +kernel) (de_var 1) (by decide +kernel)))) (dw_or (dt_cmp pr_ne (op_neA hr.units) (de_cb pr_len call_len (by rfl) T.b_len (by decide +kernel) (da_cons (de_var 1) da_nil)) de_int (nomark _)) (dw_or1 (dt_not (dt_val (de_callC C_is_from (hr.mono (by omega)) tk (by rfl) (da_cons (de_ix pr_ix ix_A (de_var 1) de_int) (da_cons de_int (da_cons (de_var 0) da_nil)))))))))) (dss_one (ds_ret de_bl)) dss_nil) (dss_one (ds_ret (de_callC C_is_from (hr.mono (by omega)) tk (by rfl) (da_cons (de_ix pr_ix ix_A (de_var 1) de_int) (da_cons (de_ix pr_ix ix_A (de_var 1) de_int) (da_cons (de_var 0) da_nil)))))))
abbrev st_is_winter : Stmt := topS 12
theorem sc_is_winter : FnScope ["sizes", "thing", "span"] ["sizes", "thing"] (defScope st_is_winter) := ⟨rfl, rfl, rfl, by decide +kernel, rfl, by decide +kernel, by decide +kernel⟩
theorem ok_is_winter {f : Addr} {fd : FuncData} (F : Fun K "is_winter" "is_winter" st_is_winter f fd) (T : Tops K mg) (C_is_span : Cal P w K mg base 2 "is_span" false false 2 f_is_span) : FnOk P w K mg base (L2.CX P w) 3 f fd ["sizes", "thing"] (spD K mg false false 2 f_is_winter) :=
  den_ok (N := ["sizes", "thing", "span"]) false false F sc_is_winter fun cdv A outer s H E hr tk => (dss_one (ds_ret (de_and (de_isT (by decide) (by rfl) T.b_isinstance (by rfl) T.b_tuple (by decide +kernel) (de_var 1) (by decide +kernel)) (de_and (de_cmp pr_le op_le (de_cb pr_len call_len (by rfl) T.b_len (by decide +kernel) (da_cons (de_var 1) da_nil)) (de_topI (by rfl) T.c_MOST_CHILDREN) (nomark _)) (de_one (de_cb pr_all (cr_all rfl) (by rfl) T.b_all (by decide +kernel) (da_cons (DF.fz (df_comp sc_is_winter.nd (di_seq (de_var 1)) (blkOk_by (own := [("span", 2)]) (by kernel_rfl)) (fun _ _ _ _ _ => (dg_nm 2 sc_is_winter.nd)) (fun _ _ _ _ _ => dts_nil) (fun _ _ _ _ _ => (de_callC C_is_span (hr.mono (by omega)) tk_blk (by rfl) (da_cons (de_var 0) (da_cons (de_var 2) da_nil)))) (by decide))) da_nil)))))))
abbrev st_is_book : Stmt := topS 13
theorem sc_is_book : FnScope ["thing", "winter"] ["thing"] (defScope st_is_book) := ⟨rfl, rfl, rfl, by decide +kernel, rfl, by decide +kernel, by decide +kernel⟩
theorem ok_is_book {f : Addr} {fd : FuncData} (F : Fun K "is_book" "is_book" st_is_book f fd) (T : Tops K mg) (C_is_from : Cal P w K mg base 1 "is_from" false false 3 f_is_from) (C_is_winter : Cal P w K mg base 3 "is_winter" false false 2 f_is_winter) : FnOk P w K mg base (L2.CX P w) 4 f fd ["thing"] (spD K mg false false 1 f_is_book) :=
  den_ok (N := ["thing", "winter"]) false false F sc_is_book fun cdv A outer s H E hr tk => (dss_cons (ds_if (PW.pt (dw_or (dt_not (dt_val (de_isT (by decide) (by rfl) T.b_isinstance (by rfl) T.b_tuple (by decide +kernel) (de_var 0) (by decide +kernel)))) (dw_or (dt_cmp pr_ne (op_neA hr.units) (de_cb pr_len call_len (by rfl) T.b_len (by decide +kernel) (da_cons (de_var 0) da_nil)) de_int (nomark _)) (dw_or1 (dt_not (dt_val (de_callC C_is_from (hr.mono (by omega)) tk (by rfl) (da_cons (de_ix pr_ix ix_A (de_var 0) de_int) (da_cons de_int (da_cons (de_topI (by rfl) T.c_MOST_SIZES) da_nil)))))))))) (dss_one (ds_ret de_bl)) dss_nil) (dss_cons (ds_if (PW.pt (dw_or (dt_not (dt_val (de_isT (by decide) (by rfl) T.b_isinstance (by rfl) T.b_tuple (by decide +kernel) (de_ix pr_ix ix_A (de_var 0) de_int) (by decide +kernel)))) (dw_or1 (dt_not (dt_chain pr_le pr_le op_le op_le de_int (de_cb pr_len call_len (by rfl) T.b_len (by decide +kernel) (da_cons (de_ix pr_ix ix_A (de_var 0) de_int) da_nil)) (de_topI (by rfl) T.c_MOST_WINTERS)))))) (dss_one (ds_ret de_bl)) dss_nil) (dss_one (ds_ret (de_cb pr_all (cr_all rfl) (by rfl) T.b_all (by decide +kernel) (da_cons (DF.fz (df_comp sc_is_book.nd (di_seq (de_ix pr_ix ix_A (de_var 0) de_int)) (blkOk_by (own := [("winter", 1)]) (by kernel_rfl)) (fun _ _ _ _ _ => (dg_nm 1 sc_is_book.nd)) (fun _ _ _ _ _ => dts_nil) (fun _ _ _ _ _ => (de_callC C_is_winter (hr.mono (by omega)) tk_blk (by rfl) (da_cons (de_ix pr_ix ix_A (de_var 0) de_int) (da_cons (de_var 1) da_nil)))) (by decide))) da_nil))))))
abbrev st_need_book : Stmt := topS 14
theorem sc_need_book : FnScope ["book"] ["book"] (defScope st_need_book) := ⟨rfl, rfl, rfl, by decide +kernel, rfl, by decide +kernel, by decide +kernel⟩
theorem ok_need_book {f : Addr} {fd : FuncData} (F : Fun K "need_book" "need_book" st_need_book f fd) (T : Tops K mg) (C_is_book : Cal P w K mg base 4 "is_book" false false 1 f_is_book) : FnOk P w K mg base (L2.CX P w) 5 f fd ["book"] (spD K mg false false 1 f_need_book) :=
  den_ok (N := ["book"]) false false F sc_need_book fun cdv A outer s H E hr tk => (dss_one (ds_if (dt_not (dt_val (de_callC C_is_book (hr.mono (by omega)) tk (by rfl) (da_cons (de_var 0) da_nil)))) (dss_one ds_never) dss_nil))
abbrev st_is_stock : Stmt := topS 15
theorem sc_is_stock : FnScope ["book", "thing", "row"] ["book", "thing"] (defScope st_is_stock) := ⟨rfl, rfl, rfl, by decide +kernel, rfl, by decide +kernel, by decide +kernel⟩
theorem ok_is_stock {f : Addr} {fd : FuncData} (F : Fun K "is_stock" "is_stock" st_is_stock f fd) (T : Tops K mg) (C_are_tuples : Cal P w K mg base 1 "are_tuples" false false 2 f_are_tuples) (C_is_from : Cal P w K mg base 1 "is_from" false false 3 f_is_from) (C_is_rising : Cal P w K mg base 1 "is_rising" false false 1 f_is_rising) : FnOk P w K mg base (L2.CX P w) 2 f fd ["book", "thing"] (spD K mg false false 2 f_is_stock) :=
  den_ok (N := ["book", "thing", "row"]) false false F sc_is_stock fun cdv A outer s H E hr tk => (dss_cons (ds_if (dt_not (dt_val (de_callC C_are_tuples (hr.mono (by omega)) tk (by rfl) (da_cons (de_var 1) (da_cons de_int da_nil))))) (dss_one (ds_ret de_bl)) dss_nil) (dss_cons (ds_if (dt_not (dt_val (de_cb pr_all (cr_all rfl) (by rfl) T.b_all (by decide +kernel) (da_cons (DF.fz (df_comp sc_is_stock.nd (di_seq (de_var 1)) (blkOk_by (own := [("row", 2)]) (by kernel_rfl)) (fun _ _ _ _ _ => (dg_nm 2 sc_is_stock.nd)) (fun _ _ _ _ _ => dts_nil) (fun _ _ _ _ _ => (de_and (de_callC C_is_from (hr.mono (by omega)) tk_blk (by rfl) (da_cons (de_ix pr_ix ix_A (de_var 2) de_int) (da_cons de_int (da_cons (de_ix pr_ix ix_A (de_var 0) de_int) da_nil)))) (de_one (de_callC C_is_from (hr.mono (by omega)) tk_blk (by rfl) (da_cons (de_ix pr_ix ix_A (de_var 2) de_int) (da_cons de_int (da_cons (de_topI (by rfl) T.c_MOST_COATS) da_nil))))))) (by decide))) da_nil)))) (dss_one (ds_ret de_bl)) dss_nil) (dss_one (ds_ret (de_callC C_is_rising (hr.mono (by omega)) tk (by rfl) (da_cons (DF.fz (df_comp sc_is_stock.nd (di_seq (de_var 1)) (blkOk_by (own := [("row", 2)]) (by kernel_rfl)) (fun _ _ _ _ _ => (dg_nm 2 sc_is_stock.nd)) (fun _ _ _ _ _ => dts_nil) (fun _ _ _ _ _ => (de_ix pr_ix ix_A (de_var 2) de_int)) (by decide))) da_nil))))))
abbrev st_is_room : Stmt := topS 16
theorem sc_is_room : FnScope ["book", "thing"] ["book", "thing"] (defScope st_is_room) := ⟨rfl, rfl, rfl, by decide +kernel, rfl, by decide +kernel, by decide +kernel⟩
theorem ok_is_room {f : Addr} {fd : FuncData} (F : Fun K "is_room" "is_room" st_is_room f fd) (T : Tops K mg) (C_is_stock : Cal P w K mg base 2 "is_stock" false false 2 f_is_stock) (C_need_book : Cal P w K mg base 5 "need_book" false false 1 f_need_book) : FnOk P w K mg base (L2.CX P w) 6 f fd ["book", "thing"] (spD K mg false false 2 f_is_room) :=
  den_ok (N := ["book", "thing"]) false false F sc_is_room fun cdv A outer s H E hr tk => (dss_cons (ds_expr (de_callC C_need_book (hr.mono (by omega)) tk (by rfl) (da_cons (de_var 0) da_nil))) (dss_one (ds_ret (de_callC C_is_stock (hr.mono (by omega)) tk (by rfl) (da_cons (de_var 0) (da_cons (de_var 1) da_nil))))))
abbrev st__law_deck : Stmt := topS 18
theorem sc__law_deck : FnScope ["cell", "turn"] ["cell", "turn"] (defScope st__law_deck) := ⟨rfl, rfl, rfl, by decide +kernel, rfl, by decide +kernel, by decide +kernel⟩
theorem ok__law_deck {f : Addr} {fd : FuncData} (F : Fun K "_law_deck" "_law_deck" st__law_deck f fd) (T : Tops K mg)  : FnOk P w K mg base (L2.CX P w) 1 f fd ["cell", "turn"] (spD K mg false true 2 f__law_deck) :=
  den_ok (N := ["cell", "turn"]) false true F sc__law_deck fun cdv A outer s H E hr tk => (dss_cons (ds_if (dt_cmp pr_ge op_ge (de_var 0) (de_bin pr_pow op_pow de_int de_int) (nomark _)) (dss_one (ds_retF (df_lst (da_cons (de_bin pr_sub op_subB (de_var 0) (de_bin pr_pow op_pow de_int de_int)) (da_cons (de_bin pr_mod op_mod (de_var 0) de_int) (da_cons (de_var 1) da_nil)))))) dss_nil) (dss_one (ds_retF (df_lst (da_cons de_int (da_cons (de_bin pr_mod op_mod (de_var 0) de_int) (da_cons (de_var 1) da_nil)))))))
abbrev st__law_pick : Stmt := topS 19
theorem sc__law_pick : FnScope ["deck", "size", "number", "found"] ["deck", "size"] (defScope st__law_pick) := ⟨rfl, rfl, rfl, by decide +kernel, rfl, by decide +kernel, by decide +kernel⟩
theorem ok__law_pick {f : Addr} {fd : FuncData} (F : Fun K "_law_pick" "_law_pick" st__law_pick f fd) (T : Tops K mg)  : FnOk P w K mg base (L2.CX P w) 1 f fd ["deck", "size"] (spD K mg true false 2 f__law_pick) :=
  den_ok (N := ["deck", "size", "number", "found"]) true false F sc__law_pick fun cdv A outer s H E hr tk => (dss_cons (ds_if (dt_cmp pr_gt op_gt (de_ixO 0 de_int) de_int (nomark _)) (dss_cons (ds_set 3 sc__law_pick.nd (de_bin pr_mod op_mod (de_ixO 0 de_int) (de_var 1))) (dss_cons (ds_put 0 (de_bin pr_div op_fdiv (de_ixO 0 de_int) (de_var 1)) de_int) (dss_one (ds_ret (de_var 3))))) dss_nil) (dss_cons (ds_put 0 (DM.fz (dm_bin pr_add op_addA (de_ixO 0 de_int) de_int)) de_int) (dss_cons (ds_set 2 sc__law_pick.nd (de_bin pr_mod op_mod (de_bin pr_pow op_pow (DM.fz (dm_bin pr_add op_addA (de_ixO 0 de_int) (de_bin pr_mulI op_mul de_int (de_ixO 0 de_int)))) de_int) de_int)) (dss_cons (ds_set 3 sc__law_pick.nd (de_bin pr_div op_fdiv (de_bin pr_mod op_mod (de_bin pr_pow op_pow (DM.fz (dm_bin pr_add op_addA (de_var 2) (de_bin pr_mulI op_mul de_int (de_ixO 0 de_int)))) de_int) de_int) de_int)) (dss_one (ds_ret (de_bin pr_mod op_mod (de_var 3) (de_var 1))))))))
abbrev st__law_whole : Stmt := topS 20
theorem sc__law_whole : FnScope ["thing"] ["thing"] (defScope st__law_whole) := ⟨rfl, rfl, rfl, by decide +kernel, rfl, by decide +kernel, by decide +kernel⟩
theorem ok__law_whole {f : Addr} {fd : FuncData} (F : Fun K "_law_whole" "_law_whole" st__law_whole f fd) (T : Tops K mg)  : FnOk P w K mg base (L2.CX P w) 1 f fd ["thing"] (spD K mg false false 1 f__law_whole) :=
  den_ok (N := ["thing"]) false false F sc__law_whole fun cdv A outer s H E hr tk => (dss_one (ds_ret (de_and (de_isT (by decide) (by rfl) T.b_isinstance (by rfl) T.b_int (by decide +kernel) (de_var 0) (by decide +kernel)) (de_one (de_not (de_isT (by decide) (by rfl) T.b_isinstance (by rfl) T.b_bool (by decide +kernel) (de_var 0) (by decide +kernel)))))))
abbrev st__law_one : Stmt := topS 21
theorem sc__law_one : FnScope ["deck", "some"] ["deck", "some"] (defScope st__law_one) := ⟨rfl, rfl, rfl, by decide +kernel, rfl, by decide +kernel, by decide +kernel⟩
theorem ok__law_one {f : Addr} {fd : FuncData} (F : Fun K "_law_one" "_law_one" st__law_one f fd) (T : Tops K mg) (C__law_pick : Cal P w K mg base 1 "_law_pick" true false 2 f__law_pick) : FnOk P w K mg base (L2.CX P w) 2 f fd ["deck", "some"] (spD K mg true false 2 f__law_one) :=
  den_ok (N := ["deck", "some"]) true false F sc__law_one fun cdv A outer s H E hr tk => (dss_one (ds_ret (de_ix pr_ix ix_A (de_var 1) (de_callOC 0 C__law_pick (hr.mono (by omega)) tk (by rfl) (da_cons (de_cb pr_len call_len (by rfl) T.b_len (by decide +kernel) (da_cons (de_var 1) da_nil)) da_nil)))))
abbrev st__law_sort : Stmt := topS 22
theorem sc__law_sort : FnScope ["thing"] ["thing"] (defScope st__law_sort) := ⟨rfl, rfl, rfl, by decide +kernel, rfl, by decide +kernel, by decide +kernel⟩
theorem ok__law_sort {f : Addr} {fd : FuncData} (F : Fun K "_law_sort" "_law_sort" st__law_sort f fd) (T : Tops K mg)  : FnOk P w K mg base (L2.CX P w) 1 f fd ["thing"] (spD K mg false false 1 f__law_sort) :=
  den_ok (N := ["thing"]) false false F sc__law_sort fun cdv A outer s H E hr tk => (dss_cons (ds_if (dt_val (de_isT (by decide) (by rfl) T.b_isinstance (by rfl) T.b_bool (by decide +kernel) (de_var 0) (by decide +kernel))) (dss_one (ds_ret de_int)) dss_nil) (dss_cons (ds_if (dt_val (de_isT (by decide) (by rfl) T.b_isinstance (by rfl) T.b_int (by decide +kernel) (de_var 0) (by decide +kernel))) (dss_one (ds_ret de_int)) dss_nil) (dss_cons (ds_if (dt_val (de_isT (by decide) (by rfl) T.b_isinstance (by rfl) T.b_str (by decide +kernel) (de_var 0) (by decide +kernel))) (dss_one (ds_ret de_int)) dss_nil) (dss_cons (ds_if (dt_val (de_isT (by decide) (by rfl) T.b_isinstance (by rfl) T.b_list (by decide +kernel) (de_var 0) (by decide +kernel))) (dss_one (ds_ret de_int)) dss_nil) (dss_one (ds_ret (de_if (dt_val (de_isT (by decide) (by rfl) T.b_isinstance (by rfl) T.b_tuple (by decide +kernel) (de_var 0) (by decide +kernel))) de_int de_int)))))))
abbrev st__law_same : Stmt := topS 23
theorem sc__law_same : FnScope ["told", "due", "k", "part"] ["told", "due"] (defScope st__law_same) := ⟨rfl, rfl, rfl, by decide +kernel, rfl, by decide +kernel, by decide +kernel⟩
theorem ok__law_same {f : Addr} {fd : FuncData} (F : Fun K "_law_same" "_law_same" st__law_same f fd) (T : Tops K mg) (C__law_sort : Cal P w K mg base 1 "_law_sort" false false 1 f__law_sort) (g : mg "_law_same" = some (.ref f)) (b : Binds K fd ["told", "due"] []) (m : Nat) : FnOk P w K mg base (L2.CX P w) (1 + m) f fd ["told", "due"] (spD K mg false false 2 (fr__law_same m)) := by
  induction m with
  | zero => exact fnNone
  | succ m ih =>
    have C__law_same : Cal P w K mg base (1 + m) "_law_same" false false 2 (fr__law_same m) := ⟨f, fd, _, g, F.kp, b, ih⟩
    exact den_ok (k := 1 + m) (N := ["told", "due", "k", "part"]) false false F sc__law_same fun cdv A outer s H E hr tk => (dss_cons (ds_if (dt_cmp pr_ne (op_neA hr.units) (de_callC C__law_sort (hr.mono (by omega)) tk (by rfl) (da_cons (de_var 0) da_nil)) (de_callC C__law_sort (hr.mono (by omega)) tk (by rfl) (da_cons (de_var 1) da_nil)) (nomark _)) (dss_one (ds_ret de_bl)) dss_nil) (dss_cons (ds_if (PW.pt (dw_and (dt_cmp pr_gt op_gt (de_callC C__law_sort (hr.mono (by omega)) tk (by rfl) (da_cons (de_var 0) da_nil)) de_int (nomark _)) (dw_and1 (dt_cmp pr_lt (op_ltA hr.units0) (de_callC C__law_sort (hr.mono (by omega)) tk (by rfl) (da_cons (de_var 0) da_nil)) de_int (nomark _))))) (dss_cons (ds_if (dt_cmp pr_ne (op_neA hr.units) (de_cb pr_len call_len (by rfl) T.b_len (by decide +kernel) (da_cons (de_var 0) da_nil)) (de_cb pr_len call_len (by rfl) T.b_len (by decide +kernel) (da_cons (de_var 1) da_nil)) (nomark _)) (dss_one (ds_ret de_bl)) dss_nil) (dss_one (ds_ret (de_cmp pr_eq (op_eqA hr.units) (DF.fz (df_comp sc__law_same.nd (di_enum (by rfl) T.b_enumerate (da_cons (de_var 0) da_nil)) (blkOk_by (own := [("k", 2), ("part", 3)]) (by kernel_rfl)) (fun _ _ _ _ _ => (dg_tu rfl (dgs_cons (dg_nm 2 sc__law_same.nd) (dgs_cons (dg_nm 3 sc__law_same.nd) dgs_nil)))) (fun _ _ _ _ _ => dts_one (dt_not (dt_val (de_callC C__law_same (hr.mono (by omega)) tk_blk (by rfl) (da_cons (de_var 3) (da_cons (de_ix pr_ix ix_A (de_var 1) (de_var 2)) da_nil)))))) (fun _ _ _ _ _ => (de_var 2)) (by decide))) (DF.fz (df_lst da_nil)) (nomark _))))) dss_nil) (dss_one (ds_ret (de_cmp pr_eq (op_eqA hr.units) (de_var 0) (de_var 1) (nomark _))))))
abbrev st__law_odd : Stmt := topS 24
theorem sc__law_odd : FnScope ["deck", "some"] ["deck"] (defScope st__law_odd) := ⟨rfl, rfl, rfl, by decide +kernel, rfl, by decide +kernel, by decide +kernel⟩
theorem ok__law_odd {f : Addr} {fd : FuncData} (F : Fun K "_law_odd" "_law_odd" st__law_odd f fd) (T : Tops K mg) (C__law_one : Cal P w K mg base 2 "_law_one" true false 2 f__law_one) : FnOk P w K mg base (L2.CX P w) 3 f fd ["deck"] (spD K mg true false 1 f__law_odd) :=
  den_ok (N := ["deck", "some"]) true false F sc__law_odd fun cdv A outer s H E hr tk => (dss_cons (ds_set 1 sc__law_odd.nd (DF.fz (df_lst (da_cons de_non (da_cons de_bl (da_cons de_str (da_cons de_str (da_cons (de_tup da_nil) (da_cons (DF.fz (df_lst da_nil)) (da_cons (de_tup (da_cons (de_tup da_nil) da_nil)) (da_cons de_int (da_cons (de_un pr_neg un_neg de_int) (da_cons (de_bin pr_pow op_pow de_int de_int) (da_cons (de_tup (da_cons de_int (da_cons de_int da_nil))) (da_cons (de_tup (da_cons (de_tup (da_cons de_int (da_cons de_int da_nil))) da_nil)) (da_cons (DF.fz (df_lst (da_cons (de_tup (da_cons de_int (da_cons de_int da_nil))) da_nil))) (da_cons (de_tup (da_cons (de_tup (da_cons de_int (da_cons de_int da_nil))) (da_cons (de_tup (da_cons de_int (da_cons de_int da_nil))) da_nil))) da_nil))))))))))))))))) (dss_one (ds_ret (de_callOC 0 C__law_one (hr.mono (by omega)) tk (by rfl) (da_cons (de_var 1) da_nil)))))
abbrev st__law_spoilt : Stmt := topS 25
theorem sc__law_spoilt : FnScope ["deck", "thing", "rows", "at", "other"] ["deck", "thing"] (defScope st__law_spoilt) := ⟨rfl, rfl, rfl, by decide +kernel, rfl, by decide +kernel, by decide +kernel⟩
theorem ok__law_spoilt {f : Addr} {fd : FuncData} (F : Fun K "_law_spoilt" "_law_spoilt" st__law_spoilt f fd) (T : Tops K mg) (C__law_pick : Cal P w K mg base 1 "_law_pick" true false 2 f__law_pick) (g : mg "_law_spoilt" = some (.ref f)) (b : Binds K fd ["deck", "thing"] []) (m : Nat) : FnOk P w K mg base (L2.CX P w) (1 + m) f fd ["deck", "thing"] (spD K mg true false 2 (fr__law_spoilt m)) := by
  induction m with
  | zero => exact fnNone
  | succ m ih =>
    have C__law_spoilt : Cal P w K mg base (1 + m) "_law_spoilt" true false 2 (fr__law_spoilt m) := ⟨f, fd, _, g, F.kp, b, ih⟩
    exact den_ok (k := 1 + m) (N := ["deck", "thing", "rows", "at", "other"]) true false F sc__law_spoilt fun cdv A outer s H E hr tk => (dss_cons (ds_if (PW.pt (dw_and (dt_val (de_isT2 (by decide) (by decide) (by rfl) T.b_isinstance (by rfl) T.b_tuple (by decide +kernel) (by rfl) T.b_list (by decide +kernel) (de_var 1) (by decide +kernel))) (dw_and (dt_cmp pr_gt op_gt (de_cb pr_len call_len (by rfl) T.b_len (by decide +kernel) (da_cons (de_var 1) da_nil)) de_int (nomark _)) (dw_and1 (dt_cmp pr_gt op_gt (de_callOC 0 C__law_pick (hr.mono (by omega)) tk (by rfl) (da_cons de_int da_nil)) de_int (nomark _)))))) (dss_cons (ds_own 2 sc__law_spoilt.nd (df_ct pr_list call_list_of (by rfl) T.b_list (by decide +kernel) (da_cons (de_var 1) da_nil))) (dss_cons (ds_set 3 sc__law_spoilt.nd (de_callOC 0 C__law_pick (hr.mono (by omega)) tk (by rfl) (da_cons (de_lock 2 (de_cb pr_len call_len (by rfl) T.b_len (by decide +kernel) (da_cons (de_var 2) da_nil))) da_nil))) (dss_cons (ds_fz 2 (ds_put 2 (de_callOC 0 C__law_spoilt (hr.mono (by omega)) tk (by rfl) (da_cons (de_ixO 2 (de_var 3)) da_nil)) (de_var 3))) (dss_one (ds_ret (de_if (dt_val (de_isT (by decide) (by rfl) T.b_isinstance (by rfl) T.b_tuple (by decide +kernel) (de_var 1) (by decide +kernel))) (de_ct pr_tuple call_tuple_of (by rfl) T.b_tuple (by decide +kernel) (da_cons (de_var 2) da_nil)) (de_var 2))))))) dss_nil) (dss_cons (ds_if (dt_val (de_isT2 (by decide) (by decide) (by rfl) T.b_isinstance (by rfl) T.b_tuple (by decide +kernel) (by rfl) T.b_list (by decide +kernel) (de_var 1) (by decide +kernel))) (dss_cons (ds_set 4 sc__law_spoilt.nd (de_if (dt_val (de_isT (by decide) (by rfl) T.b_isinstance (by rfl) T.b_tuple (by decide +kernel) (de_var 1) (by decide +kernel))) (DF.fz (df_ct pr_list call_list_of (by rfl) T.b_list (by decide +kernel) (da_cons (de_var 1) da_nil))) (de_ct pr_tuple call_tuple_of (by rfl) T.b_tuple (by decide +kernel) (da_cons (de_var 1) da_nil)))) (dss_one (ds_ret (de_ix pr_ix ix_A (DF.fz (df_lst (da_cons (de_var 4) (da_cons (DM.fz (dm_bin pr_add op_addA (de_var 1) (DM.fz (dm_slice (de_var 1) do_n (do_s de_int))))) (da_cons (DM.fz (dm_slice (de_var 1) (do_s de_int) do_n)) (da_cons (DM.fz (dm_rev (de_var 1))) (da_cons de_non da_nil))))))) (de_callOC 0 C__law_pick (hr.mono (by omega)) tk (by rfl) (da_cons de_int da_nil)))))) dss_nil) (dss_cons (ds_if (dt_val (de_isT (by decide) (by rfl) T.b_isinstance (by rfl) T.b_int (by decide +kernel) (de_var 1) (by decide +kernel))) (dss_one (ds_ret (de_ix pr_ix ix_A (DF.fz (df_lst (da_cons (DM.fz (dm_bin pr_add op_addA (de_var 1) de_int)) (da_cons (de_bin pr_sub op_subB (de_var 1) de_int) (da_cons de_bl (da_cons de_non (da_cons de_int (da_cons de_int (da_cons (de_ct pr_str call_strB (by rfl) T.b_str (by decide +kernel) (da_cons (de_var 1) da_nil)) da_nil))))))))) (de_callOC 0 C__law_pick (hr.mono (by omega)) tk (by rfl) (da_cons de_int da_nil))))) dss_nil) (dss_one (ds_ret (de_ix pr_ix ix_A (DF.fz (df_lst (da_cons de_non (da_cons de_int (da_cons de_str (da_cons de_str (da_cons de_str (da_cons de_str (da_cons de_str (da_cons de_str da_nil)))))))))) (de_callOC 0 C__law_pick (hr.mono (by omega)) tk (by rfl) (da_cons de_int da_nil))))))))
abbrev st__law_span : Stmt := topS 26
theorem sc__law_span : FnScope ["deck", "sizes", "low", "high"] ["deck", "sizes"] (defScope st__law_span) := ⟨rfl, rfl, rfl, by decide +kernel, rfl, by decide +kernel, by decide +kernel⟩
theorem ok__law_span {f : Addr} {fd : FuncData} (F : Fun K "_law_span" "_law_span" st__law_span f fd) (T : Tops K mg) (C__law_one : Cal P w K mg base 2 "_law_one" true false 2 f__law_one) (C__law_pick : Cal P w K mg base 1 "_law_pick" true false 2 f__law_pick) : FnOk P w K mg base (L2.CX P w) 3 f fd ["deck", "sizes"] (spD K mg true false 2 f__law_span) :=
  den_ok (N := ["deck", "sizes", "low", "high"]) true false F sc__law_span fun cdv A outer s H E hr tk => (dss_cons (ds_set 2 sc__law_span.nd (DM.fz (dm_bin pr_add op_addA de_int (de_callOC 0 C__law_pick (hr.mono (by omega)) tk (by rfl) (da_cons (de_var 1) da_nil))))) (dss_cons (ds_set 3 sc__law_span.nd (de_cb pr_min (cr_minA rfl) (by rfl) T.b_min (by decide +kernel) (da_cons (de_var 1) (da_cons (DM.fz (dm_bin pr_add op_addA (de_var 2) (de_callOC 0 C__law_one (hr.mono (by omega)) tk (by rfl) (da_cons (DF.fz (df_lst (da_cons de_int (da_cons de_int (da_cons de_int (da_cons de_int (da_cons (de_callOC 0 C__law_pick (hr.mono (by omega)) tk (by rfl) (da_cons (de_var 1) da_nil)) da_nil))))))) da_nil)))) da_nil)))) (dss_one (ds_ret (de_tup (da_cons (de_var 2) (da_cons (de_var 3) da_nil)))))))
abbrev st__law_book : Stmt := topS 27
theorem sc__law_book : FnScope ["deck", "sizes_so", "winters_so", "children", "sizes", "winters", "turn", "k"] ["deck", "sizes_so", "winters_so", "children"] (defScope st__law_book) := ⟨rfl, rfl, rfl, by decide +kernel, rfl, by decide +kernel, by decide +kernel⟩
theorem ok__law_book {f : Addr} {fd : FuncData} (F : Fun K "_law_book" "_law_book" st__law_book f fd) (T : Tops K mg) (C__law_pick : Cal P w K mg base 1 "_law_pick" true false 2 f__law_pick) (C__law_span : Cal P w K mg base 3 "_law_span" true false 2 f__law_span) : FnOk P w K mg base (L2.CX P w) 4 f fd ["deck", "sizes_so", "winters_so", "children"] (spD K mg true false 4 f__law_book) :=
  den_ok (N := ["deck", "sizes_so", "winters_so", "children", "sizes", "winters", "turn", "k"]) true false F sc__law_book fun cdv A outer s H E hr tk => (dss_cons (ds_set 4 sc__law_book.nd (DM.fz (dm_bin pr_add op_addA de_int (de_callOC 0 C__law_pick (hr.mono (by omega)) tk (by rfl) (da_cons (de_var 1) da_nil))))) (dss_cons (ds_own 5 sc__law_book.nd (df_lst da_nil)) (dss_cons (ds_fz 5 (ds_for (passes_of rfl) rfl (di_range1 (by rfl) T.b_range (da_cons (DM.fz (dm_bin pr_add op_addA de_int (de_callOC 0 C__law_pick (hr.mono (by omega)) tk (by rfl) (da_cons (de_var 2) da_nil)))) da_nil)) (dg_nm 6 sc__law_book.nd) (dss_one (ds_append 5 (pe_bm PySem.F.plainAttrs_list PySem.F.slot_list_append PySem.F.type_list_append mt_append (pv 5) (pa_cons (de_ct pr_tuple call_tuple_of (by rfl) T.b_tuple (by decide +kernel) (da_cons (DF.fz (df_comp sc__law_book.nd (di_range1 (by rfl) T.b_range (da_cons (de_callOC 0 C__law_pick (hr.mono (by omega)) tk (by rfl) (da_cons (DM.fz (dm_bin pr_add op_addA (de_var 3) de_int)) da_nil)) da_nil)) (blkOk_by (own := [("k", 7)]) (by kernel_rfl)) (fun _ _ _ _ _ => (dg_nm 7 sc__law_book.nd)) (fun _ _ _ _ _ => dts_nil) (fun _ _ _ _ _ => (de_callOC 0 C__law_span (hr.mono (by omega)) tk_blk (by rfl) (da_cons (de_var 4) da_nil))) (by decide))) da_nil)) pa_nil)))))) (dss_one (ds_ret (de_tup (da_cons (de_var 4) (da_cons (de_ct pr_tuple call_tuple_of (by rfl) T.b_tuple (by decide +kernel) (da_cons (de_var 5) da_nil)) da_nil))))))))
abbrev st__law_room_of : Stmt := topS 28
theorem sc__law_room_of : FnScope ["coats", "at", "many"] ["coats"] (defScope st__law_room_of) := ⟨rfl, rfl, rfl, by decide +kernel, rfl, by decide +kernel, by decide +kernel⟩
theorem ok__law_room_of {f : Addr} {fd : FuncData} (F : Fun K "_law_room_of" "_law_room_of" st__law_room_of f fd) (T : Tops K mg)  : FnOk P w K mg base (L2.CX P w) 1 f fd ["coats"] (spD K mg false false 1 f__law_room_of) :=
  den_ok (N := ["coats", "at", "many"]) false false F sc__law_room_of fun cdv A outer s H E hr tk => (dss_one (ds_ret (de_ct pr_tuple call_tuple_of (by rfl) T.b_tuple (by decide +kernel) (da_cons (DF.fz (df_comp sc__law_room_of.nd (di_enum (by rfl) T.b_enumerate (da_cons (de_var 0) da_nil)) (blkOk_by (own := [("at", 1), ("many", 2)]) (by kernel_rfl)) (fun _ _ _ _ _ => (dg_tu rfl (dgs_cons (dg_nm 1 sc__law_room_of.nd) (dgs_cons (dg_nm 2 sc__law_room_of.nd) dgs_nil)))) (fun _ _ _ _ _ => dts_one (dt_cmp pr_gt op_gt (de_var 2) de_int (nomark _))) (fun _ _ _ _ _ => (de_tup (da_cons (DM.fz (dm_bin pr_add op_addA (de_var 1) de_int)) (da_cons (de_var 2) da_nil)))) (by decide))) da_nil))))
abbrev st__law_room : Stmt := topS 29
theorem sc__law_room : FnScope ["deck", "book", "most", "size"] ["deck", "book", "most"] (defScope st__law_room) := ⟨rfl, rfl, rfl, by decide +kernel, rfl, by decide +kernel, by decide +kernel⟩
theorem ok__law_room {f : Addr} {fd : FuncData} (F : Fun K "_law_room" "_law_room" st__law_room f fd) (T : Tops K mg) (C__law_one : Cal P w K mg base 2 "_law_one" true false 2 f__law_one) (C__law_pick : Cal P w K mg base 1 "_law_pick" true false 2 f__law_pick) (C__law_room_of : Cal P w K mg base 1 "_law_room_of" false false 1 f__law_room_of) : FnOk P w K mg base (L2.CX P w) 3 f fd ["deck", "book", "most"] (spD K mg true false 3 f__law_room) :=
  den_ok (N := ["deck", "book", "most", "size"]) true false F sc__law_room fun cdv A outer s H E hr tk => (dss_one (ds_ret (de_callC C__law_room_of (hr.mono (by omega)) tk (by rfl) (da_cons (DF.fz (df_comp sc__law_room.nd (di_range1 (by rfl) T.b_range (da_cons (de_ix pr_ix ix_A (de_var 1) de_int) da_nil)) (blkOk_by (own := [("size", 3)]) (by kernel_rfl)) (fun _ _ _ _ _ => (dg_nm 3 sc__law_room.nd)) (fun _ _ _ _ _ => dts_nil) (fun _ _ _ _ _ => (de_callOC 0 C__law_one (hr.mono (by omega)) tk_blk (by rfl) (da_cons (DF.fz (df_lst (da_cons de_int (da_cons de_int (da_cons de_int (da_cons de_int (da_cons (de_callOC 0 C__law_pick (hr.mono (by omega)) tk_blk (by rfl) (da_cons (DM.fz (dm_bin pr_add op_addA (de_var 2) de_int)) da_nil)) da_nil))))))) da_nil))) (by decide))) da_nil))))
abbrev st__law_in : Stmt := topS 30
theorem sc__law_in : FnScope ["thing", "low", "high"] ["thing", "low", "high"] (defScope st__law_in) := ⟨rfl, rfl, rfl, by decide +kernel, rfl, by decide +kernel, by decide +kernel⟩
theorem ok__law_in {f : Addr} {fd : FuncData} (F : Fun K "_law_in" "_law_in" st__law_in f fd) (T : Tops K mg) (C__law_whole : Cal P w K mg base 1 "_law_whole" false false 1 f__law_whole) : FnOk P w K mg base (L2.CX P w) 2 f fd ["thing", "low", "high"] (spD K mg false false 3 f__law_in) :=
  den_ok (N := ["thing", "low", "high"]) false false F sc__law_in fun cdv A outer s H E hr tk => (dss_one (ds_ret (de_and (de_callC C__law_whole (hr.mono (by omega)) tk (by rfl) (da_cons (de_var 0) da_nil)) (de_one (de_chain pr_le pr_le op_le op_le (de_var 1) (de_var 0) (de_var 2))))))
abbrev st__law_are_pairs : Stmt := topS 31
theorem sc__law_are_pairs : FnScope ["thing", "row"] ["thing"] (defScope st__law_are_pairs) := ⟨rfl, rfl, rfl, by decide +kernel, rfl, by decide +kernel, by decide +kernel⟩
theorem ok__law_are_pairs {f : Addr} {fd : FuncData} (F : Fun K "_law_are_pairs" "_law_are_pairs" st__law_are_pairs f fd) (T : Tops K mg)  : FnOk P w K mg base (L2.CX P w) 1 f fd ["thing"] (spD K mg false false 1 f__law_are_pairs) :=
  den_ok (N := ["thing", "row"]) false false F sc__law_are_pairs fun cdv A outer s H E hr tk => (dss_cons (ds_if (dt_not (dt_val (de_isT (by decide) (by rfl) T.b_isinstance (by rfl) T.b_tuple (by decide +kernel) (de_var 0) (by decide +kernel)))) (dss_one (ds_ret de_bl)) dss_nil) (dss_one (ds_ret (de_cmp pr_eq (op_eqA hr.units) (DF.fz (df_comp sc__law_are_pairs.nd (di_seq (de_var 0)) (blkOk_by (own := [("row", 1)]) (by kernel_rfl)) (fun _ _ _ _ _ => (dg_nm 1 sc__law_are_pairs.nd)) (fun _ _ _ _ _ => dts_one (PW.pt (dw_or (dt_not (dt_val (de_isT (by decide) (by rfl) T.b_isinstance (by rfl) T.b_tuple (by decide +kernel) (de_var 1) (by decide +kernel)))) (dw_or1 (dt_cmp pr_ne (op_neA hr.units) (de_cb pr_len call_len (by rfl) T.b_len (by decide +kernel) (da_cons (de_var 1) da_nil)) de_int (nomark _)))))) (fun _ _ _ _ _ => (de_var 1)) (by decide))) (DF.fz (df_lst da_nil)) (nomark _)))))
abbrev st__law_is_book : Stmt := topS 32
theorem sc__law_is_book : FnScope ["thing", "winter", "low", "high"] ["thing"] (defScope st__law_is_book) := ⟨rfl, rfl, rfl, by decide +kernel, rfl, by decide +kernel, by decide +kernel⟩
theorem ok__law_is_book {f : Addr} {fd : FuncData} (F : Fun K "_law_is_book" "_law_is_book" st__law_is_book f fd) (T : Tops K mg) (C__law_are_pairs : Cal P w K mg base 1 "_law_are_pairs" false false 1 f__law_are_pairs) (C__law_in : Cal P w K mg base 2 "_law_in" false false 3 f__law_in) : FnOk P w K mg base (L2.CX P w) 3 f fd ["thing"] (spD K mg false false 1 f__law_is_book) :=
  den_ok (N := ["thing", "winter", "low", "high"]) false false F sc__law_is_book fun cdv A outer s H E hr tk => (dss_cons (ds_if (PW.pt (dw_or (dt_not (dt_val (de_isT (by decide) (by rfl) T.b_isinstance (by rfl) T.b_tuple (by decide +kernel) (de_var 0) (by decide +kernel)))) (dw_or (dt_cmp pr_ne (op_neA hr.units) (de_cb pr_len call_len (by rfl) T.b_len (by decide +kernel) (da_cons (de_var 0) da_nil)) de_int (nomark _)) (dw_or1 (dt_not (dt_val (de_callC C__law_in (hr.mono (by omega)) tk (by rfl) (da_cons (de_ix pr_ix ix_A (de_var 0) de_int) (da_cons de_int (da_cons de_int da_nil)))))))))) (dss_one (ds_ret de_bl)) dss_nil) (dss_cons (ds_if (PW.pt (dw_or (dt_not (dt_val (de_isT (by decide) (by rfl) T.b_isinstance (by rfl) T.b_tuple (by decide +kernel) (de_ix pr_ix ix_A (de_var 0) de_int) (by decide +kernel)))) (dw_or1 (dt_not (dt_chain pr_le pr_le op_le op_le de_int (de_cb pr_len call_len (by rfl) T.b_len (by decide +kernel) (da_cons (de_ix pr_ix ix_A (de_var 0) de_int) da_nil)) de_int))))) (dss_one (ds_ret de_bl)) dss_nil) (dss_cons (ds_for (passes_of rfl) rfl (di_seq (de_ix pr_ix ix_A (de_var 0) de_int)) (dg_nm 1 sc__law_is_book.nd) (dss_cons (ds_if (PW.pt (dw_or (dt_not (dt_val (de_callC C__law_are_pairs (hr.mono (by omega)) tk (by rfl) (da_cons (de_var 1) da_nil)))) (dw_or1 (dt_cmp pr_gt op_gt (de_cb pr_len call_len (by rfl) T.b_len (by decide +kernel) (da_cons (de_var 1) da_nil)) de_int (nomark _))))) (dss_one (ds_ret de_bl)) dss_nil) (dss_one (ds_for (passes_of rfl) rfl (di_seq (de_var 1)) (dg_tu rfl (dgs_cons (dg_nm 2 sc__law_is_book.nd) (dgs_cons (dg_nm 3 sc__law_is_book.nd) dgs_nil))) (dss_one (ds_if (PW.pt (dw_or (dt_not (dt_val (de_callC C__law_in (hr.mono (by omega)) tk (by rfl) (da_cons (de_var 2) (da_cons de_int (da_cons (de_ix pr_ix ix_A (de_var 0) de_int) da_nil)))))) (dw_or1 (dt_not (dt_val (de_callC C__law_in (hr.mono (by omega)) tk (by rfl) (da_cons (de_var 3) (da_cons (de_var 2) (da_cons (de_ix pr_ix ix_A (de_var 0) de_int) da_nil))))))))) (dss_one (ds_ret de_bl)) dss_nil)))))) (dss_one (ds_ret de_bl)))))
abbrev st__law_is_room : Stmt := topS 33
theorem sc__law_is_room : FnScope ["book", "thing", "sizes", "size", "many", "row"] ["book", "thing"] (defScope st__law_is_room) := ⟨rfl, rfl, rfl, by decide +kernel, rfl, by decide +kernel, by decide +kernel⟩
theorem ok__law_is_room {f : Addr} {fd : FuncData} (F : Fun K "_law_is_room" "_law_is_room" st__law_is_room f fd) (T : Tops K mg) (C__law_are_pairs : Cal P w K mg base 1 "_law_are_pairs" false false 1 f__law_are_pairs) (C__law_in : Cal P w K mg base 2 "_law_in" false false 3 f__law_in) : FnOk P w K mg base (L2.CX P w) 3 f fd ["book", "thing"] (spD K mg false false 2 f__law_is_room) :=
  den_ok (N := ["book", "thing", "sizes", "size", "many", "row"]) false false F sc__law_is_room fun cdv A outer s H E hr tk => (dss_cons (ds_if (dt_not (dt_val (de_callC C__law_are_pairs (hr.mono (by omega)) tk (by rfl) (da_cons (de_var 1) da_nil)))) (dss_one (ds_ret de_bl)) dss_nil) (dss_cons (ds_for (passes_of rfl) rfl (di_seq (de_var 1)) (dg_tu rfl (dgs_cons (dg_nm 3 sc__law_is_room.nd) (dgs_cons (dg_nm 4 sc__law_is_room.nd) dgs_nil))) (dss_one (ds_if (PW.pt (dw_or (dt_not (dt_val (de_callC C__law_in (hr.mono (by omega)) tk (by rfl) (da_cons (de_var 3) (da_cons de_int (da_cons (de_ix pr_ix ix_A (de_var 0) de_int) da_nil)))))) (dw_or1 (dt_not (dt_val (de_callC C__law_in (hr.mono (by omega)) tk (by rfl) (da_cons (de_var 4) (da_cons de_int (da_cons de_int da_nil))))))))) (dss_one (ds_ret de_bl)) dss_nil))) (dss_cons (ds_setLc 2 sc__law_is_room.nd (di_seq (de_var 1)) (blkOk_by (own := [("row", 5)]) (by kernel_rfl)) (fun _ _ _ _ _ => (dg_nm 5 sc__law_is_room.nd)) (fun _ _ _ _ _ => dts_nil) (fun _ _ _ _ _ => (de_ix pr_ix ix_A (de_var 5) de_int)) (by decide) (sw_true rfl rfl rfl (by decide +kernel))) (dss_one (ds_ret (de_cmp pr_eq (op_eqA hr.units) (de_var 2) (DF.fz (df_sortset (by rfl) T.b_sorted (by rfl) T.b_set (de_var 2))) (nomark _)))))))
abbrev st_law : Stmt := topS 34
theorem sc_law : FnScope ["script", "books", "cell", "deck", "book", "bent", "some", "thing", "room", "k"] ["script"] (defScope st_law) := ⟨rfl, rfl, rfl, by decide +kernel, rfl, by decide +kernel, by decide +kernel⟩
theorem ok_law {f : Addr} {fd : FuncData} (F : Fun K "law" "law" st_law f fd) (T : Tops K mg) (C__law_book : Cal P w K mg base 4 "_law_book" true false 4 f__law_book) (C__law_deck : Cal P w K mg base 1 "_law_deck" false true 2 f__law_deck) (C__law_is_book : Cal P w K mg base 3 "_law_is_book" false false 1 f__law_is_book) (C__law_is_room : Cal P w K mg base 3 "_law_is_room" false false 2 f__law_is_room) (C__law_odd : Cal P w K mg base 3 "_law_odd" true false 1 f__law_odd) (C__law_room : Cal P w K mg base 3 "_law_room" true false 3 f__law_room) (C__law_same : Cal P w K mg base 13 "_law_same" false false 2 f__law_same) (C__law_spoilt : Cal P w K mg base 13 "_law_spoilt" true false 2 f__law_spoilt) (C_is_book : Cal P w K mg base 4 "is_book" false false 1 f_is_book) (C_is_room : Cal P w K mg base 6 "is_room" false false 2 f_is_room) : FnOk P w K mg base (L2.CX P w) 14 f fd ["script"] (spD K mg false false 1 f_law) :=
  den_ok (N := ["script", "books", "cell", "deck", "book", "bent", "some", "thing", "room", "k"]) false false F sc_law fun cdv A outer s H E hr tk => (dss_cons (ds_own 1 sc_law.nd (df_lst (da_cons (de_tup (da_cons de_int (da_cons (de_tup (da_cons (de_tup da_nil) da_nil)) da_nil))) (da_cons (de_tup (da_cons de_int (da_cons (de_tup (da_cons (de_tup da_nil) da_nil)) da_nil))) (da_cons (de_tup (da_cons de_int (da_cons (de_tup (da_cons (de_tup da_nil) da_nil)) da_nil))) (da_cons (de_tup (da_cons de_int (da_cons (de_tup da_nil) da_nil))) (da_cons (de_tup (da_cons de_int (da_cons (de_bin pr_repT op_repT (de_tup (da_cons (de_tup da_nil) da_nil)) de_int) da_nil))) (da_cons (de_tup (da_cons de_int (da_cons (de_bin pr_repT op_repT (de_tup (da_cons (de_tup da_nil) da_nil)) de_int) da_nil))) (da_cons (de_tup (da_cons de_bl (da_cons (de_tup (da_cons (de_tup da_nil) da_nil)) da_nil))) da_nil))))))))) (dss_cons (ds_own 1 sc_law.nd (df_lock 1 (df_bin pr_addL op_catS (de_var 1) (DF.fz (df_lst (da_cons (de_tup (da_cons de_int (da_cons (de_tup (da_cons (de_bin pr_repT op_repT (de_tup (da_cons (de_tup (da_cons de_int (da_cons de_int da_nil))) da_nil)) de_int) da_nil)) da_nil))) (da_cons (de_tup (da_cons de_int (da_cons (de_tup (da_cons (de_bin pr_repT op_repT (de_tup (da_cons (de_tup (da_cons de_int (da_cons de_int da_nil))) da_nil)) de_int) da_nil)) da_nil))) (da_cons (de_tup (da_cons de_int (da_cons (de_tup (da_cons (de_tup (da_cons (de_tup (da_cons de_int (da_cons de_int da_nil))) da_nil)) da_nil)) da_nil))) (da_cons (de_tup (da_cons de_int (da_cons (de_tup (da_cons (de_tup (da_cons (de_tup (da_cons de_int (da_cons de_int da_nil))) da_nil)) da_nil)) da_nil))) da_nil))))))))) (dss_cons (ds_fz 1 (ds_append 1 (pe_bm PySem.F.plainAttrs_list PySem.F.slot_list_append PySem.F.type_list_append mt_append (pv 1) (pa_cons (de_tup (da_cons de_int (da_cons (de_tup (da_cons (DF.fz (df_lst (da_cons (de_tup (da_cons de_int (da_cons de_int da_nil))) da_nil))) da_nil)) da_nil))) pa_nil)))) (dss_cons (ds_for (passes_of rfl) rfl (di_seq (DM.fz (dm_slice (DM.fz (dm_bin pr_add op_addA (DF.fz (df_lst (da_cons de_int da_nil))) (de_var 0))) do_n (do_s de_int)))) (dg_nm 2 sc_law.nd) (dss_cons (ds_own 3 sc_law.nd (df_callC C__law_deck (hr.mono (by omega)) tk (by rfl) (da_cons (de_var 2) (da_cons de_int da_nil)))) (dss_cons (ds_set 4 sc_law.nd (de_callOC 3 C__law_book (hr.mono (by omega)) tk (by rfl) (da_cons de_int (da_cons de_int (da_cons de_int da_nil))))) (dss_cons (ds_set 5 sc_law.nd (de_callOC 3 C__law_spoilt (hr.mono (by omega)) tk (by rfl) (da_cons (de_var 4) da_nil))) (dss_cons (ds_set 6 sc_law.nd (DF.fz (df_lst (da_cons (de_var 4) (da_cons (de_var 5) (da_cons (de_callOC 3 C__law_spoilt (hr.mono (by omega)) tk (by rfl) (da_cons (de_var 5) da_nil)) (da_cons (DM.fz (dm_rev (de_var 4))) (da_cons (DF.fz (df_ct pr_list call_list_of (by rfl) T.b_list (by decide +kernel) (da_cons (de_var 4) da_nil))) (da_cons (de_tup da_nil) (da_cons de_non (da_cons (de_callOC 3 C__law_odd (hr.mono (by omega)) tk (by rfl) da_nil) da_nil))))))))))) (dss_cons (ds_for (passes_of rfl) rfl (di_seq (DM.fz (dm_bin pr_add op_addA (DM.fz (dm_bin pr_add op_addA (de_var 6) (DF.fz (df_comp sc_law.nd (di_range1 (by rfl) T.b_range (da_cons de_int da_nil)) (blkOk_by (own := [("k", 9)]) (by kernel_rfl)) (fun _ _ _ _ _ => (dg_nm 9 sc_law.nd)) (fun _ _ _ _ _ => dts_nil) (fun _ _ _ _ _ => (de_callOC 3 C__law_spoilt (hr.mono (by omega)) tk_blk (by rfl) (da_cons (de_var 4) da_nil))) (by decide))))) (de_var 1)))) (dg_nm 7 sc_law.nd) (dss_one (ds_if (dt_not (dt_val (de_callC C__law_same (hr.mono (by omega)) tk (by rfl) (da_cons (de_callC C_is_book (hr.mono (by omega)) tk (by rfl) (da_cons (de_var 7) da_nil)) (da_cons (de_callC C__law_is_book (hr.mono (by omega)) tk (by rfl) (da_cons (de_var 7) da_nil)) da_nil))))) (dss_one (ds_ret de_bl)) dss_nil))) (dss_cons (ds_set 8 sc_law.nd (de_callOC 3 C__law_room (hr.mono (by omega)) tk (by rfl) (da_cons (de_var 4) (da_cons de_int da_nil)))) (dss_cons (ds_set 5 sc_law.nd (de_callOC 3 C__law_spoilt (hr.mono (by omega)) tk (by rfl) (da_cons (de_var 8) da_nil))) (dss_cons (ds_set 6 sc_law.nd (DF.fz (df_lst (da_cons (de_var 8) (da_cons (de_var 5) (da_cons (de_callOC 3 C__law_spoilt (hr.mono (by omega)) tk (by rfl) (da_cons (de_var 5) da_nil)) (da_cons (DM.fz (dm_rev (de_var 8))) (da_cons (DF.fz (df_ct pr_list call_list_of (by rfl) T.b_list (by decide +kernel) (da_cons (de_var 8) da_nil))) (da_cons (de_tup da_nil) (da_cons de_non (da_cons (de_tup (da_cons (de_tup (da_cons de_int (da_cons de_int da_nil))) da_nil)) (da_cons (de_tup (da_cons (de_tup (da_cons de_int (da_cons de_int da_nil))) da_nil)) da_nil)))))))))))) (dss_cons (ds_set 6 sc_law.nd (DM.fz (dm_bin pr_add op_addA (de_var 6) (DF.fz (df_lst (da_cons (de_tup (da_cons (de_tup (da_cons de_int (da_cons de_int da_nil))) da_nil)) (da_cons (de_tup (da_cons (de_tup (da_cons de_int (da_cons de_bl da_nil))) da_nil)) (da_cons (de_tup (da_cons (de_tup (da_cons (DM.fz (dm_bin pr_add op_addA (de_ix pr_ix ix_A (de_var 4) de_int) de_int)) (da_cons de_int da_nil))) da_nil)) (da_cons (de_tup (da_cons (de_tup (da_cons de_int (da_cons de_int da_nil))) (da_cons (de_tup (da_cons de_int (da_cons de_int da_nil))) da_nil))) (da_cons (de_callOC 3 C__law_odd (hr.mono (by omega)) tk (by rfl) da_nil) da_nil)))))))))) (dss_one (ds_for (passes_of rfl) rfl (di_seq (DM.fz (dm_bin pr_add op_addA (de_var 6) (DF.fz (df_comp sc_law.nd (di_range1 (by rfl) T.b_range (da_cons de_int da_nil)) (blkOk_by (own := [("k", 9)]) (by kernel_rfl)) (fun _ _ _ _ _ => (dg_nm 9 sc_law.nd)) (fun _ _ _ _ _ => dts_nil) (fun _ _ _ _ _ => (de_callOC 3 C__law_spoilt (hr.mono (by omega)) tk_blk (by rfl) (da_cons (de_var 8) da_nil))) (by decide)))))) (dg_nm 7 sc_law.nd) (dss_one (ds_if (dt_not (dt_val (de_callC C__law_same (hr.mono (by omega)) tk (by rfl) (da_cons (de_callC C_is_room (hr.mono (by omega)) tk (by rfl) (da_cons (de_var 4) (da_cons (de_var 7) da_nil))) (da_cons (de_callC C__law_is_room (hr.mono (by omega)) tk (by rfl) (da_cons (de_var 4) (da_cons (de_var 7) da_nil))) da_nil))))) (dss_one (ds_ret de_bl)) dss_nil)))))))))))))) (dss_one (ds_ret de_bl))))))
end
/-! ### the head -/
def d_is_from : He.DefD := ⟨("is_from", none), "is_from", "is_from", defArgs st_is_from, defBody st_is_from, defScope st_is_from, [], []⟩
def d_is_rising : He.DefD := ⟨("is_rising", none), "is_rising", "is_rising", defArgs st_is_rising, defBody st_is_rising, defScope st_is_rising, [], []⟩
def d_are_tuples : He.DefD := ⟨("are_tuples", none), "are_tuples", "are_tuples", defArgs st_are_tuples, defBody st_are_tuples, defScope st_are_tuples, [], []⟩
def d_is_span : He.DefD := ⟨("is_span", none), "is_span", "is_span", defArgs st_is_span, defBody st_is_span, defScope st_is_span, [], []⟩
def d_is_winter : He.DefD := ⟨("is_winter", none), "is_winter", "is_winter", defArgs st_is_winter, defBody st_is_winter, defScope st_is_winter, [], []⟩
def d_is_book : He.DefD := ⟨("is_book", none), "is_book", "is_book", defArgs st_is_book, defBody st_is_book, defScope st_is_book, [], []⟩
def d_need_book : He.DefD := ⟨("need_book", none), "need_book", "need_book", defArgs st_need_book, defBody st_need_book, defScope st_need_book, [], []⟩
def d_is_stock : He.DefD := ⟨("is_stock", none), "is_stock", "is_stock", defArgs st_is_stock, defBody st_is_stock, defScope st_is_stock, [], []⟩
def d_is_room : He.DefD := ⟨("is_room", none), "is_room", "is_room", defArgs st_is_room, defBody st_is_room, defScope st_is_room, [], []⟩
def d__law_deck : He.DefD := ⟨("_law_deck", none), "_law_deck", "_law_deck", defArgs st__law_deck, defBody st__law_deck, defScope st__law_deck, [], []⟩
def d__law_pick : He.DefD := ⟨("_law_pick", none), "_law_pick", "_law_pick", defArgs st__law_pick, defBody st__law_pick, defScope st__law_pick, [], []⟩
def d__law_whole : He.DefD := ⟨("_law_whole", none), "_law_whole", "_law_whole", defArgs st__law_whole, defBody st__law_whole, defScope st__law_whole, [], []⟩
def d__law_one : He.DefD := ⟨("_law_one", none), "_law_one", "_law_one", defArgs st__law_one, defBody st__law_one, defScope st__law_one, [], []⟩
def d__law_sort : He.DefD := ⟨("_law_sort", none), "_law_sort", "_law_sort", defArgs st__law_sort, defBody st__law_sort, defScope st__law_sort, [], []⟩
def d__law_same : He.DefD := ⟨("_law_same", none), "_law_same", "_law_same", defArgs st__law_same, defBody st__law_same, defScope st__law_same, [], []⟩
def d__law_odd : He.DefD := ⟨("_law_odd", none), "_law_odd", "_law_odd", defArgs st__law_odd, defBody st__law_odd, defScope st__law_odd, [], []⟩
def d__law_spoilt : He.DefD := ⟨("_law_spoilt", none), "_law_spoilt", "_law_spoilt", defArgs st__law_spoilt, defBody st__law_spoilt, defScope st__law_spoilt, [], []⟩
def d__law_span : He.DefD := ⟨("_law_span", none), "_law_span", "_law_span", defArgs st__law_span, defBody st__law_span, defScope st__law_span, [], []⟩
def d__law_book : He.DefD := ⟨("_law_book", none), "_law_book", "_law_book", defArgs st__law_book, defBody st__law_book, defScope st__law_book, [], []⟩
def d__law_room_of : He.DefD := ⟨("_law_room_of", none), "_law_room_of", "_law_room_of", defArgs st__law_room_of, defBody st__law_room_of, defScope st__law_room_of, [], []⟩
def d__law_room : He.DefD := ⟨("_law_room", none), "_law_room", "_law_room", defArgs st__law_room, defBody st__law_room, defScope st__law_room, [], []⟩
def d__law_in : He.DefD := ⟨("_law_in", none), "_law_in", "_law_in", defArgs st__law_in, defBody st__law_in, defScope st__law_in, [], []⟩
def d__law_are_pairs : He.DefD := ⟨("_law_are_pairs", none), "_law_are_pairs", "_law_are_pairs", defArgs st__law_are_pairs, defBody st__law_are_pairs, defScope st__law_are_pairs, [], []⟩
def d__law_is_book : He.DefD := ⟨("_law_is_book", none), "_law_is_book", "_law_is_book", defArgs st__law_is_book, defBody st__law_is_book, defScope st__law_is_book, [], []⟩
def d__law_is_room : He.DefD := ⟨("_law_is_room", none), "_law_is_room", "_law_is_room", defArgs st__law_is_room, defBody st__law_is_room, defScope st__law_is_room, [], []⟩
def d_law : He.DefD := ⟨("law", none), "law", "law", defArgs st_law, defBody st_law, defScope st_law, [], []⟩
def fnD : List He.DefD := [d_is_from, d_is_rising, d_are_tuples, d_is_span, d_is_winter, d_is_book, d_need_book, d_is_stock, d_is_room, d__law_deck, d__law_pick, d__law_whole, d__law_one, d__law_sort, d__law_same, d__law_odd, d__law_spoilt, d__law_span, d__law_book, d__law_room_of, d__law_room, d__law_in, d__law_are_pairs, d__law_is_book, d__law_is_room, d_law]
def faD : List He.Fa := [.glo "is_from", .glo "is_rising", .glo "are_tuples", .glo "is_span", .glo "is_winter", .glo "is_book", .glo "need_book", .glo "is_stock", .glo "is_room", .glo "_law_deck", .glo "_law_pick", .glo "_law_whole", .glo "_law_one", .glo "_law_sort", .glo "_law_same", .glo "_law_odd", .glo "_law_spoilt", .glo "_law_span", .glo "_law_book", .glo "_law_room_of", .glo "_law_room", .glo "_law_in", .glo "_law_are_pairs", .glo "_law_is_book", .glo "_law_is_room", .glo "law", .free "all", .free "bool", .free "enumerate", .free "int", .free "isinstance", .free "len", .free "list", .free "min", .free "range", .free "set", .free "sorted", .free "str", .free "tuple", .free "zip", .int "MOST_CHILDREN" 8, .int "MOST_COATS" 99, .int "MOST_SIZES" 16, .int "MOST_WINTERS" 5]
abbrev RR : PySem.W.OpenRow := PySem.W.OpenLaw.row PySem.Challenge.rw_allwinters_k01_books_and_rooms
abbrev hk : PySem.W.Hook := He.hookD 4 faD fnD
def obD (s : PySem.W.SharedT) : He.AlD := He.obsDG 4 faD fnD (HandSHeadRun.getT s)
theorem obD_eq (s : PySem.W.SharedT) : obD s = hk.obs s.abs := He.obsDG_eq (HandSHeadRun.getT_eq s)
def loose : List PySem.Str := (["CoatError", "NoBook", "MOST_SIZES", "MOST_WINTERS", "MOST_CHILDREN", "MOST_COATS", "is_from", "is_rising", "are_tuples", "is_span", "is_winter", "is_book", "need_book", "is_stock", "is_room", "_law_deck", "_law_pick", "_law_whole", "_law_one", "_law_sort", "_law_same", "_law_odd", "_law_spoilt", "_law_span", "_law_book", "_law_room_of", "_law_room", "_law_in", "_law_are_pairs", "_law_is_book"] : List PySem.Str) ++ (["_law_is_room"] : List PySem.Str)
theorem run (w : World) : HandSHeadRun.RunEq RR (PySem.W.view RR.prog [34]) hk obD 6000 loose w := by
  intro os
  kernel_rfl
theorem facts {P : Program} {w : World} {K : PySem.W.Frag} {h : Heap} {mg : Str → Option Value} {f : Addr} (X : K.In h) (G : h.Ns mainGlobals mg) (hfa : mg ("law" : Str) = some (.ref f)) (c : He.SaysD faD fnD K) :
    ∃ fd : FuncData, (∀ (s : Shared) (v : Value), BindsTo s fd ⟨[v], []⟩ [("script", v)]) ∧ ∀ base : Heap, K.In base → base.Ns mainGlobals mg → FnOk P w K mg base (L2.CX P w) 14 f fd ["script"] (spD K mg false false 1 f_law) := by
  have T : Tops K mg := ⟨He.free_ok X G (c.fact 26 (f := .free "all") rfl), He.free_ok X G (c.fact 27 (f := .free "bool") rfl), He.free_ok X G (c.fact 28 (f := .free "enumerate") rfl), He.free_ok X G (c.fact 29 (f := .free "int") rfl), He.free_ok X G (c.fact 30 (f := .free "isinstance") rfl), He.free_ok X G (c.fact 31 (f := .free "len") rfl), He.free_ok X G (c.fact 32 (f := .free "list") rfl), He.free_ok X G (c.fact 33 (f := .free "min") rfl), He.free_ok X G (c.fact 34 (f := .free "range") rfl), He.free_ok X G (c.fact 35 (f := .free "set") rfl), He.free_ok X G (c.fact 36 (f := .free "sorted") rfl), He.free_ok X G (c.fact 37 (f := .free "str") rfl), He.free_ok X G (c.fact 38 (f := .free "tuple") rfl), He.free_ok X G (c.fact 39 (f := .free "zip") rfl), ⟨He.int_ok X G (c.fact 40 (f := .int "MOST_CHILDREN" 8) rfl)⟩, ⟨He.int_ok X G (c.fact 41 (f := .int "MOST_COATS" 99) rfl)⟩, ⟨He.int_ok X G (c.fact 42 (f := .int "MOST_SIZES" 16) rfl)⟩, ⟨He.int_ok X G (c.fact 43 (f := .int "MOST_WINTERS" 5) rfl)⟩⟩
  obtain ⟨fd_is_from, G_is_from⟩ := c.def_ 0 (d := d_is_from) rfl
  have F_is_from : Fun K "is_from" "is_from" st_is_from _ fd_is_from := fun_of G_is_from
  have m_is_from := He.glo_ok X G (c.fact 0 (f := .glo "is_from") rfl)
  have b_is_from : Binds K fd_is_from ["thing", "low", "high"] [] := F_is_from.binds (ps := ["thing", "low", "high"]) fun _ _ _ _ _ _ us hl => match us, hl with | [_, _, _], _ => rfl
  obtain ⟨fd_is_rising, G_is_rising⟩ := c.def_ 1 (d := d_is_rising) rfl
  have F_is_rising : Fun K "is_rising" "is_rising" st_is_rising _ fd_is_rising := fun_of G_is_rising
  have m_is_rising := He.glo_ok X G (c.fact 1 (f := .glo "is_rising") rfl)
  have b_is_rising : Binds K fd_is_rising ["things"] [] := F_is_rising.binds (ps := ["things"]) fun _ _ _ _ _ _ us hl => match us, hl with | [_], _ => rfl
  obtain ⟨fd_are_tuples, G_are_tuples⟩ := c.def_ 2 (d := d_are_tuples) rfl
  have F_are_tuples : Fun K "are_tuples" "are_tuples" st_are_tuples _ fd_are_tuples := fun_of G_are_tuples
  have m_are_tuples := He.glo_ok X G (c.fact 2 (f := .glo "are_tuples") rfl)
  have b_are_tuples : Binds K fd_are_tuples ["thing", "size"] [] := F_are_tuples.binds (ps := ["thing", "size"]) fun _ _ _ _ _ _ us hl => match us, hl with | [_, _], _ => rfl
  obtain ⟨fd_is_span, G_is_span⟩ := c.def_ 3 (d := d_is_span) rfl
  have F_is_span : Fun K "is_span" "is_span" st_is_span _ fd_is_span := fun_of G_is_span
  have m_is_span := He.glo_ok X G (c.fact 3 (f := .glo "is_span") rfl)
  have b_is_span : Binds K fd_is_span ["sizes", "thing"] [] := F_is_span.binds (ps := ["sizes", "thing"]) fun _ _ _ _ _ _ us hl => match us, hl with | [_, _], _ => rfl
  obtain ⟨fd_is_winter, G_is_winter⟩ := c.def_ 4 (d := d_is_winter) rfl
  have F_is_winter : Fun K "is_winter" "is_winter" st_is_winter _ fd_is_winter := fun_of G_is_winter
  have m_is_winter := He.glo_ok X G (c.fact 4 (f := .glo "is_winter") rfl)
  have b_is_winter : Binds K fd_is_winter ["sizes", "thing"] [] := F_is_winter.binds (ps := ["sizes", "thing"]) fun _ _ _ _ _ _ us hl => match us, hl with | [_, _], _ => rfl
  obtain ⟨fd_is_book, G_is_book⟩ := c.def_ 5 (d := d_is_book) rfl
  have F_is_book : Fun K "is_book" "is_book" st_is_book _ fd_is_book := fun_of G_is_book
  have m_is_book := He.glo_ok X G (c.fact 5 (f := .glo "is_book") rfl)
  have b_is_book : Binds K fd_is_book ["thing"] [] := F_is_book.binds (ps := ["thing"]) fun _ _ _ _ _ _ us hl => match us, hl with | [_], _ => rfl
  obtain ⟨fd_need_book, G_need_book⟩ := c.def_ 6 (d := d_need_book) rfl
  have F_need_book : Fun K "need_book" "need_book" st_need_book _ fd_need_book := fun_of G_need_book
  have m_need_book := He.glo_ok X G (c.fact 6 (f := .glo "need_book") rfl)
  have b_need_book : Binds K fd_need_book ["book"] [] := F_need_book.binds (ps := ["book"]) fun _ _ _ _ _ _ us hl => match us, hl with | [_], _ => rfl
  obtain ⟨fd_is_stock, G_is_stock⟩ := c.def_ 7 (d := d_is_stock) rfl
  have F_is_stock : Fun K "is_stock" "is_stock" st_is_stock _ fd_is_stock := fun_of G_is_stock
  have m_is_stock := He.glo_ok X G (c.fact 7 (f := .glo "is_stock") rfl)
  have b_is_stock : Binds K fd_is_stock ["book", "thing"] [] := F_is_stock.binds (ps := ["book", "thing"]) fun _ _ _ _ _ _ us hl => match us, hl with | [_, _], _ => rfl
  obtain ⟨fd_is_room, G_is_room⟩ := c.def_ 8 (d := d_is_room) rfl
  have F_is_room : Fun K "is_room" "is_room" st_is_room _ fd_is_room := fun_of G_is_room
  have m_is_room := He.glo_ok X G (c.fact 8 (f := .glo "is_room") rfl)
  have b_is_room : Binds K fd_is_room ["book", "thing"] [] := F_is_room.binds (ps := ["book", "thing"]) fun _ _ _ _ _ _ us hl => match us, hl with | [_, _], _ => rfl
  obtain ⟨fd__law_deck, G__law_deck⟩ := c.def_ 9 (d := d__law_deck) rfl
  have F__law_deck : Fun K "_law_deck" "_law_deck" st__law_deck _ fd__law_deck := fun_of G__law_deck
  have m__law_deck := He.glo_ok X G (c.fact 9 (f := .glo "_law_deck") rfl)
  have b__law_deck : Binds K fd__law_deck ["cell", "turn"] [] := F__law_deck.binds (ps := ["cell", "turn"]) fun _ _ _ _ _ _ us hl => match us, hl with | [_, _], _ => rfl
  obtain ⟨fd__law_pick, G__law_pick⟩ := c.def_ 10 (d := d__law_pick) rfl
  have F__law_pick : Fun K "_law_pick" "_law_pick" st__law_pick _ fd__law_pick := fun_of G__law_pick
  have m__law_pick := He.glo_ok X G (c.fact 10 (f := .glo "_law_pick") rfl)
  have b__law_pick : Binds K fd__law_pick ["deck", "size"] [] := F__law_pick.binds (ps := ["deck", "size"]) fun _ _ _ _ _ _ us hl => match us, hl with | [_, _], _ => rfl
  obtain ⟨fd__law_whole, G__law_whole⟩ := c.def_ 11 (d := d__law_whole) rfl
  have F__law_whole : Fun K "_law_whole" "_law_whole" st__law_whole _ fd__law_whole := fun_of G__law_whole
  have m__law_whole := He.glo_ok X G (c.fact 11 (f := .glo "_law_whole") rfl)
  have b__law_whole : Binds K fd__law_whole ["thing"] [] := F__law_whole.binds (ps := ["thing"]) fun _ _ _ _ _ _ us hl => match us, hl with | [_], _ => rfl
  obtain ⟨fd__law_one, G__law_one⟩ := c.def_ 12 (d := d__law_one) rfl
  have F__law_one : Fun K "_law_one" "_law_one" st__law_one _ fd__law_one := fun_of G__law_one
  have m__law_one := He.glo_ok X G (c.fact 12 (f := .glo "_law_one") rfl)
  have b__law_one : Binds K fd__law_one ["deck", "some"] [] := F__law_one.binds (ps := ["deck", "some"]) fun _ _ _ _ _ _ us hl => match us, hl with | [_, _], _ => rfl
  obtain ⟨fd__law_sort, G__law_sort⟩ := c.def_ 13 (d := d__law_sort) rfl
  have F__law_sort : Fun K "_law_sort" "_law_sort" st__law_sort _ fd__law_sort := fun_of G__law_sort
  have m__law_sort := He.glo_ok X G (c.fact 13 (f := .glo "_law_sort") rfl)
  have b__law_sort : Binds K fd__law_sort ["thing"] [] := F__law_sort.binds (ps := ["thing"]) fun _ _ _ _ _ _ us hl => match us, hl with | [_], _ => rfl
  obtain ⟨fd__law_same, G__law_same⟩ := c.def_ 14 (d := d__law_same) rfl
  have F__law_same : Fun K "_law_same" "_law_same" st__law_same _ fd__law_same := fun_of G__law_same
  have m__law_same := He.glo_ok X G (c.fact 14 (f := .glo "_law_same") rfl)
  have b__law_same : Binds K fd__law_same ["told", "due"] [] := F__law_same.binds (ps := ["told", "due"]) fun _ _ _ _ _ _ us hl => match us, hl with | [_, _], _ => rfl
  obtain ⟨fd__law_odd, G__law_odd⟩ := c.def_ 15 (d := d__law_odd) rfl
  have F__law_odd : Fun K "_law_odd" "_law_odd" st__law_odd _ fd__law_odd := fun_of G__law_odd
  have m__law_odd := He.glo_ok X G (c.fact 15 (f := .glo "_law_odd") rfl)
  have b__law_odd : Binds K fd__law_odd ["deck"] [] := F__law_odd.binds (ps := ["deck"]) fun _ _ _ _ _ _ us hl => match us, hl with | [_], _ => rfl
  obtain ⟨fd__law_spoilt, G__law_spoilt⟩ := c.def_ 16 (d := d__law_spoilt) rfl
  have F__law_spoilt : Fun K "_law_spoilt" "_law_spoilt" st__law_spoilt _ fd__law_spoilt := fun_of G__law_spoilt
  have m__law_spoilt := He.glo_ok X G (c.fact 16 (f := .glo "_law_spoilt") rfl)
  have b__law_spoilt : Binds K fd__law_spoilt ["deck", "thing"] [] := F__law_spoilt.binds (ps := ["deck", "thing"]) fun _ _ _ _ _ _ us hl => match us, hl with | [_, _], _ => rfl
  obtain ⟨fd__law_span, G__law_span⟩ := c.def_ 17 (d := d__law_span) rfl
  have F__law_span : Fun K "_law_span" "_law_span" st__law_span _ fd__law_span := fun_of G__law_span
  have m__law_span := He.glo_ok X G (c.fact 17 (f := .glo "_law_span") rfl)
  have b__law_span : Binds K fd__law_span ["deck", "sizes"] [] := F__law_span.binds (ps := ["deck", "sizes"]) fun _ _ _ _ _ _ us hl => match us, hl with | [_, _], _ => rfl
  obtain ⟨fd__law_book, G__law_book⟩ := c.def_ 18 (d := d__law_book) rfl
  have F__law_book : Fun K "_law_book" "_law_book" st__law_book _ fd__law_book := fun_of G__law_book
  have m__law_book := He.glo_ok X G (c.fact 18 (f := .glo "_law_book") rfl)
  have b__law_book : Binds K fd__law_book ["deck", "sizes_so", "winters_so", "children"] [] := F__law_book.binds (ps := ["deck", "sizes_so", "winters_so", "children"]) fun _ _ _ _ _ _ us hl => match us, hl with | [_, _, _, _], _ => rfl
  obtain ⟨fd__law_room_of, G__law_room_of⟩ := c.def_ 19 (d := d__law_room_of) rfl
  have F__law_room_of : Fun K "_law_room_of" "_law_room_of" st__law_room_of _ fd__law_room_of := fun_of G__law_room_of
  have m__law_room_of := He.glo_ok X G (c.fact 19 (f := .glo "_law_room_of") rfl)
  have b__law_room_of : Binds K fd__law_room_of ["coats"] [] := F__law_room_of.binds (ps := ["coats"]) fun _ _ _ _ _ _ us hl => match us, hl with | [_], _ => rfl
  obtain ⟨fd__law_room, G__law_room⟩ := c.def_ 20 (d := d__law_room) rfl
  have F__law_room : Fun K "_law_room" "_law_room" st__law_room _ fd__law_room := fun_of G__law_room
  have m__law_room := He.glo_ok X G (c.fact 20 (f := .glo "_law_room") rfl)
  have b__law_room : Binds K fd__law_room ["deck", "book", "most"] [] := F__law_room.binds (ps := ["deck", "book", "most"]) fun _ _ _ _ _ _ us hl => match us, hl with | [_, _, _], _ => rfl
  obtain ⟨fd__law_in, G__law_in⟩ := c.def_ 21 (d := d__law_in) rfl
  have F__law_in : Fun K "_law_in" "_law_in" st__law_in _ fd__law_in := fun_of G__law_in
  have m__law_in := He.glo_ok X G (c.fact 21 (f := .glo "_law_in") rfl)
  have b__law_in : Binds K fd__law_in ["thing", "low", "high"] [] := F__law_in.binds (ps := ["thing", "low", "high"]) fun _ _ _ _ _ _ us hl => match us, hl with | [_, _, _], _ => rfl
  obtain ⟨fd__law_are_pairs, G__law_are_pairs⟩ := c.def_ 22 (d := d__law_are_pairs) rfl
  have F__law_are_pairs : Fun K "_law_are_pairs" "_law_are_pairs" st__law_are_pairs _ fd__law_are_pairs := fun_of G__law_are_pairs
  have m__law_are_pairs := He.glo_ok X G (c.fact 22 (f := .glo "_law_are_pairs") rfl)
  have b__law_are_pairs : Binds K fd__law_are_pairs ["thing"] [] := F__law_are_pairs.binds (ps := ["thing"]) fun _ _ _ _ _ _ us hl => match us, hl with | [_], _ => rfl
  obtain ⟨fd__law_is_book, G__law_is_book⟩ := c.def_ 23 (d := d__law_is_book) rfl
  have F__law_is_book : Fun K "_law_is_book" "_law_is_book" st__law_is_book _ fd__law_is_book := fun_of G__law_is_book
  have m__law_is_book := He.glo_ok X G (c.fact 23 (f := .glo "_law_is_book") rfl)
  have b__law_is_book : Binds K fd__law_is_book ["thing"] [] := F__law_is_book.binds (ps := ["thing"]) fun _ _ _ _ _ _ us hl => match us, hl with | [_], _ => rfl
  obtain ⟨fd__law_is_room, G__law_is_room⟩ := c.def_ 24 (d := d__law_is_room) rfl
  have F__law_is_room : Fun K "_law_is_room" "_law_is_room" st__law_is_room _ fd__law_is_room := fun_of G__law_is_room
  have m__law_is_room := He.glo_ok X G (c.fact 24 (f := .glo "_law_is_room") rfl)
  have b__law_is_room : Binds K fd__law_is_room ["book", "thing"] [] := F__law_is_room.binds (ps := ["book", "thing"]) fun _ _ _ _ _ _ us hl => match us, hl with | [_, _], _ => rfl
  obtain ⟨fd_law, G_law⟩ := c.def_ 25 (d := d_law) rfl
  have F_law : Fun K "law" "law" st_law _ fd_law := fun_of G_law
  have e := hfa.symm.trans (He.glo_ok X G (c.fact 25 (f := .glo "law") rfl))
  cases e
  have b := FunD.bindsA (ps := ["script"]) G_law fun _ _ _ _ _ _ us hl => match us, hl with | [_], _ => rfl
  refine ⟨fd_law, fun s v => b s [v] rfl, fun base hb hn => ?_⟩
  have C_is_from : Cal P w K mg base 1 "is_from" false false 3 f_is_from := ⟨_, _, _, m_is_from, F_is_from.kp, b_is_from, ok_is_from F_is_from T ⟩
  have C_is_rising : Cal P w K mg base 1 "is_rising" false false 1 f_is_rising := ⟨_, _, _, m_is_rising, F_is_rising.kp, b_is_rising, ok_is_rising F_is_rising T ⟩
  have C_are_tuples : Cal P w K mg base 1 "are_tuples" false false 2 f_are_tuples := ⟨_, _, _, m_are_tuples, F_are_tuples.kp, b_are_tuples, ok_are_tuples F_are_tuples T ⟩
  have C_is_span : Cal P w K mg base 2 "is_span" false false 2 f_is_span := ⟨_, _, _, m_is_span, F_is_span.kp, b_is_span, ok_is_span F_is_span T C_is_from⟩
  have C_is_winter : Cal P w K mg base 3 "is_winter" false false 2 f_is_winter := ⟨_, _, _, m_is_winter, F_is_winter.kp, b_is_winter, ok_is_winter F_is_winter T C_is_span⟩
  have C_is_book : Cal P w K mg base 4 "is_book" false false 1 f_is_book := ⟨_, _, _, m_is_book, F_is_book.kp, b_is_book, ok_is_book F_is_book T C_is_from C_is_winter⟩
  have C_need_book : Cal P w K mg base 5 "need_book" false false 1 f_need_book := ⟨_, _, _, m_need_book, F_need_book.kp, b_need_book, ok_need_book F_need_book T C_is_book⟩
  have C_is_stock : Cal P w K mg base 2 "is_stock" false false 2 f_is_stock := ⟨_, _, _, m_is_stock, F_is_stock.kp, b_is_stock, ok_is_stock F_is_stock T C_are_tuples C_is_from C_is_rising⟩
  have C_is_room : Cal P w K mg base 6 "is_room" false false 2 f_is_room := ⟨_, _, _, m_is_room, F_is_room.kp, b_is_room, ok_is_room F_is_room T C_is_stock C_need_book⟩
  have C__law_deck : Cal P w K mg base 1 "_law_deck" false true 2 f__law_deck := ⟨_, _, _, m__law_deck, F__law_deck.kp, b__law_deck, ok__law_deck F__law_deck T ⟩
  have C__law_pick : Cal P w K mg base 1 "_law_pick" true false 2 f__law_pick := ⟨_, _, _, m__law_pick, F__law_pick.kp, b__law_pick, ok__law_pick F__law_pick T ⟩
  have C__law_whole : Cal P w K mg base 1 "_law_whole" false false 1 f__law_whole := ⟨_, _, _, m__law_whole, F__law_whole.kp, b__law_whole, ok__law_whole F__law_whole T ⟩
  have C__law_one : Cal P w K mg base 2 "_law_one" true false 2 f__law_one := ⟨_, _, _, m__law_one, F__law_one.kp, b__law_one, ok__law_one F__law_one T C__law_pick⟩
  have C__law_sort : Cal P w K mg base 1 "_law_sort" false false 1 f__law_sort := ⟨_, _, _, m__law_sort, F__law_sort.kp, b__law_sort, ok__law_sort F__law_sort T ⟩
  have C__law_same : Cal P w K mg base 13 "_law_same" false false 2 f__law_same := ⟨_, _, _, m__law_same, F__law_same.kp, b__law_same, ok__law_same F__law_same T C__law_sort m__law_same b__law_same 12⟩
  have C__law_odd : Cal P w K mg base 3 "_law_odd" true false 1 f__law_odd := ⟨_, _, _, m__law_odd, F__law_odd.kp, b__law_odd, ok__law_odd F__law_odd T C__law_one⟩
  have C__law_spoilt : Cal P w K mg base 13 "_law_spoilt" true false 2 f__law_spoilt := ⟨_, _, _, m__law_spoilt, F__law_spoilt.kp, b__law_spoilt, ok__law_spoilt F__law_spoilt T C__law_pick m__law_spoilt b__law_spoilt 12⟩
  have C__law_span : Cal P w K mg base 3 "_law_span" true false 2 f__law_span := ⟨_, _, _, m__law_span, F__law_span.kp, b__law_span, ok__law_span F__law_span T C__law_one C__law_pick⟩
  have C__law_book : Cal P w K mg base 4 "_law_book" true false 4 f__law_book := ⟨_, _, _, m__law_book, F__law_book.kp, b__law_book, ok__law_book F__law_book T C__law_pick C__law_span⟩
  have C__law_room_of : Cal P w K mg base 1 "_law_room_of" false false 1 f__law_room_of := ⟨_, _, _, m__law_room_of, F__law_room_of.kp, b__law_room_of, ok__law_room_of F__law_room_of T ⟩
  have C__law_room : Cal P w K mg base 3 "_law_room" true false 3 f__law_room := ⟨_, _, _, m__law_room, F__law_room.kp, b__law_room, ok__law_room F__law_room T C__law_one C__law_pick C__law_room_of⟩
  have C__law_in : Cal P w K mg base 2 "_law_in" false false 3 f__law_in := ⟨_, _, _, m__law_in, F__law_in.kp, b__law_in, ok__law_in F__law_in T C__law_whole⟩
  have C__law_are_pairs : Cal P w K mg base 1 "_law_are_pairs" false false 1 f__law_are_pairs := ⟨_, _, _, m__law_are_pairs, F__law_are_pairs.kp, b__law_are_pairs, ok__law_are_pairs F__law_are_pairs T ⟩
  have C__law_is_book : Cal P w K mg base 3 "_law_is_book" false false 1 f__law_is_book := ⟨_, _, _, m__law_is_book, F__law_is_book.kp, b__law_is_book, ok__law_is_book F__law_is_book T C__law_are_pairs C__law_in⟩
  have C__law_is_room : Cal P w K mg base 3 "_law_is_room" false false 2 f__law_is_room := ⟨_, _, _, m__law_is_room, F__law_is_room.kp, b__law_is_room, ok__law_is_room F__law_is_room T C__law_are_pairs C__law_in⟩
  exact ok_law F_law T C__law_book C__law_deck C__law_is_book C__law_is_room C__law_odd C__law_room C__law_same C__law_spoilt C_is_book C_is_room
end DL
open PySem PySem.W PySem.Calls PyProof.Rows
theorem DL.holds_by (plain : ∀ ns : List Int, ns.length ≤ 63 → ∃ d, DL.f_law [.lst (ns.map DL.D.int)] = .ok (.bl true, d)) : PySem.Challenge.rw_allwinters_k01_books_and_rooms.Holds := by
  w_on; o_law
  refine HandSHeadRun.head_any (r := OpenLaw.row PySem.Challenge.rw_allwinters_k01_books_and_rooms) (q := view (OpenLaw.row PySem.Challenge.rw_allwinters_k01_books_and_rooms).prog [34]) (H := DL.hk) (ob := DL.obD) (M := 6000) (loose := DL.loose) (d := HandSHeadRun.topDef (OpenLaw.row PySem.Challenge.rw_allwinters_k01_books_and_rooms).prog 34) (kwd := []) DL.obD_eq
    (by kernel_rfl) (fun s => by kernel_rfl) DL.run (by kernel_rfl) (by kernel_rfl) (by kernel_rfl) (by rfl) (by first | assumption | decide +kernel) (by decide +kernel) ⟨rfl, rfl, rfl, rfl, rfl, by decide +kernel⟩ ?hw ?hc
  case hw => w_witness2
  case hc =>
    refine DL.walk_W (l := PySem.Challenge.rw_allwinters_k01_books_and_rooms) (n := 63) (k := 14) (x := "script") rfl (by decide) (by kernel_rfl) ⟨rfl, by decide, by decide⟩ ?F
    intro w mg fa h Y G hmg0
    obtain ⟨K, KX, c⟩ := Y
    have hmg : mg ("law" : PySem.Str) = some (.ref fa) := by
      have e : (HandSHeadRun.topDef (OpenLaw.row PySem.Challenge.rw_allwinters_k01_books_and_rooms).prog 34).name = ("law" : PySem.Str) := by kernel_rfl
      rw [← e]
      exact hmg0
    obtain ⟨fd, hb, hF⟩ := DL.facts (P := (PySem.Challenge.rw_allwinters_k01_books_and_rooms).prog) (w := w) KX G hmg c
    exact ⟨K, fd, _, KX, hb, fun H a ns hl hO hS => DL.spD_law hO hS (plain ns hl), hF⟩

/-! ## P01 -/
namespace DL
open PySem PySem.Spec PyProof.Rows L2
theorem pick_ok {n : Int} {d : D} {s : Int} (h : Dk n d) (hn : n ≤ 1000000000) (hs : 0 < s) (hs2 : s < 1000000) :
    ∃ r d', f__law_pick [d, .int s] = .ok (.int r, d') ∧ 0 ≤ r ∧ r < s ∧ Dk (n + 1) d' := by
  obtain ⟨a, b, c, rfl, hb0, hb1, hc0, hc1⟩ := h
  by_cases ha : 1 < a
  · refine ⟨a % s, dk (a / s) b c, ?_, Int.emod_nonneg _ (by omega), Int.emod_lt_of_pos _ hs, _, _, _, rfl, hb0, hb1, hc0, by omega⟩
    have hd : divB a s = true := by unfold divB; simp; omega
    simp [f__law_pick, v_run, b__law_pick, startE, dk, ha, hs, hd]
  · have hm : mulB 15485867 (c + 1) = true := by unfold mulB; simp
    have hm2 : mulB 7919 (c + 1) = true := by unfold mulB; simp
    have hp : powB (b + 15485867 * (c + 1)) 5 = true := by unfold powB; simp; omega
    have hp2 : powB ((b + 15485867 * (c + 1)) ^ 5 % 2147483647 + 7919 * (c + 1)) 3 = true := by
      unfold powB
      generalize (b + 15485867 * (c + 1)) ^ 5 = z
      simp
      omega
    have hd : divB (((b + 15485867 * (c + 1)) ^ 5 % 2147483647 + 7919 * (c + 1)) ^ 3 % 2147483629) 32 = true := by unfold divB; simp
    refine ⟨((b + 15485867 * (c + 1)) ^ 5 % 2147483647 + 7919 * (c + 1)) ^ 3 % 2147483629 / 32 % s, dk a b (c + 1), ?_, Int.emod_nonneg _ (by omega), Int.emod_lt_of_pos _ hs, _, _, _, rfl, hb0, hb1, by omega, by omega⟩
    simp [f__law_pick, v_run, b__law_pick, startE, dk, ha, hs, hm, hm2, hp, hp2, hd]
theorem one_ok {n : Int} {d : D} {ds : List D} (h : Dk n d) (hn : n ≤ 1000000000) (h0 : ds ≠ []) (h1 : ds.length < 1000000) :
    ∃ x d', f__law_one [d, .lst ds] = .ok (x, d') ∧ x ∈ ds ∧ Dk (n + 1) d' := by
  have hl : 0 < ds.length := List.length_pos_iff.mpr h0
  obtain ⟨r, d', e, r0, r1, h'⟩ := pick_ok h hn (s := (ds.length : Int)) (by omega) (by omega)
  have hr : r.toNat < ds.length := by omega
  refine ⟨ds[r.toNat], d', ?_, List.getElem_mem hr, h'⟩
  simp [f__law_one, v_run, b__law_one, startE, e, r0, r1, hr]
theorem deck_ok (i : Int) : ∃ d d', f__law_deck [.int i, .int 1] = .ok (d, d') ∧ Dk 1 d := by
  have h1 : powB 10 18 = true := by decide
  by_cases h : (1000000000000000000 : Int) ≤ i
  · refine ⟨dk (i - 1000000000000000000) (i % 2147483579) 1, .non, ?_, _, _, _, rfl, by omega, by omega, by omega, by omega⟩
    simp [f__law_deck, v_run, b__law_deck, startE, h1, h, short, big, dk]
  · refine ⟨dk 0 (i % 2147483579) 1, .non, ?_, _, _, _, rfl, by omega, by omega, by omega, by omega⟩
    simp [f__law_deck, v_run, b__law_deck, startE, h1, h, short, big, dk]
/-! ### whole numbers from, to -/
def fromB (l h : Int) : D → Bool
  | .int i => decide (l ≤ i) && decide (i ≤ h)
  | _ => false
theorem from_ok {x : D} (l h : Int) (hx : x.plain = true) : f_is_from [x, .int l, .int h] = .ok (.bl (fromB l h x), .non) := by
  cases x <;> simp [f_is_from, v_run, b_is_from, startE, fromB] at hx ⊢
  rename_i i
  by_cases q : l ≤ i <;> simp [q]
theorem in_ok {x : D} (l h : Int) (hx : x.plain = true) : f__law_in [x, .int l, .int h] = .ok (.bl (fromB l h x), .non) := by
  cases x <;> simp [f__law_in, v_run, b__law_in, startE, f__law_whole, b__law_whole, fromB] at hx ⊢
  rename_i i
  by_cases q : l ≤ i <;> simp [q]

/-! ### books -/
def pairP (x : D) : Bool := match x with | .tup [_, _] => true | _ => false
def spanB (s : Int) : D → Bool
  | .tup [.int a, .int b] => decide (1 ≤ a) && decide (a ≤ s) && (decide (a ≤ b) && decide (b ≤ s))
  | _ => false
def winterB (s : Int) : D → Bool
  | .tup ds => decide (ds.length ≤ 8) && ds.all (spanB s)
  | _ => false
def bookB : D → Bool
  | .tup [.int s, .tup ws] => decide (1 ≤ s) && decide (s ≤ 16) && (decide (1 ≤ ws.length) && decide (ws.length ≤ 5)) && ws.all (winterB s)
  | _ => false
/-- every shape of a thing, as it matters here -/
theorem shape (x : D) : (∀ ds, x ≠ .tup ds) ∨ (∃ a b, x = .tup [a, b]) ∨ ∃ ds, x = .tup ds ∧ ds.length ≠ 2 := by
  cases x with
  | tup ds =>
    match ds with
    | [] => exact .inr (.inr ⟨_, rfl, by simp⟩)
    | [a] => exact .inr (.inr ⟨_, rfl, by simp⟩)
    | [a, b] => exact .inr (.inl ⟨a, b, rfl⟩)
    | a :: b :: c :: r => exact .inr (.inr ⟨_, rfl, by simp⟩)
  | _ => exact .inl fun ds => by simp
theorem isT_tupX (x : D) : x.isT "tuple" = (match x with | .tup _ => true | _ => false) := by
  cases x <;> simp [D.isT, D.ty]
theorem span_ok {x : D} (s : Int) (m k : Nat) (B : Int) (hx : Th m B k x) : f_is_span [.int s, x] = .ok (.bl (spanB s x), .non) := by
  have hp := hx.plain
  rcases shape x with h | ⟨a, b, rfl⟩ | ⟨ds, rfl, h⟩
  · have e1 : x.isT "tuple" = false := by rw [isT_tupX]; cases x <;> first | rfl | exact absurd rfl (h _)
    have e2 : spanB s x = false := by cases x <;> first | rfl | exact absurd rfl (h _)
    simp [f_is_span, v_run, b_is_span, startE, hp, e1, e2]
  · cases k with
    | zero => simp [Th] at hx
    | succ k =>
      simp only [Th] at hx
      have ha := (hx.2 a (by simp)).plain
      have hb := (hx.2 b (by simp)).plain
      have f1 := from_ok 1 s ha
      cases q : fromB 1 s a with
      | false =>
        have e2 : spanB s (.tup [a, b]) = false := by
          cases a <;> first | rfl | skip
          cases b <;> first | rfl | skip
          simp only [fromB] at q
          simp [spanB, q]
        simp [f_is_span, v_run, b_is_span, startE, f1, q, e2]
      | true =>
        obtain ⟨i, rfl⟩ : ∃ i, a = .int i := by cases a <;> first | exact ⟨_, rfl⟩ | cases q
        have f2 := from_ok i s hb
        have e2 : spanB s (.tup [.int i, b]) = fromB i s b := by
          simp only [fromB] at q
          cases b <;> simp [spanB, fromB, q]
        simp [f_is_span, v_run, b_is_span, startE, f1, q, e2, f2]
  · have e2 : spanB s (.tup ds) = false := by
      unfold spanB
      split
      · simp_all
      · rfl
    have e3 : ¬ ((ds.length : Int) = 2) := by omega
    simp [f_is_span, v_run, b_is_span, startE, e2, e3]
theorem bls_all (ds : List D) (q : D → Bool) : asB (ds.map fun x => D.bl (q x)) = some (ds.map q) := by
  have e : (ds.map fun x => D.bl (q x)) = (ds.map q).map D.bl := by rw [List.map_map]; rfl
  rw [e, asB_map]
theorem winter_ok {x : D} (s : Int) (m k : Nat) (B : Int) (hm : m ≤ 1000) (hx : Th m B k x) : f_is_winter [.int s, x] = .ok (.bl (winterB s x), .non) := by
  have hp := hx.plain
  by_cases h : ∃ ds, x = .tup ds
  · obtain ⟨ds, rfl⟩ := h
    cases k with
    | zero => simp [Th] at hx
    | succ k =>
      simp only [Th] at hx
      have hc : fComp (itS (eVar 1)) (.nm 2) [2] tT (eCall 2 f_is_span (aCons (eVar 0) (aCons (eVar 2) aNil))) [.val (.int s), .val (.tup ds), .no] = .ok (.lst (ds.map fun x => .bl (spanB s x)), [.val (.int s), .val (.tup ds), .no]) := by
        refine comp_map _ (by simp [itS]) (by unfold big; omega) (by simp [hasOwn]) fun x hd => ?_
        exact ⟨[.val (.int s), .val (.tup ds), .val x], by simp [Pt.asg, wipeE], [.val (.int s), .val (.tup ds), .val x], by simp [span_ok s m k B (hx.2 x hd)], by simp [backE, cp1]⟩
      simp [f_is_winter, v_run, b_is_winter, startE, hc, pAll, bls_all]
      by_cases q : (ds.length : Int) ≤ 8
      · simp [q, winterB, show ds.length ≤ 8 by omega, hc, pAll, bls_all, List.all_map]
      · simp [q, winterB, show ¬ ds.length ≤ 8 by omega]
  · have e1 : x.isT "tuple" = false := by rw [isT_tupX]; cases x <;> first | rfl | exact absurd ⟨_, rfl⟩ h
    have e2 : winterB s x = false := by cases x <;> first | rfl | exact absurd ⟨_, rfl⟩ h
    simp [f_is_winter, v_run, b_is_winter, startE, hp, e1, e2]

theorem book_ok {x : D} (m k : Nat) (B : Int) (hm : m ≤ 1000) (hx : Th m B k x) : f_is_book [x] = .ok (.bl (bookB x), .non) := by
  have hp := hx.plain
  rcases shape x with h | ⟨a, b, rfl⟩ | ⟨ds, rfl, h⟩
  · have e1 : x.isT "tuple" = false := by rw [isT_tupX]; cases x <;> first | rfl | exact absurd rfl (h _)
    have e2 : bookB x = false := by cases x <;> first | rfl | exact absurd rfl (h _)
    simp [f_is_book, v_run, b_is_book, startE, hp, e1, e2]
  · cases k with
    | zero => simp [Th] at hx
    | succ k =>
      simp only [Th] at hx
      have ha := (hx.2 a (by simp)).plain
      have tb := hx.2 b (by simp)
      have hb := tb.plain
      have f1 := from_ok 1 16 ha
      cases q : fromB 1 16 a with
      | false =>
        have e2 : bookB (.tup [a, b]) = false := by
          cases a <;> first | rfl | skip
          cases b <;> first | rfl | skip
          simp only [fromB] at q
          simp [bookB, q]
        simp [f_is_book, v_run, b_is_book, startE, f1, q, e2]
      | true =>
        obtain ⟨i, rfl⟩ : ∃ i, a = .int i := by cases a <;> first | exact ⟨_, rfl⟩ | cases q
        by_cases h : ∃ ds, b = .tup ds
        · obtain ⟨ws, rfl⟩ := h
          cases k with
          | zero => simp [Th] at tb
          | succ k =>
            simp only [Th] at tb
            by_cases q2 : 1 ≤ (ws.length : Int)
            · by_cases q3 : (ws.length : Int) ≤ 5
              · have e2 : bookB (.tup [.int i, .tup ws]) = ws.all (winterB i) := by
                  simp only [fromB] at q
                  simp [bookB, q, show 1 ≤ ws.length by omega, show ws.length ≤ 5 by omega]
                have hc : fComp (itS (DL.e2 pIx (eVar 0) (eC (.int 1)))) (.nm 1) [1] tT (eCall 2 f_is_winter (aCons (DL.e2 pIx (eVar 0) (eC (.int 0))) (aCons (eVar 1) aNil))) [.val (.tup [.int i, .tup ws]), .no] = .ok (.lst (ws.map fun x => .bl (winterB i x)), [.val (.tup [.int i, .tup ws]), .no]) := by
                  refine comp_map _ (by simp [itS]) (by unfold big; omega) (by simp [hasOwn]) fun x hd => ?_
                  exact ⟨[.val (.tup [.int i, .tup ws]), .val x], by simp [Pt.asg, wipeE], [.val (.tup [.int i, .tup ws]), .val x], by simp [winter_ok i m k B hm (tb.2 x hd)], by simp [backE, cp1]⟩
                simp [f_is_book, v_run, b_is_book, startE, f1, q, q2, q3, show ¬ (5 < (ws.length : Int)) by omega, hc, pAll, bls_all, e2]
              · have e2 : bookB (.tup [.int i, .tup ws]) = false := by
                  simp [bookB, show ¬ ws.length ≤ 5 by omega]
                simp [f_is_book, v_run, b_is_book, startE, f1, q, q2, q3, show (5 < (ws.length : Int)) by omega, e2]
            · have e2 : bookB (.tup [.int i, .tup ws]) = false := by
                simp [bookB, show ¬ 1 ≤ ws.length by omega]
              simp [f_is_book, v_run, b_is_book, startE, f1, q, q2, e2]
        · have e1 : b.isT "tuple" = false := by rw [isT_tupX]; cases b <;> first | rfl | exact absurd ⟨_, rfl⟩ h
          have e2 : bookB (.tup [.int i, b]) = false := by cases b <;> first | rfl | exact absurd ⟨_, rfl⟩ h
          simp [f_is_book, v_run, b_is_book, startE, hb, f1, q, e1, e2, show (D.tup [.int i, b]).plain = true from rfl, show (D.tup [.int i, b]).isT "tuple" = true from rfl]
  · have e2 : bookB (.tup ds) = false := by
      unfold bookB
      split
      · simp_all
      · rfl
    have e3 : ¬ ((ds.length : Int) = 2) := by omega
    simp [f_is_book, v_run, b_is_book, startE, e2, e3]

/-! ### what the law says of books -/
def pairsB : D → Bool
  | .tup ds => ds.all pairP
  | _ => false
theorem pairs_ok {x : D} (m k : Nat) (B : Int) (hm : m ≤ 1000) (hk : k ≤ 60) (hx : Th m B k x) : f__law_are_pairs [x] = .ok (.bl (pairsB x), .non) := by
  have hp := hx.plain
  by_cases h : ∃ ds, x = .tup ds
  · obtain ⟨ds, rfl⟩ := h
    cases k with
    | zero => simp [Th] at hx
    | succ k =>
      simp only [Th] at hx
      have hc : fComp (itS (eVar 0)) (.nm 1) [1] (tOrD (tNotD (tst (eIsT "tuple" (eVar 1)))) (tst (e2 pNe (eN pLen (aCons (eVar 1) aNil)) (eC (.int 2))))) (eVar 1) [.val (.tup ds), .no] = .ok (.lst (ds.filter fun x => !pairP x), [.val (.tup ds), .no]) := by
        rw [comp_pure (fun x => !pairP x) (fun x => x) (xs := ds) (env1 := [.val (.tup ds), .no]) (by simp [itS]) (by unfold big; omega) (by simp [hasOwn]) fun x hd => ?_, List.map_id']
        have px := (hx.2 x hd).plain
        refine ⟨[.val (.tup ds), .val x], by simp [Pt.asg, wipeE], [.val (.tup ds), .val x], ?_, fun _ => ⟨_, by simp; rfl, by simp [backE, cp1]⟩, fun _ => by simp [backE, cp1]⟩
        rcases shape x with h | ⟨a, b, rfl⟩ | ⟨es, rfl, h⟩
        · have e1 : x.isT "tuple" = false := by rw [isT_tupX]; cases x <;> first | rfl | exact absurd rfl (h _)
          have e3 : pairP x = false := by cases x <;> first | rfl | exact absurd rfl (h _)
          simp [px, e1, e3]
        · simp [pairP]
        · have e3 : pairP (.tup es) = false := by
            unfold pairP
            split
            · simp_all
            · rfl
          have e4 : ¬ ((es.length : Int) = 2) := by omega
          simp [e3, e4]
      have he := eqD_nil (m := m) (B := B) (k := k) (ds := ds.filter fun x => !pairP x) (fun d hd => hx.2 d (List.mem_filter.mp hd).1) (by omega)
      have ee : (ds.filter fun x => !pairP x).isEmpty = pairsB (.tup ds) := by
        rw [Bool.eq_iff_iff]
        simp [pairsB, List.filter_eq_nil_iff]
      simp [f__law_are_pairs, v_run, b__law_are_pairs, startE, hc, short, he, ee]
  · have e1 : x.isT "tuple" = false := by rw [isT_tupX]; cases x <;> first | rfl | exact absurd ⟨_, rfl⟩ h
    have e2 : pairsB x = false := by cases x <;> first | rfl | exact absurd ⟨_, rfl⟩ h
    simp [f__law_are_pairs, v_run, b__law_are_pairs, startE, hp, e1, e2]

theorem from_iff {l h : Int} {x : D} (q : fromB l h x = true) : ∃ i, x = .int i ∧ l ≤ i ∧ i ≤ h := by
  cases x <;> simp [fromB] at q
  exact ⟨_, rfl, q.1, q.2⟩
theorem lspan_ok {a b : D} {x w : D} {s : Int} (m k : Nat) (B : Int) (ha : Th m B k a) (hb : Th m B k b) (hx : x = .tup [.int s, w]) (w' : D) :
    sIf (tOrD (tNotD (tst (eCall 3 f__law_in (aCons (eVar 2) (aCons (eC (.int 1)) (aCons (e2 pIx (eVar 0) (eC (.int 0))) aNil)))))) (tNotD (tst (eCall 3 f__law_in (aCons (eVar 3) (aCons (eVar 2) (aCons (e2 pIx (eVar 0) (eC (.int 0))) aNil))))))) (sRet (eC (.bl false))) sNx [.val x, .val w', .val a, .val b] =
      .ok (if spanB s (.tup [a, b]) then .nx else .ret (.bl false), [.val x, .val w', .val a, .val b]) := by
  subst hx
  have f1 := in_ok 1 s ha.plain
  cases q : fromB 1 s a with
  | false =>
    have e3 : spanB s (.tup [a, b]) = false := by
      cases a <;> first | rfl | skip
      cases b <;> first | rfl | skip
      simp only [fromB] at q
      simp [spanB, q]
    simp [f1, q, e3]
  | true =>
    obtain ⟨i, rfl, q1, q2⟩ := from_iff q
    have f2 := in_ok i s hb.plain
    have e3 : spanB s (.tup [.int i, b]) = fromB i s b := by
      simp only [fromB] at q
      cases b <;> simp [spanB, fromB, q]
    cases q3 : fromB i s b <;> simp [f1, q, f2, q3, e3]
def inv4 (x : D) (env : En) : Prop := ∃ a b c : Sl, env = [.val x, a, b, c] ∧ a.free = true ∧ b.free = true ∧ c.free = true
theorem lbook_ok {x : D} (m k : Nat) (B : Int) (hm : m ≤ 1000) (hk : k ≤ 60) (hx : Th m B k x) : f__law_is_book [x] = .ok (.bl (bookB x), .non) := by
  have hp := hx.plain
  rcases shape x with h | ⟨a, b, rfl⟩ | ⟨ds, rfl, h⟩
  · have e1 : x.isT "tuple" = false := by rw [isT_tupX]; cases x <;> first | rfl | exact absurd rfl (h _)
    have e2 : bookB x = false := by cases x <;> first | rfl | exact absurd rfl (h _)
    simp [f__law_is_book, v_run, b__law_is_book, startE, hp, e1, e2]
  · cases k with
    | zero => simp [Th] at hx
    | succ k =>
      simp only [Th] at hx
      have ha := (hx.2 a (by simp)).plain
      have tb := hx.2 b (by simp)
      have hb := tb.plain
      have f1 := in_ok 1 16 ha
      cases q : fromB 1 16 a with
      | false =>
        have e2 : bookB (.tup [a, b]) = false := by
          cases a <;> first | rfl | skip
          cases b <;> first | rfl | skip
          simp only [fromB] at q
          simp [bookB, q]
        simp [f__law_is_book, v_run, b__law_is_book, startE, f1, q, e2]
      | true =>
        obtain ⟨i, rfl, _, _⟩ := from_iff q
        by_cases h : ∃ ds, b = .tup ds
        · obtain ⟨ws, rfl⟩ := h
          cases k with
          | zero => simp [Th] at tb
          | succ k =>
            simp only [Th] at tb
            by_cases q2 : 1 ≤ (ws.length : Int)
            · by_cases q3 : (ws.length : Int) ≤ 5
              · have eb : bookB (.tup [.int i, .tup ws]) = ws.all (winterB i) := by
                  simp only [fromB] at q
                  simp [bookB, q, show 1 ≤ ws.length by omega, show ws.length ≤ 5 by omega]
                have loop := sLoop_ret (p := .nm 1) (body := (sSeq (sIf (tOrD (tNotD (tst (eCall 1 f__law_are_pairs (aCons (eVar 1) aNil)))) (tst (e2 pGt (eN pLen (aCons (eVar 1) aNil)) (eC (.int 8))))) (sRet (eC (.bl false))) sNx) (sFor (itS (eVar 1)) (.tu [(.nm 2), (.nm 3)]) (sIf (tOrD (tNotD (tst (eCall 3 f__law_in (aCons (eVar 2) (aCons (eC (.int 1)) (aCons (e2 pIx (eVar 0) (eC (.int 0))) aNil)))))) (tNotD (tst (eCall 3 f__law_in (aCons (eVar 3) (aCons (eVar 2) (aCons (e2 pIx (eVar 0) (eC (.int 0))) aNil))))))) (sRet (eC (.bl false))) sNx))))
                  (fun w => !winterB i w) (.bl false) (inv4 (.tup [.int i, .tup ws])) ws (fun w hw env hi => by
                    obtain ⟨a, b, c, rfl, fa, fb, fc⟩ := hi
                    have tw := tb.2 w hw
                    refine ⟨[.val (.tup [.int i, .tup ws]), .val w, b, c], by simp [Pt.asg, fa], ?_⟩
                    have p1 := pairs_ok m k B hm (by omega) tw
                    by_cases hw2 : ∃ es, w = .tup es
                    · obtain ⟨es, rfl⟩ := hw2
                      cases k with
                      | zero => simp [Th] at tw
                      | succ k =>
                        simp only [Th] at tw
                        cases q4 : pairsB (.tup es) with
                        | false =>
                          refine .inl ⟨?_, ?_⟩
                          · have : es.all (spanB i) = false := by
                              rw [← Bool.not_eq_true]
                              intro z
                              rw [List.all_eq_true] at z
                              have : pairsB (.tup es) = true := by
                                simp only [pairsB]
                                rw [List.all_eq_true]
                                intro y hy
                                have := z y hy
                                unfold spanB at this
                                split at this
                                · rfl
                                · cases this
                              rw [this] at q4; cases q4
                            simp [winterB, this]
                          · exact ⟨_, by simp [p1, q4]; rfl⟩
                        | true =>
                          by_cases q5 : (es.length : Int) ≤ 8
                          · have loop2 := sLoop_ret (p := .tu [(.nm 2), (.nm 3)]) (body := (sIf (tOrD (tNotD (tst (eCall 3 f__law_in (aCons (eVar 2) (aCons (eC (.int 1)) (aCons (e2 pIx (eVar 0) (eC (.int 0))) aNil)))))) (tNotD (tst (eCall 3 f__law_in (aCons (eVar 3) (aCons (eVar 2) (aCons (e2 pIx (eVar 0) (eC (.int 0))) aNil))))))) (sRet (eC (.bl false))) sNx))
                              (fun x => !spanB i x) (.bl false) (fun env => ∃ b c : Sl, env = [.val (.tup [.int i, .tup ws]), .val (.tup es), b, c] ∧ b.free = true ∧ c.free = true) es (fun y hy env hi => by
                                obtain ⟨b, c, rfl, fb, fc⟩ := hi
                                have py : pairP y = true := List.all_eq_true.mp q4 y hy
                                obtain ⟨u, v, rfl⟩ : ∃ u v, y = .tup [u, v] := by
                                  unfold pairP at py
                                  split at py
                                  · exact ⟨_, _, rfl⟩
                                  · cases py
                                have ty := tw.2 _ hy
                                cases k with
                                | zero => simp [Th] at ty
                                | succ k =>
                                  simp only [Th] at ty
                                  refine ⟨[.val (.tup [.int i, .tup ws]), .val (.tup es), .val u, .val v], by simp [Pt.asg, asgL, fb, fc], ?_⟩
                                  have l1 := lspan_ok (s := i) m k B (ty.2 u (by simp)) (ty.2 v (by simp)) rfl (.tup es) (w := .tup ws)
                                  cases q6 : spanB i (.tup [u, v]) with
                                  | false => exact .inl ⟨by simp [q6], _, by rw [l1, q6]; rfl⟩
                                  | true => exact .inr ⟨by simp [q6], _, by rw [l1, q6]; rfl, _, _, rfl, rfl, rfl⟩) [.val (.tup [.int i, .tup ws]), .val (.tup es), b, c] ⟨b, c, rfl, fb, fc⟩
                            have hw3 : winterB i (.tup es) = es.all (spanB i) := by simp [winterB, show es.length ≤ 8 by omega]
                            rcases loop2 with ⟨l1, e9, l2⟩ | ⟨l1, e9, l2, b', c', rfl, fb', fc'⟩
                            · refine .inl ⟨?_, e9, ?_⟩
                              · rw [hw3]
                                simpa using l1
                              · simp [p1, q4, show ¬ (8 < (es.length : Int)) by omega, sFor, itS, l2]
                            · refine .inr ⟨?_, _, ?_, .val (.tup es), b', c', rfl, rfl, fb', fc'⟩
                              · rw [hw3]
                                simpa using l1
                              · simp [p1, q4, show ¬ (8 < (es.length : Int)) by omega, sFor, itS, l2]
                          · refine .inl ⟨?_, [.val (.tup [.int i, .tup ws]), .val (.tup es), b, c], ?_⟩
                            · simp [winterB, show ¬ es.length ≤ 8 by omega]
                            · simp [p1, q4, show (8 < (es.length : Int)) by omega]
                    · have e1 : pairsB w = false := by cases w <;> first | rfl | exact absurd ⟨_, rfl⟩ hw2
                      have e3 : winterB i w = false := by cases w <;> first | rfl | exact absurd ⟨_, rfl⟩ hw2
                      exact .inl ⟨by simp [e3], _, by simp [p1, e1]; rfl⟩) [.val (.tup [.int i, .tup ws]), .no, .no, .no] ⟨_, _, _, rfl, rfl, rfl, rfl⟩
                rcases loop with ⟨l1, e9, l2⟩ | ⟨l1, e9, l2, a', b', c', rfl, fa', fb', fc'⟩
                · have : ws.all (winterB i) = false := by simpa using l1
                  simp [f__law_is_book, v_run, b__law_is_book, startE, f1, q, q2, q3, show ¬ (5 < (ws.length : Int)) by omega, sFor, itS, l2, eb, this]
                · have : ws.all (winterB i) = true := by simpa using l1
                  simp [f__law_is_book, v_run, b__law_is_book, startE, f1, q, q2, q3, show ¬ (5 < (ws.length : Int)) by omega, sFor, itS, l2, eb, this]
                  
              · have eb : bookB (.tup [.int i, .tup ws]) = false := by
                  simp [bookB, show ¬ ws.length ≤ 5 by omega]
                simp [f__law_is_book, v_run, b__law_is_book, startE, f1, q, q2, q3, show (5 < (ws.length : Int)) by omega, eb]
            · have eb : bookB (.tup [.int i, .tup ws]) = false := by
                simp [bookB, show ¬ 1 ≤ ws.length by omega]
              simp [f__law_is_book, v_run, b__law_is_book, startE, f1, q, q2, eb]
        · have e1 : b.isT "tuple" = false := by rw [isT_tupX]; cases b <;> first | rfl | exact absurd ⟨_, rfl⟩ h
          have e2 : bookB (.tup [.int i, b]) = false := by cases b <;> first | rfl | exact absurd ⟨_, rfl⟩ h
          simp [f__law_is_book, v_run, b__law_is_book, startE, hb, f1, q, e1, e2]
  · have e2 : bookB (.tup ds) = false := by
      unfold bookB
      split
      · simp_all
      · rfl
    have e3 : ¬ ((ds.length : Int) = 2) := by omega
    simp [f__law_is_book, v_run, b__law_is_book, startE, e2, e3]
end DL

/-! ## P01b -/
namespace DL
open PySem PySem.Spec PyProof.Rows L2
theorem tuples_ok {x : D} (m k : Nat) (B : Int) (hm : m ≤ 1000) (hx : Th m B k x) : f_are_tuples [x, .int 2] = .ok (.bl (pairsB x), .non) := by
  have hp := hx.plain
  by_cases h : ∃ ds, x = .tup ds
  · obtain ⟨ds, rfl⟩ := h
    cases k with
    | zero => simp [Th] at hx
    | succ k =>
      simp only [Th] at hx
      have hc : fComp (itS (eVar 0)) (.nm 2) [2] tT (eAnd (eIsT "tuple" (eVar 2)) (e2 pEq (eN pLen (aCons (eVar 2) aNil)) (eVar 1))) [.val (.tup ds), .val (.int 2), .no] = .ok (.lst (ds.map fun x => .bl (pairP x)), [.val (.tup ds), .val (.int 2), .no]) := by
        refine comp_map _ (by simp [itS]) (by unfold big; omega) (by simp [hasOwn]) fun x hd => ?_
        have px := (hx.2 x hd).plain
        refine ⟨[.val (.tup ds), .val (.int 2), .val x], by simp [Pt.asg, wipeE], [.val (.tup ds), .val (.int 2), .val x], ?_, by simp [backE, cp1]⟩
        rcases shape x with h | ⟨a, b, rfl⟩ | ⟨es, rfl, h⟩
        · have e1 : x.isT "tuple" = false := by rw [isT_tupX]; cases x <;> first | rfl | exact absurd rfl (h _)
          have e3 : pairP x = false := by cases x <;> first | rfl | exact absurd rfl (h _)
          simp [px, e1, e3]
        · simp [pairP]
        · have e3 : pairP (.tup es) = false := by
            unfold pairP
            split
            · simp_all
            · rfl
          have e4 : ¬ ((es.length : Int) = 2) := by omega
          simp [e3, e4]
      simp [f_are_tuples, v_run, b_are_tuples, startE, hc, pAll, bls_all, pairsB, List.all_map]
      try rfl
  · have e1 : x.isT "tuple" = false := by rw [isT_tupX]; cases x <;> first | rfl | exact absurd ⟨_, rfl⟩ h
    have e2 : pairsB x = false := by cases x <;> first | rfl | exact absurd ⟨_, rfl⟩ h
    simp [f_are_tuples, v_run, b_are_tuples, startE, hp, e1, e2]
theorem rising_ok (ns : List Int) (hl : ns.length ≤ 1000) : f_is_rising [.lst (ns.map D.int)] = .ok (.bl (riseB ns), .non) := by
  have hc : fComp (itZip (aCons (eVar 0) (aCons (eSl (eVar 0) (oS (eC (.int 1))) oN) aNil))) (.tu [(.nm 1), (.nm 2)]) [1, 2] tT (e2 pLt (eVar 1) (eVar 2)) [.val (.lst (ns.map D.int)), .no, .no] = .ok (.lst ((zipD (ns.map D.int) ((ns.drop 1).map D.int)).map fun x => match x with | .tup [.int a, .int b] => .bl (decide (a < b)) | _ => .non), [.val (.lst (ns.map D.int)), .no, .no]) := by
    refine comp_map _ ?_ ?_ (by simp [hasOwn]) fun x hd => ?_
    · have e : cutD (ns.map D.int) (some 1) none = (ns.drop 1).map D.int := by
        unfold cutD
        rw [List.length_map, ← List.map_drop]
        cases ns with
        | nil => simp
        | cons n ns =>
          have : HT.sIx (n :: ns).length 0 (some 1) = 1 := by unfold HT.sIx; simp; try omega
          have h2 : HT.sIx (n :: ns).length (n :: ns).length none = (n :: ns).length := rfl
          rw [this, h2]
          simp
          exact List.take_of_length_le (by simp)
      simp [itZip, eSl, oS, oN, sqD, e]
    · unfold big; rw [zipD_len]; simp; omega
    · unfold zipD at hd
      obtain ⟨⟨u, v⟩, h1, rfl⟩ := List.mem_map.mp hd
      have h2 := List.of_mem_zip h1
      obtain ⟨a, _, rfl⟩ := List.mem_map.mp h2.1
      obtain ⟨b, _, rfl⟩ := List.mem_map.mp h2.2
      exact ⟨[.val (.lst (ns.map D.int)), .val (.int a), .val (.int b)], by simp [Pt.asg, asgL, wipeE], [.val (.lst (ns.map D.int)), .val (.int a), .val (.int b)], by simp, by simp [backE, cp1]⟩
  have e : (zipD (ns.map D.int) ((ns.drop 1).map D.int)).map (fun x => match x with | .tup [.int a, .int b] => D.bl (decide (a < b)) | _ => D.non) = (ns.zip (ns.drop 1)).map fun p => D.bl (decide (p.1 < p.2)) := by
    unfold zipD
    rw [List.zip_map, List.map_map, List.map_map]
    rfl
  rw [e] at hc
  have eb : asB ((ns.zip (ns.drop 1)).map fun p => D.bl (decide (p.1 < p.2))) = some ((ns.zip (ns.drop 1)).map fun p => decide (p.1 < p.2)) := by
    have : ((ns.zip (ns.drop 1)).map fun p => D.bl (decide (p.1 < p.2))) = ((ns.zip (ns.drop 1)).map fun p => decide (p.1 < p.2)).map D.bl := by rw [List.map_map]; rfl
    rw [this, asB_map]
  have ea : ((ns.zip (ns.drop 1)).map fun p => decide (p.1 < p.2)).all id = riseB ns := by
    rw [List.all_map, ← zip_rise]
    rfl
  simp only [f_is_rising, v_run, b_is_rising, startE, v_ret, v_eN, v_cons, v_nil, List.map_cons, List.map_nil, List.replicate, List.singleton_append, List.cons_append, List.nil_append, hc, R.bind_ok, pAll, eb, Option.map_some, R.of_some, ea, outE_false]
/-! ### rooms -/
def rowB (s : Int) : D → Bool
  | .tup [a, b] => fromB 1 s a && fromB 1 99 b
  | _ => false
def fstI : D → Int
  | .tup (.int a :: _) => a
  | _ => 0
def roomB (s : Int) : D → Bool
  | .tup ds => ds.all (rowB s) && riseB (ds.map fstI)
  | _ => false
theorem row_fst {s : Int} {x : D} (h : rowB s x = true) : ∃ a b, x = .tup [.int a, b] := by
  unfold rowB at h
  split at h
  · rename_i a b
    rw [Bool.and_eq_true] at h
    obtain ⟨i, rfl, _⟩ := from_iff h.1
    exact ⟨i, b, rfl⟩
  · cases h
theorem fst_map {s : Int} {ds : List D} (h : ds.all (rowB s) = true) : ds.map (fun x => (match x with | .tup (a :: _) => a | _ => D.non)) = (ds.map fstI).map D.int := by
  rw [List.map_map]
  refine List.map_congr_left fun x hx => ?_
  obtain ⟨a, b, rfl⟩ := row_fst (List.all_eq_true.mp h x hx)
  rfl
theorem pairs_get {ds : List D} (h : pairsB (.tup ds) = true) {x : D} (hx : x ∈ ds) : ∃ a b, x = .tup [a, b] := by
  have py : pairP x = true := List.all_eq_true.mp h x hx
  unfold pairP at py
  split at py
  · exact ⟨_, _, rfl⟩
  · cases py
theorem stock_ok {x w : D} {s : Int} (m k : Nat) (B : Int) (hm : m ≤ 1000) (hx : Th m B k x) : f_is_stock [.tup [.int s, w], x] = .ok (.bl (roomB s x), .non) := by
  have t1 := tuples_ok m k B hm hx
  cases q : pairsB x with
  | false =>
    have eb : roomB s x = false := by
      cases x <;> first | rfl | skip
      rename_i ds
      simp only [roomB]
      have : ds.all (rowB s) = false := by
        rw [← Bool.not_eq_true]
        intro z
        have : pairsB (.tup ds) = true := by
          simp only [pairsB]
          rw [List.all_eq_true]
          intro y hy
          obtain ⟨a, b, rfl⟩ := row_fst (List.all_eq_true.mp z y hy)
          rfl
        rw [this] at q; cases q
      simp [this]
    simp [f_is_stock, v_run, b_is_stock, startE, t1, q, eb]
  | true =>
    obtain ⟨ds, rfl⟩ : ∃ ds, x = .tup ds := by cases x <;> first | exact ⟨_, rfl⟩ | cases q
    cases k with
    | zero => simp [Th] at hx
    | succ k =>
      simp only [Th] at hx
      have hc : fComp (itS (eVar 1)) (.nm 2) [2] tT (eAnd (eCall 3 f_is_from (aCons (e2 pIx (eVar 2) (eC (.int 0))) (aCons (eC (.int 1)) (aCons (e2 pIx (eVar 0) (eC (.int 0))) aNil)))) (eCall 3 f_is_from (aCons (e2 pIx (eVar 2) (eC (.int 1))) (aCons (eC (.int 1)) (aCons (eC (.int 99)) aNil))))) [.val (.tup [.int s, w]), .val (.tup ds), .no] = .ok (.lst (ds.map fun x => .bl (rowB s x)), [.val (.tup [.int s, w]), .val (.tup ds), .no]) := by
        refine comp_map _ (by simp [itS]) (by unfold big; omega) (by simp [hasOwn]) fun x hd => ?_
        obtain ⟨a, b, rfl⟩ := pairs_get q hd
        have tx := hx.2 _ hd
        cases k with
        | zero => simp [Th] at tx
        | succ k =>
          simp only [Th] at tx
          have f1 := from_ok 1 s (tx.2 a (by simp)).plain
          have f2 := from_ok 1 99 (tx.2 b (by simp)).plain
          refine ⟨[.val (.tup [.int s, w]), .val (.tup ds), .val (.tup [a, b])], by simp [Pt.asg, wipeE], [.val (.tup [.int s, w]), .val (.tup ds), .val (.tup [a, b])], ?_, by simp [backE, cp1]⟩
          cases q1 : fromB 1 s a <;> cases q2 : fromB 1 99 b <;> simp [f1, f2, q1, q2, rowB]
      cases q3 : ds.all (rowB s) with
      | false =>
        simp [f_is_stock, v_run, b_is_stock, startE, t1, q, hc, pAll, bls_all, List.all_map, roomB, q3]
      | true =>
        have hc2 : fComp (itS (eVar 1)) (.nm 2) [2] tT (e2 pIx (eVar 2) (eC (.int 0))) [.val (.tup [.int s, w]), .val (.tup ds), .no] = .ok (.lst ((ds.map fstI).map D.int), [.val (.tup [.int s, w]), .val (.tup ds), .no]) := by
          rw [← fst_map q3]
          refine comp_map _ (by simp [itS]) (by unfold big; omega) (by simp [hasOwn]) fun x hd => ?_
          obtain ⟨a, b, rfl⟩ := pairs_get q hd
          exact ⟨[.val (.tup [.int s, w]), .val (.tup ds), .val (.tup [a, b])], by simp [Pt.asg, wipeE], [.val (.tup [.int s, w]), .val (.tup ds), .val (.tup [a, b])], by simp, by simp [backE, cp1]⟩
        have hr := rising_ok (ds.map fstI) (by rw [List.length_map]; omega)
        simp [f_is_stock, v_run, b_is_stock, startE, t1, q, hc, hc2, pAll, bls_all, List.all_map, roomB, q3, hr, -List.map_map]

theorem need_ok {b : D} (m k : Nat) (B : Int) (hm : m ≤ 1000) (hx : Th m B k b) (hb : bookB b = true) : f_need_book [b] = .ok (.non, .non) := by
  have h1 := book_ok m k B hm hx
  simp [f_need_book, v_run, b_need_book, startE, h1, hb]
theorem book_form {b : D} (h : bookB b = true) : ∃ s w, b = .tup [.int s, w] ∧ 1 ≤ s ∧ s ≤ 16 := by
  unfold bookB at h
  split at h
  · simp only [Bool.and_eq_true, decide_eq_true_eq] at h
    exact ⟨_, _, rfl, h.1.1.1, h.1.1.2⟩
  · cases h
theorem room_ok {s : Int} {w x : D} (m k : Nat) (B : Int) (hm : m ≤ 1000) (hb : Th m B k (.tup [.int s, w])) (hbb : bookB (.tup [.int s, w]) = true) (hx : Th m B k x) : f_is_room [.tup [.int s, w], x] = .ok (.bl (roomB s x), .non) := by
  have h1 := need_ok m k B hm hb hbb
  have h2 := stock_ok (s := s) (w := w) m k B hm hx
  simp [f_is_room, v_run, b_is_room, startE, h1, h2]
theorem lroom_ok {s : Int} {w x : D} (m k : Nat) (B : Int) (hm : m < 64) (hk : k ≤ 60) (hx : Th m B k x) : f__law_is_room [.tup [.int s, w], x] = .ok (.bl (roomB s x), .non) := by
  have p1 := pairs_ok m k B (by omega) hk hx
  cases q : pairsB x with
  | false =>
    have eb : roomB s x = false := by
      cases x <;> first | rfl | skip
      rename_i ds
      simp only [roomB]
      have : ds.all (rowB s) = false := by
        rw [← Bool.not_eq_true]
        intro z
        have : pairsB (.tup ds) = true := by
          simp only [pairsB]
          rw [List.all_eq_true]
          intro y hy
          obtain ⟨a, b, rfl⟩ := row_fst (List.all_eq_true.mp z y hy)
          rfl
        rw [this] at q; cases q
      simp [this]
    simp [f__law_is_room, v_run, b__law_is_room, startE, p1, q, eb]
  | true =>
    obtain ⟨ds, rfl⟩ : ∃ ds, x = .tup ds := by cases x <;> first | exact ⟨_, rfl⟩ | cases q
    cases k with
    | zero => simp [Th] at hx
    | succ k =>
      simp only [Th] at hx
      have loop := sLoop_ret (p := .tu [(.nm 3), (.nm 4)]) (body := (sIf (tOrD (tNotD (tst (eCall 3 f__law_in (aCons (eVar 3) (aCons (eC (.int 1)) (aCons (e2 pIx (eVar 0) (eC (.int 0))) aNil)))))) (tNotD (tst (eCall 3 f__law_in (aCons (eVar 4) (aCons (eC (.int 1)) (aCons (eC (.int 99)) aNil))))))) (sRet (eC (.bl false))) sNx))
        (fun x => !rowB s x) (.bl false) (fun env => ∃ b c : Sl, env = [.val (.tup [.int s, w]), .val (.tup ds), .no, b, c, .no] ∧ b.free = true ∧ c.free = true) ds (fun y hy env hi => by
          obtain ⟨b, c, rfl, fb, fc⟩ := hi
          obtain ⟨u, v, rfl⟩ := pairs_get q hy
          have ty := hx.2 _ hy
          cases k with
          | zero => simp [Th] at ty
          | succ k =>
            simp only [Th] at ty
            have f1 := in_ok 1 s (ty.2 u (by simp)).plain
            have f2 := in_ok 1 99 (ty.2 v (by simp)).plain
            refine ⟨[.val (.tup [.int s, w]), .val (.tup ds), .no, .val u, .val v, .no], by simp [Pt.asg, asgL, fb, fc], ?_⟩
            cases q1 : fromB 1 s u <;> cases q2 : fromB 1 99 v
            · exact .inl ⟨by simp [rowB, q1, q2], [.val (.tup [.int s, w]), .val (.tup ds), .no, .val u, .val v, .no], by simp [f1, f2, q1, q2]⟩
            · exact .inl ⟨by simp [rowB, q1, q2], [.val (.tup [.int s, w]), .val (.tup ds), .no, .val u, .val v, .no], by simp [f1, f2, q1, q2]⟩
            · exact .inl ⟨by simp [rowB, q1, q2], [.val (.tup [.int s, w]), .val (.tup ds), .no, .val u, .val v, .no], by simp [f1, f2, q1, q2]⟩
            · exact .inr ⟨by simp [rowB, q1, q2], [.val (.tup [.int s, w]), .val (.tup ds), .no, .val u, .val v, .no], by simp [f1, f2, q1, q2], _, _, rfl, rfl, rfl⟩) [.val (.tup [.int s, w]), .val (.tup ds), .no, .no, .no, .no] ⟨_, _, rfl, rfl, rfl⟩
      rcases loop with ⟨l1, e9, l2⟩ | ⟨l1, e9, l2, b', c', rfl, fb', fc'⟩
      · have : ds.all (rowB s) = false := by simpa using l1
        simp [f__law_is_room, v_run, b__law_is_room, startE, p1, q, sFor, itS, l2, roomB, this]
      · have q3 : ds.all (rowB s) = true := by simpa using l1
        have hc2 : fComp (itS (eVar 1)) (.nm 5) [5] tT (e2 pIx (eVar 5) (eC (.int 0))) [.val (.tup [.int s, w]), .val (.tup ds), .no, b', c', .no] = .ok (.lst ((ds.map fstI).map D.int), [.val (.tup [.int s, w]), .val (.tup ds), .no, b', c', .no]) := by
          rw [← fst_map q3]
          refine comp_map _ (by simp [itS]) (by unfold big; omega) (by simp [hasOwn]) fun x hd => ?_
          obtain ⟨a, b, rfl⟩ := pairs_get q hd
          exact ⟨[.val (.tup [.int s, w]), .val (.tup ds), .no, b', c', .val (.tup [a, b])], by simp [Pt.asg, wipeE], [.val (.tup [.int s, w]), .val (.tup ds), .no, b', c', .val (.tup [a, b])], by simp, by simp [backE, cp1]⟩
        have hs : eSortSet (eVar 2) [.val (.tup [.int s, w]), .val (.tup ds), .val (.lst ((ds.map fstI).map D.int)), b', c', .no] = .ok (.lst ((sortI (ds.map fstI)).map D.int), [.val (.tup [.int s, w]), .val (.tup ds), .val (.lst ((ds.map fstI).map D.int)), b', c', .no]) := by
          have : ds.length < 64 := by omega
          simp [eSortSet, this, -List.map_map]
        have hq := p_eqInts (ds.map fstI) (sortI (ds.map fstI))
        rw [rise_sort] at hq
        simp [f__law_is_room, v_run, b__law_is_room, startE, p1, q, sFor, itS, l2, hc2, hs, hq, roomB, q3, -List.map_map]
end DL

/-! ## P01c -/
namespace DL
open PySem PySem.Spec PyProof.Rows L2
theorem cut_mem {ds : List D} {lo hi : Option Int} {d : D} (h : d ∈ cutD ds lo hi) : d ∈ ds := List.mem_of_mem_drop (List.mem_of_mem_take h)
theorem cut_len (ds : List D) (lo hi : Option Int) : (cutD ds lo hi).length ≤ ds.length := by
  unfold cutD
  rw [List.length_take, List.length_drop]
  omega
theorem cut_one (ds : List D) : (cutD ds none (some 1)).length ≤ 1 := by
  unfold cutD
  rw [List.length_take]
  have : HT.sIx ds.length ds.length (some 1) ≤ 1 := by unfold HT.sIx; simp; try omega
  omega
def mk (b : Bool) (ds : List D) : D := if b then .tup ds else .lst ds
theorem th_mk {m : Nat} {B : Int} {k : Nat} {b : Bool} {ds : List D} : Th m B (k + 1) (mk b ds) ↔ ds.length ≤ m ∧ ∀ d ∈ ds, Th m B k d := by
  cases b <;> simp [mk, Th]
theorem log_small {i : Int} (h1 : -(10 ^ 40) ≤ i) (h2 : i ≤ 10 ^ 40) : i.natAbs.log2 < 1920 := by
  by_cases h : i.natAbs = 0
  · rw [h]; decide
  · rw [Nat.log2_lt h]
    have : i.natAbs ≤ 10 ^ 40 := by omega
    exact Nat.lt_of_le_of_lt this (by decide)
def k1 (f__law_spoilt : DenF) : DenS := (sSeq (sOwn 2 (eN pList (aCons (eVar 1) aNil))) (sSeq (sSet 3 (eCallO 0 2 f__law_pick (aCons (eLock 2 (eN pLen (aCons (eVar 2) aNil))) aNil))) (sSeq (sSeq (sPut 2 (eVar 3) (eCallO 0 2 f__law_spoilt (aCons (eIxO 2 (eVar 3)) aNil))) (sFz 2)) (sRet (eIf (tst (eIsT "tuple" (eVar 1))) (eN pTuple (aCons (eVar 2) aNil)) (eVar 2))))))
def k2 : DenS := (sSeq (sSet 4 (eIf (tst (eIsT "tuple" (eVar 1))) (eN pList (aCons (eVar 1) aNil)) (eN pTuple (aCons (eVar 1) aNil)))) (sRet (e2 pIx (fLst (aCons (eVar 4) (aCons (e2 pAdd (eVar 1) (eSl (eVar 1) oN (oS (eC (.int 1))))) (aCons (eSl (eVar 1) (oS (eC (.int 1))) oN) (aCons (eRev (eVar 1)) (aCons (eC .non) aNil)))))) (eCallO 0 2 f__law_pick (aCons (eC (.int 5)) aNil)))))
def k3 : DenS := (sRet (e2 pIx (fLst (aCons (e2 pAdd (eVar 1) (eC (.int 1))) (aCons (e2 pSub (eVar 1) (eC (.int 1))) (aCons (eC (.bl true)) (aCons (eC .non) (aCons (eC (.int 0)) (aCons (eC (.int 16)) (aCons (eN pStr (aCons (eVar 1) aNil)) aNil)))))))) (eCallO 0 2 f__law_pick (aCons (eC (.int 7)) aNil))))
def k4 : DenS := (sRet (e2 pIx (fLst (aCons (eC .non) (aCons (eC (.int 7)) (aCons (eC (.str (Str.ofString "n"))) (aCons (eC (.str (Str.ofString ""))) (aCons (eC (.str (Str.ofString "A"))) (aCons (eC (.str (Str.ofString "abcdefghi"))) (aCons (eC (.str (Str.ofString "a"))) (aCons (eC (.str (Str.ofString "row"))) aNil))))))))) (eCallO 0 2 f__law_pick (aCons (eC (.int 8)) aNil))))
theorem b_spoilt (g : DenF) : b__law_spoilt g = sSeq (sIf (tAndD (tst (eIsT2 "tuple" "list" (eVar 1))) (tAndD (tst (e2 pGt (eN pLen (aCons (eVar 1) aNil)) (eC (.int 0)))) (tst (e2 pGt (eCallO 0 2 f__law_pick (aCons (eC (.int 5)) aNil)) (eC (.int 0)))))) (k1 g) sNx) (sSeq (sIf (tst (eIsT2 "tuple" "list" (eVar 1))) k2 sNx) (sSeq (sIf (tst (eIsT "int" (eVar 1))) k3 sNx) k4)) := rfl
theorem spoilt_tail {m : Nat} {B n : Int} {k f : Nat} {b : Bool} {ds : List D} {d : D} (hm : m ≤ 1000) (hd : Dk n d) (hn : n ≤ 1000000000) (hx : ds.length ≤ m ∧ ∀ x ∈ ds, Th m B k x) :
    ∃ y d', k2 [.own d, .val (mk b ds), .no, .no, .no] = .ok (.ret y, [.own d', .val (mk b ds), .no, .no, .val (mk (!b) ds)]) ∧ Th (m + 1) B (k + 1) y ∧ Dk (n + 1) d' := by
  obtain ⟨r, d', e, r0, r1, h'⟩ := pick_ok hd hn (s := 5) (by omega) (by omega)
  have l1 := cut_one ds
  have hb : ds.length + (cutD ds none (some 1)).length ≤ 1000000 := by omega
  have h0 : ∀ x ∈ ds, Th (m + 1) B k x := fun x hx' => (hx.2 x hx').mono (by omega) (by omega) (Nat.le_refl _)
  have q1 : ∀ c, Th (m + 1) B (k + 1) (mk c ds) := fun c => th_mk.mpr ⟨by omega, h0⟩
  have q2 : ∀ c, Th (m + 1) B (k + 1) (mk c (ds ++ cutD ds none (some 1))) := fun c => th_mk.mpr ⟨by rw [List.length_append]; omega, fun x hx' => by
    rcases List.mem_append.mp hx' with z | z
    · exact h0 x z
    · exact h0 x (cut_mem z)⟩
  have q3 : ∀ c, Th (m + 1) B (k + 1) (mk c (cutD ds (some 1) none)) := fun c => th_mk.mpr ⟨by have := cut_len ds (some 1) none; omega, fun x hx' => h0 x (cut_mem hx')⟩
  have q4 : ∀ c, Th (m + 1) B (k + 1) (mk c ds.reverse) := fun c => th_mk.mpr ⟨by rw [List.length_reverse]; omega, fun x hx' => h0 x (List.mem_reverse.mp hx')⟩
  have hr : r = 0 ∨ r = 1 ∨ r = 2 ∨ r = 3 ∨ r = 4 := by omega
  cases b
  · rcases hr with rfl | rfl | rfl | rfl | rfl
    · exact ⟨mk true ds, d', by simp [k2, mk, hb, e], q1 _, h'⟩
    · exact ⟨mk false (ds ++ cutD ds none (some 1)), d', by simp [k2, mk, hb, e], q2 _, h'⟩
    · exact ⟨mk false (cutD ds (some 1) none), d', by simp [k2, mk, hb, e], q3 _, h'⟩
    · exact ⟨mk false ds.reverse, d', by simp [k2, mk, hb, e], q4 _, h'⟩
    · exact ⟨.non, d', by simp [k2, mk, hb, e], by simp [Th], h'⟩
  · rcases hr with rfl | rfl | rfl | rfl | rfl
    · exact ⟨mk false ds, d', by simp [k2, mk, hb, e], q1 _, h'⟩
    · exact ⟨mk true (ds ++ cutD ds none (some 1)), d', by simp [k2, mk, hb, e], q2 _, h'⟩
    · exact ⟨mk true (cutD ds (some 1) none), d', by simp [k2, mk, hb, e], q3 _, h'⟩
    · exact ⟨mk true ds.reverse, d', by simp [k2, mk, hb, e], q4 _, h'⟩
    · exact ⟨.non, d', by simp [k2, mk, hb, e], by simp [Th], h'⟩

theorem atI_in {ds : List D} {r : Int} (h0 : 0 ≤ r) (h1 : r < ds.length) : ∃ x, atI ds r = some x ∧ x ∈ ds ∧ ds[r.toNat]? = some x := by
  have h : r.toNat < ds.length := by omega
  exact ⟨ds[r.toNat], by simp [h0, h1, h], List.getElem_mem h, List.getElem?_eq_getElem h⟩
theorem Th.up {m : Nat} {B : Int} {k : Nat} {d : D} (h : Th m B k d) : Th (m + 1) (B + 1) k d := h.mono (by omega) (by omega) (Nat.le_refl _)

theorem k3_ok {m : Nat} {B n : Int} {k : Nat} {x d : D} (hB : 16 ≤ B) (hB2 : B ≤ 10 ^ 40) (hd : Dk n d) (hn : n ≤ 1000000000) (hx : Th m B k x) (hi : x.isT "int" = true) :
    ∃ y d', k3 [.own d, .val x, .no, .no, .no] = .ok (.ret y, [.own d', .val x, .no, .no, .no]) ∧ Th (m + 1) (B + 1) k y ∧ Dk (n + 1) d' := by
  obtain ⟨r, d', e, r0, r1, h'⟩ := pick_ok hd hn (s := 7) (by omega) (by omega)
  have hr : r = 0 ∨ r = 1 ∨ r = 2 ∨ r = 3 ∨ r = 4 ∨ r = 5 ∨ r = 6 := by omega
  cases x <;> try (simp at hi; done)
  all_goals try (exfalso; cases k <;> simp [Th] at hx; done)
  · rename_i b
    have hb1 : -(B + 1) ≤ ((if b = true then 1 else 0) + 1 : Int) ∧ ((if b = true then 1 else 0) + 1 : Int) ≤ B + 1 := by cases b <;> simp <;> omega
    have hb2 : -(B + 1) ≤ ((if b = true then 1 else 0) - 1 : Int) ∧ ((if b = true then 1 else 0) - 1 : Int) ≤ B + 1 := by cases b <;> simp <;> omega
    rcases hr with rfl | rfl | rfl | rfl | rfl | rfl | rfl
    · exact ⟨.int ((if b = true then 1 else 0) + 1), d', by simp [k3, e], by cases k <;> simpa [Th] using hb1, h'⟩
    · exact ⟨.int ((if b = true then 1 else 0) - 1), d', by simp [k3, e], by cases k <;> simpa [Th] using hb2, h'⟩
    · exact ⟨.bl true, d', by simp [k3, e], by cases k <;> simp [Th], h'⟩
    · exact ⟨.non, d', by simp [k3, e], by cases k <;> simp [Th], h'⟩
    · exact ⟨.int 0, d', by simp [k3, e], by cases k <;> simp [Th] <;> omega, h'⟩
    · exact ⟨.int 16, d', by simp [k3, e], by cases k <;> simp [Th] <;> omega, h'⟩
    · exact ⟨.str (if b then "True" else "False"), d', by simp [k3, e], by cases k <;> simp [Th] <;> cases b <;> exact strOk_of _, h'⟩
  · rename_i i
    have hi' : -B ≤ i ∧ i ≤ B := by cases k <;> simpa [Th] using hx
    have hl := log_small (i := i) (by omega) (by omega)
    rcases hr with rfl | rfl | rfl | rfl | rfl | rfl | rfl
    · exact ⟨.int (i + 1), d', by simp [k3, e, hl], by cases k <;> simp [Th] <;> omega, h'⟩
    · exact ⟨.int (i - 1), d', by simp [k3, e, hl], by cases k <;> simp [Th] <;> omega, h'⟩
    · exact ⟨.bl true, d', by simp [k3, e, hl], by cases k <;> simp [Th], h'⟩
    · exact ⟨.non, d', by simp [k3, e, hl], by cases k <;> simp [Th], h'⟩
    · exact ⟨.int 0, d', by simp [k3, e, hl], by cases k <;> simp [Th] <;> omega, h'⟩
    · exact ⟨.int 16, d', by simp [k3, e, hl], by cases k <;> simp [Th] <;> omega, h'⟩
    · exact ⟨.str (toString i), d', by simp [k3, e, hl], by cases k <;> simp [Th] <;> exact strOk_of _, h'⟩
theorem k4_ok {m : Nat} {B n : Int} {k : Nat} {x d : D} (hB : 16 ≤ B) (hd : Dk n d) (hn : n ≤ 1000000000) :
    ∃ y d', k4 [.own d, .val x, .no, .no, .no] = .ok (.ret y, [.own d', .val x, .no, .no, .no]) ∧ Th (m + 1) (B + 1) k y ∧ Dk (n + 1) d' := by
  obtain ⟨r, d', e, r0, r1, h'⟩ := pick_ok hd hn (s := 8) (by omega) (by omega)
  have hr : r = 0 ∨ r = 1 ∨ r = 2 ∨ r = 3 ∨ r = 4 ∨ r = 5 ∨ r = 6 ∨ r = 7 := by omega
  rcases hr with rfl | rfl | rfl | rfl | rfl | rfl | rfl | rfl
  · exact ⟨.non, d', by simp [k4, e], by cases k <;> simp [Th], h'⟩
  · exact ⟨.int 7, d', by simp [k4, e], by cases k <;> simp [Th] <;> omega, h'⟩
  all_goals exact ⟨_, d', by simp [k4, e]; rfl, by cases k <;> simp [Th] <;> exact strOk_of _, h'⟩
theorem spoilt_leaf {m : Nat} {B : Int} (hm : m ≤ 1000) (hB : 16 ≤ B) (hB2 : B ≤ 10 ^ 40) (k f : Nat) (n : Int) (x d : D) (hx : Th m B k x) (hd : Dk n d) (hn : n ≤ 1000000000) (h1 : x.isT "tuple" = false) (h2 : x.isT "list" = false) :
    ∃ y d', fr__law_spoilt (f + 1) [d, x] = .ok (y, d') ∧ Th (m + 1) (B + 1) k y ∧ Dk (n + 1) d' := by
  have hp := hx.plain
  cases h3 : x.isT "int" with
  | true =>
    obtain ⟨y, d', e, ty, hd'⟩ := k3_ok (m := m) (B := B) (k := k) hB hB2 hd hn hx h3
    refine ⟨y, d', ?_, ty, hd'⟩
    show runF true false 3 (b__law_spoilt (fr__law_spoilt f)) _ = _
    simp [v_run, b_spoilt, startE, hp, h1, h2, h3, e]
  | false =>
    obtain ⟨y, d', e, ty, hd'⟩ := k4_ok (m := m) (B := B) (k := k) (x := x) hB hd hn
    refine ⟨y, d', ?_, ty, hd'⟩
    show runF true false 3 (b__law_spoilt (fr__law_spoilt f)) _ = _
    simp [v_run, b_spoilt, startE, hp, h1, h2, h3, e]
@[simp] theorem mk_plain {b : Bool} {ds : List D} : (mk b ds).plain = true := by cases b <;> rfl
@[simp] theorem mk_seq {b : Bool} {ds : List D} : ((mk b ds).isT "tuple" || (mk b ds).isT "list") = true := by cases b <;> simp [mk]
@[simp] theorem mk_len {b : Bool} {ds : List D} : pLen [mk b ds] = some (.int ds.length) := by cases b <;> rfl
@[simp] theorem mk_list {b : Bool} {ds : List D} : pList [mk b ds] = some (.lst ds) := by cases b <;> rfl
theorem spoilt_ok {m : Nat} {B : Int} (hm : m ≤ 1000) (hB : 16 ≤ B) (hB2 : B ≤ 10 ^ 40) : ∀ (k f : Nat) (n : Int) (x d : D), k < f → Th m B k x → Dk n d → n + 2 * k + 1 ≤ 1000000000 →
    ∃ y d', fr__law_spoilt f [d, x] = .ok (y, d') ∧ Th (m + 1) (B + 1) k y ∧ Dk (n + 2 * k + 1) d' := by
  intro k
  induction k with
  | zero =>
    intro f n x d hf hx hd hn
    obtain ⟨f, rfl⟩ : ∃ j, f = j + 1 := ⟨f - 1, by omega⟩
    obtain ⟨y, d', h1, h2, h3⟩ := spoilt_leaf hm hB hB2 0 f n x d hx hd (by omega) (by cases x <;> simp [Th] at hx ⊢) (by cases x <;> simp [Th] at hx ⊢)
    exact ⟨y, d', h1, h2, h3.mono (by omega)⟩
  | succ k ih =>
    intro f n x d hf hx hd hn
    obtain ⟨f, rfl⟩ : ∃ j, f = j + 1 := ⟨f - 1, by omega⟩
    by_cases hs : ∃ b ds, x = mk b ds
    · obtain ⟨b, ds, rfl⟩ := hs
      have hx' := th_mk.mp hx
      have tail := fun {n : Int} {d : D} (hd : Dk n d) (hn : n ≤ 1000000000) => spoilt_tail (B := B) (k := k) (f := 0) (b := b) hm hd hn hx'
      by_cases h0 : ds = []
      · obtain ⟨y, d', e, ty, hd'⟩ := tail hd (by omega)
        refine ⟨y, d', ?_, ty.mono (by omega) (by omega) (Nat.le_refl _), hd'.mono (by omega)⟩
        subst h0
        show runF true false 3 (b__law_spoilt (fr__law_spoilt f)) _ = _
        simp [v_run, b_spoilt, startE, e]
      · have hl : 0 < ds.length := List.length_pos_iff.mpr h0
        obtain ⟨r, d1, e1, r0, r1, hd1⟩ := pick_ok hd (by omega) (s := 5) (by omega) (by omega)
        by_cases hr : 0 < r
        · obtain ⟨a, d2, e2, a0, a1, hd2⟩ := pick_ok hd1 (by omega) (s := (ds.length : Int)) (by omega) (by omega)
          have hat : a.toNat < ds.length := by omega
          obtain ⟨y, d3, e3, ty, hd3⟩ := ih f (n + 1 + 1) ds[a.toNat] d2 (by omega) (hx'.2 _ (List.getElem_mem hat)) hd2 (by omega)
          refine ⟨mk b (ds.set a.toNat y), d3, ?_, th_mk.mpr ⟨by rw [List.length_set]; omega, fun w hw => ?_⟩, hd3.mono (by omega)⟩
          · have ek : k1 (fr__law_spoilt f) [.own d1, .val (mk b ds), .no, .no, .no] = .ok (.ret (mk b (ds.set a.toNat y)), [.own d3, .val (mk b ds), .val (.lst (ds.set a.toNat y)), .val (.int a), .no]) := by
              have ff1 := hd1.ff
              cases b <;> simp [k1, mk, e2, e3, a0, a1, hat, ff1]
            show runF true false 3 (b__law_spoilt (fr__law_spoilt f)) _ = _
            simp [v_run, b_spoilt, startE, e1, hr, hl, ek]
          · rcases List.mem_or_eq_of_mem_set hw with q | q
            · exact (hx'.2 w q).up
            · rw [q]; exact ty
        · obtain ⟨y, d', e, ty, hd'⟩ := tail hd1 (by omega)
          refine ⟨y, d', ?_, ty.mono (by omega) (by omega) (Nat.le_refl _), hd'.mono (by omega)⟩
          show runF true false 3 (b__law_spoilt (fr__law_spoilt f)) _ = _
          simp [v_run, b_spoilt, startE, e1, hr, hl, e]
    · have h1 : x.isT "tuple" = false := by cases x <;> first | simp; done | exact absurd ⟨true, _, rfl⟩ hs | (exfalso; simp [Th] at hx)
      have h2 : x.isT "list" = false := by cases x <;> first | simp; done | exact absurd ⟨false, _, rfl⟩ hs | (exfalso; simp [Th] at hx)
      obtain ⟨y, d', h1, h2, h3⟩ := spoilt_leaf hm hB hB2 (k + 1) f n x d hx hd (by omega) h1 h2
      exact ⟨y, d', h1, h2, h3.mono (by omega)⟩
end DL

/-! ## P01d -/
namespace DL
open PySem PySem.Spec PyProof.Rows L2
def oddL : List D := [.non, .bl true, .str (Str.ofString ""), .str (Str.ofString "a"), .tup [], .lst [], .tup [.tup []], .int 7, .int (-1), .int (10 ^ 30), .tup [.int 1, .int 2], .tup [.tup [.int 1, .int 1]], .lst [.tup [.int 1, .int 1]], .tup [.tup [.int 2, .int 1], .tup [.int 1, .int 1]]]
theorem oddL_th : ∀ x ∈ oddL, Th 20 (10 ^ 30) 4 x := by
  intro x hx
  simp only [oddL, List.mem_cons, List.not_mem_nil, or_false] at hx
  rcases hx with rfl | rfl | rfl | rfl | rfl | rfl | rfl | rfl | rfl | rfl | rfl | rfl | rfl | rfl <;> simp [Th, strOk_of]
theorem odd_ok {n : Int} {d : D} (h : Dk n d) (hn : n ≤ 1000000000) : ∃ x d', f__law_odd [d] = .ok (x, d') ∧ Th 20 (10 ^ 30) 4 x ∧ Dk (n + 1) d' := by
  obtain ⟨x, d', e, hx, h'⟩ := one_ok (ds := oddL) h hn (by simp [oddL]) (by simp [oddL])
  refine ⟨x, d', ?_, oddL_th x hx, h'⟩
  have hp : powB 10 30 = true := by decide
  unfold oddL at e
  simp [f__law_odd, v_run, b__law_odd, startE, hp] 
  simp at e
  simp [e]
theorem lspan_gen {n : Int} {d : D} {s : Int} (h : Dk n d) (hn : n ≤ 100000000) (hs : 0 < s) (hs2 : s ≤ 16) : ∃ a b d', f__law_span [d, .int s] = .ok (.tup [.int a, .int b], d') ∧ 1 ≤ a ∧ a ≤ s ∧ a ≤ b ∧ b ≤ s ∧ Dk (n + 3) d' := by
  obtain ⟨r, d1, e1, r0, r1, h1⟩ := pick_ok h (by omega) hs (by omega)
  obtain ⟨q, d2, e2, q0, q1, h2⟩ := pick_ok h1 (by omega) hs (by omega)
  obtain ⟨x, d3, e3, hx, h3⟩ := one_ok (ds := [.int 0, .int 0, .int 1, .int 2, .int q]) h2 (by omega) (by simp) (by simp)
  obtain ⟨z, rfl, z0⟩ : ∃ z, x = .int z ∧ 0 ≤ z := by
    simp only [List.mem_cons, List.not_mem_nil, or_false] at hx
    rcases hx with rfl | rfl | rfl | rfl | rfl
    · exact ⟨_, rfl, by omega⟩
    · exact ⟨_, rfl, by omega⟩
    · exact ⟨_, rfl, by omega⟩
    · exact ⟨_, rfl, by omega⟩
    · exact ⟨_, rfl, by omega⟩
  refine ⟨1 + r, if 1 + r + z < s then 1 + r + z else s, d3, ?_, by omega, by omega, ?_, ?_, h3.mono (by omega)⟩
  · simp [f__law_span, v_run, b__law_span, startE, e1, e2, e3, pMin]
  · split <;> omega
  · split <;> omega

theorem rg_len (a : Int) (n : Nat) : (rgI a n).length = n := by unfold rgI; rw [List.length_map, List.length_range]
theorem lwinter_gen {n : Int} {d ws t : D} {s : Int} (h : Dk n d) (hn : n ≤ 10000000) (hs : 0 < s) (hs2 : s ≤ 16) :
    ∃ ys d', fComp (itR1 (aCons (eCallO 0 2 f__law_pick (aCons (e2 pAdd (eVar 3) (eC (.int 1))) aNil)) aNil)) (.nm 7) [7] tT (eCallO 0 2 f__law_span (aCons (eVar 4) aNil)) [.own d, .val (.int 16), .val (.int 5), .val (.int 8), .val (.int s), .own ws, .val t, .no] = .ok (.lst ys, [.own d', .val (.int 16), .val (.int 5), .val (.int 8), .val (.int s), .own ws, .val t, .no]) ∧
      ys.length ≤ 8 ∧ (∀ y ∈ ys, ∃ a b : Int, y = .tup [.int a, .int b] ∧ 1 ≤ a ∧ a ≤ s ∧ a ≤ b ∧ b ≤ s) ∧ Dk (n + 30) d' := by
  obtain ⟨r, d1, e1, r0, r1, h1⟩ := pick_ok h (by omega) (s := 9) (by omega) (by omega)
  have hsm : small r = true := by unfold small; exact decide_eq_true (by omega)
  obtain ⟨ys, env2, q1, q2, q3, q4⟩ := comp_inv (it := itR1 (aCons (eCallO 0 2 f__law_pick (aCons (e2 pAdd (eVar 3) (eC (.int 1))) aNil)) aNil)) (p := .nm 7) (vs := [7]) (cond := tT) (elt := eCallO 0 2 f__law_span (aCons (eVar 4) aNil))
    (env := [.own d, .val (.int 16), .val (.int 5), .val (.int 8), .val (.int s), .own ws, .val t, .no]) (env1 := [.own d1, .val (.int 16), .val (.int 5), .val (.int 8), .val (.int s), .own ws, .val t, .no]) (xs := rgI 0 r.toNat)
    (fun j env => ∃ d', env = [.own d', .val (.int 16), .val (.int 5), .val (.int 8), .val (.int s), .own ws, .val t, .no] ∧ Dk (n + 1 + 3 * j) d') (fun y => ∃ a b : Int, y = .tup [.int a, .int b] ∧ 1 ≤ a ∧ a ≤ s ∧ a ≤ b ∧ b ≤ s)
    (by simp [e1, hsm]) (by rw [rg_len]; unfold big; omega) (fun x hx j env hj hi => by
      rw [rg_len] at hj
      obtain ⟨d', rfl, hd'⟩ := hi
      obtain ⟨a, b, d2, e2, a1, a2, a3, a4, h2⟩ := lspan_gen hd' (by omega) hs hs2
      refine ⟨by simp [hasOwn], [.own d', .val (.int 16), .val (.int 5), .val (.int 8), .val (.int s), .own ws, .val t, .val x], by simp [Pt.asg, wipeE], rfl, .tup [.int a, .int b], [.own d2, .val (.int 16), .val (.int 5), .val (.int 8), .val (.int s), .own ws, .val t, .val x], by simp [e2], ⟨a, b, rfl, a1, a2, a3, a4⟩, d2, by simp [backE, cp1], h2.mono (by omega)⟩)
    ⟨d1, rfl, by simpa using h1⟩
  obtain ⟨d2, rfl, h2⟩ := q4
  rw [rg_len] at q3 h2
  exact ⟨ys, d2, q1, by omega, q2, h2.mono (by omega)⟩

theorem span_th {s : Int} (hs2 : s ≤ 16) {y : D} (h : ∃ a b : Int, y = .tup [.int a, .int b] ∧ 1 ≤ a ∧ a ≤ s ∧ a ≤ b ∧ b ≤ s) : spanB s y = true ∧ Th 20 100 1 y := by
  obtain ⟨a, b, rfl, a1, a2, a3, a4⟩ := h
  refine ⟨by simp [spanB, a1, a2, a3, a4], ?_⟩
  simp [Th]
  omega
theorem lbook_gen {n : Int} {d : D} (h : Dk n d) (hn : n ≤ 1000000) : ∃ s w d', f__law_book [d, .int 16, .int 5, .int 8] = .ok (.tup [.int s, w], d') ∧ 1 ≤ s ∧ s ≤ 16 ∧ bookB (.tup [.int s, w]) = true ∧ Th 20 100 4 (.tup [.int s, w]) ∧ Dk (n + 200) d' := by
  obtain ⟨r, d1, g1, r0, r1, h1⟩ := pick_ok h (by omega) (s := 16) (by omega) (by omega)
  obtain ⟨q, d2, g2, q0, q1, h2⟩ := pick_ok h1 (by omega) (s := 5) (by omega) (by omega)
  have hsm : small (1 + q) = true := by unfold small; exact decide_eq_true (by omega)
  obtain ⟨env2, l1, l2⟩ := sLoop_cnt (p := .nm 6) (body := (sApp 5 (eN pTuple (aCons (fComp (itR1 (aCons (eCallO 0 2 f__law_pick (aCons (e2 pAdd (eVar 3) (eC (.int 1))) aNil)) aNil)) (.nm 7) [7] tT (eCallO 0 2 f__law_span (aCons (eVar 4) aNil))) aNil))))
    (fun j env => ∃ d' ws t, env = [.own d', .val (.int 16), .val (.int 5), .val (.int 8), .val (.int (1 + r)), .own (.lst ws), t, .no] ∧ t.free = true ∧ ws.length = j ∧ (∀ w ∈ ws, winterB (1 + r) w = true ∧ Th 20 100 2 w) ∧ Dk (n + 2 + 30 * j) d') 5 (rgI 0 (1 + q).toNat) 0 (by rw [rg_len]; omega) (fun x hx j env hj hi => by
      obtain ⟨d', ws, t, rfl, ft, hl, hw, hd'⟩ := hi
      obtain ⟨ys, d3, e3, y1, y2, h3⟩ := lwinter_gen (ws := .lst ws) (t := x) hd' (by omega) (s := 1 + r) (by omega) (by omega)
      refine ⟨[.own d', .val (.int 16), .val (.int 5), .val (.int 8), .val (.int (1 + r)), .own (.lst ws), .val x, .no], by simp [Pt.asg, ft], [.own d3, .val (.int 16), .val (.int 5), .val (.int 8), .val (.int (1 + r)), .own (.lst (ws ++ [.tup ys])), .val x, .no], ?_, d3, ws ++ [.tup ys], .val x, rfl, rfl, by simp [hl], fun w hw' => ?_, h3.mono (by omega)⟩
      · simp [e3, hl, big, show j < 1000000 by omega]
      · rcases List.mem_append.mp hw' with z | z
        · exact hw w z
        · rw [List.mem_singleton.mp z]
          refine ⟨?_, ?_⟩
          · simp only [winterB, Bool.and_eq_true, decide_eq_true_eq, List.all_eq_true]
            exact ⟨y1, fun y hy => (span_th (by omega) (y2 y hy)).1⟩
          · simp only [Th]
            exact ⟨by omega, fun y hy => (span_th (by omega) (y2 y hy)).2⟩)
    [.own d2, .val (.int 16), .val (.int 5), .val (.int 8), .val (.int (1 + r)), .own (.lst []), .no, .no] ⟨d2, [], .no, rfl, rfl, rfl, (fun w hw => by cases hw), h2.mono (by omega)⟩
  obtain ⟨d', ws, t, rfl, ft, hl, hw, hd'⟩ := l2
  rw [rg_len] at hl hd'
  refine ⟨1 + r, .tup ws, d', ?_, by omega, by omega, ?_, ?_, hd'.mono (by omega)⟩
  · simp [f__law_book, v_run, b__law_book, startE, g1, g2, sFor, hsm, l1]
  · simp only [bookB, Bool.and_eq_true, decide_eq_true_eq, List.all_eq_true]
    exact ⟨⟨⟨by omega, by omega⟩, by omega, by omega⟩, fun w h => (hw w h).1⟩
  · simp only [Th, List.length_cons, List.length_nil, List.mem_cons, List.not_mem_nil, or_false]
    refine ⟨by omega, fun x hx => ?_⟩
    rcases hx with rfl | rfl
    · simp only [Th]; omega
    · simp only [Th]
      exact ⟨by omega, fun w h => (hw w h).2⟩

theorem lroom_of {cs : List Int} (hl : cs.length ≤ 16) (hc : ∀ c ∈ cs, 0 ≤ c ∧ c ≤ 99) : ∃ rs, f__law_room_of [.lst (cs.map D.int)] = .ok (.tup rs, .non) ∧ Th 20 100 4 (.tup rs) := by
  let c : D → Bool := fun x => match x with | .tup [_, .int j] => decide (0 < j) | _ => false
  let g : D → D := fun x => match x with | .tup [.int i, .int j] => .tup [.int (i + 1), .int j] | _ => .non
  have hmem : ∀ x ∈ enumD (cs.map D.int), ∃ (i : Nat) (j : Int), x = .tup [.int i, .int j] ∧ i < 16 ∧ 0 ≤ j ∧ j ≤ 99 := by
    intro x hx
    unfold enumD at hx
    obtain ⟨p, hp, rfl⟩ := List.mem_map.mp hx
    obtain ⟨h1, h2, h3⟩ := List.mem_zipIdx hp
    rw [List.length_map] at h2
    simp only [List.getElem_map] at h3
    refine ⟨p.2, _, by rw [h3], by omega, hc _ (List.getElem_mem _)⟩
  have hcmp : fComp (itEnum (aCons (eVar 0) aNil)) (.tu [(.nm 1), (.nm 2)]) [1, 2] (tst (e2 pGt (eVar 2) (eC (.int 0)))) (eTup (aCons (e2 pAdd (eVar 1) (eC (.int 1))) (aCons (eVar 2) aNil))) [.val (.lst (cs.map D.int)), .no, .no] = .ok (.lst (((enumD (cs.map D.int)).filter c).map g), [.val (.lst (cs.map D.int)), .no, .no]) := by
    refine comp_pure c g (by simp [itEnum, sqD]) (by rw [enumD_len, List.length_map]; unfold big; omega) (by simp [hasOwn]) fun x hx => ?_
    obtain ⟨i, j, rfl, _, _, _⟩ := hmem x hx
    exact ⟨[.val (.lst (cs.map D.int)), .val (.int i), .val (.int j)], by simp [Pt.asg, asgL, wipeE], [.val (.lst (cs.map D.int)), .val (.int i), .val (.int j)], by simp [c], fun _ => ⟨[.val (.lst (cs.map D.int)), .val (.int i), .val (.int j)], by simp [g], by simp [backE, cp1]⟩, fun _ => by simp [backE, cp1]⟩
  refine ⟨((enumD (cs.map D.int)).filter c).map g, by simp [f__law_room_of, v_run, b__law_room_of, startE, hcmp], ?_⟩
  simp only [Th]
  refine ⟨?_, fun y hy => ?_⟩
  · rw [List.length_map]
    refine Nat.le_trans (List.length_filter_le _ _) ?_
    rw [enumD_len, List.length_map]
    omega
  · obtain ⟨x, hx, rfl⟩ := List.mem_map.mp hy
    obtain ⟨i, j, rfl, h1, h2, h3⟩ := hmem x (List.mem_filter.mp hx).1
    simp only [g, Th]
    refine ⟨by simp, fun z hz => ?_⟩
    simp only [List.mem_cons, List.not_mem_nil, or_false] at hz
    rcases hz with rfl | rfl <;> simp [Th] <;> omega
theorem lroom_gen {n s : Int} {d w : D} (h : Dk n d) (hn : n ≤ 1000000) (hs : 1 ≤ s) (hs2 : s ≤ 16) : ∃ rs d', f__law_room [d, .tup [.int s, w], .int 99] = .ok (.tup rs, d') ∧ Th 20 100 4 (.tup rs) ∧ Dk (n + 40) d' := by
  have hsm : small s = true := by unfold small; exact decide_eq_true (by omega)
  obtain ⟨ys, env2, q1, q2, q3, q4⟩ := comp_inv (it := itR1 (aCons (e2 pIx (eVar 1) (eC (.int 0))) aNil)) (p := .nm 3) (vs := [3]) (cond := tT) (elt := (eCallO 0 2 f__law_one (aCons (fLst (aCons (eC (.int 0)) (aCons (eC (.int 0)) (aCons (eC (.int 1)) (aCons (eC (.int 1)) (aCons (eCallO 0 2 f__law_pick (aCons (e2 pAdd (eVar 2) (eC (.int 1))) aNil)) aNil)))))) aNil)))
    (env := [.own d, .val (.tup [.int s, w]), .val (.int 99), .no]) (env1 := [.own d, .val (.tup [.int s, w]), .val (.int 99), .no]) (xs := rgI 0 s.toNat)
    (fun j env => ∃ d', env = [.own d', .val (.tup [.int s, w]), .val (.int 99), .no] ∧ Dk (n + 2 * j) d') (fun y => ∃ c : Int, y = .int c ∧ 0 ≤ c ∧ c ≤ 99)
    (by simp [hsm]) (by rw [rg_len]; unfold big; omega) (fun x hx j env hj hi => by
      rw [rg_len] at hj
      obtain ⟨d', rfl, hd'⟩ := hi
      obtain ⟨r, d1, g1, r0, r1, h1⟩ := pick_ok hd' (by omega) (s := 100) (by omega) (by omega)
      obtain ⟨z, d2, g2, hz, h2⟩ := one_ok (ds := [.int 0, .int 0, .int 1, .int 1, .int r]) h1 (by omega) (by simp) (by simp)
      refine ⟨by simp [hasOwn], [.own d', .val (.tup [.int s, w]), .val (.int 99), .val x], by simp [Pt.asg, wipeE], rfl, z, [.own d2, .val (.tup [.int s, w]), .val (.int 99), .val x], by simp [g1, g2], ?_, d2, by simp [backE, cp1], h2.mono (by omega)⟩
      simp only [List.mem_cons, List.not_mem_nil, or_false] at hz
      rcases hz with rfl | rfl | rfl | rfl | rfl <;> exact ⟨_, rfl, by omega, by omega⟩)
    ⟨d, rfl, by simpa using h⟩
  obtain ⟨d2, rfl, h2⟩ := q4
  rw [rg_len] at q3 h2
  obtain ⟨cs, rfl, hc⟩ : ∃ cs : List Int, ys = cs.map D.int ∧ ∀ c ∈ cs, 0 ≤ c ∧ c ≤ 99 := by
    clear q1 q3
    induction ys with
    | nil => exact ⟨[], rfl, fun c hc => by cases hc⟩
    | cons y ys ih =>
      obtain ⟨cs, rfl, hc⟩ := ih fun z hz => q2 z (List.mem_cons_of_mem _ hz)
      obtain ⟨c, rfl, c0, c1⟩ := q2 y List.mem_cons_self
      refine ⟨c :: cs, rfl, fun z hz => ?_⟩
      rcases List.mem_cons.mp hz with rfl | hz
      · exact ⟨c0, c1⟩
      · exact hc z hz
  obtain ⟨r, g3, tr⟩ := lroom_of (cs := cs) (by rw [List.length_map] at q3; omega) hc
  exact ⟨r, d2, by simp [f__law_room, v_run, b__law_room, startE, q1, g3], tr, h2.mono (by omega)⟩
theorem same_ok (a : Bool) (f : Nat) : fr__law_same (f + 1) [.bl a, .bl a] = .ok (.bl true, .non) := by
  show runF false false 2 (b__law_same (fr__law_same f)) _ = _
  simp [v_run, b__law_same, startE, f__law_sort, b__law_sort]
end DL

/-! ## P01e -/
namespace DL
open PySem PySem.Spec PyProof.Rows L2
def za0 : DenS := (sOwn 1 (fLst (aCons (eTup (aCons (eC (.int 16)) (aCons (eTup (aCons (eTup aNil) aNil)) aNil))) (aCons (eTup (aCons (eC (.int 17)) (aCons (eTup (aCons (eTup aNil) aNil)) aNil))) (aCons (eTup (aCons (eC (.int 0)) (aCons (eTup (aCons (eTup aNil) aNil)) aNil))) (aCons (eTup (aCons (eC (.int 1)) (aCons (eTup aNil) aNil))) (aCons (eTup (aCons (eC (.int 1)) (aCons (e2 pRepT (eTup (aCons (eTup aNil) aNil)) (eC (.int 5))) aNil))) (aCons (eTup (aCons (eC (.int 1)) (aCons (e2 pRepT (eTup (aCons (eTup aNil) aNil)) (eC (.int 6))) aNil))) (aCons (eTup (aCons (eC (.bl true)) (aCons (eTup (aCons (eTup aNil) aNil)) aNil))) aNil)))))))))
def za1 : DenS := (sOwn 1 (fLock 1 (e2 pAddL (eVar 1) (fLst (aCons (eTup (aCons (eC (.int 2)) (aCons (eTup (aCons (e2 pRepT (eTup (aCons (eTup (aCons (eC (.int 1)) (aCons (eC (.int 2)) aNil))) aNil)) (eC (.int 8))) aNil)) aNil))) (aCons (eTup (aCons (eC (.int 2)) (aCons (eTup (aCons (e2 pRepT (eTup (aCons (eTup (aCons (eC (.int 1)) (aCons (eC (.int 2)) aNil))) aNil)) (eC (.int 9))) aNil)) aNil))) (aCons (eTup (aCons (eC (.int 2)) (aCons (eTup (aCons (eTup (aCons (eTup (aCons (eC (.int 2)) (aCons (eC (.int 1)) aNil))) aNil)) aNil)) aNil))) (aCons (eTup (aCons (eC (.int 2)) (aCons (eTup (aCons (eTup (aCons (eTup (aCons (eC (.int 1)) (aCons (eC (.int 3)) aNil))) aNil)) aNil)) aNil))) aNil))))))))
def za2 : DenS := (sSeq (sApp 1 (eTup (aCons (eC (.int 2)) (aCons (eTup (aCons (fLst (aCons (eTup (aCons (eC (.int 1)) (aCons (eC (.int 2)) aNil))) aNil)) aNil)) aNil)))) (sFz 1))
def zq0 : DenS := (sOwn 3 (eCall 2 f__law_deck (aCons (eVar 2) (aCons (eC (.int 1)) aNil))))
def zq1 : DenS := (sSet 4 (eCallO 3 4 f__law_book (aCons (eC (.int 16)) (aCons (eC (.int 5)) (aCons (eC (.int 8)) aNil)))))
def zq2 : DenS := (sSet 5 (eCallO 3 2 f__law_spoilt (aCons (eVar 4) aNil)))
def zq3 : DenS := (sSet 6 (fLst (aCons (eVar 4) (aCons (eVar 5) (aCons (eCallO 3 2 f__law_spoilt (aCons (eVar 5) aNil)) (aCons (eRev (eVar 4)) (aCons (eN pList (aCons (eVar 4) aNil)) (aCons (eTup aNil) (aCons (eC .non) (aCons (eCallO 3 1 f__law_odd aNil) aNil))))))))))
def zw4 : DenS := (sIf (tNotD (tst (eCall 2 f__law_same (aCons (eCall 1 f_is_book (aCons (eVar 7) aNil)) (aCons (eCall 1 f__law_is_book (aCons (eVar 7) aNil)) aNil))))) (sRet (eC (.bl false))) sNx)
def zq4 : DenS := sFor (itS (e2 pAdd (e2 pAdd (eVar 6) (fComp (itR1 (aCons (eC (.int 8)) aNil)) (.nm 9) [9] tT (eCallO 3 2 f__law_spoilt (aCons (eVar 4) aNil)))) (eVar 1))) (.nm 7) zw4
def zq5 : DenS := (sSet 8 (eCallO 3 3 f__law_room (aCons (eVar 4) (aCons (eC (.int 99)) aNil))))
def zq6 : DenS := (sSet 5 (eCallO 3 2 f__law_spoilt (aCons (eVar 8) aNil)))
def zq7 : DenS := (sSet 6 (fLst (aCons (eVar 8) (aCons (eVar 5) (aCons (eCallO 3 2 f__law_spoilt (aCons (eVar 5) aNil)) (aCons (eRev (eVar 8)) (aCons (eN pList (aCons (eVar 8) aNil)) (aCons (eTup aNil) (aCons (eC .non) (aCons (eTup (aCons (eTup (aCons (eC (.int 1)) (aCons (eC (.int 99)) aNil))) aNil)) (aCons (eTup (aCons (eTup (aCons (eC (.int 1)) (aCons (eC (.int 100)) aNil))) aNil)) aNil)))))))))))
def zq8 : DenS := (sSet 6 (e2 pAdd (eVar 6) (fLst (aCons (eTup (aCons (eTup (aCons (eC (.int 1)) (aCons (eC (.int 0)) aNil))) aNil)) (aCons (eTup (aCons (eTup (aCons (eC (.int 1)) (aCons (eC (.bl true)) aNil))) aNil)) (aCons (eTup (aCons (eTup (aCons (e2 pAdd (e2 pIx (eVar 4) (eC (.int 0))) (eC (.int 1))) (aCons (eC (.int 1)) aNil))) aNil)) (aCons (eTup (aCons (eTup (aCons (eC (.int 1)) (aCons (eC (.int 1)) aNil))) (aCons (eTup (aCons (eC (.int 1)) (aCons (eC (.int 2)) aNil))) aNil))) (aCons (eCallO 3 1 f__law_odd aNil) aNil))))))))
def zw9 : DenS := (sIf (tNotD (tst (eCall 2 f__law_same (aCons (eCall 2 f_is_room (aCons (eVar 4) (aCons (eVar 7) aNil))) (aCons (eCall 2 f__law_is_room (aCons (eVar 4) (aCons (eVar 7) aNil))) aNil))))) (sRet (eC (.bl false))) sNx)
def zq9 : DenS := sFor (itS (e2 pAdd (eVar 6) (fComp (itR1 (aCons (eC (.int 6)) aNil)) (.nm 9) [9] tT (eCallO 3 2 f__law_spoilt (aCons (eVar 8) aNil))))) (.nm 7) zw9
def cellB : DenS := sSeq zq0 (sSeq zq1 (sSeq zq2 (sSeq zq3 (sSeq zq4 (sSeq zq5 (sSeq zq6 (sSeq zq7 (sSeq zq8 (zq9)))))))))
theorem b_law_eq : b_law = sSeq za0 (sSeq za1 (sSeq za2 (sSeq (sFor (itS (eSl (e2 pAdd (fLst (aCons (eC (.int 0)) aNil)) (eVar 0)) oN (oS (eC (.int 10))))) (.nm 2) cellB) (sRet (eC (.bl true)))))) := rfl

def BB : Int := 10000000000000000000000000000000
theorem le_BB {B : Int} (h : B ≤ 10 ^ 30 + 1000) : B ≤ BB := by
  unfold BB
  omega
def booksL : List D := [.tup [.int 16, .tup [.tup []]], .tup [.int 17, .tup [.tup []]], .tup [.int 0, .tup [.tup []]], .tup [.int 1, .tup []], .tup [.int 1, .tup (List.replicate 5 (.tup []))], .tup [.int 1, .tup (List.replicate 6 (.tup []))], .tup [.bl true, .tup [.tup []]],
  .tup [.int 2, .tup [.tup (List.replicate 8 (.tup [.int 1, .int 2]))]], .tup [.int 2, .tup [.tup (List.replicate 9 (.tup [.int 1, .int 2]))]], .tup [.int 2, .tup [.tup [.tup [.int 2, .int 1]]]], .tup [.int 2, .tup [.tup [.tup [.int 1, .int 3]]]], .tup [.int 2, .tup [.lst [.tup [.int 1, .int 2]]]]]
theorem booksL_th : ∀ x ∈ booksL, Th 22 BB 4 x := by
  intro x hx
  simp only [booksL, List.mem_cons, List.not_mem_nil, or_false] at hx
  rcases hx with rfl | rfl | rfl | rfl | rfl | rfl | rfl | rfl | rfl | rfl | rfl | rfl <;> simp [Th, BB, List.mem_replicate]
abbrev EV (sc bk c dk b4 b5 b6 b7 b8 : Sl) : En := [sc, bk, c, dk, b4, b5, b6, b7, b8, .no]
theorem books_ok (sc : D) : (sSeq za0 (sSeq za1 za2)) (EV (.val sc) .no .no .no .no .no .no .no .no) = R.ok (Fl.nx, EV (.val sc) (.val (.lst booksL)) .no .no .no .no .no .no .no) := by
  simp [za0, za1, za2, pRepT, booksL, big]
section
variable {sc bk c s3 s4 s5 s6 s7 s8 : Sl}
theorem zq0_ok (i : Int) : ∃ d, zq0 (EV sc bk (.val (.int i)) s3 s4 s5 s6 s7 s8) = .ok (.nx, EV sc bk (.val (.int i)) (.own d) s4 s5 s6 s7 s8) ∧ Dk 1 d := by
  obtain ⟨d, d', e, h⟩ := deck_ok i
  exact ⟨d, by simp [zq0, e, h.fl], h⟩
theorem zq1_ok {d : D} {n : Int} (h : Dk n d) (hn : n ≤ 10000) (f4 : s4.free = true) : ∃ s w d', zq1 (EV sc bk c (.own d) s4 s5 s6 s7 s8) = .ok (.nx, EV sc bk c (.own d') (.val (.tup [.int s, w])) s5 s6 s7 s8) ∧ 1 ≤ s ∧ s ≤ 16 ∧ bookB (.tup [.int s, w]) = true ∧ Th 20 100 4 (.tup [.int s, w]) ∧ Dk (n + 200) d' := by
  obtain ⟨s, w, d', e, h1, h2, h3, h4, h5⟩ := lbook_gen h (by omega)
  exact ⟨s, w, d', by simp [zq1, e, f4], h1, h2, h3, h4, h5⟩
theorem spo {m : Nat} {B n : Int} {x d : D} (hm : m ≤ 100) (hB : 16 ≤ B) (hB2 : B ≤ 10 ^ 40) (hx : Th m B 4 x) (hd : Dk n d) (hn : n ≤ 10000) : ∃ y d', f__law_spoilt [d, x] = .ok (y, d') ∧ Th (m + 1) (B + 1) 4 y ∧ Dk (n + 9) d' := by
  obtain ⟨y, d', e, h1, h2⟩ := spoilt_ok (by omega) hB hB2 4 12 n x d (by omega) hx hd (by omega)
  exact ⟨y, d', e, h1, h2.mono (by omega)⟩
theorem zq2_ok {d x : D} {n : Int} (h : Dk n d) (hn : n ≤ 10000) (hx : Th 20 100 4 x) (f5 : s5.free = true) : ∃ y d', zq2 (EV sc bk c (.own d) (.val x) s5 s6 s7 s8) = .ok (.nx, EV sc bk c (.own d') (.val x) (.val y) s6 s7 s8) ∧ Th 21 101 4 y ∧ Dk (n + 9) d' := by
  obtain ⟨y, d', e, h1, h2⟩ := spo (by omega) (by omega) (by omega) hx h hn
  exact ⟨y, d', by simp [zq2, e, f5], h1, h2⟩
theorem zq6_ok {d x : D} {n : Int} (h : Dk n d) (hn : n ≤ 10000) (hx : Th 20 100 4 x) (f5 : s5.free = true) : ∃ y d', zq6 (EV sc bk c (.own d) s4 s5 s6 s7 (.val x)) = .ok (.nx, EV sc bk c (.own d') s4 (.val y) s6 s7 (.val x)) ∧ Th 21 101 4 y ∧ Dk (n + 9) d' := by
  obtain ⟨y, d', e, h1, h2⟩ := spo (by omega) (by omega) (by omega) hx h hn
  exact ⟨y, d', by simp [zq6, e, f5], h1, h2⟩
theorem zq5_ok {d w : D} {n s : Int} (h : Dk n d) (hn : n ≤ 10000) (hs : 1 ≤ s) (hs2 : s ≤ 16) (f8 : s8.free = true) : ∃ rs d', zq5 (EV sc bk c (.own d) (.val (.tup [.int s, w])) s5 s6 s7 s8) = .ok (.nx, EV sc bk c (.own d') (.val (.tup [.int s, w])) s5 s6 s7 (.val (.tup rs))) ∧ Th 20 100 4 (.tup rs) ∧ Dk (n + 40) d' := by
  obtain ⟨rs, d', e, h1, h2⟩ := lroom_gen (w := w) h (by omega) hs hs2
  exact ⟨rs, d', by simp [zq5, e, f8], h1, h2⟩
theorem bb1 {m : Nat} {B : Int} {k : Nat} {x : D} (hm : m ≤ 22) (hB : B ≤ BB) (hk : k ≤ 4) (h : Th m B k x) : Th 22 BB 4 x := h.mono hm hB hk
theorem zq3_ok {d w b : D} {n s : Int} (h : Dk n d) (hn : n ≤ 10000) (hx : Th 20 100 4 (.tup [.int s, w])) (hb : Th 21 101 4 b) (f6 : s6.free = true) : ∃ so d', zq3 (EV sc bk c (.own d) (.val (.tup [.int s, w])) (.val b) s6 s7 s8) = .ok (.nx, EV sc bk c (.own d') (.val (.tup [.int s, w])) (.val b) (.val (.lst so)) s7 s8) ∧ so.length = 8 ∧ (∀ x ∈ so, Th 22 BB 4 x) ∧ Dk (n + 10) d' := by
  obtain ⟨y, d1, e, h1, h2⟩ := spo (by omega) (by omega) (by omega) hb h hn
  obtain ⟨o, d2, e', h3, h4⟩ := odd_ok h2 (by omega)
  refine ⟨[.tup [.int s, w], b, y, .tup [w, .int s], .lst [.int s, w], .tup [], .non, o], d2, by simp [zq3, e, e', f6], rfl, fun x hx' => ?_, h4.mono (by omega)⟩
  have hc : Th 20 100 3 (.int s) ∧ Th 20 100 3 w := by
    simp only [Th] at hx
    exact ⟨hx.2 _ (by simp), hx.2 _ (by simp)⟩
  simp only [List.mem_cons, List.not_mem_nil, or_false] at hx'
  rcases hx' with rfl | rfl | rfl | rfl | rfl | rfl | rfl | rfl
  · exact bb1 (by omega) (le_BB (by omega)) (by omega) hx
  · exact bb1 (by omega) (le_BB (by omega)) (by omega) hb
  · exact bb1 (by omega) (le_BB (by omega)) (by omega) h1
  · refine bb1 (m := 20) (B := 100) (k := 4) (by omega) (le_BB (by omega)) (by omega) ?_
    rw [Th]
    refine ⟨by simp, fun z hz => ?_⟩
    simp only [List.mem_cons, List.not_mem_nil, or_false] at hz
    rcases hz with rfl | rfl
    · exact hc.2
    · exact hc.1
  · refine bb1 (m := 20) (B := 100) (k := 4) (by omega) (le_BB (by omega)) (by omega) ?_
    rw [Th]
    refine ⟨by simp, fun z hz => ?_⟩
    simp only [List.mem_cons, List.not_mem_nil, or_false] at hz
    rcases hz with rfl | rfl
    · exact hc.1
    · exact hc.2
  · simp [Th]
  · simp [Th]
  · exact bb1 (by omega) (le_BB (by omega)) (by omega) h3
theorem zw4_ok {x : D} {d w : D} {s : Int} (hx : Th 22 BB 4 x) : zw4 (EV sc bk c s3 s4 s5 s6 (.val x) s8) = .ok (.nx, EV sc bk c s3 s4 s5 s6 (.val x) s8) := by
  have h1 := book_ok 22 4 BB (by omega) hx
  have h2 := lbook_ok 22 4 BB (by omega) (by omega) hx
  have h3 : f__law_same [.bl (bookB x), .bl (bookB x)] = .ok (.bl true, .non) := same_ok (bookB x) 11
  simp [zw4, h1, h2, h3]
theorem spoils4 {d x : D} {n : Int} (h : Dk n d) (hn : n ≤ 5000) (hx : Th 20 100 4 x) :
    ∃ ys d', fComp (itR1 (aCons (eC (.int 8)) aNil)) (.nm 9) [9] tT (eCallO 3 2 f__law_spoilt (aCons (eVar 4) aNil)) (EV sc bk c (.own d) (.val x) s5 s6 s7 s8) = .ok (.lst ys, EV sc bk c (.own d') (.val x) s5 s6 s7 s8) ∧ ys.length = 8 ∧ (∀ y ∈ ys, Th 22 BB 4 y) ∧ Dk (n + 72) d' := by
  obtain ⟨ys, env2, q1, q2, q3, q4⟩ := comp_inv (it := itR1 (aCons (eC (.int 8)) aNil)) (p := .nm 9) (vs := [9]) (cond := tT) (elt := eCallO 3 2 f__law_spoilt (aCons (eVar 4) aNil))
    (env := EV sc bk c (.own d) (.val x) s5 s6 s7 s8) (env1 := EV sc bk c (.own d) (.val x) s5 s6 s7 s8) (xs := rgI 0 8)
    (fun j env => ∃ d', env = EV sc bk c (.own d') (.val x) s5 s6 s7 s8 ∧ Dk (n + 9 * j) d') (fun y => Th 22 BB 4 y) (by simp [small]) (by rw [rg_len]; unfold big; omega) (fun z hz j env hj hi => by
      rw [rg_len] at hj
      obtain ⟨d', rfl, hd'⟩ := hi
      obtain ⟨y, d1, e, h1, h2⟩ := spo (by omega) (by omega) (by omega) hx hd' (by omega)
      exact ⟨by simp [hasOwn], [sc, bk, c, .own d', .val x, s5, s6, s7, s8, .val z], by simp [Pt.asg, wipeE], rfl, y, [sc, bk, c, .own d1, .val x, s5, s6, s7, s8, .val z], by simp [e], bb1 (by omega) (le_BB (by omega)) (by omega) h1, d1, by simp [backE, cp1], h2.mono (by omega)⟩)
    ⟨d, rfl, by simpa using h⟩
  obtain ⟨d2, rfl, h2⟩ := q4
  exact ⟨ys, d2, q1, by rw [q3, rg_len], q2, h2.mono (by rw [rg_len]; omega)⟩
theorem spoils8 {d x : D} {n : Int} (h : Dk n d) (hn : n ≤ 5000) (hx : Th 20 100 4 x) :
    ∃ ys d', fComp (itR1 (aCons (eC (.int 6)) aNil)) (.nm 9) [9] tT (eCallO 3 2 f__law_spoilt (aCons (eVar 8) aNil)) (EV sc bk c (.own d) s4 s5 s6 s7 (.val x)) = .ok (.lst ys, EV sc bk c (.own d') s4 s5 s6 s7 (.val x)) ∧ ys.length = 6 ∧ (∀ y ∈ ys, Th 22 BB 4 y) ∧ Dk (n + 72) d' := by
  obtain ⟨ys, env2, q1, q2, q3, q4⟩ := comp_inv (it := itR1 (aCons (eC (.int 6)) aNil)) (p := .nm 9) (vs := [9]) (cond := tT) (elt := eCallO 3 2 f__law_spoilt (aCons (eVar 8) aNil))
    (env := EV sc bk c (.own d) s4 s5 s6 s7 (.val x)) (env1 := EV sc bk c (.own d) s4 s5 s6 s7 (.val x)) (xs := rgI 0 6)
    (fun j env => ∃ d', env = EV sc bk c (.own d') s4 s5 s6 s7 (.val x) ∧ Dk (n + 9 * j) d') (fun y => Th 22 BB 4 y) (by simp [small]) (by rw [rg_len]; unfold big; omega) (fun z hz j env hj hi => by
      rw [rg_len] at hj
      obtain ⟨d', rfl, hd'⟩ := hi
      obtain ⟨y, d1, e, h1, h2⟩ := spo (by omega) (by omega) (by omega) hx hd' (by omega)
      exact ⟨by simp [hasOwn], [sc, bk, c, .own d', s4, s5, s6, s7, .val x, .val z], by simp [Pt.asg, wipeE], rfl, y, [sc, bk, c, .own d1, s4, s5, s6, s7, .val x, .val z], by simp [e], bb1 (by omega) (le_BB (by omega)) (by omega) h1, d1, by simp [backE, cp1], h2.mono (by omega)⟩)
    ⟨d, rfl, by simpa using h⟩
  obtain ⟨d2, rfl, h2⟩ := q4
  exact ⟨ys, d2, q1, by rw [q3, rg_len], q2, h2.mono (by rw [rg_len]; omega)⟩
end
end DL

/-! ## P01f -/
namespace DL
open PySem PySem.Spec PyProof.Rows L2
section
variable {sc bk c s3 s4 s5 s6 s7 s8 : Sl}
theorem zq4_ok {d x : D} {so : List D} {n : Int} (h : Dk n d) (hn : n ≤ 5000) (hx : Th 20 100 4 x) (hl : so.length = 8) (hso : ∀ y ∈ so, Th 22 BB 4 y) (f7 : s7.free = true) :
    ∃ t d', zq4 (EV sc (.val (.lst booksL)) c (.own d) (.val x) s5 (.val (.lst so)) s7 s8) = .ok (.nx, EV sc (.val (.lst booksL)) c (.own d') (.val x) s5 (.val (.lst so)) t s8) ∧ t.free = true ∧ Dk (n + 72) d' := by
  obtain ⟨ys, d', e, hy, hys, hd'⟩ := spoils4 (sc := sc) (bk := .val (.lst booksL)) (c := c) (s5 := s5) (s6 := .val (.lst so)) (s7 := s7) (s8 := s8) h hn hx
  obtain ⟨e2, l1, t, rfl, ft⟩ := sLoop_inv (p := .nm 7) (body := zw4) (fun env => ∃ t : Sl, env = EV sc (.val (.lst booksL)) c (.own d') (.val x) s5 (.val (.lst so)) t s8 ∧ t.free = true) (so ++ (ys ++ booksL)) (fun y hy env hi => by
    obtain ⟨t, rfl, ft⟩ := hi
    have ty : Th 22 BB 4 y := by
      rcases List.mem_append.mp hy with z | z
      · exact hso y z
      · rcases List.mem_append.mp z with z | z
        · exact hys y z
        · exact booksL_th y z
    exact ⟨EV sc (.val (.lst booksL)) c (.own d') (.val x) s5 (.val (.lst so)) (.val y) s8, by simp [Pt.asg, ft], _, zw4_ok (d := .non) (w := .non) (s := 0) ty, _, rfl, rfl⟩) (EV sc (.val (.lst booksL)) c (.own d') (.val x) s5 (.val (.lst so)) s7 s8) ⟨s7, rfl, f7⟩
  have hlen : booksL.length = 12 := rfl
  refine ⟨t, d', ?_, ft, hd'⟩
  simp [zq4, sFor, e, hl, hy, hlen, l1]
theorem zw9_ok {x : D} {d w : D} {s : Int} (hb : Th 20 100 4 (.tup [.int s, w])) (hbb : bookB (.tup [.int s, w]) = true) (hx : Th 22 BB 4 x) : zw9 (EV sc bk c s3 (.val (.tup [.int s, w])) s5 s6 (.val x) s8) = .ok (.nx, EV sc bk c s3 (.val (.tup [.int s, w])) s5 s6 (.val x) s8) := by
  have h1 := room_ok 22 4 BB (by omega) (bb1 (by omega) (le_BB (by omega)) (by omega) hb) hbb hx
  have h2 := lroom_ok (s := s) (w := w) 22 4 BB (by omega) (by omega) hx
  have h3 : f__law_same [.bl (roomB s x), .bl (roomB s x)] = .ok (.bl true, .non) := same_ok (roomB s x) 11
  simp [zw9, h1, h2, h3]
theorem zq7_ok {d b : D} {rs : List D} {n : Int} (h : Dk n d) (hn : n ≤ 5000) (hx : Th 20 100 4 (.tup rs)) (hb : Th 21 101 4 b) (f6 : s6.free = true) : ∃ so d', zq7 (EV sc bk c (.own d) s4 (.val b) s6 s7 (.val (.tup rs))) = .ok (.nx, EV sc bk c (.own d') s4 (.val b) (.val (.lst so)) s7 (.val (.tup rs))) ∧ so.length = 9 ∧ (∀ x ∈ so, Th 22 BB 4 x) ∧ Dk (n + 10) d' := by
  obtain ⟨y, d1, e, h1, h2⟩ := spo (by omega) (by omega) (by omega) hb h (by omega)
  refine ⟨[.tup rs, b, y, .tup rs.reverse, .lst rs, .tup [], .non, .tup [.tup [.int 1, .int 99]], .tup [.tup [.int 1, .int 100]]], d1, by simp [zq7, e, f6], rfl, fun x hx' => ?_, h2.mono (by omega)⟩
  have hc : rs.length ≤ 20 ∧ ∀ z ∈ rs, Th 20 100 3 z := by simpa only [Th] using hx
  simp only [List.mem_cons, List.not_mem_nil, or_false] at hx'
  rcases hx' with rfl | rfl | rfl | rfl | rfl | rfl | rfl | rfl | rfl
  · exact bb1 (by omega) (le_BB (by omega)) (by omega) hx
  · exact bb1 (by omega) (le_BB (by omega)) (by omega) hb
  · exact bb1 (by omega) (le_BB (by omega)) (by omega) h1
  · refine bb1 (m := 20) (B := 100) (k := 4) (by omega) (le_BB (by omega)) (by omega) ?_
    rw [Th]
    exact ⟨by rw [List.length_reverse]; exact hc.1, fun z hz => hc.2 z (List.mem_reverse.mp hz)⟩
  · refine bb1 (m := 20) (B := 100) (k := 4) (by omega) (le_BB (by omega)) (by omega) ?_
    rw [Th]
    exact hc
  · simp [Th]
  · simp [Th]
  · simp [Th, BB]
  · simp [Th, BB]
theorem zq8_ok {d w : D} {so : List D} {n s : Int} (h : Dk n d) (hn : n ≤ 5000) (hs : 1 ≤ s) (hs2 : s ≤ 16) (hl : so.length = 9) (hso : ∀ y ∈ so, Th 22 BB 4 y) :
    ∃ so' d', zq8 (EV sc bk c (.own d) (.val (.tup [.int s, w])) s5 (.val (.lst so)) s7 s8) = .ok (.nx, EV sc bk c (.own d') (.val (.tup [.int s, w])) s5 (.val (.lst so')) s7 s8) ∧ so'.length = 14 ∧ (∀ x ∈ so', Th 22 BB 4 x) ∧ Dk (n + 1) d' := by
  obtain ⟨o, d1, e, h1, h2⟩ := odd_ok h (by omega)
  refine ⟨so ++ [.tup [.tup [.int 1, .int 0]], .tup [.tup [.int 1, .bl true]], .tup [.tup [.int (s + 1), .int 1]], .tup [.tup [.int 1, .int 1], .tup [.int 1, .int 2]], o], d1, by simp [zq8, e, hl], by simp [hl], fun x hx => ?_, h2⟩
  rcases List.mem_append.mp hx with z | z
  · exact hso x z
  · simp only [List.mem_cons, List.not_mem_nil, or_false] at z
    rcases z with rfl | rfl | rfl | rfl | rfl
    · simp [Th, BB]
    · simp [Th, BB]
    · simp [Th, BB]; omega
    · simp [Th, BB]
    · exact bb1 (by omega) (le_BB (by omega)) (by omega) h1
theorem zq9_ok {d w x : D} {so : List D} {n s : Int} (h : Dk n d) (hn : n ≤ 5000) (hb : Th 20 100 4 (.tup [.int s, w])) (hbb : bookB (.tup [.int s, w]) = true) (hx : Th 20 100 4 x) (hl : so.length = 14) (hso : ∀ y ∈ so, Th 22 BB 4 y) (f7 : s7.free = true) :
    ∃ t d', zq9 (EV sc bk c (.own d) (.val (.tup [.int s, w])) s5 (.val (.lst so)) s7 (.val x)) = .ok (.nx, EV sc bk c (.own d') (.val (.tup [.int s, w])) s5 (.val (.lst so)) t (.val x)) ∧ t.free = true ∧ Dk (n + 72) d' := by
  obtain ⟨ys, d', e, hy, hys, hd'⟩ := spoils8 (sc := sc) (bk := bk) (c := c) (s4 := .val (.tup [.int s, w])) (s5 := s5) (s6 := .val (.lst so)) (s7 := s7) h hn hx
  obtain ⟨e2, l1, t, rfl, ft⟩ := sLoop_inv (p := .nm 7) (body := zw9) (fun env => ∃ t : Sl, env = EV sc bk c (.own d') (.val (.tup [.int s, w])) s5 (.val (.lst so)) t (.val x) ∧ t.free = true) (so ++ ys) (fun y hy env hi => by
    obtain ⟨t, rfl, ft⟩ := hi
    have ty : Th 22 BB 4 y := by
      rcases List.mem_append.mp hy with z | z
      · exact hso y z
      · exact hys y z
    exact ⟨EV sc bk c (.own d') (.val (.tup [.int s, w])) s5 (.val (.lst so)) (.val y) (.val x), by simp [Pt.asg, ft], _, zw9_ok (d := .non) hb hbb ty, _, rfl, rfl⟩) (EV sc bk c (.own d') (.val (.tup [.int s, w])) s5 (.val (.lst so)) s7 (.val x)) ⟨s7, rfl, f7⟩
  refine ⟨t, d', ?_, ft, hd'⟩
  simp [zq9, sFor, e, hl, hy, l1]
theorem cell_ok (i : Int) (f4 : s4.free = true) (f5 : s5.free = true) (f6 : s6.free = true) (f7 : s7.free = true) (f8 : s8.free = true) :
    ∃ t3 t4 t5 t6 t7 t8, cellB (EV sc (.val (.lst booksL)) (.val (.int i)) s3 s4 s5 s6 s7 s8) = .ok (.nx, EV sc (.val (.lst booksL)) (.val (.int i)) t3 t4 t5 t6 t7 t8) ∧ t4.free = true ∧ t5.free = true ∧ t6.free = true ∧ t7.free = true ∧ t8.free = true := by
  obtain ⟨d0, e0, h0⟩ := zq0_ok (sc := sc) (bk := .val (.lst booksL)) (s3 := s3) (s4 := s4) (s5 := s5) (s6 := s6) (s7 := s7) (s8 := s8) i
  obtain ⟨s, w, d1, e1, hs, hs2, hbb, tb, h1⟩ := zq1_ok (sc := sc) (bk := .val (.lst booksL)) (c := .val (.int i)) (s5 := s5) (s6 := s6) (s7 := s7) (s8 := s8) h0 (by omega) f4
  obtain ⟨y, d2, e2, ty, h2⟩ := zq2_ok (sc := sc) (bk := .val (.lst booksL)) (c := .val (.int i)) (s6 := s6) (s7 := s7) (s8 := s8) h1 (by omega) tb f5
  obtain ⟨so, d3, e3, hl, hso, h3⟩ := zq3_ok (sc := sc) (bk := .val (.lst booksL)) (c := .val (.int i)) (s7 := s7) (s8 := s8) h2 (by omega) tb ty f6
  obtain ⟨t7, d4, e4, f7', h4⟩ := zq4_ok (sc := sc) (c := .val (.int i)) (s5 := .val y) (s7 := s7) (s8 := s8) h3 (by omega) tb hl hso f7
  obtain ⟨rs, d5, e5, tr, h5⟩ := zq5_ok (sc := sc) (bk := .val (.lst booksL)) (c := .val (.int i)) (s5 := .val y) (s6 := .val (.lst so)) (s7 := t7) (w := w) h4 (by omega) hs hs2 f8
  obtain ⟨y2, d6, e6, ty2, h6⟩ := zq6_ok (sc := sc) (bk := .val (.lst booksL)) (c := .val (.int i)) (s4 := .val (.tup [.int s, w])) (s5 := .val y) (s6 := .val (.lst so)) (s7 := t7) h5 (by omega) tr rfl
  obtain ⟨so2, d7, e7, hl2, hso2, h7⟩ := zq7_ok (sc := sc) (bk := .val (.lst booksL)) (c := .val (.int i)) (s4 := .val (.tup [.int s, w])) (s6 := .val (.lst so)) (s7 := t7) h6 (by omega) tr ty2 rfl
  obtain ⟨so3, d8, e8, hl3, hso3, h8⟩ := zq8_ok (sc := sc) (bk := .val (.lst booksL)) (c := .val (.int i)) (s5 := .val y2) (s7 := t7) (s8 := .val (.tup rs)) (w := w) h7 (by omega) hs hs2 hl2 hso2
  obtain ⟨t9, d9, e9, f9, h9⟩ := zq9_ok (sc := sc) (bk := .val (.lst booksL)) (c := .val (.int i)) (s5 := .val y2) (s7 := t7) h8 (by omega) tb hbb tr hl3 hso3 f7'
  exact ⟨.own d9, .val (.tup [.int s, w]), .val y2, .val (.lst so3), t9, .val (.tup rs), by simp [cellB, e0, e1, e2, e3, e4, e5, e6, e7, e8, e9], rfl, rfl, rfl, f9, rfl⟩
end
theorem seq_assoc (f g h : DenS) : sSeq (sSeq f g) h = sSeq f (sSeq g h) := by
  funext env
  simp only [sSeq]
  cases f env with
  | stk => rfl
  | err c => rfl
  | ok p =>
    obtain ⟨fl, e⟩ := p
    cases fl <;> rfl
theorem plain (ns : List Int) (hl : ns.length ≤ 63) : ∃ d, f_law [.lst (ns.map D.int)] = .ok (.bl true, d) := by
  obtain ⟨e2, l1, c, t3, t4, t5, t6, t7, t8, rfl, g4, g5, g6, g7, g8, gc⟩ := sLoop_inv (p := .nm 2) (body := cellB)
    (fun env => ∃ c t3 t4 t5 t6 t7 t8 : Sl, env = EV (.val (.lst (ns.map D.int))) (.val (.lst booksL)) c t3 t4 t5 t6 t7 t8 ∧ t4.free = true ∧ t5.free = true ∧ t6.free = true ∧ t7.free = true ∧ t8.free = true ∧ c.free = true)
    (cutD (.int 0 :: ns.map D.int) none (some 10)) (fun x hx env hi => by
      obtain ⟨c, t3, t4, t5, t6, t7, t8, rfl, g4, g5, g6, g7, g8, gc⟩ := hi
      obtain ⟨i, rfl⟩ : ∃ i, x = .int i := by
        rcases List.mem_cons.mp (cut_mem hx) with z | z
        · exact ⟨0, z⟩
        · obtain ⟨i, _, rfl⟩ := List.mem_map.mp z
          exact ⟨i, rfl⟩
      obtain ⟨u3, u4, u5, u6, u7, u8, e, k4, k5, k6, k7, k8⟩ := cell_ok (sc := .val (.lst (ns.map D.int))) (s3 := t3) i g4 g5 g6 g7 g8
      exact ⟨EV (.val (.lst (ns.map D.int))) (.val (.lst booksL)) (.val (.int i)) t3 t4 t5 t6 t7 t8, by simp [Pt.asg, gc], _, e, _, _, _, _, _, _, _, rfl, k4, k5, k6, k7, k8, rfl⟩)
    (EV (.val (.lst (ns.map D.int))) (.val (.lst booksL)) .no .no .no .no .no .no .no) ⟨_, _, _, _, _, _, _, rfl, rfl, rfl, rfl, rfl, rfl, rfl⟩
  have hb := books_ok (.lst (ns.map D.int))
  refine ⟨.non, ?_⟩
  have hlen : 1 + ns.length ≤ 1000000 := by omega
  have hs : startE false [.lst (ns.map D.int)] 9 = EV (.val (.lst (ns.map D.int))) .no .no .no .no .no .no .no .no := rfl
  have hf : (sFor (itS (eSl (e2 pAdd (fLst (aCons (eC (.int 0)) aNil)) (eVar 0)) oN (oS (eC (.int 10))))) (.nm 2) cellB) (EV (.val (.lst (ns.map D.int))) (.val (.lst booksL)) .no .no .no .no .no .no .no) = R.ok (Fl.nx, EV (.val (.lst (ns.map D.int))) (.val (.lst booksL)) c t3 t4 t5 t6 t7 t8) := by
    simp only [sFor]
    simp [hlen, -List.map_cons]
    simpa using l1
  show runF false false 9 b_law [.lst (ns.map D.int)] = _
  rw [v_run, hs, b_law_eq, ← seq_assoc za1, ← seq_assoc za0]
  rw [v_seq, hb]
  simp only [R.bind_ok]
  rw [v_seq, hf]
  simp
end DL

theorem PySem.Challenge.cw_allwinters_k01_books_and_rooms_holds : PySem.Challenge.rw_allwinters_k01_books_and_rooms.Holds := by
  exact DL.holds_by DL.plain
