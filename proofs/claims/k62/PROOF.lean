import PyProof.Rows.All
import Wide.All
import OpenK.AllK
import Wide.FinOn
import HandS.ForMost
import HandS.Deep
import HandS.TupAny
import HandS.TupMul
import HandS.Wide
import HandS.TupLe
import KE.SortData
import PyProof.ReprRoads
import KE.GoesEnum
import HandS.Style
import HandS.Ends
import HandS.TupSets
import HandS.IsInst
import HandS.Conv
import PySem.Challenge.RW_webmaps_k62_whole_main_parted
set_option Elab.async false
set_option linter.all false
set_option maxRecDepth 100000
set_option maxHeartbeats 4000000
namespace L2.Zy
open PySem PyProof.Rows PySem.Spec

/-! ## trees of draws -/
inductive T (α : Type) where
  | ret (a : α)
  | bad
  | draw (n : Int) (k : Int → T α)
  | nat (k : Int → T α)
namespace T
def all {α : Type} : T α → (α → Prop) → Prop
  | ret a, P => P a
  | bad, _ => False
  | draw n k, P => 0 < n ∧ ∀ i : Int, 0 ≤ i → i < n → (k i).all P
  | nat k, P => ∀ i : Int, 0 ≤ i → (k i).all P
def bnd {α β : Type} : T α → (α → T β) → T β
  | ret a, f => f a
  | bad, _ => bad
  | draw n k, f => draw n fun i => (k i).bnd f
  | nat k, f => nat fun i => (k i).bnd f
instance : Monad T where
  pure := ret
  bind := bnd
@[simp] theorem pure_eq {α : Type} (a : α) : (Pure.pure a : T α) = ret a := rfl
@[simp] theorem ret_bind {α β : Type} (a : α) (f : α → T β) : (ret a >>= f) = f a := rfl
@[simp] theorem bad_bind {α β : Type} (f : α → T β) : ((bad : T α) >>= f) = bad := rfl
@[simp] theorem draw_bind {α β : Type} (n : Int) (k : Int → T α) (f : α → T β) : (draw n k >>= f) = draw n fun i => k i >>= f := rfl
@[simp] theorem nat_bind {α β : Type} (k : Int → T α) (f : α → T β) : (nat k >>= f) = nat fun i => k i >>= f := rfl
@[simp] theorem all_nat {α : Type} (k : Int → T α) (P : α → Prop) : (nat k).all P = ∀ i : Int, 0 ≤ i → (k i).all P := rfl
@[simp] theorem all_ret {α : Type} (a : α) (P : α → Prop) : (ret a).all P = P a := rfl
@[simp] theorem all_bad {α : Type} (P : α → Prop) : (bad : T α).all P = False := rfl
@[simp] theorem all_draw {α : Type} (n : Int) (k : Int → T α) (P : α → Prop) : (draw n k).all P = (0 < n ∧ ∀ i : Int, 0 ≤ i → i < n → (k i).all P) := rfl
theorem all_mono {α : Type} : ∀ {t : T α} {P Q : α → Prop}, t.all P → (∀ a, P a → Q a) → t.all Q
  | ret _, _, _, h, f => f _ h
  | bad, _, _, h, _ => h.elim
  | draw _ k, _, _, h, f => ⟨h.1, fun i a b => all_mono (h.2 i a b) f⟩
  | nat k, _, _, h, f => fun i a => all_mono (h i a) f
theorem all_bind {α β : Type} : ∀ {t : T α} {f : α → T β} {P : β → Prop}, (t >>= f).all P ↔ t.all fun a => (f a).all P
  | ret _, _, _ => Iff.rfl
  | bad, _, _ => Iff.rfl
  | draw n k, f, P => by
    show (0 < n ∧ ∀ i : Int, 0 ≤ i → i < n → (k i >>= f).all P) ↔ (0 < n ∧ ∀ i : Int, 0 ≤ i → i < n → (k i).all fun a => (f a).all P)
    constructor
    · exact fun h => ⟨h.1, fun i a b => all_bind.mp (h.2 i a b)⟩
    · exact fun h => ⟨h.1, fun i a b => all_bind.mpr (h.2 i a b)⟩
  | nat k, f, P => by
    show (∀ i : Int, 0 ≤ i → (k i >>= f).all P) ↔ ∀ i : Int, 0 ≤ i → (k i).all fun a => (f a).all P
    constructor
    · exact fun h i a => all_bind.mp (h i a)
    · exact fun h i a => all_bind.mpr (h i a)
theorem bind_all {α β : Type} {t : T α} {f : α → T β} {P : β → Prop} (h : (t >>= f).all P) : t.all fun a => (f a).all P := all_bind.mp h
theorem bind_assoc {α β γ : Type} : ∀ (t : T α) (f : α → T β) (g : β → T γ), ((t >>= f) >>= g) = (t >>= fun a => f a >>= g)
  | ret _, _, _ => rfl
  | bad, _, _ => rfl
  | draw n k, f, g => by
    show draw n (fun i => (k i >>= f) >>= g) = draw n fun i => k i >>= fun a => f a >>= g
    exact congrArg _ (funext fun i => bind_assoc (k i) f g)
  | nat k, f, g => by
    show nat (fun i => (k i >>= f) >>= g) = nat fun i => k i >>= fun a => f a >>= g
    exact congrArg _ (funext fun i => bind_assoc (k i) f g)
theorem bind_ret {α : Type} : ∀ (t : T α), (t >>= ret) = t
  | ret _ => rfl
  | bad => rfl
  | draw n k => by
    show draw n (fun i => k i >>= ret) = draw n k
    exact congrArg _ (funext fun i => bind_ret (k i))
  | nat k => by
    show nat (fun i => k i >>= ret) = nat k
    exact congrArg _ (funext fun i => bind_ret (k i))
def ofO {α : Type} : Option α → T α
  | some a => ret a
  | none => bad
@[simp] theorem ofO_some {α : Type} (a : α) : ofO (some a) = ret a := rfl
@[simp] theorem ofO_none {α : Type} : (ofO (none : Option α)) = bad := rfl
def ask (c : Bool) : T Unit := if c = true then ret () else bad
end T

/-! ## values -/
abbrev D := PyData
/-- the list's key, the keys of the numbers; or a list -/
structure PotKeys where
  k0 : Str
  ks : List Str
  lst : Bool := false
  deriving DecidableEq
def potPairs (kn : PotKeys) (g : Addr) (is : List Int) : List (Key × V) := (Sum.inr kn.k0, V.ref g) :: (kn.ks.zip is).map fun q => (Sum.inr q.1, V.int q.2)
def potObj (kn : PotKeys) (g : Addr) (is : List Int) : HO := match kn.lst with
  | true => .lst (V.ref g :: is.map V.int)
  | false => .dK (potPairs kn g is)
inductive M where
  | pure (d : D)
  | pot
  | lst (ds : List D)
  | lst2 (dss : List (List D))
  | npot (kn : PotKeys) (gs is : List Int)
  | dic (kvs : List (Key × D))
  | dit (kvs : List (List Key × D))
abbrev DSt := List (Option M)

/-- the pot of draws, where there is one: a dict (or a list) at p, its list at g -/
structure Zone where
  p : Option Addr
  g : Option Addr
structure POk (kn : PotKeys) (p g : Addr) (H : Hp) : Prop where
  ne : p ≠ g
  pot : ∃ is : List Int, is.length = kn.ks.length ∧ (∀ i ∈ is, 0 ≤ i) ∧ H p = some (potObj kn g is)
  great : ∃ gs : List Int, (∀ i ∈ gs, 0 ≤ i) ∧ gs.length ≤ 63 ∧ H g = some (.lst (gs.map V.int))
def Zone.Ok (kn : PotKeys) (Z : Zone) (H : Hp) : Prop := (Z.p = none ∧ Z.g = none) ∨ ∃ p g, Z.p = some p ∧ Z.g = some g ∧ POk kn p g H

/-- all that is tracked stays, but the pot -/
def Ext (Z : Zone) (H H' : Hp) : Prop := ∀ a o, H a = some o → some a ≠ Z.p → some a ≠ Z.g → H' a = some o
def Imt : HO → Bool
  | .tup _ => true
  | .frz _ _ => true
  | _ => false
/-- what never changes stays -/
def Imm (H H' : Hp) : Prop := ∀ a o, H a = some o → Imt o = true → H' a = some o
theorem Ext.refl {Z : Zone} {H : Hp} : Ext Z H H := fun _ _ h _ _ => h
theorem Ext.trans {Z : Zone} {H H1 H2 : Hp} (a : Ext Z H H1) (b : Ext Z H1 H2) : Ext Z H H2 := fun c o h n m => b c o (a c o h n m) n m
theorem Ext.of_same {Z : Zone} {H H' : Hp} (s : Same H H') : Ext Z H H' := fun a o h _ _ => s a o h
theorem Imm.refl {H : Hp} : Imm H H := fun _ _ h _ => h
theorem Imm.trans {H H1 H2 : Hp} (a : Imm H H1) (b : Imm H1 H2) : Imm H H2 := fun c o h n => b c o (a c o h n) n
theorem Imm.of_same {H H' : Hp} (s : Same H H') : Imm H H' := fun a o h _ => s a o h
theorem same_new {H : Hp} {p : Addr} {o : HO} (h : H p = none) : Same H (upd H p o) := fun b x e => by
  rw [upd_ne (ne_of_none e h)]
  exact e

section
variable {kn : PotKeys} {Z : Zone} {H H' : Hp}
theorem potObj_imt {kn : PotKeys} {g : Addr} {is : List Int} : Imt (potObj kn g is) = false := by
  unfold potObj
  cases kn.lst <;> rfl
theorem POk.np {p g a : Addr} {o : HO} (z : POk kn p g H) (h : H a = some o) (i : Imt o = true) : a ≠ p := by
  rintro rfl
  obtain ⟨is, _, _, e⟩ := z.pot
  rw [e] at h
  cases h
  rw [potObj_imt] at i
  cases i
theorem POk.ng {p g a : Addr} {o : HO} (z : POk kn p g H) (h : H a = some o) (i : Imt o = true) : a ≠ g := by
  rintro rfl
  obtain ⟨gs, _, _, e⟩ := z.great
  rw [e] at h
  cases h
  cases i
theorem Zone.Ok.np {a : Addr} {o : HO} (z : Z.Ok kn H) (h : H a = some o) (i : Imt o = true) : some a ≠ Z.p := by
  rcases z with ⟨e, _⟩ | ⟨p, g, e, _, q⟩
  · rw [e]; exact fun k => nomatch k
  · rw [e]; exact fun k => q.np h i (Option.some.inj k)
theorem Zone.Ok.ng {a : Addr} {o : HO} (z : Z.Ok kn H) (h : H a = some o) (i : Imt o = true) : some a ≠ Z.g := by
  rcases z with ⟨_, e⟩ | ⟨p, g, _, e, q⟩
  · rw [e]; exact fun k => nomatch k
  · rw [e]; exact fun k => q.ng h i (Option.some.inj k)
theorem Ext.imm (z : Z.Ok kn H) (x : Ext Z H H') : Imm H H' := fun a o h i => x a o h (z.np h i) (z.ng h i)
theorem Zone.Ok.isP (z : Z.Ok kn H) {a : Addr} (h : H a = none) : some a ≠ Z.p := by
  rcases z with ⟨e, _⟩ | ⟨p, g, e, _, q⟩
  · rw [e]; exact fun k => nomatch k
  · rw [e]
    intro k
    obtain ⟨is, _, _, e⟩ := q.pot
    rw [Option.some.inj k, e] at h
    cases h
theorem Zone.Ok.isG (z : Z.Ok kn H) {a : Addr} (h : H a = none) : some a ≠ Z.g := by
  rcases z with ⟨_, e⟩ | ⟨p, g, _, e, q⟩
  · rw [e]; exact fun k => nomatch k
  · rw [e]
    intro k
    obtain ⟨is, _, _, e⟩ := q.great
    rw [Option.some.inj k, e] at h
    cases h
/-- the pot stays where the new heap holds what it holds -/
theorem Zone.Ok.keep (z : Z.Ok kn H) (k : ∀ a o, H a = some o → (some a = Z.p ∨ some a = Z.g) → H' a = some o) : Z.Ok kn H' := by
  rcases z with q | ⟨p, g, e1, e2, q⟩
  · exact .inl q
  · obtain ⟨is, a, b, e⟩ := q.pot
    obtain ⟨gs, c, d, e'⟩ := q.great
    exact .inr ⟨p, g, e1, e2, q.ne, ⟨is, a, b, k _ _ e (.inl e1.symm)⟩, ⟨gs, c, d, k _ _ e' (.inr e2.symm)⟩⟩
theorem Zone.Ok.same (z : Z.Ok kn H) (s : Same H H') : Z.Ok kn H' := z.keep fun a o h _ => s a o h
theorem Zone.Ok.upd (z : Z.Ok kn H) {a : Addr} {o : HO} (h1 : some a ≠ Z.p) (h2 : some a ≠ Z.g) : Z.Ok kn (upd H a o) := z.keep fun b u h q => by
  have n : b ≠ a := by
    rintro rfl
    rcases q with q | q
    · exact h1 q
    · exact h2 q
  rw [upd_ne n]; exact h
end

/-! ## what reads as data that never changes -/
def FzL (K : PySem.W.Frag) (H : Hp) (a : Addr) (xs : List V) : Prop := (∃ o, H a = some (.frz o (.lst xs))) ∨ ∃ (its : Array Value) (n : Nat), K.lookup a = some { cls := .type "list", data := .seq its n } ∧ its.size ≤ sizeLine ∧ Vals xs its.toList
theorem FzL.sq {K : PySem.W.Frag} {H : Hp} {a : Addr} {xs : List V} (h : FzL K H a xs) : SqL K H a xs := h.imp Or.inr fun ⟨its, n, e, z, v⟩ => ⟨_, its, n, e, rfl, rfl, rfl, z, v⟩
theorem FzL.imm {K : PySem.W.Frag} {H H' : Hp} {a : Addr} {xs : List V} (m : Imm H H') (h : FzL K H a xs) : FzL K H' a xs := h.imp (fun ⟨o, e⟩ => ⟨o, m _ _ e rfl⟩) id
theorem sqT_imm {K : PySem.W.Frag} {H H' : Hp} {a : Addr} {xs : List V} (m : Imm H H') (h : SqT K H a xs) : SqT K H' a xs := by
  rcases h with (h | ⟨o, h⟩) | h
  · exact .inl (.inl (m _ _ h rfl))
  · exact .inl (.inr ⟨o, m _ _ h rfl⟩)
  · exact .inr h
mutual
inductive Fz (K : PySem.W.Frag) (H : Hp) : V → D → Prop
  | non : Fz K H .non .none
  | bl (b : Bool) : Fz K H (.bl b) (.bool b)
  | int (i : Int) : Fz K H (.int i) (.int i)
  | str (x : Str) : Fz K H (.str x) (.str x)
  | lst {a : Addr} {xs : List V} {ds : List D} : FzL K H a xs → FzAll K H xs ds → Fz K H (.ref a) (.list ds)
  | tup {a : Addr} {xs : List V} {ds : List D} : SqT K H a xs → FzAll K H xs ds → Fz K H (.ref a) (.tuple ds)
  | dct {a : Addr} {o : Obj} : H a = some (.frz o (.dK [])) → Fz K H (.ref a) (.dict [])
inductive FzAll (K : PySem.W.Frag) (H : Hp) : List V → List D → Prop
  | nil : FzAll K H [] []
  | cons {v : V} {vs : List V} {d : D} {ds : List D} : Fz K H v d → FzAll K H vs ds → FzAll K H (v :: vs) (d :: ds)
end
section
variable {K : PySem.W.Frag} {H H' : Hp}
mutual
theorem Fz.imm (m : Imm H H') : ∀ {d : D} {v : V}, Fz K H v d → Fz K H' v d
  | .none, _, h => by cases h; exact .non
  | .bool _, _, h => by cases h; exact .bl _
  | .int _, _, h => by cases h; exact .int _
  | .str _, _, h => by cases h; exact .str _
  | .list ds, _, h => by
    cases h with
    | lst a b => exact .lst (a.imm m) (FzAll.imm m b)
  | .tuple ds, _, h => by
    cases h with
    | tup a b => exact .tup (sqT_imm m a) (FzAll.imm m b)
  | .dict _, _, h => by
    cases h with
    | dct e => exact .dct (m _ _ e rfl)
theorem FzAll.imm (m : Imm H H') : ∀ {ds : List D} {vs : List V}, FzAll K H vs ds → FzAll K H' vs ds
  | [], _, h => by cases h; exact .nil
  | d :: ds, _, h => by
    cases h with
    | cons a b => exact .cons (Fz.imm m a) (FzAll.imm m b)
end
mutual
theorem Fz.dp : ∀ {d : D} {v : V}, d.hasDict = false → Fz K H v d → Dp K H v d
  | .none, _, _, h => by cases h; exact .non
  | .bool _, _, _, h => by cases h; exact .bl _
  | .int _, _, _, h => by cases h; exact .int _
  | .str _, _, _, h => by cases h; exact .str _
  | .list ds, _, hd, h => by
    cases h with
    | lst a b => exact .lst a.sq (FzAll.dp (by simpa [PyData.hasDict] using hd) b)
  | .tuple ds, _, hd, h => by
    cases h with
    | tup a b => exact .tup a (FzAll.dp (by simpa [PyData.hasDict] using hd) b)
  | .dict _, _, hd, h => by simp [PyData.hasDict] at hd
theorem FzAll.dp : ∀ {ds : List D} {vs : List V}, PyData.hasDictAll ds = false → FzAll K H vs ds → DpAll K H vs ds
  | [], _, _, h => by cases h; exact .nil
  | d :: ds, _, hd, h => by
    have hd' : d.hasDict = false ∧ PyData.hasDictAll ds = false := by simpa [PyData.hasDictAll] using hd
    cases h with
    | cons a b => exact .cons (Fz.dp hd'.1 a) (FzAll.dp hd'.2 b)
end
theorem FzAll.length : ∀ {vs : List V} {ds : List D}, FzAll K H vs ds → vs.length = ds.length
  | _, [], h => by cases h; rfl
  | _, d :: ds, h => by
    cases h with
    | cons a b => exact congrArg (· + 1) (FzAll.length b)
theorem FzAll.get : ∀ {vs : List V} {ds : List D} {i : Nat} {v : V}, FzAll K H vs ds → vs[i]? = some v → ∃ d, ds[i]? = some d ∧ Fz K H v d
  | _, [], i, v, h, e => by cases h; simp at e
  | _, d :: ds, 0, v, h, e => by
    cases h with
    | cons a b => simp at e; subst e; exact ⟨d, rfl, a⟩
  | _, d :: ds, i + 1, v, h, e => by
    cases h with
    | cons a b =>
      obtain ⟨d', h1, h2⟩ := FzAll.get (i := i) b (by simpa using e)
      exact ⟨d', by simpa using h1, h2⟩
theorem FzAll.get' : ∀ {vs : List V} {ds : List D} {i : Nat} {d : D}, FzAll K H vs ds → ds[i]? = some d → ∃ v, vs[i]? = some v ∧ Fz K H v d
  | _, [], i, v, h, e => by simp at e
  | _, d :: ds, 0, v, h, e => by
    cases h with
    | cons a b => simp at e; subst e; exact ⟨_, rfl, a⟩
  | _, d :: ds, i + 1, v, h, e => by
    cases h with
    | cons a b =>
      obtain ⟨d', h1, h2⟩ := FzAll.get' (i := i) b (by simpa using e)
      exact ⟨d', by simpa using h1, h2⟩
theorem FzAll.append : ∀ {vs ws : List V} {ds es : List D}, FzAll K H vs ds → FzAll K H ws es → FzAll K H (vs ++ ws) (ds ++ es)
  | _, _, [], _, h, g => by cases h; exact g
  | _, _, d :: ds, _, h, g => by
    cases h with
    | cons a b => exact .cons a (FzAll.append b g)
theorem FzAll.take : ∀ {vs : List V} {ds : List D} (n : Nat), FzAll K H vs ds → FzAll K H (vs.take n) (ds.take n)
  | _, _, 0, _ => .nil
  | _, [], n + 1, h => by cases h; exact .nil
  | _, d :: ds, n + 1, h => by
    cases h with
    | cons a b => exact .cons a (FzAll.take n b)
theorem FzAll.drop : ∀ {vs : List V} {ds : List D} (n : Nat), FzAll K H vs ds → FzAll K H (vs.drop n) (ds.drop n)
  | _, _, 0, h => h
  | _, [], n + 1, h => by cases h; exact .nil
  | _, d :: ds, n + 1, h => by
    cases h with
    | cons a b => exact FzAll.drop n b
theorem FzAll.set {v : V} {d : D} (r : Fz K H v d) : ∀ {vs : List V} {ds : List D} (i : Nat), FzAll K H vs ds → FzAll K H (vs.set i v) (ds.set i d)
  | _, [], _, h => by cases h; exact .nil
  | _, d :: ds, 0, h => by
    cases h with
    | cons a b => exact .cons r b
  | _, d :: ds, i + 1, h => by
    cases h with
    | cons a b => exact .cons a (FzAll.set r i b)
theorem FzAll.dropLast {vs : List V} {ds : List D} (h : FzAll K H vs ds) : FzAll K H vs.dropLast ds.dropLast := by
  rw [List.dropLast_eq_take, List.dropLast_eq_take, h.length]
  exact h.take _
theorem FzAll.erase : ∀ {vs : List V} {ds : List D} (i : Nat), FzAll K H vs ds → FzAll K H (vs.eraseIdx i) (ds.eraseIdx i)
  | _, [], _, h => by cases h; exact .nil
  | _, d :: ds, 0, h => by
    cases h with
    | cons a b => exact b
  | _, d :: ds, i + 1, h => by
    cases h with
    | cons a b => exact .cons a (FzAll.erase i b)
theorem FzAll.reverse : ∀ {vs : List V} {ds : List D}, FzAll K H vs ds → FzAll K H vs.reverse ds.reverse
  | _, [], h => by cases h; exact .nil
  | _, d :: ds, h => by
    cases h with
    | cons a b =>
      rw [List.reverse_cons, List.reverse_cons]
      exact (FzAll.reverse b).append (.cons a .nil)
theorem FzAll.rep {vs : List V} {ds : List D} (h : FzAll K H vs ds) : ∀ k : Nat, FzAll K H (List.replicate k vs).flatten (List.replicate k ds).flatten
  | 0 => .nil
  | k + 1 => by
    rw [List.replicate_succ, List.replicate_succ, List.flatten_cons, List.flatten_cons]
    exact h.append (h.rep k)
theorem FzAll.ints_of : ∀ {vs : List V} {ns : List Int}, FzAll K H vs (ns.map .int) → vs = ns.map V.int
  | _, [], h => by cases h; rfl
  | _, n :: ns, h => by
    cases h with
    | cons a b =>
      cases a
      rw [FzAll.ints_of b]
      rfl
theorem fz_ints : ∀ (ns : List Int), FzAll K H (ns.map V.int) (ns.map .int)
  | [] => .nil
  | n :: ns => .cons (.int n) (fz_ints ns)
end

/-! ## a list of lists, rows -/
inductive Rows (K : PySem.W.Frag) (H : Hp) : List Addr → List (List D) → Prop
  | nil : Rows K H [] []
  | cons {b : Addr} {bs : List Addr} {vs : List V} {ds : List D} {dss : List (List D)} : H b = some (.lst vs) → FzAll K H vs ds → Rows K H bs dss → Rows K H (b :: bs) (ds :: dss)
def MV (K : PySem.W.Frag) (Z : Zone) (H : Hp) : M → V → List Addr → Prop
  | .pure d, v, F => F = [] ∧ Fz K H v d
  | .pot, v, F => F = [] ∧ ∃ p, Z.p = some p ∧ v = .ref p
  | .lst ds, v, F => ∃ a vs, v = .ref a ∧ F = [a] ∧ H a = some (.lst vs) ∧ FzAll K H vs ds
  | .lst2 dss, v, F => ∃ a bs, v = .ref a ∧ F = a :: bs ∧ H a = some (.lst (bs.map V.ref)) ∧ (a :: bs).Nodup ∧ Rows K H bs dss
  | .npot kn gs is, v, F => ∃ p g, v = .ref p ∧ F = [p, g] ∧ p ≠ g ∧ H p = some (potObj kn g is) ∧ H g = some (.lst (gs.map V.int))
  | .dic kvs, v, F => ∃ a kvv, v = .ref a ∧ F = [a] ∧ H a = some (.dK kvv) ∧ kvv.map (·.1) = kvs.map (·.1) ∧ FzAll K H (kvv.map (·.2)) (kvs.map (·.2))
  | .dit kvs, v, F => ∃ a kvv, v = .ref a ∧ F = [a] ∧ H a = some (.dT kvv) ∧ kvv.map (·.1) = kvs.map (·.1) ∧ FzAll K H (kvv.map (·.2)) (kvs.map (·.2))
section
variable {K : PySem.W.Frag} {kn : PotKeys} {Z : Zone} {H H' : Hp}
theorem Rows.length : ∀ {bs : List Addr} {dss : List (List D)}, Rows K H bs dss → bs.length = dss.length
  | _, _, .nil => rfl
  | _, _, .cons _ _ r => congrArg (· + 1) (Rows.length r)
theorem Rows.get : ∀ {bs : List Addr} {dss : List (List D)} {i : Nat} {ds : List D}, Rows K H bs dss → dss[i]? = some ds → ∃ b vs, bs[i]? = some b ∧ H b = some (.lst vs) ∧ FzAll K H vs ds
  | _, _, _, _, .nil, e => by simp at e
  | _, _, 0, _, .cons h f _, e => by simp at e; subst e; exact ⟨_, _, rfl, h, f⟩
  | _, _, i + 1, _, .cons _ _ r, e => by
    obtain ⟨b, vs, h1, h2, h3⟩ := Rows.get (i := i) r (by simpa using e)
    exact ⟨b, vs, by simpa using h1, h2, h3⟩
theorem Rows.keep (m : Imm H H') : ∀ {bs : List Addr} {dss : List (List D)}, (∀ b ∈ bs, ∀ o, H b = some o → H' b = some o) → Rows K H bs dss → Rows K H' bs dss
  | _, _, _, .nil => .nil
  | _, _, k, .cons h f r => .cons (k _ List.mem_cons_self _ h) (f.imm m) (r.keep m fun b hb => k b (List.mem_cons_of_mem _ hb))
theorem Rows.tracked : ∀ {bs : List Addr} {dss : List (List D)}, Rows K H bs dss → ∀ b ∈ bs, ∃ vs, H b = some (.lst vs)
  | _, _, .nil, b, hb => by cases hb
  | _, _, .cons h _ r, b, hb => by
    rcases List.mem_cons.mp hb with rfl | hb
    · exact ⟨_, h⟩
    · exact r.tracked b hb
theorem Rows.snoc {b : Addr} {vs : List V} {ds : List D} : ∀ {bs : List Addr} {dss : List (List D)}, Rows K H bs dss → H b = some (.lst vs) → FzAll K H vs ds → Rows K H (bs ++ [b]) (dss ++ [ds])
  | _, _, .nil, h, f => .cons h f .nil
  | _, _, .cons h' f' r, h, f => .cons h' f' (r.snoc h f)
/-- what is owned is tracked as a list -/
theorem MV.tracked {m : M} {v : V} {F : List Addr} (h : MV K Z H m v F) : ∀ a ∈ F, ∃ o, H a = some o := by
  intro a ha
  cases m with
  | pure d => obtain ⟨rfl, _⟩ := h; cases ha
  | pot => obtain ⟨rfl, _⟩ := h; cases ha
  | lst ds =>
    obtain ⟨b, vs, _, rfl, e, _⟩ := h
    have q : a = b := by simpa using ha
    subst q
    exact ⟨_, e⟩
  | lst2 dss =>
    obtain ⟨b, bs, _, rfl, e, _, r⟩ := h
    rcases List.mem_cons.mp ha with rfl | ha
    · exact ⟨_, e⟩
    · exact let ⟨_, q⟩ := r.tracked a ha; ⟨_, q⟩
  | npot kn gs is =>
    obtain ⟨p, g, _, rfl, _, e, e2⟩ := h
    rcases List.mem_cons.mp ha with rfl | ha
    · exact ⟨_, e⟩
    · rw [List.mem_singleton.mp ha]; exact ⟨_, e2⟩
  | dic kvs =>
    obtain ⟨b, kvv, _, rfl, e, _⟩ := h
    rw [List.mem_singleton.mp ha]; exact ⟨_, e⟩
  | dit kvs =>
    obtain ⟨b, kvv, _, rfl, e, _⟩ := h
    rw [List.mem_singleton.mp ha]; exact ⟨_, e⟩
theorem MV.keep {m : M} {v : V} {F : List Addr} (i : Imm H H') (k : ∀ a ∈ F, ∀ o, H a = some o → H' a = some o) (h : MV K Z H m v F) : MV K Z H' m v F := by
  cases m with
  | pure d => exact ⟨h.1, h.2.imm i⟩
  | pot => exact h
  | lst ds =>
    obtain ⟨b, vs, e1, rfl, e, f⟩ := h
    exact ⟨b, vs, e1, rfl, k b (by simp) _ e, f.imm i⟩
  | lst2 dss =>
    obtain ⟨b, bs, e1, rfl, e, nd, r⟩ := h
    exact ⟨b, bs, e1, rfl, k b List.mem_cons_self _ e, nd, r.keep i fun c hc => k c (List.mem_cons_of_mem _ hc)⟩
  | npot kn gs is =>
    obtain ⟨p, g, e1, rfl, n, e, e2⟩ := h
    exact ⟨p, g, e1, rfl, n, k p (by simp) _ e, k g (by simp) _ e2⟩
  | dic kvs =>
    obtain ⟨b, kvv, e1, rfl, e, h1, f⟩ := h
    exact ⟨b, kvv, e1, rfl, k b (by simp) _ e, h1, f.imm i⟩
  | dit kvs =>
    obtain ⟨b, kvv, e1, rfl, e, h1, f⟩ := h
    exact ⟨b, kvv, e1, rfl, k b (by simp) _ e, h1, f.imm i⟩
def Off (Z : Zone) (F : List Addr) : Prop := ∀ a ∈ F, some a ≠ Z.p ∧ some a ≠ Z.g
theorem MV.ext {m : M} {v : V} {F : List Addr} (z : Z.Ok kn H) (x : Ext Z H H') (o : Off Z F) (h : MV K Z H m v F) : MV K Z H' m v F :=
  h.keep (x.imm z) fun a ha u e => x a u e (o a ha).1 (o a ha).2
theorem Off.of_new {F : List Addr} (z : Z.Ok kn H) (h : ∀ a ∈ F, H a = none) : Off Z F := fun a ha =>
  ⟨z.isP (h a ha), z.isG (h a ha)⟩
end

/-! ## the slots -/
structure SR (kn : PotKeys) (K : PySem.W.Frag) (Z : Zone) (H : Hp) (st : DSt) (σ : St) (Fp : Nat → List Addr) : Prop where
  len : st.length = σ.length
  at_ : ∀ i m, st[i]? = some (some m) → ∃ v, σ[i]? = some (some v) ∧ MV K Z H m v (Fp i)
  sep : ∀ i j m m' a, st[i]? = some (some m) → st[j]? = some (some m') → a ∈ Fp i → a ∈ Fp j → i = j
  off : ∀ i m, st[i]? = some (some m) → Off Z (Fp i)
  zok : Z.Ok kn H
section
variable {K : PySem.W.Frag} {kn : PotKeys} {Z : Zone} {H H' : Hp} {st : DSt} {σ : St} {Fp : Nat → List Addr}
theorem SR.ext (s : SR kn K Z H st σ Fp) (x : Ext Z H H') (z : Z.Ok kn H') : SR kn K Z H' st σ Fp :=
  ⟨s.len, fun i m e => let ⟨v, h1, h2⟩ := s.at_ i m e; ⟨v, h1, h2.ext s.zok x (s.off i m e)⟩, s.sep, s.off, z⟩
/-- a slot given a value of its own -/
theorem SR.set (s : SR kn K Z H st σ Fp) {i : Nat} {m : M} {v : V} {F : List Addr} (h : MV K Z H m v F) (o : Off Z F) (new : ∀ j m', j ≠ i → st[j]? = some (some m') → ∀ a ∈ F, a ∉ Fp j) (hi : i < st.length) :
    SR kn K Z H (st.set i (some m)) (σ.set i (some v)) fun j => if j = i then F else Fp j := by
  have look : ∀ j m', (st.set i (some m))[j]? = some (some m') → (j = i ∧ m' = m) ∨ (j ≠ i ∧ st[j]? = some (some m')) := fun j m' e => by
    by_cases hj : j = i
    · subst hj
      rw [List.getElem?_set_self hi] at e
      exact .inl ⟨rfl, (Option.some.inj (Option.some.inj e)).symm⟩
    · rw [List.getElem?_set_ne (Ne.symm hj)] at e
      exact .inr ⟨hj, e⟩
  refine ⟨by simpa using s.len, fun j m' e => ?_, fun j j' m1 m2 a e1 e2 h1 h2 => ?_, fun j m' e => ?_, s.zok⟩
  · rcases look j m' e with ⟨rfl, rfl⟩ | ⟨hj, e'⟩
    · exact ⟨v, List.getElem?_set_self (by rw [← s.len]; exact hi), by rw [if_pos rfl]; exact h⟩
    · obtain ⟨v', h1, h2⟩ := s.at_ j m' e'
      exact ⟨v', by rw [List.getElem?_set_ne (Ne.symm hj)]; exact h1, by rw [if_neg hj]; exact h2⟩
  · rcases look j m1 e1 with ⟨rfl, rfl⟩ | ⟨hj, e1'⟩
    · rcases look j' m2 e2 with ⟨rfl, rfl⟩ | ⟨hj', e2'⟩
      · rfl
      · simp only [if_pos, if_neg hj'] at h1 h2
        exact absurd h2 (new j' m2 hj' e2' a h1)
    · rcases look j' m2 e2 with ⟨rfl, rfl⟩ | ⟨hj', e2'⟩
      · simp only [if_pos, if_neg hj] at h1 h2
        exact absurd h1 (new j m1 hj e1' a h2)
      · simp only [if_neg hj, if_neg hj'] at h1 h2
        exact s.sep j j' m1 m2 a e1' e2' h1 h2
  · rcases look j m' e with ⟨rfl, rfl⟩ | ⟨hj, e'⟩
    · simp only [if_pos]
      exact o
    · simp only [if_neg hj]
      exact s.off j m' e'
theorem SR.set' (s : SR kn K Z H st σ Fp) {i : Nat} {m : M} {v : V} {F : List Addr} (h : MV K Z H m v F) (o : Off Z F) (new : ∀ j m', j ≠ i → st[j]? = some (some m') → ∀ a ∈ F, a ∉ Fp j) :
    SR kn K Z H (st.set i (some m)) (σ.set i (some v)) fun j => if j = i then F else Fp j := by
  by_cases hi : i < st.length
  · exact s.set h o new hi
  · have e1 : st.set i (some m) = st := List.set_eq_of_length_le (Nat.le_of_not_lt hi)
    have e2 : σ.set i (some v) = σ := List.set_eq_of_length_le (by rw [← s.len]; exact Nat.le_of_not_lt hi)
    rw [e1, e2]
    have ne : ∀ j m', st[j]? = some (some m') → j ≠ i := fun j m' e q => hi (by rw [← q]; exact (List.getElem?_eq_some_iff.mp e).1)
    refine ⟨s.len, fun j m' e => ?_, fun j j' m1 m2 a e1 e2 h1 h2 => ?_, fun j m' e => ?_, s.zok⟩
    · rw [if_neg (ne j m' e)]; exact s.at_ j m' e
    · simp only [if_neg (ne j m1 e1), if_neg (ne j' m2 e2)] at h1 h2
      exact s.sep j j' m1 m2 a e1 e2 h1 h2
    · simp only [if_neg (ne j m' e)]; exact s.off j m' e
/-- slots forgotten -/
theorem SR.weak (s : SR kn K Z H st σ Fp) {st' : DSt} {σ' : St} (hl : st'.length = σ'.length) (w : ∀ (i : Nat) m, st'[i]? = some (some m) → st[i]? = some (some m) ∧ σ'[i]? = σ[i]?) : SR kn K Z H st' σ' Fp :=
  ⟨hl, fun i m e => by
    obtain ⟨e1, e2⟩ := w i m e
    rw [e2]
    exact s.at_ i m e1, fun i j m m' a e1 e2 => s.sep i j m m' a (w i m e1).1 (w j m' e2).1, fun i m e => s.off i m (w i m e).1, s.zok⟩
/-- an object of slot i is changed, all else stays -/
theorem SR.mut (s : SR kn K Z H st σ Fp) {i : Nat} {m : M} {v : V} {F : List Addr} (e0 : st[i]? = some (some m)) (hv : σ[i]? = some (some v)) (im : Imm H H') (k : ∀ a, a ∉ Fp i → ∀ o, H a = some o → H' a = some o) {m' : M}
    (h : MV K Z H' m' v F) (o : Off Z F) (new : ∀ a ∈ F, a ∈ Fp i ∨ ∀ j m', st[j]? = some (some m') → a ∉ Fp j) (z : Z.Ok kn H') : SR kn K Z H' (st.set i (some m')) σ fun j => if j = i then F else Fp j := by
  have hi : i < st.length := (List.getElem?_eq_some_iff.mp e0).1
  have look : ∀ j m'', (st.set i (some m'))[j]? = some (some m'') → (j = i ∧ m'' = m') ∨ (j ≠ i ∧ st[j]? = some (some m'')) := fun j m'' e => by
    by_cases hj : j = i
    · subst hj
      rw [List.getElem?_set_self hi] at e
      exact .inl ⟨rfl, (Option.some.inj (Option.some.inj e)).symm⟩
    · rw [List.getElem?_set_ne (Ne.symm hj)] at e
      exact .inr ⟨hj, e⟩
  have apart : ∀ j m'', j ≠ i → st[j]? = some (some m'') → ∀ a ∈ F, a ∉ Fp j := fun j m'' hj e a ha hb => by
    rcases new a ha with q | q
    · exact hj (s.sep j i m'' m a e e0 hb q)
    · exact q j m'' e hb
  refine ⟨by simpa using s.len, fun j m'' e => ?_, fun j j' m1 m2 a e1 e2 h1 h2 => ?_, fun j m'' e => ?_, z⟩
  · rcases look j m'' e with ⟨rfl, rfl⟩ | ⟨hj, e'⟩
    · exact ⟨v, hv, by rw [if_pos rfl]; exact h⟩
    · obtain ⟨v', h1, h2⟩ := s.at_ j m'' e'
      refine ⟨v', h1, ?_⟩
      rw [if_neg hj]
      exact h2.keep im fun a ha => k a fun q => hj (s.sep j i m'' m a e' e0 ha q)
  · rcases look j m1 e1 with ⟨rfl, rfl⟩ | ⟨hj, e1'⟩
    · rcases look j' m2 e2 with ⟨rfl, rfl⟩ | ⟨hj', e2'⟩
      · rfl
      · simp only [if_pos, if_neg hj'] at h1 h2
        exact absurd h2 (apart j' m2 hj' e2' a h1)
    · rcases look j' m2 e2 with ⟨rfl, rfl⟩ | ⟨hj', e2'⟩
      · simp only [if_pos, if_neg hj] at h1 h2
        exact absurd h1 (apart j m1 hj e1' a h2)
      · simp only [if_neg hj, if_neg hj'] at h1 h2
        exact s.sep j j' m1 m2 a e1' e2' h1 h2
  · rcases look j m'' e with ⟨rfl, rfl⟩ | ⟨hj, e'⟩
    · simp only [if_pos]
      exact o
    · simp only [if_neg hj]
      exact s.off j m'' e'
end
end L2.Zy
namespace L2.Zy
open PySem PyProof.Rows PySem.Spec

/-! ## readings by denotations -/
section
variable (kn : PotKeys) (K : PySem.W.Frag)
/-- a value, perhaps one that a slot owns -/
def tPk (f : DSt → T M) : TE := fun σ H Q => ∃ Z st Fp, SR kn K Z H st σ Fp ∧ (f st).all fun m => ∀ v H' F, Ext Z H H' → Z.Ok kn H' → MV K Z H' m v F → Off Z F → Q v H'
/-- a value that is new, or never changes -/
def tM (f : DSt → T M) : TE := fun σ H Q => ∃ Z st Fp, SR kn K Z H st σ Fp ∧ (f st).all fun m => ∀ v H' F, Ext Z H H' → Z.Ok kn H' → MV K Z H' m v F → (∀ a ∈ F, H a = none) → Q v H'
inductive MVs (Z : Zone) (H : Hp) : List M → List V → Prop
  | nil : MVs Z H [] []
  | cons {m : M} {v : V} {F : List Addr} {ms : List M} {vs : List V} : MV K Z H m v F → Off Z F → MVs Z H ms vs → MVs Z H (m :: ms) (v :: vs)
def tL (f : DSt → T (List M)) : TA := fun σ H Q => ∃ Z st Fp, SR kn K Z H st σ Fp ∧ (f st).all fun ms => ∀ vs H', Ext Z H H' → Z.Ok kn H' → MVs K Z H' ms vs → Q vs H'
/-- a test -/
def tT (f : DSt → T Bool) : TT := fun σ H Q => ∃ Z st Fp, SR kn K Z H st σ Fp ∧ (f st).all fun b => ∀ H', Ext Z H H' → Z.Ok kn H' → Q b H'
/-- operations on values -/
def rM1 (g : M → T M) : V → Hp → VK → Prop := fun x H Q => ∃ Z m F, MV K Z H m x F ∧ (g m).all fun r => ∀ v H' F', Same H H' → MV K Z H' r v F' → (∀ a ∈ F', H a = none) → Q v H'
def rM2 (g : M → M → T M) : R2 := fun x y H Q => ∃ Z m n F F', MV K Z H m x F ∧ MV K Z H n y F' ∧ (g m n).all fun r => ∀ v H' F'', Same H H' → MV K Z H' r v F'' → (∀ a ∈ F'', H a = none) → Q v H'
def rMs (g : List M → T M) : List V → Hp → VK → Prop := fun vs H Q => ∃ Z ms, MVs K Z H ms vs ∧ (g ms).all fun r => ∀ v H' F, Same H H' → MV K Z H' r v F → (∀ a ∈ F, H a = none) → Q v H'
end
section
variable {X : Cx} {e a b c : Expr} {es : List Expr} {t t' : TE} {pos : Pos} {kn : PotKeys}
theorem pe_mono (h : PE X e t) (w : ∀ σ H Q, t' σ H Q → t σ H Q) : PE X e t' := ⟨fun pins s σ H Q I q => h.run pins s σ H Q I (w σ H Q q)⟩
theorem pt_mono {t t' : TT} (h : PT X e t) (w : ∀ σ H Q, t' σ H Q → t σ H Q) : PT X e t' := ⟨fun pins s σ H Q I q => h.run pins s σ H Q I (w σ H Q q)⟩
theorem pw_mono {t t' : TT} (h : PW X e t) (w : ∀ σ H Q, t' σ H Q → t σ H Q) : PW X e t' := ⟨fun wh pins s σ H Q I q => h.run wh pins s σ H Q I (w σ H Q q)⟩
theorem pa_mono {t t' : TA} (h : PA X es t) (w : ∀ σ H Q, t' σ H Q → t σ H Q) : PA X es t' := ⟨fun p pins s σ H Q I q => h.run p pins s σ H Q I (w σ H Q q)⟩
theorem Ext.none {Z : Zone} {H H' : Hp} (x : Ext Z H H') (z : Z.Ok kn H') {a : Addr} (h : H' a = none) : H a = none := by
  cases q : H a with
  | none => rfl
  | some o =>
    by_cases h1 : some a = Z.p
    · exact absurd h1 (z.isP h)
    · by_cases h2 : some a = Z.g
      · exact absurd h2 (z.isG h)
      · rw [x a o q h1 h2] at h
        cases h
theorem MVs.ext {K : PySem.W.Frag} {Z : Zone} {H H' : Hp} (z : Z.Ok kn H) (x : Ext Z H H') : ∀ {ms : List M} {vs : List V}, MVs K Z H ms vs → MVs K Z H' ms vs
  | _, _, .nil => .nil
  | _, _, .cons h o r => .cons (h.ext z x o) o (r.ext z x)
theorem pk_of {f : DSt → T M} (h : PE X e (tM kn X.K f)) : PE X e (tPk kn X.K f) := pe_mono h fun σ H Q ⟨Z, st, Fp, s, q⟩ =>
  ⟨Z, st, Fp, s, T.all_mono q fun m hm v H' F x z mv fr => hm v H' F x z mv (.of_new s.zok fr)⟩

/-! ### names, constants -/
def nm (i : Nat) : DSt → T M := fun st => match st[i]? with
  | some (some m) => .ret m
  | _ => .bad
def M.isPP : M → Bool
  | .pure _ => true
  | .pot => true
  | _ => false
def nmP (i : Nat) : DSt → T M := fun st => match st[i]? with
  | some (some m) => if m.isPP = true then .ret m else .bad
  | _ => .bad
theorem MV.pp {K : PySem.W.Frag} {Z : Zone} {H : Hp} {m : M} {v : V} {F : List Addr} (h : MV K Z H m v F) (p : m.isPP = true) : F = [] := by
  cases m with
  | pure d => exact h.1
  | pot => exact h.1
  | lst ds => cases p
  | lst2 dss => cases p
  | npot _ _ _ => cases p
  | dic _ => cases p
  | dit _ => cases p
theorem pk_nm (i : Nat) {x : Str} {pos : Pos} (hN : X.N[i]? = some x := by rfl) (hv : Vis X.env.scope x := by first | exact Or.inl rfl | exact Or.inr (Or.inl rfl) | exact Or.inr (Or.inr rfl)) (hd : (x == ("__debug__" : Str)) = false := by decide)
    (hcd : (x == ("__classdict__" : Str)) = false := by decide) : PE X (.Name x pos) (tPk kn X.K (nm i)) := pe_mono (pe_var hN hv hd hcd) fun σ H Q ⟨Z, st, Fp, s, q⟩ => by
  unfold nm at q
  split at q
  · rename_i m e
    obtain ⟨v, h1, h2⟩ := s.at_ i m e
    exact ⟨v, h1, q v H (Fp i) .refl s.zok h2 (s.off i m e)⟩
  · exact q.elim
theorem dm_nm (i : Nat) {x : Str} {pos : Pos} (hN : X.N[i]? = some x := by rfl) (hv : Vis X.env.scope x := by first | exact Or.inl rfl | exact Or.inr (Or.inl rfl) | exact Or.inr (Or.inr rfl)) (hd : (x == ("__debug__" : Str)) = false := by decide)
    (hcd : (x == ("__classdict__" : Str)) = false := by decide) : PE X (.Name x pos) (tM kn X.K (nmP i)) := pe_mono (pe_var hN hv hd hcd) fun σ H Q ⟨Z, st, Fp, s, q⟩ => by
  unfold nmP at q
  split at q
  · rename_i m e
    obtain ⟨v, h1, h2⟩ := s.at_ i m e
    split at q
    · rename_i p
      exact ⟨v, h1, q v H (Fp i) .refl s.zok h2 (by rw [h2.pp p]; exact fun _ h => nomatch h)⟩
    · exact q.elim
  · exact q.elim
def kM (d : D) : DSt → T M := fun _ => .ret (.pure d)
theorem dm_c {v : V} {d : D} (h : PE X e (tC v)) (f : ∀ H, Fz X.K H v d) : PE X e (tM kn X.K (kM d)) := pe_mono h fun σ H Q ⟨Z, st, Fp, s, q⟩ =>
  (q : ∀ v H' F, Ext Z H H' → Z.Ok kn H' → MV X.K Z H' (.pure d) v F → (∀ a ∈ F, H a = none) → Q v H') v H [] .refl s.zok ⟨rfl, f H⟩ fun _ h => nomatch h
theorem dm_int {i : Int} {j : Nat} : PE X (.Constant (.int i) j pos) (tM kn X.K (kM (.int i))) := dm_c pe_int fun _ => .int i
theorem dm_bl {i : Bool} {j : Nat} : PE X (.Constant (.bool i) j pos) (tM kn X.K (kM (.bool i))) := dm_c pe_bl fun _ => .bl i
theorem dm_non {j : Nat} : PE X (.Constant .none j pos) (tM kn X.K (kM .none)) := dm_c pe_non fun _ => .non
theorem dm_str {x : Str} {j : Nat} : PE X (.Constant (.str x) j pos) (tM kn X.K (kM (.str x))) := dm_c pe_str fun _ => .str x

/-! ### operations -/
def bin (g : M → M → T M) (fa fb : DSt → T M) : DSt → T M := fun st => fa st >>= fun x => fb st >>= fun y => g x y
def un1 (g : M → T M) (fa : DSt → T M) : DSt → T M := fun st => fa st >>= g
theorem tOp_of {K : PySem.W.Frag} {fa fb : DSt → T M} {g : M → M → T M} {σ : St} {H : Hp} {Q : VK} (h : tM kn K (bin g fa fb) σ H Q) : tOp (rM2 K g) (tPk kn K fa) (tPk kn K fb) σ H Q := by
  obtain ⟨Z, st, Fp, s, q⟩ := h
  refine ⟨Z, st, Fp, s, T.all_mono (T.bind_all q) fun m hm v H1 F x1 z1 mv o => ?_⟩
  refine ⟨Z, st, Fp, s.ext x1 z1, T.all_mono (T.bind_all hm) fun n hn u H2 F' x2 z2 mv' o' => ?_⟩
  refine ⟨Z, m, n, F, F', mv.ext z1 x2 o, mv', T.all_mono hn fun r hr w H3 F'' sm mr fr => ?_⟩
  exact hr w H3 F'' (x1.trans (x2.trans (.of_same sm))) (z2.same sm) mr fun a ha => (x1.trans x2).none z2 (fr a ha)
theorem tUn_of {K : PySem.W.Frag} {fa : DSt → T M} {g : M → T M} {σ : St} {H : Hp} {Q : VK} (h : tM kn K (un1 g fa) σ H Q) : tUn (rM1 K g) (tPk kn K fa) σ H Q := by
  obtain ⟨Z, st, Fp, s, q⟩ := h
  refine ⟨Z, st, Fp, s, T.all_mono (T.bind_all q) fun m hm v H1 F x1 z1 mv o => ?_⟩
  refine ⟨Z, m, F, mv, T.all_mono hm fun r hr w H3 F'' sm mr fr => ?_⟩
  exact hr w H3 F'' (x1.trans (.of_same sm)) (z1.same sm) mr fun a ha => x1.none z1 (fr a ha)
theorem dm_bin {op : Operator} {g : M → M → T M} {fa fb : DSt → T M} (ho : OpR X (binaryOp op) (rM2 X.K g)) (ha : PE X a (tPk kn X.K fa)) (hb : PE X b (tPk kn X.K fb)) : PE X (.BinOp a op b pos) (tM kn X.K (bin g fa fb)) :=
  pe_mono (pe_op ho ha hb) fun _ _ _ => tOp_of
theorem dm_un {op : UnaryOp} {g : M → T M} {fa : DSt → T M} (ho : UnR X (unaryOp op) (rM1 X.K g)) (ha : PE X a (tPk kn X.K fa)) : PE X (.UnaryOp op a pos) (tM kn X.K (un1 g fa)) :=
  pe_mono (pe_un ho ha) fun _ _ _ => tUn_of
theorem dm_cmp {op : CmpOp} {g : M → M → T M} {fa fb : DSt → T M} (ho : OpR X (compareOp op) (rM2 X.K g)) (ha : PE X a (tPk kn X.K fa)) (hb : PE X b (tPk kn X.K fb)) (hm : behindInMarks op b = false) : PE X (.Compare a [op] [b] pos) (tM kn X.K (bin g fa fb)) :=
  pe_mono (pe_cmpR ho ha hb hm) fun _ _ _ => tOp_of
def boolM : M → T Bool
  | .pure (.bool b) => .ret b
  | _ => .bad
theorem boolM_all {α : Type} {m : M} {f : Bool → T α} {P : α → Prop} (h : (boolM m >>= f).all P) : ∃ c, m = .pure (.bool c) ∧ (f c).all P := by
  unfold boolM at h
  split at h
  · exact ⟨_, rfl, h⟩
  · exact h.elim
/-- a value that is a bool, as a test -/
theorem tTest_of {K : PySem.W.Frag} {f : DSt → T M} {t : TE} {σ : St} {H : Hp} {Q : Bool → Hp → Prop} (w : ∀ σ H Q, tPk kn K f σ H Q → t σ H Q) (h : tT kn K (fun st => f st >>= boolM) σ H Q) : tTest t σ H Q := by
  obtain ⟨Z, st, Fp, s, q⟩ := h
  refine w _ _ _ ⟨Z, st, Fp, s, T.all_mono (T.bind_all q) fun m hm v H1 F x1 z1 mv o => ?_⟩
  unfold boolM at hm
  split at hm
  · obtain ⟨_, f⟩ := mv
    cases f
    exact ⟨_, rfl, hm H1 x1 z1⟩
  · exact hm.elim
theorem dt_cmp {op : CmpOp} {g : M → M → T M} {fa fb : DSt → T M} (ho : OpR X (compareOp op) (rM2 X.K g)) (ha : PE X a (tPk kn X.K fa)) (hb : PE X b (tPk kn X.K fb)) (hm : behindInMarks op b = false) :
    PT X (.Compare a [op] [b] pos) (tT kn X.K fun st => bin g fa fb st >>= boolM) :=
  pt_mono (pt_cmpR ho ha hb hm) fun σ H Q h => tTest_of (fun σ H Q q => tOp_of (by
    obtain ⟨Z, st, Fp, s, q⟩ := q
    exact ⟨Z, st, Fp, s, T.all_mono q fun m hm v H' F x z mv fr => hm v H' F x z mv (.of_new s.zok fr)⟩)) h
/-- truth -/
def truM : M → T Bool
  | .pure .none => .ret false
  | .pure (.bool b) => .ret b
  | .pure (.int i) => .ret (i != 0)
  | .pure (.str x) => if x.length ≤ sizeLine then .ret ((x.length : Int) != 0) else .bad
  | .pure (.list ds) => .ret (!ds.isEmpty)
  | .pure (.tuple ds) => .ret (!ds.isEmpty)
  | .lst ds => .ret (!ds.isEmpty)
  | .lst2 dss => .ret (!dss.isEmpty)
  | _ => .bad
theorem empty_of {α β : Type} {xs : List α} {ys : List β} (h : xs.length = ys.length) : xs.isEmpty = ys.isEmpty := by
  cases xs <;> cases ys <;> simp at h ⊢
theorem truV_of {K : PySem.W.Frag} {Z : Zone} {H : Hp} {m : M} {v : V} {F : List Addr} {P : Bool → Prop} (mv : MV K Z H m v F) (h : (truM m).all P) : ∃ k, TruV K v H k ∧ P k := by
  unfold truM at h
  split at h
  · cases mv.2; exact ⟨_, rfl, h⟩
  · cases mv.2; exact ⟨_, rfl, h⟩
  · cases mv.2; exact ⟨_, rfl, h⟩
  · split at h
    · rename_i z
      cases mv.2; exact ⟨_, ⟨z, rfl⟩, h⟩
    · exact h.elim
  · obtain ⟨_, f⟩ := mv
    cases f with
    | lst x y => exact ⟨_, .inl ⟨_, x.sq, rfl⟩, by rw [empty_of y.length]; exact h⟩
  · obtain ⟨_, f⟩ := mv
    cases f with
    | tup x y => exact ⟨_, .inr (.inl ⟨_, x, rfl⟩), by rw [empty_of y.length]; exact h⟩
  · obtain ⟨a, vs, rfl, _, x, y⟩ := mv
    exact ⟨_, .inl ⟨_, .of x, rfl⟩, by rw [empty_of y.length]; exact h⟩
  · obtain ⟨a, bs, rfl, _, x, _, y⟩ := mv
    have e : (bs.map V.ref).isEmpty = List.isEmpty _ := empty_of ((List.length_map _).trans y.length)
    exact ⟨_, .inl ⟨_, .of x, rfl⟩, by rw [e]; exact h⟩
  · exact h.elim
theorem dt_val {f : DSt → T M} (ha : PE X a (tPk kn X.K f)) (he : ∀ whole, isTrue a X.env whole = (do let v ← whole; standAt a.pos; holding [v] (truthy v)) := by intro _; rfl) : PT X a (tT kn X.K fun st => f st >>= truM) :=
  pt_mono (pt_truth ha he) fun σ H Q ⟨Z, st, Fp, s, q⟩ => ⟨Z, st, Fp, s, T.all_mono (T.bind_all q) fun m hm v H1 F x1 z1 mv o =>
    truV_of mv (T.all_mono hm fun k hk => hk H1 x1 z1)⟩
def andT (f g : DSt → T Bool) : DSt → T Bool := fun st => f st >>= fun b => if b = true then g st else .ret false
def orT (f g : DSt → T Bool) : DSt → T Bool := fun st => f st >>= fun b => if b = true then .ret true else g st
def notT (f : DSt → T Bool) : DSt → T Bool := fun st => f st >>= fun b => .ret (!b)
theorem dt_not {f : DSt → T Bool} (h : PT X a (tT kn X.K f)) : PT X (.UnaryOp .Not a pos) (tT kn X.K (notT f)) := pt_mono (pt_not h) fun σ H Q ⟨Z, st, Fp, s, q⟩ =>
  ⟨Z, st, Fp, s, T.all_mono (T.bind_all q) fun b hb H1 x1 z1 => hb H1 x1 z1⟩
variable {rest : List Expr}
theorem dw_and1 {f : DSt → T Bool} (h : PT X a (tT kn X.K f)) : PW X (.BoolOp .And [a] pos) (tT kn X.K f) := pw_and1 h
theorem dw_or1 {f : DSt → T Bool} (h : PT X a (tT kn X.K f)) : PW X (.BoolOp .Or [a] pos) (tT kn X.K f) := pw_or1 h
theorem dw_and {f g : DSt → T Bool} (ha : PT X a (tT kn X.K f)) (hb : PW X (.BoolOp .And (b :: rest) pos) (tT kn X.K g)) : PW X (.BoolOp .And (a :: b :: rest) pos) (tT kn X.K (andT f g)) :=
  pw_mono (pw_and ha hb) fun σ H Q ⟨Z, st, Fp, s, q⟩ => ⟨Z, st, Fp, s, T.all_mono (T.bind_all q) fun c hc H1 x1 z1 => by
    cases c with
    | true =>
      rw [if_pos rfl] at hc ⊢
      exact ⟨Z, st, Fp, s.ext x1 z1, T.all_mono hc fun d hd H2 x2 z2 => hd H2 (x1.trans x2) z2⟩
    | false =>
      rw [if_neg Bool.false_ne_true] at hc ⊢
      exact hc H1 x1 z1⟩
theorem dw_or {f g : DSt → T Bool} (ha : PT X a (tT kn X.K f)) (hb : PW X (.BoolOp .Or (b :: rest) pos) (tT kn X.K g)) : PW X (.BoolOp .Or (a :: b :: rest) pos) (tT kn X.K (orT f g)) :=
  pw_mono (pw_or ha hb) fun σ H Q ⟨Z, st, Fp, s, q⟩ => ⟨Z, st, Fp, s, T.all_mono (T.bind_all q) fun c hc H1 x1 z1 => by
    cases c with
    | false =>
      rw [if_neg Bool.false_ne_true] at hc ⊢
      exact ⟨Z, st, Fp, s.ext x1 z1, T.all_mono hc fun d hd H2 x2 z2 => hd H2 (x1.trans x2) z2⟩
    | true =>
      rw [if_pos rfl] at hc ⊢
      exact hc H1 x1 z1⟩
/-- .. as values (of bools) -/
def andV (f g : DSt → T M) : DSt → T M := fun st => f st >>= fun m => boolM m >>= fun b => if b = true then g st else .ret (.pure (.bool false))
def orV (f g : DSt → T M) : DSt → T M := fun st => f st >>= fun m => boolM m >>= fun b => if b = true then .ret (.pure (.bool true)) else g st
theorem dm_one {op : BoolOp} {f : DSt → T M} (h : PE X a (tM kn X.K f)) : PE X (.BoolOp op [a] pos) (tM kn X.K f) := pe_one h
theorem dm_and {f g : DSt → T M} (ha : PE X a (tM kn X.K f)) (hb : PE X (.BoolOp .And (b :: rest) pos) (tM kn X.K g)) : PE X (.BoolOp .And (a :: b :: rest) pos) (tM kn X.K (andV f g)) :=
  pe_mono (pe_and ha hb) fun σ H Q ⟨Z, st, Fp, s, q⟩ => ⟨Z, st, Fp, s, T.all_mono (T.bind_all q) fun m hm v H1 F x1 z1 mv fr => by
    obtain ⟨c, rfl, hm'⟩ := boolM_all hm
    cases mv.2
    refine ⟨c, rfl, ?_⟩
    cases c with
    | true =>
      rw [if_pos rfl] at hm' ⊢
      exact ⟨Z, st, Fp, s.ext x1 z1, T.all_mono hm' fun d hd u H2 F2 x2 z2 mu fr2 => hd u H2 F2 (x1.trans x2) z2 mu fun a ha => x1.none z1 (fr2 a ha)⟩
    | false =>
      rw [if_neg Bool.false_ne_true] at hm' ⊢
      exact hm' _ H1 [] x1 z1 ⟨rfl, .bl _⟩ fun _ h => nomatch h⟩
theorem dm_or {f g : DSt → T M} (ha : PE X a (tM kn X.K f)) (hb : PE X (.BoolOp .Or (b :: rest) pos) (tM kn X.K g)) : PE X (.BoolOp .Or (a :: b :: rest) pos) (tM kn X.K (orV f g)) :=
  pe_mono (pe_or ha hb) fun σ H Q ⟨Z, st, Fp, s, q⟩ => ⟨Z, st, Fp, s, T.all_mono (T.bind_all q) fun m hm v H1 F x1 z1 mv fr => by
    obtain ⟨c, rfl, hm'⟩ := boolM_all hm
    cases mv.2
    refine ⟨c, rfl, ?_⟩
    cases c with
    | false =>
      rw [if_neg Bool.false_ne_true] at hm' ⊢
      exact ⟨Z, st, Fp, s.ext x1 z1, T.all_mono hm' fun d hd u H2 F2 x2 z2 mu fr2 => hd u H2 F2 (x1.trans x2) z2 mu fun a ha => x1.none z1 (fr2 a ha)⟩
    | true =>
      rw [if_pos rfl] at hm' ⊢
      exact hm' _ H1 [] x1 z1 ⟨rfl, .bl _⟩ fun _ h => nomatch h⟩
def notV (f : DSt → T M) : DSt → T M := fun st => f st >>= fun m => boolM m >>= fun b => .ret (.pure (.bool (!b)))
theorem dm_not {f : DSt → T M} (ha : PE X a (tM kn X.K f)) : PE X (.UnaryOp .Not a pos) (tM kn X.K (notV f)) :=
  pe_mono (pe_not ha) fun σ H Q ⟨Z, st, Fp, s, q⟩ => ⟨Z, st, Fp, s, T.all_mono (T.bind_all q) fun m hm v H1 F x1 z1 mv fr => by
    obtain ⟨c, rfl, hm'⟩ := boolM_all hm
    cases mv.2
    exact ⟨_, rfl, hm' _ H1 [] x1 z1 ⟨rfl, .bl _⟩ fun _ h => nomatch h⟩⟩
def iteM (c : DSt → T Bool) (f g : DSt → T M) : DSt → T M := fun st => c st >>= fun b => if b = true then f st else g st
theorem dm_ite {fc : DSt → T Bool} {f g : DSt → T M} (hc : PT X c (tT kn X.K fc)) (ha : PE X a (tM kn X.K f)) (hb : PE X b (tM kn X.K g)) : PE X (.IfExp c a b pos) (tM kn X.K (iteM fc f g)) :=
  pe_mono (pe_ifExp hc ha hb) fun σ H Q ⟨Z, st, Fp, s, q⟩ => ⟨Z, st, Fp, s, T.all_mono (T.bind_all q) fun k hk H1 x1 z1 => by
    cases k with
    | true =>
      rw [if_pos rfl] at hk ⊢
      exact ⟨Z, st, Fp, s.ext x1 z1, T.all_mono hk fun d hd u H2 F2 x2 z2 mu fr2 => hd u H2 F2 (x1.trans x2) z2 mu fun a ha => x1.none z1 (fr2 a ha)⟩
    | false =>
      rw [if_neg Bool.false_ne_true] at hk ⊢
      exact ⟨Z, st, Fp, s.ext x1 z1, T.all_mono hk fun d hd u H2 F2 x2 z2 mu fr2 => hd u H2 F2 (x1.trans x2) z2 mu fun a ha => x1.none z1 (fr2 a ha)⟩⟩

/-! ### arguments, displays -/
def nilL : DSt → T (List M) := fun _ => .ret []
def consL (f : DSt → T M) (g : DSt → T (List M)) : DSt → T (List M) := fun st => f st >>= fun m => g st >>= fun ms => .ret (m :: ms)
theorem da_nil : PA X [] (tL kn X.K nilL) := pa_mono pa_nil fun σ H Q ⟨Z, st, Fp, s, q⟩ =>
  (q : ∀ vs H', Ext Z H H' → Z.Ok kn H' → MVs X.K Z H' [] vs → Q vs H') [] H .refl s.zok .nil
theorem da_cons {f : DSt → T M} {g : DSt → T (List M)} (ha : PE X e (tPk kn X.K f)) (hr : PA X es (tL kn X.K g)) (hs : starEach (e :: es) X.env = (false, eval e X.env) :: starEach es X.env := by rfl) : PA X (e :: es) (tL kn X.K (consL f g)) :=
  pa_mono (pa_cons ha hr hs) fun σ H Q ⟨Z, st, Fp, s, q⟩ => ⟨Z, st, Fp, s, T.all_mono (T.bind_all q) fun m hm v H1 F x1 z1 mv o =>
    ⟨Z, st, Fp, s.ext x1 z1, T.all_mono (T.bind_all hm) fun ms hms vs H2 x2 z2 mvs => hms (v :: vs) H2 (x1.trans x2) z2 (.cons (mv.ext z1 x2 o) o mvs)⟩⟩
def pureL : List M → T (List D)
  | [] => .ret []
  | .pure d :: r => pureL r >>= fun ds => .ret (d :: ds)
  | _ => .bad
theorem fz_of_pure {K : PySem.W.Frag} {Z : Zone} {H : Hp} : ∀ {ms : List M} {vs : List V} {P : List D → Prop}, MVs K Z H ms vs → (pureL ms).all P → ∃ ds, FzAll K H vs ds ∧ P ds
  | [], _, _, .nil, h => ⟨[], .nil, h⟩
  | m :: r, _, P, .cons mv o t, h => by
    cases m with
    | pure d =>
      obtain ⟨ds, f, p⟩ := fz_of_pure t (T.bind_all (show (pureL r >>= fun ds => T.ret (d :: ds)).all P from h))
      exact ⟨d :: ds, .cons mv.2 f, p⟩
    | pot => exact h.elim
    | lst _ => exact h.elim
    | lst2 _ => exact h.elim
    | npot _ _ _ => exact h.elim
    | dic _ => exact h.elim
    | dit _ => exact h.elim
def tupD (g : DSt → T (List M)) : DSt → T M := fun st => g st >>= fun ms => pureL ms >>= fun ds => if ds.length ≤ sizeLine then .ret (.pure (.tuple ds)) else .bad
def lstD (g : DSt → T (List M)) : DSt → T M := fun st => g st >>= fun ms => pureL ms >>= fun ds => if ds.length ≤ sizeLine then .ret (.lst ds) else .bad
theorem mv_tup {K : PySem.W.Frag} {Z : Zone} {H : Hp} {p : Addr} {vs : List V} {ds : List D} (hp : H p = none) (f : FzAll K H vs ds) : MV K Z (upd H p (.tup vs)) (.pure (.tuple ds)) (.ref p) [] :=
  ⟨rfl, .tup (.of upd_same) (f.imm (.of_same (same_new hp)))⟩
theorem mv_lst {K : PySem.W.Frag} {Z : Zone} {H : Hp} {p : Addr} {vs : List V} {ds : List D} (hp : H p = none) (f : FzAll K H vs ds) : MV K Z (upd H p (.lst vs)) (.lst ds) (.ref p) [p] :=
  ⟨p, vs, rfl, rfl, upd_same, f.imm (.of_same (same_new hp))⟩
theorem dm_tup {g : DSt → T (List M)} {x1 : Nat} (h : PA X es (tL kn X.K g)) : PE X (.Tuple es x1 pos) (tM kn X.K (tupD g)) :=
  pe_mono (pe_tup h) fun σ H Q ⟨Z, st, Fp, s, q⟩ => ⟨Z, st, Fp, s, T.all_mono (T.bind_all q) fun ms hms vs H1 x1 z1 mvs => by
    obtain ⟨ds, f, p⟩ := fz_of_pure mvs (T.bind_all hms)
    split at p
    · rename_i hl
      refine ⟨by rw [f.length]; exact hl, fun a ha => ?_⟩
      exact p (.ref a) _ [] (x1.trans (.of_same (same_new ha))) (z1.same (same_new ha)) (mv_tup ha f) fun _ h => nomatch h
    · exact p.elim⟩
theorem dm_lst {g : DSt → T (List M)} (h : PA X es (tL kn X.K g)) : PE X (.List es pos) (tM kn X.K (lstD g)) :=
  pe_mono (pe_lst h) fun σ H Q ⟨Z, st, Fp, s, q⟩ => ⟨Z, st, Fp, s, T.all_mono (T.bind_all q) fun ms hms vs H1 x1 z1 mvs => by
    obtain ⟨ds, f, p⟩ := fz_of_pure mvs (T.bind_all hms)
    split at p
    · rename_i hl
      refine ⟨by rw [f.length]; exact hl, fun a ha => ?_⟩
      exact p (.ref a) _ [a] (x1.trans (.of_same (same_new ha))) (z1.same (same_new ha)) (mv_lst ha f) fun b hb => by
        have e : b = a := by simpa using hb
        rw [e]
        exact x1.none z1 ha
    · exact p.elim⟩

/-! ### frozen -/
def frz : M → T M
  | .lst ds => .ret (.pure (.list ds))
  | .lst2 dss => .ret (.pure (.list (dss.map .list)))
  | .pure d => .ret (.pure d)
  | .pot => .ret .pot
  | .dic [] => .ret (.pure (.dict []))
  | _ => .bad
theorem rows_frz {pins : List (Addr × Obj)} {σ : St} {s : Shared} : ∀ {bs : List Addr} {dss : List (List D)} {H : Hp}, Rows X.K H bs dss → bs.Nodup → Inv X pins σ H s →
    ∃ H', Inv X pins σ H' s ∧ (∀ a o, H a = some o → a ∉ bs → H' a = some o) ∧ FzAll X.K H' (bs.map V.ref) (dss.map .list) ∧ (∀ a ∈ bs, H' a ≠ none) ∧ Imm H H'
  | _, _, H, .nil, _, I => ⟨H, I, fun _ _ h _ => h, .nil, (fun _ h => nomatch h), .refl⟩
  | b :: bs, ds :: dss, H, .cons (vs := ws) hb f r, nd, I => by
    have nd' := List.nodup_cons.mp nd
    obtain ⟨o, I1⟩ := I.lock hb trivial
    have im : Imm H (upd H b (.frz o (.lst ws))) := fun a u e i => by
      by_cases q : a = b
      · subst q; rw [hb] at e; cases e; cases i
      · rw [upd_ne q]; exact e
    have r' : Rows X.K (upd H b (.frz o (.lst ws))) bs dss := r.keep im fun c hc u e => by
      rw [upd_ne (show c ≠ b from fun (q : c = b) => nd'.1 (by rw [← q]; exact hc))]; exact e
    obtain ⟨H', I', k, fa, nn, im'⟩ := rows_frz r' nd'.2 I1
    refine ⟨H', I', fun a u e ha => ?_, ?_, fun a ha => ?_, im.trans im'⟩
    · have h1 : a ≠ b := fun q => ha (by simp [q])
      exact k a u (by rw [upd_ne h1]; exact e) fun q => ha (List.mem_cons_of_mem _ q)
    · have hb' : H' b = some (.frz o (.lst ws)) := k b _ upd_same nd'.1
      exact .cons (.lst (.inl ⟨o, hb'⟩) (f.imm (im.trans im'))) fa
    · rcases List.mem_cons.mp ha with rfl | ha
      · rw [k a _ upd_same nd'.1]
        exact fun q => nomatch q
      · exact nn a ha
/-- the ghost step: what is owned is frozen -/
theorem frz_run {pins : List (Addr × Obj)} {σ : St} {s : Shared} {H : Hp} {Z : Zone} {m : M} {v : V} {F : List Addr} {P : M → Prop} (I : Inv X pins σ H s) (mv : MV X.K Z H m v F) (h : (frz m).all P) :
    ∃ H' m', P m' ∧ Inv X pins σ H' s ∧ (∀ a o, H a = some o → a ∉ F → H' a = some o) ∧ MV X.K Z H' m' v [] ∧ Imm H H' := by
  cases m with
  | pure d => exact ⟨H, _, h, I, fun _ _ e _ => e, ⟨rfl, mv.2⟩, .refl⟩
  | pot => exact ⟨H, _, h, I, fun _ _ e _ => e, ⟨rfl, mv.2⟩, .refl⟩
  | lst ds =>
    obtain ⟨a, vs, rfl, rfl, e, f⟩ := mv
    obtain ⟨o, I1⟩ := I.lock e trivial
    have im : Imm H (upd H a (.frz o (.lst vs))) := fun c u e' i => by
      by_cases q : c = a
      · subst q; rw [e] at e'; cases e'; cases i
      · rw [upd_ne q]; exact e'
    exact ⟨_, _, h, I1, fun c u e' hc => by rw [upd_ne (fun q => hc (by simp [q]))]; exact e', ⟨rfl, .lst (.inl ⟨o, upd_same⟩) (f.imm im)⟩, im⟩
  | lst2 dss =>
    obtain ⟨a, bs, rfl, rfl, e, nd, r⟩ := mv
    have nd' := List.nodup_cons.mp nd
    obtain ⟨H1, I1, k, fa, nn, im⟩ := rows_frz r nd'.2 I
    have e1 : H1 a = some (.lst (bs.map V.ref)) := k a _ e nd'.1
    obtain ⟨o, I2⟩ := I1.lock e1 trivial
    have im2 : Imm H1 (upd H1 a (.frz o (.lst (bs.map V.ref)))) := fun c u e' i => by
      by_cases q : c = a
      · subst q; rw [e1] at e'; cases e'; cases i
      · rw [upd_ne q]; exact e'
    exact ⟨_, _, h, I2, fun c u e' hc => by
      rw [upd_ne (fun q => hc (by simp [q]))]
      exact k c u e' fun q => hc (List.mem_cons_of_mem _ q), ⟨rfl, .lst (.inl ⟨o, upd_same⟩) (fa.imm im2)⟩, im.trans im2⟩
  | npot _ _ _ => exact h.elim
  | dic kvs =>
    cases kvs with
    | cons _ _ => exact h.elim
    | nil =>
      obtain ⟨a, kvv, rfl, rfl, e, hk, f⟩ := mv
      have h0 : kvv = [] := by simpa using hk
      subst h0
      obtain ⟨o, I1⟩ := I.lock e trivial
      have im : Imm H (upd H a (.frz o (.dK []))) := fun c u e' i => by
        by_cases q : c = a
        · subst q; rw [e] at e'; cases e'; cases i
        · rw [upd_ne q]; exact e'
      exact ⟨_, _, h, I1, fun c u e' hc => by rw [upd_ne (fun q => hc (by simp [q]))]; exact e', ⟨rfl, .dct upd_same⟩, im⟩
  | dit _ => exact h.elim
/-- {} -/
theorem dm_dic0 : PE X (.Dict [] [] pos) (tM kn X.K fun _ => .ret (.dic [])) :=
  pe_mono pe_dnewK fun σ H Q ⟨Z, st, Fp, s, q⟩ p hp => q _ _ [p] (.of_same (same_new hp)) (s.zok.same (same_new hp)) ⟨p, [], rfl, rfl, upd_same, rfl, .nil⟩ fun b hb => by
    have e : b = p := by simpa using hb
    rw [e]
    exact hp
theorem dm_frz {f : DSt → T M} (h : PE X e (tM kn X.K f)) : PE X e (tM kn X.K (un1 frz f)) := by
  refine ⟨fun pins s σ H Q I ⟨Z, st, Fp, sr, q⟩ => ?_⟩
  refine thn (h.run pins s σ H (fun v H' => ∃ m F, Ext Z H H' ∧ Z.Ok kn H' ∧ MV X.K Z H' m v F ∧ (∀ a ∈ F, H a = none) ∧ (frz m).all fun m' => ∀ v H' F, Ext Z H H' → Z.Ok kn H' → MV X.K Z H' m' v F → (∀ a ∈ F, H a = none) → Q v H') I ?_) fun u s' ⟨v, H1, I1, r, m, F, x1, z1, mv, fr, hq⟩ => ?_
  · exact ⟨Z, st, Fp, sr, T.all_mono (T.bind_all q) fun m hm v H1 F x1 z1 mv fr => ⟨m, F, x1, z1, mv, fr, hm⟩⟩
  · obtain ⟨H2, m', p, I2, k, mv', im⟩ := frz_run I1 mv hq
    have off : Off Z F := .of_new sr.zok fr
    have x2 : Ext Z H H2 := fun a o e h1 h2 => k a o (x1 a o e h1 h2) fun q => by
      rw [fr a q] at e
      cases e
    have z2 : Z.Ok kn H2 := by
      exact z1.keep fun c o ec q => k c o ec fun m => q.elim (off _ m).1 (off _ m).2
    exact ⟨v, H2, I2, r, p v H2 [] x2 z2 mv' fun _ h => nomatch h⟩
end
end L2.Zy
namespace L2.Zy
open PySem PyProof.Rows PySem.Spec

/-! ## views -/
def M.listD : M → Option (List D)
  | .pure (.list ds) => some ds
  | .lst ds => some ds
  | _ => none
def M.seqD : M → Option (List D)
  | .pure (.list ds) => some ds
  | .pure (.tuple ds) => some ds
  | .lst ds => some ds
  | _ => none
def M.toD : M → Option D
  | .pure d => some d
  | .lst ds => some (.list ds)
  | .lst2 dss => some (.list (dss.map .list))
  | _ => none
/-- a list's exact object: owned or frozen -/
def Lv (K : PySem.W.Frag) (H : Hp) (a : Addr) (xs : List V) : Prop := H a = some (.lst xs) ∨ FzL K H a xs
theorem Lv.sq {K : PySem.W.Frag} {H : Hp} {a : Addr} {xs : List V} (h : Lv K H a xs) : SqL K H a xs := by
  rcases h with h | h
  · exact .of h
  · exact h.sq
section
variable {X : Cx} {pins : List (Addr × Obj)} {σ : St} {H : Hp} {s : Shared} {K : PySem.W.Frag} {Z : Zone} {m : M} {v : V} {F : List Addr}
theorem Lv.get {a : Addr} {xs : List V} (I : Inv X pins σ H s) (h : Lv X.K H a xs) : xs.length ≤ sizeLine ∧ ∃ (its : List Value) (n : Nat), Vals xs its ∧ xs.length = its.length ∧ s.heap.get? a = some { cls := .type "list", data := .seq its.toArray n } := by
  rcases h with h | ⟨o, h⟩ | ⟨its, n, h, z, r⟩
  · exact I.lstM h
  · obtain ⟨e, z, its, n, r, e'⟩ := I.hok a _ h
    exact ⟨z, its, n, r, r.length, e'⟩
  · exact ⟨by rw [r.length, Array.length_toList]; exact z, its.toList, n, r, r.length, I.kIn a _ h⟩
theorem mv_list {ds : List D} (e : m.listD = some ds) (mv : MV K Z H m v F) : ∃ a vs, v = .ref a ∧ Lv K H a vs ∧ FzAll K H vs ds := by
  unfold M.listD at e
  split at e
  · cases e
    obtain ⟨_, f⟩ := mv
    cases f with
    | lst x y => exact ⟨_, _, rfl, .inr x, y⟩
  · cases e
    obtain ⟨a, vs, rfl, _, x, y⟩ := mv
    exact ⟨a, vs, rfl, .inl x, y⟩
  · cases e
theorem mv_seq {ds : List D} (e : m.seqD = some ds) (mv : MV K Z H m v F) : ∃ a vs, v = .ref a ∧ (Lv K H a vs ∨ SqT K H a vs) ∧ FzAll K H vs ds := by
  unfold M.seqD at e
  split at e
  · cases e
    obtain ⟨_, f⟩ := mv
    cases f with
    | lst x y => exact ⟨_, _, rfl, .inl (.inr x), y⟩
  · cases e
    obtain ⟨_, f⟩ := mv
    cases f with
    | tup x y => exact ⟨_, _, rfl, .inr x, y⟩
  · cases e
    obtain ⟨a, vs, rfl, _, x, y⟩ := mv
    exact ⟨a, vs, rfl, .inl (.inl x), y⟩
  · cases e
theorem Rows.dp : ∀ {bs : List Addr} {dss : List (List D)}, PyData.hasDictAll (dss.map .list) = false → Rows K H bs dss → DpAll K H (bs.map V.ref) (dss.map .list)
  | [], [], _, .nil => .nil
  | _ :: _, ds :: dss, hd, .cons h f r => by
    have hd' : PyData.hasDictAll ds = false ∧ PyData.hasDictAll (dss.map .list) = false := by simpa [PyData.hasDictAll, PyData.hasDict] using hd
    exact .cons (.lst (.of h) (f.dp hd'.1)) (Rows.dp hd'.2 r)
theorem mv_dp {d : D} (e : m.toD = some d) (hd : d.hasDict = false) (mv : MV K Z H m v F) : Dp K H v d := by
  cases m with
  | pure d => cases e; exact mv.2.dp hd
  | pot => cases e
  | lst ds =>
    cases e
    obtain ⟨a, vs, rfl, _, x, y⟩ := mv
    exact .lst (.of x) (y.dp (by simpa [PyData.hasDict] using hd))
  | lst2 dss =>
    cases e
    obtain ⟨a, bs, rfl, _, x, _, y⟩ := mv
    exact .lst (.of x) (y.dp (by simpa [PyData.hasDict] using hd))
  | npot _ _ _ => cases e
  | dic _ => cases e
  | dit _ => cases e
end
/-- what an operation leaves: a value that never changes -/
abbrev Kon (K : PySem.W.Frag) (Z : Zone) (H : Hp) (Q : VK) (r : M) : Prop := ∀ v H' F, Same H H' → MV K Z H' r v F → (∀ a ∈ F, H a = none) → Q v H'
theorem kon_d {K : PySem.W.Frag} {Z : Zone} {H : Hp} {Q : VK} {d : D} {v : V} (h : Kon K Z H Q (.pure d)) (f : Fz K H v d) : Q v H := h v H [] (.refl H) ⟨rfl, f⟩ fun _ h => nomatch h
theorem kon_t {K : PySem.W.Frag} {Z : Zone} {H : Hp} {Q : VK} {ds : List D} {vs : List V} {p : Addr} (h : Kon K Z H Q (.pure (.tuple ds))) (hp : H p = none) (f : FzAll K H vs ds) : Q (.ref p) (upd H p (.tup vs)) :=
  h _ _ [] (same_new hp) (mv_tup hp f) fun _ h => nomatch h
theorem kon_l {K : PySem.W.Frag} {Z : Zone} {H : Hp} {Q : VK} {ds : List D} {vs : List V} {p : Addr} (h : Kon K Z H Q (.lst ds)) (hp : H p = none) (f : FzAll K H vs ds) : Q (.ref p) (upd H p (.lst vs)) :=
  h _ _ [p] (same_new hp) (mv_lst hp f) fun a ha => by
    have e : a = p := by simpa using ha
    rw [e]; exact hp

/-! ## arithmetic, concatenation -/
def catL (m n : M) : T M := match m.listD, n.listD with
  | some xs, some ys => if xs.length + ys.length ≤ sizeLine then .ret (.lst (xs ++ ys)) else .bad
  | _, _ => .bad
def addM (m n : M) : T M := match m, n with
  | .pure (.int i), .pure (.int j) => .ret (.pure (.int (i + j)))
  | .pure (.int i), .pure (.bool b) => .ret (.pure (.int (i + b2i b)))
  | .pure (.str x), .pure (.str y) => if x.length + y.length ≤ sizeLine then .ret (.pure (.str (x ++ y))) else .bad
  | .pure (.tuple xs), .pure (.tuple ys) => if xs.length + ys.length ≤ sizeLine then .ret (.pure (.tuple (xs ++ ys))) else .bad
  | m, n => catL m n
def subM (m n : M) : T M := match m, n with
  | .pure (.int i), .pure (.int j) => .ret (.pure (.int (i - j)))
  | _, _ => .bad
/-- one of the numbers is small, or together they have less than a million bits -/
def mulOk (i j : Int) : Bool := decide (i.natAbs < 2 ^ 64 ∨ j.natAbs < 2 ^ 64 ∨ i.natAbs.log2 + j.natAbs.log2 < 1000000)
def repL (m : M) (k : Int) : T M := match m.listD with
  | some xs => if -(2 ^ 63) ≤ k ∧ k < 2 ^ 63 ∧ xs.length * k.toNat ≤ sizeLine then .ret (.lst (List.replicate k.toNat xs).flatten) else .bad
  | none => .bad
def mulM (m n : M) : T M := match m, n with
  | .pure (.int i), .pure (.int j) => if mulOk i j = true then .ret (.pure (.int (i * j))) else .bad
  | .pure (.tuple xs), .pure (.int k) => if xs ≠ [] ∧ 2 ≤ k ∧ k ≤ 1000 ∧ xs.length ≤ 1000 then .ret (.pure (.tuple (List.replicate k.toNat xs).flatten)) else .bad
  | m, .pure (.int k) => repL m k
  | _, _ => .bad
/-- // by a positive divisor -/
def fdivM (m n : M) : T M := match m, n with
  | .pure (.int i), .pure (.int j) => if 0 < j ∧ j.natAbs.log2 < 9000 then .ret (.pure (.int (i / j))) else .bad
  | _, _ => .bad
def modM (m n : M) : T M := match m, n with
  | .pure (.int i), .pure (.int j) => if 0 < j then .ret (.pure (.int (i % j))) else .bad
  | _, _ => .bad
def powM (m n : M) : T M := match m, n with
  | .pure (.int i), .pure (.int j) => if 0 ≤ j ∧ j ≤ 1000000 ∧ i.natAbs < 2 ^ 64 then .ret (.pure (.int (i ^ j.toNat))) else .bad
  | _, _ => .bad
def negM (m : M) : T M := match m with
  | .pure (.int i) => .ret (.pure (.int (-i)))
  | _ => .bad
section
variable {X : Cx}
theorem fz_int {K : PySem.W.Frag} {H : Hp} {v : V} {i : Int} (h : Fz K H v (.int i)) : v = .int i := by cases h; rfl
theorem fz_bl {K : PySem.W.Frag} {H : Hp} {v : V} {i : Bool} (h : Fz K H v (.bool i)) : v = .bl i := by cases h; rfl
theorem fz_str {K : PySem.W.Frag} {H : Hp} {v : V} {i : Str} (h : Fz K H v (.str i)) : v = .str i := by cases h; rfl
theorem fz_non {K : PySem.W.Frag} {H : Hp} {v : V} (h : Fz K H v .none) : v = .non := by cases h; rfl
theorem op_catLv {m n : M} {pins : List (Addr × Obj)} {s : Shared} {σ : St} {H : Hp} {x y : V} {v u : Value} {Q : VK} {Z : Zone} {F F' : List Addr} (I : Inv X pins σ H s) (rx : RelV x v) (ry : RelV y u) (hm : MV X.K Z H m x F) (hn : MV X.K Z H n y F')
    (h : (catL m n).all (Kon X.K Z H Q)) : wpAny (model X.prog X.w) X.A (binaryOp .Add v u) (EP X pins σ Q) X.xe s := by
  unfold catL at h
  split at h
  · rename_i xs ys e1 e2
    split at h
    · rename_i hz
      obtain ⟨a, vs, rfl, l1, f1⟩ := mv_list e1 hm
      obtain ⟨b, ws, rfl, l2, f2⟩ := mv_list e2 hn
      cases rx
      cases ry
      obtain ⟨z, its, n, r, hl, e⟩ := l1.get I
      obtain ⟨z2, its2, n2, r2, hl2, e2⟩ := l2.get I
      have k1 := f1.length
      have k2 := f2.length
      refine PySem.P.add_list e e2 ?_ (by rw [List.size_toArray, List.size_toArray]; omega)
      rw [show its.toArray ++ its2.toArray = (its ++ its2).toArray by simp]
      exact ⟨.ref _, _, I.lnew (t' := s.toks) (r.append r2) (by rw [List.length_append]; omega), rfl, kon_l h I.fresh (f1.append f2)⟩
    · exact h.elim
  · exact h.elim
theorem o_add : OpR X (binaryOp .Add) (rM2 X.K addM) := by
  intro pins s σ H x y v u Q I rx ry ⟨Z, m, n, F, F', hm, hn, h⟩
  unfold addM at h
  split at h
  · obtain rfl := fz_int hm.2
    obtain rfl := fz_int hn.2
    exact op_add pins s σ H _ _ v u Q I rx ry ⟨_, _, rfl, rfl, kon_d h (.int _)⟩
  · obtain rfl := fz_int hm.2
    obtain rfl := fz_bl hn.2
    exact op_add_ib pins s σ H _ _ v u Q I rx ry ⟨_, _, rfl, rfl, kon_d h (.int _)⟩
  · split at h
    · rename_i hz
      obtain rfl := fz_str hm.2
      obtain rfl := fz_str hn.2
      exact op_add_str pins s σ H _ _ v u Q I rx ry ⟨_, _, rfl, rfl, hz, kon_d h (.str _)⟩
    · exact h.elim
  · split at h
    · rename_i hz
      obtain ⟨_, f1⟩ := hm
      obtain ⟨_, f2⟩ := hn
      cases f1 with
      | tup s1 g1 =>
        cases f2 with
        | tup s2 g2 =>
          refine op_catA pins s σ H _ _ v u Q I rx ry ⟨_, _, _, _, rfl, rfl, s1, s2, by rw [g1.length, g2.length]; exact hz, fun e => ?_, fun _ e => ?_, fun _ _ p hp => kon_t h hp (g1.append g2)⟩
          · subst e
            cases g1
            exact kon_d h (.tup s2 g2)
          · subst e
            cases g2
            rw [List.append_nil] at h
            exact kon_d h (.tup s1 g1)
    · exact h.elim
  · exact op_catLv I rx ry hm hn h
theorem o_sub : OpR X (binaryOp .Sub) (rM2 X.K subM) := by
  intro pins s σ H x y v u Q I rx ry ⟨Z, m, n, F, F', hm, hn, h⟩
  unfold subM at h
  split at h
  · obtain rfl := fz_int hm.2
    obtain rfl := fz_int hn.2
    exact op_sub pins s σ H _ _ v u Q I rx ry ⟨_, _, rfl, rfl, kon_d h (.int _)⟩
  · exact h.elim
theorem op_repLv {m : M} {k : Int} {pins : List (Addr × Obj)} {s : Shared} {σ : St} {H : Hp} {x y : V} {v u : Value} {Q : VK} {Z : Zone} {F F' : List Addr} (I : Inv X pins σ H s) (rx : RelV x v) (ry : RelV y u) (hm : MV X.K Z H m x F) (hn : MV X.K Z H (.pure (.int k)) y F')
    (h : (repL m k).all (Kon X.K Z H Q)) : wpAny (model X.prog X.w) X.A (binaryOp .Mult v u) (EP X pins σ Q) X.xe s := by
  unfold repL at h
  split at h
  · rename_i xs e1
    split at h
    · rename_i hz
      obtain ⟨h1, h2, hz⟩ := hz
      obtain ⟨a, vs, rfl, l1, f1⟩ := mv_list e1 hm
      obtain rfl := fz_int hn.2
      have k1 := f1.length
      rcases l1 with l1 | l1
      · exact op_rep pins s σ H _ _ v u Q I rx ry ⟨_, _, _, rfl, rfl, l1, h1, h2, by rw [k1]; exact hz, fun p hp => kon_l h hp (f1.rep _)⟩
      · -- a frozen one: the very object
        cases rx
        obtain ⟨t, rfl⟩ := ry
        obtain ⟨z, its, n, r, hl, e⟩ := Lv.get I (.inr l1)
        have hlen : its.toArray.size * k.toNat ≤ sizeLine := by rw [List.size_toArray, ← hl, k1]; exact hz
        have hcap : ¬ its.toArray.size * k.toNat > (2 ^ 63 - 1) / 8 := by
          have : (sizeLine : Nat) ≤ (2 ^ 63 - 1) / 8 := by decide
          omega
        have hfit : ¬ (!Builtin.List.listFitsIndex k) = true := by rw [fitsIndex_both h1 h2]; exact Bool.false_ne_true
        have hlong : ¬ Builtin.List.listTooLong (its.toArray.size * k.toNat) = true := by rw [notLongL hlen]; exact Bool.false_ne_true
        have hnew : List.foldl (fun x1 x2 => x1 ++ x2) #[] (List.replicate (if its.toArray.isEmpty = true then 0 else k.toNat) its.toArray) = (List.replicate k.toNat its).flatten.toArray := by
          have f0 : ∀ m : Nat, List.foldl (fun x1 x2 => x1 ++ x2) #[] (List.replicate m its.toArray) = (List.replicate m its).flatten.toArray := fun m => by
            have q := foldl_rep its m []
            rw [List.nil_append] at q
            exact q
          rw [f0]
          cases its with
          | nil => simp
          | cons a r' => rw [if_neg (by simp)]
        refine wpAny_binaryOp_repeat_ref (T := "list") (U := "int") (by decide) ⟨_, e, rfl⟩ (fun s' => typeIs_int s' k t) noFill_list_mul PySem.F.fills_int_mul PySem.F.slot_int_rmul repeat_list PySem.F.slot_int_index.lookup
          (call_meets PySem.F.slot_int_rmul (typeIs_int s k t) PySem.F.entry_int_rmul (PySem.F.args_int_rmul_2 _ _) (int___rmul___int_list k t a its.toArray n)
            ⟨e, rfl, ⟨_, e, rfl⟩, call_meets PySem.F.slot_list_mul ⟨_, e, rfl⟩ PySem.F.entry_list_mul (PySem.F.args_list_mul_2 _ _) (AutoListH.list___mul___list_int_3 a its.toArray n k t hfit hcap hlong) ⟨e, ?_⟩⟩)
        rw [hnew]
        exact ⟨.ref _, _, I.lnew (t' := s.toks) (r.rep k.toNat) (by rw [PyProof.Rows.lm_len_rep_flat, Nat.mul_comm, k1]; exact hz), rfl, kon_l h I.fresh (f1.rep _)⟩
    · exact h.elim
  · exact h.elim
theorem o_mul : OpR X (binaryOp .Mult) (rM2 X.K mulM) := by
  intro pins s σ H x y v u Q I rx ry ⟨Z, m, n, F, F', hm, hn, h⟩
  unfold mulM at h
  split at h
  · split at h
    · rename_i hz
      obtain rfl := fz_int hm.2
      obtain rfl := fz_int hn.2
      rcases (of_decide_eq_true hz : _ ∨ _ ∨ _) with c | c | c
      · exact op_mul pins s σ H _ _ v u Q I rx ry ⟨_, _, rfl, rfl, .inl ⟨by omega, by omega⟩, kon_d h (.int _)⟩
      · exact op_mul pins s σ H _ _ v u Q I rx ry ⟨_, _, rfl, rfl, .inr ⟨by omega, by omega⟩, kon_d h (.int _)⟩
      · exact op_mulW pins s σ H _ _ v u Q I rx ry ⟨_, _, rfl, rfl, c, kon_d h (.int _)⟩
    · exact h.elim
  · split at h
    · rename_i hz
      obtain ⟨_, f1⟩ := hm
      obtain rfl := fz_int hn.2
      cases f1 with
      | tup s1 g1 =>
        refine op_repT pins s σ H _ _ v u Q I rx ry ⟨_, _, _, rfl, rfl, s1, fun e => ?_, hz.2.1, hz.2.2.1, by rw [g1.length]; exact hz.2.2.2, fun p hp => kon_t h hp (g1.rep _)⟩
        subst e
        cases g1
        exact hz.1 rfl
    · exact h.elim
  · exact op_repLv I rx ry hm hn h
  · exact h.elim
theorem o_fdiv : OpR X (binaryOp .FloorDiv) (rM2 X.K fdivM) := by
  intro pins s σ H x y v u Q I rx ry ⟨Z, m, n, F, F', hm, hn, h⟩
  unfold fdivM at h
  split at h
  · split at h
    · rename_i hz
      obtain rfl := fz_int hm.2
      obtain rfl := fz_int hn.2
      exact op_fdivW pins s σ H _ _ v u Q I rx ry ⟨_, _, rfl, rfl, hz, kon_d h (.int _)⟩
    · exact h.elim
  · exact h.elim
theorem o_mod : OpR X (binaryOp .Mod) (rM2 X.K modM) := by
  intro pins s σ H x y v u Q I rx ry ⟨Z, m, n, F, F', hm, hn, h⟩
  unfold modM at h
  split at h
  · split at h
    · rename_i hz
      obtain rfl := fz_int hm.2
      obtain rfl := fz_int hn.2
      exact op_mod pins s σ H _ _ v u Q I rx ry ⟨_, _, rfl, rfl, hz, kon_d h (.int _)⟩
    · exact h.elim
  · exact h.elim
theorem o_pow : OpR X (binaryOp .Pow) (rM2 X.K powM) := by
  intro pins s σ H x y v u Q I rx ry ⟨Z, m, n, F, F', hm, hn, h⟩
  unfold powM at h
  split at h
  · split at h
    · rename_i hz
      obtain rfl := fz_int hm.2
      obtain rfl := fz_int hn.2
      exact op_pow pins s σ H _ _ v u Q I rx ry ⟨_, _, rfl, rfl, hz, kon_d h (.int _)⟩
    · exact h.elim
  · exact h.elim
theorem o_neg : UnR X (unaryOp .USub) (rM1 X.K negM) := by
  intro pins s σ H x v Q I rx ⟨Z, m, F, hm, h⟩
  unfold negM at h
  split at h
  · obtain rfl := fz_int hm.2
    exact un_neg pins s σ H _ v Q I rx ⟨_, rfl, kon_d h (.int _)⟩
  · exact h.elim

/-! ## comparisons -/
def okD (d : D) : Bool := SeqAt.shaped d
theorem nd_ok {d : D} (h : okD d = true) : d.hasDict = false := PyData.hasDict_of_canLay d (SeqAt.canLay_of_shaped h)
theorem nda_ok {ds : List D} (h : okD (.list ds) = true) : PyData.hasDictAll ds = false := by simpa [PyData.hasDict] using nd_ok h
def eqM (m n : M) : T M := match m, n with
  | .pure (.str x), .pure (.str y) => .ret (.pure (.bool (x == y)))
  | m, n => match m.toD, n.toD with
    | some d, some e => if okD d = true ∧ okD e = true then .ret (.pure (.bool (PyData.eqv d e))) else .bad
    | _, _ => .bad
def neM (m n : M) : T M := match m, n with
  | .pure (.str x), .pure (.str y) => .ret (.pure (.bool (!(x == y))))
  | m, n => match m.toD, n.toD with
    | some d, some e => if okD d = true ∧ okD e = true then .ret (.pure (.bool (!PyData.eqv d e))) else .bad
    | _, _ => .bad
theorem o_eq (hu : X.A.units + 64 < cLine) : OpR X (compareOp .Eq) (rM2 X.K eqM) := by
  intro pins s σ H x y v u Q I rx ry ⟨Z, m, n, F, F', hm, hn, h⟩
  unfold eqM at h
  split at h
  · obtain rfl := fz_str hm.2
    obtain rfl := fz_str hn.2
    exact op_eq pins s σ H _ _ v u Q I rx ry ⟨rfl, kon_d (by rw [dec_str]; exact h) (.bl _)⟩
  · split at h
    · rename_i d e e1 e2
      split at h
      · rename_i hz
        exact op_eqD hu pins s σ H _ _ v u Q I rx ry ⟨d, e, mv_dp e1 (nd_ok hz.1) hm, mv_dp e2 (nd_ok hz.2) hn, hz.1, hz.2, kon_d h (.bl _)⟩
      · exact h.elim
    · exact h.elim
theorem o_ne (hu : X.A.units + 64 < cLine) : OpR X (compareOp .NotEq) (rM2 X.K neM) := by
  intro pins s σ H x y v u Q I rx ry ⟨Z, m, n, F, F', hm, hn, h⟩
  unfold neM at h
  split at h
  · obtain rfl := fz_str hm.2
    obtain rfl := fz_str hn.2
    exact op_ne pins s σ H _ _ v u Q I rx ry ⟨rfl, kon_d (by rw [dec_str]; exact h) (.bl _)⟩
  · split at h
    · rename_i d e e1 e2
      split at h
      · rename_i hz
        exact op_neD hu pins s σ H _ _ v u Q I rx ry ⟨d, e, mv_dp e1 (nd_ok hz.1) hm, mv_dp e2 (nd_ok hz.2) hn, hz.1, hz.2, kon_d h (.bl _)⟩
      · exact h.elim
    · exact h.elim
def cmpI (g : Int → Int → Bool) (m n : M) : T M := match m, n with
  | .pure (.int i), .pure (.int j) => .ret (.pure (.bool (g i j)))
  | _, _ => .bad
def ltM : M → M → T M := cmpI fun i j => decide (i < j)
def leM : M → M → T M := cmpI fun i j => decide (i ≤ j)
def gtM : M → M → T M := cmpI fun i j => decide (j < i)
def geM : M → M → T M := cmpI fun i j => decide (j ≤ i)
theorem o_cmpI {op : CmpOp} {g : Int → Int → Bool} (ho : OpR X (compareOp op) (rI0 fun i j => .bl (g i j))) : OpR X (compareOp op) (rM2 X.K (cmpI g)) := by
  intro pins s σ H x y v u Q I rx ry ⟨Z, m, n, F, F', hm, hn, h⟩
  unfold cmpI at h
  split at h
  · obtain rfl := fz_int hm.2
    obtain rfl := fz_int hn.2
    exact ho pins s σ H _ _ v u Q I rx ry ⟨_, _, rfl, rfl, kon_d h (.bl _)⟩
  · exact h.elim
theorem o_lt : OpR X (compareOp .Lt) (rM2 X.K ltM) := o_cmpI op_lt
theorem o_le : OpR X (compareOp .LtE) (rM2 X.K leM) := o_cmpI op_le
theorem o_gt : OpR X (compareOp .Gt) (rM2 X.K gtM) := o_cmpI op_gt
theorem o_ge : OpR X (compareOp .GtE) (rM2 X.K geM) := o_cmpI op_ge
def isNonD : D → Bool
  | .none => true
  | _ => false
/-- is None, is True: of a constant that stands on the right -/
def isM (m n : M) : T M := match m, n with
  | .pure d, .pure .none => .ret (.pure (.bool (isNonD d)))
  | .pot, .pure .none => .ret (.pure (.bool false))
  | .lst _, .pure .none => .ret (.pure (.bool false))
  | .lst2 _, .pure .none => .ret (.pure (.bool false))
  | .pure (.bool a), .pure (.bool b) => .ret (.pure (.bool (decide (a = b))))
  | _, _ => .bad
def isnM (m n : M) : T M := match m, n with
  | .pure d, .pure .none => .ret (.pure (.bool (!isNonD d)))
  | .pot, .pure .none => .ret (.pure (.bool true))
  | .lst _, .pure .none => .ret (.pure (.bool true))
  | .lst2 _, .pure .none => .ret (.pure (.bool true))
  | .pure (.bool a), .pure (.bool b) => .ret (.pure (.bool (!decide (a = b))))
  | _, _ => .bad
theorem non_dec {K : PySem.W.Frag} {H : Hp} {v : V} {d : D} (f : Fz K H v d) : decide (v = .non) = (isNonD d) := by
  cases f <;> rfl
theorem o_is : OpR X (compareOp .Is) (rM2 X.K isM) := by
  intro pins s σ H x y v u Q I rx ry ⟨Z, m, n, F, F', hm, hn, h⟩
  have go : y = .non → ∀ b, decide (x = .non) = b → Kon X.K Z H Q (.pure (.bool b)) → wpAny (model X.prog X.w) X.A (compareOp .Is v u) (EP X pins σ Q) X.xe s := fun e b eb h =>
    op_isN pins s σ H _ _ v u Q I rx ry ⟨e, by rw [eb]; exact kon_d h (.bl _)⟩
  unfold isM at h
  split at h
  · exact go (fz_non hn.2) _ (non_dec hm.2) h
  · exact go (fz_non hn.2) false (by obtain ⟨_, _, e⟩ := hm.2; rw [e]; rfl) h
  · obtain ⟨a, vs, rfl, _⟩ := hm
    exact go (fz_non hn.2) false rfl h
  · obtain ⟨a, vs, rfl, _⟩ := hm
    exact go (fz_non hn.2) false rfl h
  · obtain rfl := fz_bl hm.2
    obtain rfl := fz_bl hn.2
    exact op_is_bl pins s σ H _ _ v u Q I rx ry ⟨_, _, rfl, rfl, kon_d h (.bl _)⟩
  · exact h.elim
theorem o_isn : OpR X (compareOp .IsNot) (rM2 X.K isnM) := by
  intro pins s σ H x y v u Q I rx ry ⟨Z, m, n, F, F', hm, hn, h⟩
  have go : y = .non → ∀ b, (!decide (x = .non)) = b → Kon X.K Z H Q (.pure (.bool b)) → wpAny (model X.prog X.w) X.A (compareOp .IsNot v u) (EP X pins σ Q) X.xe s := fun e b eb h =>
    op_notN pins s σ H _ _ v u Q I rx ry ⟨e, by rw [eb]; exact kon_d h (.bl _)⟩
  unfold isnM at h
  split at h
  · exact go (fz_non hn.2) _ (by rw [non_dec hm.2]) h
  · exact go (fz_non hn.2) true (by obtain ⟨_, _, e⟩ := hm.2; rw [e]; rfl) h
  · obtain ⟨a, vs, rfl, _⟩ := hm
    exact go (fz_non hn.2) true rfl h
  · obtain ⟨a, vs, rfl, _⟩ := hm
    exact go (fz_non hn.2) true rfl h
  · obtain rfl := fz_bl hm.2
    obtain rfl := fz_bl hn.2
    exact op_isnot_bl pins s σ H _ _ v u Q I rx ry ⟨_, _, rfl, rfl, kon_d h (.bl _)⟩
  · exact h.elim
/-- membership -/
def inM (m n : M) : T M := match m.toD, n.seqD with
  | some d, some ds => if okD d = true ∧ okD (.list ds) = true then .ret (.pure (.bool (ds.any fun z => PyData.eqv z d))) else .bad
  | _, _ => .bad
def ninM (m n : M) : T M := match m.toD, n.seqD with
  | some d, some ds => if okD d = true ∧ okD (.list ds) = true then .ret (.pure (.bool (!ds.any fun z => PyData.eqv z d))) else .bad
  | _, _ => .bad
theorem lay_all {ds : List D} (h : okD (.list ds) = true) : PyData.canLayAll0 ds = true := SeqAt.canLay_of_shaped h
theorem o_in (hu : X.A.units + 65 < cLine) : OpR X (compareOp .In) (rM2 X.K inM) := by
  intro pins s σ H x y v u Q I rx ry ⟨Z, m, n, F, F', hm, hn, h⟩
  unfold inM at h
  split at h
  · rename_i d ds e1 e2
    split at h
    · rename_i hz
      obtain ⟨as, r1⟩ := Dp.reads I d x v (mv_dp e1 (nd_ok hz.1) hm) rx
      obtain ⟨a, vs, rfl, l, f⟩ := mv_seq e2 hn
      rcases l with l | l
      · obtain ⟨bs, r2⟩ := Dp.reads I (.list ds) _ u (.lst l.sq (f.dp (nda_ok hz.2))) ry
        exact SeqAt.in_list_reads r2 r1 (lay_all hz.2) (SeqAt.canLay_of_shaped hz.1) (room_in_shaped hz.1 hu) ⟨.bl _, H, I, rfl, kon_d h (.bl _)⟩
      · obtain ⟨bs, r2⟩ := Dp.reads I (.tuple ds) _ u (.tup l (f.dp (nda_ok hz.2))) ry
        exact SeqAt.in_tuple_reads r2 r1 (lay_all hz.2) (SeqAt.canLay_of_shaped hz.1) (room_in_shaped hz.1 hu) ⟨.bl _, H, I, rfl, kon_d h (.bl _)⟩
    · exact h.elim
  · exact h.elim
theorem o_nin (hu : X.A.units + 65 < cLine) : OpR X (compareOp .NotIn) (rM2 X.K ninM) := by
  intro pins s σ H x y v u Q I rx ry ⟨Z, m, n, F, F', hm, hn, h⟩
  unfold ninM at h
  split at h
  · rename_i d ds e1 e2
    split at h
    · rename_i hz
      obtain ⟨as, r1⟩ := Dp.reads I d x v (mv_dp e1 (nd_ok hz.1) hm) rx
      obtain ⟨a, vs, rfl, l, f⟩ := mv_seq e2 hn
      rcases l with l | l
      · obtain ⟨bs, r2⟩ := Dp.reads I (.list ds) _ u (.lst l.sq (f.dp (nda_ok hz.2))) ry
        exact SeqAt.notIn_list_reads r2 r1 (lay_all hz.2) (SeqAt.canLay_of_shaped hz.1) (room_in_shaped hz.1 hu) ⟨.bl _, H, I, rfl, kon_d h (.bl _)⟩
      · obtain ⟨bs, r2⟩ := Dp.reads I (.tuple ds) _ u (.tup l (f.dp (nda_ok hz.2))) ry
        exact SeqAt.notIn_tuple_reads r2 r1 (lay_all hz.2) (SeqAt.canLay_of_shaped hz.1) (room_in_shaped hz.1 hu) ⟨.bl _, H, I, rfl, kon_d h (.bl _)⟩
    · exact h.elim
  · exact h.elim

/-! ## subscripts, slices -/
def ixM (m n : M) : T M := match n with
  | .pure (.int i) => match m.seqD with
    | some ds => match atI ds i with
      | some d => .ret (.pure d)
      | none => .bad
    | none => .bad
  | _ => .bad
theorem atI_fz {K : PySem.W.Frag} {H : Hp} {vs : List V} {ds : List D} {i : Int} {d : D} (f : FzAll K H vs ds) (h : atI ds i = some d) : ∃ v, atI vs i = some v ∧ Fz K H v d := by
  unfold atI at h ⊢
  rw [f.length]
  cases e : ixN ds.length i with
  | none => rw [e] at h; cases h
  | some j =>
    rw [e] at h
    exact f.get' (show ds[j]? = some d from h)
theorem i_ix : IxR X (rM2 X.K ixM) := by
  intro value slice pins s σ H x y v u Q I rx ry ⟨Z, m, n, F, F', hm, hn, h⟩ hs
  unfold ixM at h
  split at h
  · split at h
    · rename_i ds e
      split at h
      · rename_i d e2
        obtain rfl := fz_int hn.2
        obtain ⟨a, vs, rfl, l, f⟩ := mv_seq e hm
        obtain ⟨w, hw, fw⟩ := atI_fz f e2
        rcases l with l | l
        · exact ix_list value slice pins s σ H _ _ v u Q I rx ry ⟨_, _, _, _, rfl, rfl, l.sq, hw, kon_d h fw⟩ hs
        · exact ix_tup value slice pins s σ H _ _ v u Q I rx ry ⟨_, _, _, _, rfl, rfl, l, hw, kon_d h fw⟩ hs
      · exact h.elim
    · exact h.elim
  · exact h.elim
variable {a b e : Expr} {pos p2 : Pos} {kn : PotKeys}
theorem dm_ix {fa fb : DSt → T M} (ha : PE X a (tPk kn X.K fa)) (hb : PE X b (tPk kn X.K fb)) (hs : PlainIx b := by exact fun _ _ => rfl) : PE X (.Subscript a b pos) (tM kn X.K (bin ixM fa fb)) :=
  pe_mono (pe_ix i_ix ha hb hs) fun _ _ _ => tOp_of
/-- an inner list of a list of lists, to be read -/
def ixRow (m n : M) : T M := match m, n with
  | .lst2 dss, .pure (.int i) => match atI dss i with
    | some ds => .ret (.lst ds)
    | none => .bad
  | _, _ => .bad
def cutD (ds : List D) (lo hi : Option Int) : List D := (ds.drop (HT.sIx ds.length 0 lo)).take (HT.sIx ds.length ds.length hi - HT.sIx ds.length 0 lo)
theorem cut_fz {K : PySem.W.Frag} {H : Hp} {vs : List V} {ds : List D} {lo hi : Option Int} (f : FzAll K H vs ds) : FzAll K H (cutV vs lo hi) (cutD ds lo hi) := by
  unfold cutV cutD
  rw [f.length]
  exact (f.drop _).take _
theorem cut_whole {vs : List V} {ds : List D} {lo hi : Option Int} (e : vs.length = ds.length) (w : HT.sIx vs.length 0 lo = 0 ∧ HT.sIx vs.length vs.length hi = vs.length) : cutD ds lo hi = ds := by
  unfold cutD
  rw [← e, w.1, w.2, List.drop_zero, Nat.sub_zero, e, List.take_length]
def cutM (m : M) (lo hi : Option Int) : T M := match m with
  | .pure (.tuple ds) => .ret (.pure (.tuple (cutD ds lo hi)))
  | m => match m.listD with
    | some ds => .ret (.lst (cutD ds lo hi))
    | none => .bad
def tO (kn : PotKeys) (K : PySem.W.Frag) (f : DSt → T (Option Int)) : TO := fun σ H Q => ∃ Z st Fp, SR kn K Z H st σ Fp ∧ (f st).all fun o => ∀ H', Ext Z H H' → Z.Ok kn H' → Q o H'
def noO : DSt → T (Option Int) := fun _ => .ret none
def someO (f : DSt → T M) : DSt → T (Option Int) := fun st => f st >>= fun m => match m with
  | .pure (.int i) => .ret (some i)
  | _ => .bad
theorem do_none : PO X none (tO kn X.K noO) := ⟨fun pins s σ H Q I ⟨Z, st, Fp, sr, q⟩ => (po_none (X := X)).run pins s σ H Q I ((q : ∀ H', Ext Z H H' → Z.Ok kn H' → Q none H') H .refl sr.zok)⟩
theorem do_some {f : DSt → T M} (h : PE X e (tPk kn X.K f)) : PO X (some e) (tO kn X.K (someO f)) := ⟨fun pins s σ H Q I ⟨Z, st, Fp, sr, q⟩ => (po_some h).run pins s σ H Q I
  ⟨Z, st, Fp, sr, T.all_mono (T.bind_all q) fun m hm v H1 F x1 z1 mv o => by
    split at hm
    · obtain rfl := fz_int mv.2
      exact ⟨_, rfl, hm H1 x1 z1⟩
    · exact hm.elim⟩⟩
def rCut (K : PySem.W.Frag) : V → Option Int → Option Int → Hp → VK → Prop := fun x lo hi H Q => ∃ Z m F, MV K Z H m x F ∧ (cutM m lo hi).all (Kon K Z H Q)
theorem sl_M : SlR X (rCut X.K) := by
  intro pins s σ H x v vl vu lo hi sl Q I rx hs pl pu ⟨Z, m, F, hm, h⟩
  unfold cutM at h
  split at h
  · obtain ⟨_, f1⟩ := hm
    cases f1 with
    | tup s1 g1 =>
      refine sl_tupA pins s σ H _ v vl vu lo hi sl Q I rx hs pl pu ⟨_, _, rfl, s1, fun w => ?_, fun _ p hp => kon_t h hp (cut_fz g1)⟩
      rw [cut_whole g1.length w] at h
      exact kon_d h (.tup s1 g1)
  · split at h
    · rename_i ds e
      obtain ⟨a, vs, rfl, l, f⟩ := mv_list e hm
      exact sl_list pins s σ H _ v vl vu lo hi sl Q I rx hs pl pu ⟨_, _, rfl, l.sq, fun p hp => kon_l h hp (cut_fz f)⟩
    · exact h.elim
def cutF (f : DSt → T M) (l u : DSt → T (Option Int)) : DSt → T M := fun st => f st >>= fun m => l st >>= fun lo => u st >>= fun hi => cutM m lo hi
theorem dm_cut {lo hi : Option Expr} {f : DSt → T M} {l u : DSt → T (Option Int)} (he : PE X e (tPk kn X.K f)) (hl : PO X lo (tO kn X.K l)) (hu : PO X hi (tO kn X.K u)) : PE X (.Subscript e (.Slice lo hi none p2) pos) (tM kn X.K (cutF f l u)) :=
  pe_mono (pe_slice sl_M he hl hu) fun σ H Q ⟨Z, st, Fp, s, q⟩ => ⟨Z, st, Fp, s, T.all_mono (T.bind_all q) fun m hm v H1 F x1 z1 mv o =>
    ⟨Z, st, Fp, s.ext x1 z1, T.all_mono (T.bind_all hm) fun lo hlo H2 x2 z2 => ⟨Z, st, Fp, (s.ext x1 z1).ext x2 z2, T.all_mono (T.bind_all hlo) fun hi hhi H3 x3 z3 =>
      ⟨Z, m, F, (mv.ext z1 x2 o).ext z2 x3 o, T.all_mono hhi fun r hr w H4 F4 sm mr fr => hr w H4 F4 (x1.trans (x2.trans (x3.trans (.of_same sm)))) (z3.same sm) mr fun c hc => (x1.trans (x2.trans x3)).none z3 (fr c hc)⟩⟩⟩⟩
end
end L2.Zy
namespace L2.Zy
open PySem PyProof.Rows PySem.Spec

/-! ## calls of built-in names -/
def callG (g : List M → T M) (fs : DSt → T (List M)) : DSt → T M := fun st => fs st >>= g
section
variable {X : Cx} {e : Expr} {es : List Expr} {pos p : Pos} {x : Str} {kn : PotKeys}
theorem tCB_of {K : PySem.W.Frag} {fs : DSt → T (List M)} {g : List M → T M} {σ : St} {H : Hp} {Q : VK} (h : tM kn K (callG g fs) σ H Q) : tCB (rMs K g) (tL kn K fs) σ H Q := by
  obtain ⟨Z, st, Fp, s, q⟩ := h
  refine ⟨Z, st, Fp, s, T.all_mono (T.bind_all q) fun ms hms vs H1 x1 z1 mvs => ?_⟩
  refine ⟨Z, ms, mvs, T.all_mono hms fun r hr w H2 F sm mr fr => ?_⟩
  exact hr w H2 F (x1.trans (.of_same sm)) (z1.same sm) mr fun a ha => x1.none z1 (fr a ha)
theorem dm_blt {id : String} {g : List M → T M} {fs : DSt → T (List M)} (hc : CallR X (.builtin id) (rMs X.K g)) (hg : Gl X x) (hm : X.mg x = none) (hv : bootBuiltins x = some (.builtin id)) (ha : PA X (e :: es) (tL kn X.K fs)) (hn : x ≠ "__name__" := by decide)
    (hdb : (x == ("__debug__" : Str)) = false := by decide) (he : starEach (e :: es) X.env = (false, eval e X.env) :: starEach es X.env := by rfl) (hpl : (backTo pos (starEach es X.env)).any (·.1) = false := by rfl) :
    PE X (.Call (.Name x p) (e :: es) [] pos) (tM kn X.K (callG g fs)) := pe_mono (pe_callB hc hg hm hv ha hn hdb he hpl) fun _ _ _ => tCB_of
theorem dm_typ {id : String} {g : List M → T M} {fs : DSt → T (List M)} (hc : CallR X (.type id) (rMs X.K g)) (hg : Gl X x) (hm : X.mg x = none) (hv : bootBuiltins x = some (.type id)) (ha : PA X (e :: es) (tL kn X.K fs)) (hn : x ≠ "__name__" := by decide)
    (hdb : (x == ("__debug__" : Str)) = false := by decide) (he : starEach (e :: es) X.env = (false, eval e X.env) :: starEach es X.env := by rfl) (hpl : (backTo pos (starEach es X.env)).any (·.1) = false := by rfl) :
    PE X (.Call (.Name x p) (e :: es) [] pos) (tM kn X.K (callG g fs)) := pe_mono (pe_callTy hc hg hm hv ha hn hdb he hpl) fun _ _ _ => tCB_of
end
def arg1 (g : M → T M) : List M → T M
  | [m] => g m
  | _ => .bad
def arg2 (g : M → M → T M) : List M → T M
  | [m, n] => g m n
  | _ => .bad
/-- a rule for one argument -/
def CallR1 (X : Cx) (f : Value) (g : M → T M) : Prop :=
  ∀ (pins : List (Addr × Obj)) (s : Shared) (σ : St) (H : Hp) (v : V) (u : Value) (Q : VK) (Z : Zone) (m : M) (F : List Addr), Inv X pins σ H s → RelV v u → MV X.K Z H m v F → (g m).all (Kon X.K Z H Q) →
    wpAny (model X.prog X.w) X.A (call f [u]) (EP X pins σ Q) X.xe s
theorem CallR1.to {X : Cx} {f : Value} {g : M → T M} (h : CallR1 X f g) : CallR X f (rMs X.K (arg1 g)) := by
  intro pins s σ H vs us Q I r ⟨Z, ms, mvs, q⟩
  cases mvs with
  | nil => exact q.elim
  | cons mv o t =>
    cases t with
    | nil =>
      obtain ⟨u, rfl, ru⟩ := vals1 r
      exact h pins s σ H _ u Q Z _ _ I ru mv q
    | cons _ _ _ => exact q.elim
def CallR2 (X : Cx) (f : Value) (g : M → M → T M) : Prop :=
  ∀ (pins : List (Addr × Obj)) (s : Shared) (σ : St) (H : Hp) (v w : V) (u y : Value) (Q : VK) (Z : Zone) (m n : M) (F F' : List Addr), Inv X pins σ H s → RelV v u → RelV w y → MV X.K Z H m v F → MV X.K Z H n w F' → (g m n).all (Kon X.K Z H Q) →
    wpAny (model X.prog X.w) X.A (call f [u, y]) (EP X pins σ Q) X.xe s
theorem CallR2.to {X : Cx} {f : Value} {g : M → M → T M} (h : CallR2 X f g) : CallR X f (rMs X.K (arg2 g)) := by
  intro pins s σ H vs us Q I r ⟨Z, ms, mvs, q⟩
  cases mvs with
  | nil => exact q.elim
  | cons mv o t =>
    cases t with
    | nil => exact q.elim
    | cons mw o2 t =>
      cases t with
      | nil =>
        obtain ⟨u, y, rfl, ru, ry⟩ := vals2 r
        exact h pins s σ H _ _ u y Q Z _ _ _ _ I ru ry mv mw q
      | cons _ _ _ => exact q.elim

def lenS (m : M) : T M := match m.seqD with
  | some ds => .ret (.pure (.int ds.length))
  | none => .bad
def lenM : M → T M
  | .pure (.str x) => if x.length ≤ sizeLine then .ret (.pure (.int x.length)) else .bad
  | .lst2 dss => .ret (.pure (.int dss.length))
  | m => lenS m
def tupM (m : M) : T M := match m.seqD with
  | some ds => .ret (.pure (.tuple ds))
  | none => .bad
def listM (m : M) : T M := match m.seqD with
  | some ds => .ret (.lst ds)
  | none => .bad
def intsD : List D → Option (List Int)
  | [] => some []
  | .int i :: r => (intsD r).map (i :: ·)
  | _ :: _ => none
def boolsD : List D → Option (List Bool)
  | [] => some []
  | .bool i :: r => (boolsD r).map (i :: ·)
  | _ :: _ => none
theorem intsD_eq : ∀ {ds : List D} {ns : List Int}, intsD ds = some ns → ds = ns.map .int
  | [], ns, h => by cases h; rfl
  | d :: r, ns, h => by
    cases d with
    | int i =>
      obtain ⟨ns', e, rfl⟩ := Option.map_eq_some_iff.mp (show (intsD r).map (i :: ·) = some ns from h)
      rw [intsD_eq e]
      rfl
    | _ => cases h
theorem boolsD_eq : ∀ {ds : List D} {ns : List Bool}, boolsD ds = some ns → ds = ns.map .bool
  | [], ns, h => by cases h; rfl
  | d :: r, ns, h => by
    cases d with
    | bool i =>
      obtain ⟨ns', e, rfl⟩ := Option.map_eq_some_iff.mp (show (boolsD r).map (i :: ·) = some ns from h)
      rw [boolsD_eq e]
      rfl
    | _ => cases h
@[simp] theorem intsD_map : ∀ ns : List Int, intsD (ns.map .int) = some ns
  | [] => rfl
  | n :: ns => by
    show (intsD (ns.map .int)).map (n :: ·) = _
    rw [intsD_map ns]
    rfl
@[simp] theorem boolsD_map : ∀ ns : List Bool, boolsD (ns.map .bool) = some ns
  | [] => rfl
  | n :: ns => by
    show (boolsD (ns.map .bool)).map (n :: ·) = _
    rw [boolsD_map ns]
    rfl
def sumM (m : M) : T M := match m.seqD with
  | some ds => match intsD ds with
    | some ns => .ret (.pure (.int ns.sum))
    | none => .bad
  | none => .bad
def allM (m : M) : T M := match m.listD with
  | some ds => match boolsD ds with
    | some bs => .ret (.pure (.bool (bs.all id)))
    | none => .bad
  | none => .bad
def anyM (m : M) : T M := match m.listD with
  | some ds => match boolsD ds with
    | some bs => .ret (.pure (.bool (bs.any id)))
    | none => .bad
  | none => .bad
def absM : M → T M
  | .pure (.int i) => .ret (.pure (.int (if i < 0 then -i else i)))
  | _ => .bad
def intM : M → T M
  | .pure (.int i) => .ret (.pure (.int i))
  | .pure (.bool b) => .ret (.pure (.int (if b then 1 else 0)))
  | _ => .bad
def max2M : M → M → T M
  | .pure (.int i), .pure (.int j) => .ret (.pure (.int (if j > i then j else i)))
  | _, _ => .bad
def min2M : M → M → T M
  | .pure (.int i), .pure (.int j) => .ret (.pure (.int (if j < i then j else i)))
  | _, _ => .bad
/-- the text of a value, of a size that fits -/
def showOk (d : D) : Prop := d.showable = true ∧ d.hasDict = false ∧ d.depth ≤ 64 ∧ d.shown.length ≤ sizeLine
instance (d : D) : Decidable (showOk d) := by unfold showOk; infer_instance
def reprM (m : M) : T M := match m.toD with
  | some d => if showOk d then .ret (.pure (.str d.shown)) else .bad
  | none => .bad
/-- data that can be sorted -/
def sortOk (ds : List D) : Prop := PySem.W.AllAlike ds ∧ PySem.W.Sortable ds ∧ ∀ d ∈ ds, d.depth ≤ 60
open Classical in
noncomputable def sortM (m : M) : T M := match m.listD with
  | some ds => if sortOk ds then .ret (.lst (ds.mergeSort (PySem.W.dataLe false id))) else .bad
  | none => .bad
section
variable {X : Cx}
theorem c_len : CallR1 X (.builtin "len") lenM := by
  intro pins s σ H v u Q Z m F I ru mv h
  have go : (lenS m).all (Kon X.K Z H Q) → wpAny (model X.prog X.w) X.A (call (.builtin "len") [u]) (EP X pins σ Q) X.xe s := fun h => by
    unfold lenS at h
    split at h
    · rename_i ds e
      obtain ⟨a, vs, rfl, l, f⟩ := mv_seq e mv
      refine call_len_seq pins s σ H [.ref a] [u] Q I (.cons ru .nil) ⟨a, vs, rfl, l.imp (fun l => l.sq) id, ?_⟩
      rw [f.length]
      exact kon_d h (.int _)
    · exact h.elim
  unfold lenM at h
  split at h
  · split at h
    · rename_i hz
      obtain rfl := fz_str mv.2
      exact call_len_str pins s σ H _ [u] Q I (.cons ru .nil) ⟨_, rfl, hz, kon_d h (.int _)⟩
    · exact h.elim
  · obtain ⟨a, bs, rfl, _, l, _, r⟩ := mv
    refine call_len_seq pins s σ H [.ref a] [u] Q I (.cons ru .nil) ⟨a, _, rfl, .inl (.of l), ?_⟩
    rw [List.length_map, r.length]
    exact kon_d h (.int _)
  · exact go h
theorem c_tuple : CallR1 X (.type "tuple") tupM := by
  intro pins s σ H v u Q Z m F I ru mv h
  unfold tupM at h
  split at h
  · rename_i ds e
    obtain ⟨a, vs, rfl, l, f⟩ := mv_seq e mv
    rcases l with l | l
    · exact call_tuple_of pins s σ H [.ref a] [u] Q I (.cons ru .nil) ⟨a, vs, rfl, .inl ⟨l.sq, fun p hp => kon_t h hp f⟩⟩
    · exact call_tuple_of pins s σ H [.ref a] [u] Q I (.cons ru .nil) ⟨a, vs, rfl, .inr ⟨l, kon_d h (.tup l f)⟩⟩
  · exact h.elim
theorem c_list : CallR1 X (.type "list") listM := by
  intro pins s σ H v u Q Z m F I ru mv h
  unfold listM at h
  split at h
  · rename_i ds e
    obtain ⟨a, vs, rfl, l, f⟩ := mv_seq e mv
    exact call_list_of pins s σ H [.ref a] [u] Q I (.cons ru .nil) ⟨a, vs, rfl, l.imp (fun l => l.sq) id, fun p hp => kon_l h hp f⟩
  · exact h.elim
theorem c_abs : CallR1 X (.builtin "abs") absM := by
  intro pins s σ H v u Q Z m F I ru mv h
  unfold absM at h
  split at h
  · obtain rfl := fz_int mv.2
    exact call_abs pins s σ H _ [u] Q I (.cons ru .nil) ⟨_, rfl, kon_d h (.int _)⟩
  · exact h.elim
theorem c_int : CallR1 X (.type "int") intM := by
  intro pins s σ H v u Q Z m F I ru mv h
  unfold intM at h
  split at h
  · obtain rfl := fz_int mv.2
    exact call_int1 pins s σ H _ [u] Q I (.cons ru .nil) (.inl ⟨_, rfl, kon_d h (.int _)⟩)
  · obtain rfl := fz_bl mv.2
    exact call_int1 pins s σ H _ [u] Q I (.cons ru .nil) (.inr ⟨_, rfl, kon_d h (.int _)⟩)
  · exact h.elim
theorem c_max2 (hc : X.calm = true) : CallR2 X (.builtin "max") max2M := by
  intro pins s σ H v w u y Q Z m n F F' I ru ry mv mw h
  unfold max2M at h
  split at h
  · obtain rfl := fz_int mv.2
    obtain rfl := fz_int mw.2
    exact call_max2 hc pins s σ H _ [u, y] Q I (.cons ru (.cons ry .nil)) ⟨_, _, rfl, kon_d h (.int _)⟩
  · exact h.elim
theorem c_min2 (hc : X.calm = true) : CallR2 X (.builtin "min") min2M := by
  intro pins s σ H v w u y Q Z m n F F' I ru ry mv mw h
  unfold min2M at h
  split at h
  · obtain rfl := fz_int mv.2
    obtain rfl := fz_int mw.2
    exact call_min2 hc pins s σ H _ [u, y] Q I (.cons ru (.cons ry .nil)) ⟨_, _, rfl, kon_d h (.int _)⟩
  · exact h.elim
theorem bools_of {K : PySem.W.Frag} {H : Hp} : ∀ {vs : List V} {bs : List Bool}, FzAll K H vs (bs.map .bool) → vs = bs.map V.bl
  | _, [], h => by cases h; rfl
  | _, b :: bs, h => by
    cases h with
    | cons a t =>
      cases a
      rw [bools_of t]
      rfl
theorem c_all (hc : X.calm = true) : CallR1 X (.builtin "all") allM := by
  intro pins s σ H v u Q Z m F I ru mv h
  unfold allM at h
  split at h
  · rename_i ds e
    split at h
    · rename_i bs e2
      obtain ⟨a, vs, rfl, l, f⟩ := mv_list e mv
      obtain rfl := bools_of (by rw [boolsD_eq e2] at f; exact f)
      exact cr_all hc pins s σ H [.ref a] [u] Q I (.cons ru .nil) ⟨a, bs, rfl, l.sq, kon_d h (.bl _)⟩
    · exact h.elim
  · exact h.elim
theorem c_any (hc : X.calm = true) : CallR1 X (.builtin "any") anyM := by
  intro pins s σ H v u Q Z m F I ru mv h
  unfold anyM at h
  split at h
  · rename_i ds e
    split at h
    · rename_i bs e2
      obtain ⟨a, vs, rfl, l, f⟩ := mv_list e mv
      obtain rfl := bools_of (by rw [boolsD_eq e2] at f; exact f)
      exact cr_any hc pins s σ H [.ref a] [u] Q I (.cons ru .nil) ⟨a, bs, rfl, l.sq, kon_d h (.bl _)⟩
    · exact h.elim
  · exact h.elim
theorem sum_tup_raw {prog : Program} {w : World} {A : Around} {E : Value → Shared → Prop} {s : Shared} {l : Addr} {its : List Value} {ns : List Int} {Q : Value → Shared → Prop} (hh : A.handled = none) (hl : s.heap.IsTuple l its.toArray) (hi : IntsAre its ns)
    (h : ∀ h' tk t', (∀ b o, s.heap.get? b = some o → h'.get? b = some o) → Q (.int ns.sum t') { s with heap := h', toks := tk }) : wpAny (model prog w) A (call (.builtin "sum") [.ref l]) Q E s := by
  obtain ⟨xs, e⟩ := hi.allInts.items
  have hn : numsOf (intItems xs).toList = ns := by rw [← e]; exact hi.numsOf
  rw [nums_intItems] at hn
  rw [e] at hl
  have hlt : l < s.heap.objs.size := by obtain ⟨_, q, _⟩ := hl; exact Heap.lt_size q
  refine call_sum_walkG (wpAny_pyIter_tuple hl ?_)
  refine ⟨_, _, _, _, _, _, numAt xs, rfl, Walks.tuple (A := A.in1) hh s.heap.objs.size l (Nat.ne_of_lt hlt) (intItems xs), ⟨⟨_, Heap.get?_push_size _ rfl, rfl, rfl⟩, hl.push _⟩, fun c hc => ?_, (fun _ _ => intItems_at), fun h' tk t' hk => ?_⟩
  · show c < (s.heap.push _).objs.size
    rw [Heap.size_push]
    rcases List.mem_cons.mp hc with rfl | hc
    · exact Nat.lt_succ_self _
    · rcases List.mem_cons.mp hc with rfl | hc
      · exact Nat.lt_succ_of_lt hlt
      · cases hc
  · have q := h h' tk t' fun b o eb => hk b o (fun hm => by
      rcases List.mem_cons.mp hm with rfl | hm
      · exact absurd (Heap.lt_size eb) (Nat.lt_irrefl _)
      · cases hm) (Heap.get?_push_of_some _ eb)
    have e2 : preSum (numAt xs) (intItems xs).size = ns.sum := by
      rw [preSum_eq, List.take_of_length_le (by simp [intItems]), hn]
    rw [e2]
    exact q
theorem c_sum (hc : X.calm = true) : CallR1 X (.builtin "sum") sumM := by
  intro pins s σ H v u Q Z m F I ru mv h
  unfold sumM at h
  split at h
  · rename_i ds e
    split at h
    · rename_i ns e2
      obtain ⟨a, vs, rfl, l, f⟩ := mv_seq e mv
      obtain rfl := FzAll.ints_of (by rw [intsD_eq e2] at f; exact f)
      rcases l with l | l
      · exact cr_sum hc pins s σ H [.ref a] [u] Q I (.cons ru .nil) ⟨a, ns, rfl, l.sq, kon_d h (.int _)⟩
      · obtain ⟨its, rv, hl, _⟩ := I.tuple l
        cases ru
        exact sum_tup_raw (I.ok.hd hc) hl rv.ints fun h' tk t' hk => ⟨.int _, H, I.kept hk, ⟨_, rfl⟩, kon_d h (.int _)⟩
    · exact h.elim
  · exact h.elim
theorem c_repr (hg : X.A.guards = some []) (hu : X.A.units + 70 < cLine) : CallR1 X (.builtin "repr") reprM := by
  intro pins s σ H v u Q Z m F I ru mv h
  unfold reprM at h
  split at h
  · rename_i d e
    split at h
    · rename_i hz
      obtain ⟨as, r⟩ := Dp.reads I d v u (mv_dp e (by first | exact hz.2.1 | exact ok.2.1) mv) ru
      obtain ⟨h1, h2, h3, h4⟩ := hz
      have sz : (sizeLine : Nat) = 16777216 := by rw [sizeLine_eq]
      have fin : ∀ (h' : Heap) (t : Tok) (tk : Nat), (∀ b o, s.heap.get? b = some o → h'.get? b = some o) → EP X pins σ Q (.str d.shown t) { s with heap := h', toks := tk } := fun h' t tk hk => ⟨.str _, H, I.kept hk, ⟨t, rfl⟩, kon_d h (.str _)⟩
      cases v with
      | non =>
        cases ru
        cases r
        exact PySem.P.repr_of_none (fin s.heap _ _ fun _ _ q => q)
      | bl b =>
        cases ru
        cases r
        exact PySem.P.repr_of_bool (fin s.heap _ _ fun _ _ q => q)
      | int i =>
        obtain ⟨t, rfl⟩ := ru
        cases r
        exact PySem.P.repr_of_int (of_decide_eq_true (show decide (_ < 1920) = true from h1)) (fin s.heap _ _ fun _ _ q => q)
      | str x =>
        obtain ⟨t, rfl⟩ := ru
        cases r
        exact PySem.P.repr_of_str (fin s.heap _ _ fun _ _ q => q) h4
      | ref a =>
        cases ru
        exact repr_of_reads' r h1 (fun q => by rw [h2] at q; cases q) hg (by omega) (fun _ _ q => q) (fun h' u tk hk => fin h' u tk hk) h4
      | byt _ => obtain ⟨t, rfl⟩ := ru; cases r
      | flt _ => obtain ⟨t, rfl⟩ := ru; cases r
      | ty _ => cases ru; cases r
    · exact h.elim
  · exact h.elim
theorem each_of {K : PySem.W.Frag} {H : Hp} : ∀ {vs : List V} {us : List Value} {ds : List D}, Vals vs us → FzAll K H vs ds → PySem.W.EachIs (fun u d => ∃ v, RelV v u ∧ Fz K H v d) us ds
  | _, _, _, .nil, h => by cases h; exact .nil
  | _, _, _, .cons r t, h => by
    cases h with
    | cons a b => exact .cons ⟨_, r, a⟩ (each_of t b)
theorem of_each {K : PySem.W.Frag} {H : Hp} : ∀ {us : List Value} {ds : List D}, PySem.W.EachIs (fun u d => ∃ v, RelV v u ∧ Fz K H v d) us ds → ∃ vs, Vals vs us ∧ FzAll K H vs ds
  | _, _, .nil => ⟨[], .nil, .nil⟩
  | _, _, .cons ⟨v, r, f⟩ t => let ⟨vs, a, b⟩ := of_each t; ⟨v :: vs, .cons r a, .cons f b⟩
mutual
theorem nd_alike : ∀ d : D, PySem.W.alike d d = true → d.hasDict = false
  | .none, _ => by simp [PyData.hasDict]
  | .bool _, _ => by simp [PyData.hasDict]
  | .int _, _ => by simp [PyData.hasDict]
  | .str _, _ => by simp [PyData.hasDict]
  | .list xs, h => by simpa [PyData.hasDict] using nda_alike xs (by simpa [PySem.W.alike] using h)
  | .tuple xs, h => by simpa [PyData.hasDict] using nda_alike xs (by simpa [PySem.W.alike] using h)
  | .dict _, h => by simp [PySem.W.alike] at h
theorem nda_alike : ∀ ds : List D, PySem.W.alikeAll ds ds = true → PyData.hasDictAll ds = false
  | [], _ => by simp [PyData.hasDictAll]
  | d :: ds, h => by
    have h' : PySem.W.alike d d = true ∧ PySem.W.alikeAll ds ds = true := by simpa [PySem.W.alikeAll] using h
    simp [PyData.hasDictAll, nd_alike d h'.1, nda_alike ds h'.2]
end
theorem reads_each (I : Inv X pins σ H s) : ∀ {vs : List V} {us : List Value} {ds : List D}, (∀ d ∈ ds, d.hasDict = false) → Vals vs us → FzAll X.K H vs ds → PySem.W.EachIs (fun u d => ∃ as, Reads s.heap u (id d) as) us ds
  | _, _, _, _, .nil, h => by cases h; exact .nil
  | _, _, _, hd, .cons r t, h => by
    cases h with
    | cons a b => exact .cons (Dp.reads I _ _ _ (a.dp (hd _ List.mem_cons_self)) r) (reads_each I (fun d h => hd d (List.mem_cons_of_mem _ h)) t b)
theorem c_sort (hu : X.A.units + 70 < cLine) : CallR1 X (.builtin "sorted") sortM := by
  intro pins s σ H v u Q Z m F I ru mv h
  unfold sortM at h
  split at h
  · rename_i ds e
    split at h
    · rename_i hz
      obtain ⟨h1, h2, h3⟩ := hz
      obtain ⟨a, vs, rfl, l, f⟩ := mv_list e mv
      cases ru
      obtain ⟨its, rv, hl, hlen⟩ := I.list (l.sq (K := X.K))
      refine PySem.W.sorted_data (enc := id) (bs := ds) hl.isList (each_of rv f) (reads_each I (fun d hd => nd_alike d (h1 d hd d hd)) rv f) (by rw [List.map_id]; exact h1) (by rw [List.map_id]; exact h2) (by rw [← f.length]; exact hlen) (fun b hb => ?_) fun out ho eo => ?_
      · have := h3 b hb
        show X.A.units + 2 + b.depth < cLine
        omega
      · obtain ⟨ws, r1, f1⟩ := of_each eo
        obtain ⟨ep, he'⟩ := PyProof.Rows.sortedAll_at s.heap its (List.toArray out)
        have k1 := f1.length
        have k2 := f.length
        have k3 : (ds.mergeSort (PySem.W.dataLe false id)).length = ds.length := List.length_mergeSort _
        exact ⟨.ref _, upd H (s.heap.objs.size + 1) (.lst ws), I.laid (t' := s.toks) (fun _ _ => PyProof.Rows.sortedAll_old) (Nat.le_succ _) ⟨by omega, out, ep, r1, he'⟩, rfl, kon_l h (I.hok.fresh (Nat.le_succ _)) f1⟩
    · exact h.elim
  · exact h.elim
end
end L2.Zy
namespace L2.Zy
open PySem PyProof.Rows PySem.Spec

/-! ## lists and tuples as sources of loops -/
inductive Kd where | l | t
def SqK (K : PySem.W.Frag) (H : Hp) : Kd → Addr → List V → Prop
  | .l, a, xs => SqL K H a xs
  | .t, a, xs => SqT K H a xs
def ItK (h : Heap) : Kd → Addr → Addr → Nat → Prop
  | .l, it, a, i => h.IsListIter it a i
  | .t, it, a, i => h.IsTupleIter it a i
def objK : Kd → Addr → Obj
  | .l, a => { cls := .type "list_iterator", data := .fields #[.ref a, .int 0 0] }
  | .t, a => { cls := .type "tuple_iterator", data := .fields #[.ref a, .int 0 0] }
def hasK (h : Heap) : Kd → Addr → Array Value → Prop
  | .l, a, its => h.IsList a its
  | .t, a, its => h.IsTuple a its
section
variable {X : Cx} {pins : List (Addr × Obj)} {σ : St} {H : Hp} {s : Shared} {a it : Addr} {xs ys : List V} {k : Kd} {i : Nat}
theorem sqk_at (I : Inv X pins σ H s) (h : SqK X.K H k a xs) : ∃ its : List Value, Vals xs its ∧ hasK s.heap k a its.toArray ∧ xs.length = its.length := by
  cases k with
  | l =>
    obtain ⟨its, r, p, _⟩ := I.list h
    exact ⟨its, r, p.isList, r.length⟩
  | t =>
    obtain ⟨its, r, p, _⟩ := I.tuple h
    exact ⟨its, r, p, r.length⟩
theorem sqk_len (I : Inv X pins σ H s) (h : SqK X.K H k a xs) : xs.length ≤ sizeLine := by
  cases k with
  | l =>
    obtain ⟨its, r, p, z⟩ := I.list h
    exact z
  | t =>
    obtain ⟨its, r, p, z⟩ := I.tuple h
    exact z
theorem sqk_inj (I : Inv X pins σ H s) (h : SqK X.K H k a xs) (h' : SqK X.K H k a ys) : xs = ys := by
  cases k with
  | l => exact I.list_inj h h'
  | t => exact I.tuple_inj h h'
theorem itk_obj {h : Heap} (st : ItK h k it a i) : ∃ o, h.get? it = some o ∧ ∀ v, o.data ≠ .cell v := by
  cases k with
  | l => obtain ⟨o, e, c, d⟩ := st; exact ⟨o, e, fun v z => by rw [d] at z; cases z⟩
  | t => obtain ⟨o, e, c, d⟩ := st; exact ⟨o, e, fun v z => by rw [d] at z; cases z⟩
theorem itk_keep {h h' : Heap} (st : ItK h k it a i) (kp : ∀ o, h.get? it = some o → h'.get? it = some o) : ItK h' k it a i := by
  cases k with
  | l => exact st.at kp
  | t => exact st.at kp
theorem itk_ne {h : Heap} {its : Array Value} (st : ItK h k it a i) (q : hasK h k a its) : a ≠ it := by
  rintro rfl
  cases k with
  | l =>
    obtain ⟨o, e, c, _⟩ := st
    obtain ⟨o', e', c', _⟩ := q
    rw [e] at e'
    cases e'
    rw [c] at c'
    exact absurd c' (by decide)
  | t =>
    obtain ⟨o, e, c, _⟩ := st
    obtain ⟨o', e', c', _⟩ := q
    rw [e] at e'
    cases e'
    rw [c] at c'
    exact absurd c' (by decide)
def stK (k : Kd) (it a : Addr) (its : Array Value) (i : Nat) (h : Heap) : Prop := ItK h k it a i ∧ hasK h k a its
theorem drawsK {A : Around} (hh : A.handled = none) {its : Array Value} (hne : a ≠ it) : Draws X.prog X.w A it [it, a] its.size (fun i v => its[i]? = some v) (stK k it a its) := by
  cases k with
  | l => exact .list hh it a hne its
  | t => exact .tuple hh it a hne its
theorem beginsK (k : Kd) (a : Addr) (its : Array Value) : Begins (.ref a) (objK k a) fun h => hasK h k a its := by
  cases k with
  | l => exact begins_list a its
  | t => exact begins_tuple a its
theorem itk_new {h : Heap} (e : h.get? it = some (objK k a)) : ItK h k it a 0 := by
  cases k with
  | l => exact ⟨_, e, rfl, rfl⟩
  | t => exact ⟨_, e, rfl, rfl⟩
end

/-! ### enumerate -/
def ItE (K : PySem.W.Frag) (k : Kd) (a : Addr) : It :=
  ⟨fun i H => ∃ xs x, SqK K H k a xs ∧ xs[i]? = some x, fun i H v H' => ∃ T x, v = .ref T ∧ H T = none ∧ H' = upd H T (.tup [.int (i : Nat), x]) ∧ ∀ xs, SqK K H k a xs → xs[i]? = some x, fun i H => ∃ xs, SqK K H k a xs ∧ xs.length = i⟩
set_option maxHeartbeats 1000000 in
theorem meets_enum1 {v : Value} {o : Obj} {H : Heap → Prop} (B : Begins v o H) :
    Meets (Builtin.«enumerate.__new__» ⟨[.type "enumerate", v], []⟩) (fun _ R s => H s.heap ∧
      R (.ok (.ret (.ref (s.heap.push o).objs.size))) { s with heap := (s.heap.push o).push { cls := .type "enumerate", data := .fields #[.none, .bool false, .ref s.heap.objs.size, rawInt 0, .none, .none] } }) :=
  .of_wp fun prog w A R s h => by
    obtain ⟨hp, g, d, tk, os⟩ := s
    obtain ⟨h1, h⟩ := h
    have hsub := sub_enumerate
    have q1 : ∀ {A' : Around} {E : Value → Shared → Prop} {Q : Value → Shared → Prop}, Q (.ref hp.objs.size) ⟨hp.push o, g, d, tk, os⟩ → wpAny (model prog w) A' (pyIter v) Q E ⟨hp, g, d, tk, os⟩ :=
      fun q => B.iter prog w _ _ ⟨hp, g, d, tk, os⟩ _ h1 q
    wp_walk using q1
    refine wpAny_stack_any fun st => wpAny_pure ?_
    split
    · rename_i c _ _ _ _ _
      cases (c == Value.type "enumerate") <;>
        (wp_walk using q1; exact ⟨_, rfl, h⟩)
    · wp_walk using q1
      exact ⟨_, rfl, h⟩
theorem enum1 {prog : Program} {w : World} {A : Around} {E : Value → Shared → Prop} {s : Shared} {v : Value} {o : Obj} {H : Heap → Prop} {Q : Value → Shared → Prop} (B : Begins v o H) (h1 : H s.heap)
    (h : ∀ h', IsEnum h' (s.heap.objs.size + 1) s.heap.objs.size 0 .none → h'.get? s.heap.objs.size = some o → h'.objs.size = s.heap.objs.size + 2 → (∀ b o, s.heap.get? b = some o → h'.get? b = some o) → Q (.ref (s.heap.objs.size + 1)) { s with heap := h' }) :
    wpAny (model prog w) A (call (.type "enumerate") [v]) Q E s := by
  refine callType_new PySem.F.called_enumerate (by decide) (PySem.F.typeCall_enumerate_1 _) (PySem.F.newCall_enumerate_1 _) (fun obj => PySem.F.args_object_init_2 obj _) PySem.F.entry_enumerate_new (meets_enum1 B) ⟨h1, ?_⟩
  have hz : (s.heap.push o).objs.size = s.heap.objs.size + 1 := Heap.size_push ..
  show _ ∧ _
  rw [hz]
  have he : IsEnum ((s.heap.push o).push { cls := .type "enumerate", data := .fields #[.none, .bool false, .ref s.heap.objs.size, rawInt 0, .none, .none] }) (s.heap.objs.size + 1) s.heap.objs.size 0 .none := by
    have q := Heap.get?_push_size (s.heap.push o) (o := { cls := .type "enumerate", data := .fields #[.none, .bool false, .ref s.heap.objs.size, rawInt 0, .none, .none] }) rfl
    rw [hz] at q
    exact q
  exact ⟨⟨_, he, rfl⟩, h _ he (Heap.get?_push_of_some _ (Heap.get?_push_size _ B.free)) (by rw [Heap.size_push, hz]) fun b o x => Heap.get?_push_of_some _ (Heap.get?_push_of_some _ x)⟩
theorem turn_enumK {P : Program} {w : World} {K : PySem.W.Frag} {elts : List Expr} {kk : Nat} {tpos : Pos} (k : Kd) (a e it : Addr) :
    Turn P w K (.Tuple elts kk tpos) (ItE K k a) [e, it] e (fun i h => (∃ old, IsEnum h e it ((i : Nat) : Int) old) ∧ ItK h k it a i ∧ e ≠ it) where
  mem := by simp
  obj := fun i h st b hb => by
    obtain ⟨⟨old, he⟩, hi, _⟩ := st
    have e' : b = e ∨ b = it := by simpa using hb
    rcases e' with rfl | rfl
    · exact ⟨_, he, fun v q => nomatch q⟩
    · exact itk_obj hi
  keep := fun i h h' st kp => let ⟨⟨old, he⟩, hi, hne⟩ := st; ⟨⟨old, kp e (by simp) _ he⟩, itk_keep hi fun o q => kp it (by simp) o q, hne⟩
  item := by
    intro X hP hw hK hc i pins s σ H E I hf st hg
    subst hP hw hK
    obtain ⟨⟨old, he⟩, hit, hne⟩ := st
    obtain ⟨xs, x, hq, hx⟩ := hg
    obtain ⟨its, rv, p, hlen⟩ := sqk_at I hq
    have hel : e < s.heap.objs.size := Heap.lt_size he
    have hil : it < s.heap.objs.size := let ⟨o, q, _⟩ := itk_obj hit; Heap.lt_size q
    have hai : a ≠ it := itk_ne hit p
    have hae : e ≠ a := by
      rintro rfl
      cases k with
      | l => obtain ⟨o, q, c, _⟩ := p; rw [he] at q; cases q; exact absurd c (show (Value.type "enumerate" : Value) ≠ Value.type "list" by decide)
      | t => obtain ⟨o, q, c, _⟩ := p; rw [he] at q; cases q; exact absurd c (show (Value.type "enumerate" : Value) ≠ Value.type "tuple" by decide)
    have hlt : i < its.toArray.size := by
      have q := (List.getElem?_eq_some_iff.mp hx).1
      rw [List.size_toArray]; omega
    refine wpAny_pyNext_enum_itemD (drawsK (X := X) (A := X.A.in1) (I.ok.hd hc) hai) he ⟨hit, p⟩ hlt hne (by simp [hne, hae]) fun u h' tk hu ho hit' hT hsz hk => ?_
    have ru : RelV x u := by
      obtain ⟨u', hu', r⟩ := rv.get hx
      have : u = u' := by
        have q : its[i]? = some u := by simpa using hu
        rw [hu'] at q; exact (Option.some.inj q).symm
      rw [this]; exact r
    refine ⟨_, rfl, wpAny_letOwnedTupleGo_enum (s := { s with heap := h', toks := tk + 1 }) ho fun h'' he' sb => ?_⟩
    have hT2 : h''.get? s.heap.objs.size = some { cls := .type "tuple", data := .seq #[.int i tk, u] } := (sb.2 _ (Nat.ne_of_gt hel)).trans hT
    have new : ObjOk X.prog X.w (upd H s.heap.objs.size (.tup [.int (i : Nat), x])) h'' s.heap.objs.size (.tup [.int (i : Nat), x]) :=
      ⟨by show 2 ≤ sizeLine; decide, [.int i tk, u], .cons ⟨_, rfl⟩ (.cons ru .nil), ⟨_, hT2, rfl, _, rfl⟩⟩
    have I1 : Inv X pins σ (upd H s.heap.objs.size (.tup [.int (i : Nat), x])) { s with heap := h'', toks := tk + 1 } :=
      I.turnedNew (ch := [e, it]) (fun b ob hb q => (sb.2 b (fun z => hb (by simp [z]))).trans (hk b ob (fun z => hb (by simp [z])) (fun z => hb (by simp [z])) q)) hf (Nat.le_refl _) new
    refine ⟨.ref s.heap.objs.size, _, I1, rfl, ⟨_, x, rfl, I.hok.fresh (Nat.le_refl _), rfl, fun ys hy => by rw [sqk_inj I hy hq]; exact hx⟩, ⟨⟨u, ?_⟩, itk_keep hit'.1 fun o q => (sb.2 it (Ne.symm hne)).trans q, hne⟩, fun b hb => ?_⟩
    · rw [show ((i + 1 : Nat) : Int) = (i : Int) + 1 by omega]; exact he'
    · have hb' : b < s.heap.objs.size := by
        have e' : b = e ∨ b = it := by simpa using hb
        rcases e' with rfl | rfl
        · exact hel
        · exact hil
      rw [upd_ne (Nat.ne_of_lt hb')]
      exact (hf b hb).1
  done := by
    intro X hP hw hK hc i pins s σ H E I hf st hg
    subst hP hw hK
    obtain ⟨⟨old, he⟩, hit, hne⟩ := st
    obtain ⟨xs, hq, hx⟩ := hg
    obtain ⟨its, rv, p, hlen⟩ := sqk_at I hq
    obtain ⟨f0, f1, f2, f3, f4, f5⟩ := hf it (by simp)
    have hi : i = its.toArray.size := by rw [List.size_toArray]; omega
    subst hi
    exact wpAny_pyNext_enum_endD (drawsK (X := X) (A := X.A.in1) (I.ok.hd hc) (itk_ne hit p)) he ⟨hit, p⟩ fun h' eb => ⟨rfl, I.turned (t' := s.toks) (fun b o hb q => eb b o hb q) f0 f1 f3 f4 f5⟩
  self := fun A i s Q E st h => let ⟨⟨_, he⟩, _⟩ := st; wpAny_pyIter_enum he h
def iEnumK (K : PySem.W.Frag) (ta : TA) : TI := fun σ H R => ta σ H fun vs H1 => ∃ k a xs, vs = [.ref a] ∧ SqK K H1 k a xs ∧ (xs.length ≤ sizeLine → R (ItE K k a) H1)
theorem pi_enumK {X : Cx} {e : Expr} {ta : TA} {p pos tpos : Pos} {elts : List Expr} {kk : Nat} (hg : Gl X "enumerate") (hm : X.mg "enumerate" = none) (ha : PA X [e] ta) (hs : starEach [e] X.env = [(false, eval e X.env)] := by rfl) :
    PI X (.Tuple elts kk tpos) (.Call (.Name "enumerate" p) [e] [] pos) (iEnumK X.K ta) := by
  refine ⟨fun pins s σ H R I h => ?_⟩
  refine Call_ (ld_blt I hg hm boot_enumerate (PyProof.Rows.callWith_type1 (thn (ha.run pos pins s σ H _ I h) fun us s1 ⟨vs, H1, I1, r1, q1⟩ => ?_) hs rfl))
  obtain ⟨k, a, xs, rfl, hq, q⟩ := q1
  obtain ⟨u, rfl, ru⟩ := vals1 r1
  cases ru
  obtain ⟨its, rv, p', hz⟩ := sqk_at I1 hq
  refine enum1 (beginsK k a its.toArray) p' fun h' he hit hsz hk => wpAny_pyIter_enum he ?_
  have I2 : Inv X pins σ H1 { s1 with heap := h' } := I1.kept (t' := s1.toks) hk
  refine ⟨s1.heap.objs.size + 1, [s1.heap.objs.size + 1, s1.heap.objs.size], _, _, H1, rfl, I2, turn_enumK k a (s1.heap.objs.size + 1) s1.heap.objs.size, ⟨⟨.none, he⟩, itk_new hit, Nat.succ_ne_self _⟩, fun b hb => ?_, q (sqk_len I1 hq)⟩
  have hle : s1.heap.objs.size ≤ b := by
    have e' : b = s1.heap.objs.size + 1 ∨ b = s1.heap.objs.size := by simpa using hb
    rcases e' with rfl | rfl
    · exact Nat.le_add_right _ _
    · exact Nat.le_refl _
  exact I1.fpOk hle (I1.hok.fresh hle)

/-! ### zip of two -/
def ItZ (K : PySem.W.Frag) (k1 k2 : Kd) (a b : Addr) : It :=
  ⟨fun i H => ∃ (xs ys : List V) (x y : V), SqK K H k1 a xs ∧ SqK K H k2 b ys ∧ xs[i]? = some x ∧ ys[i]? = some y,
    fun i H v H' => ∃ T x y, v = .ref T ∧ H T = none ∧ H' = upd H T (.tup [x, y]) ∧ (∀ xs, SqK K H k1 a xs → xs[i]? = some x) ∧ ∀ ys, SqK K H k2 b ys → ys[i]? = some y,
    fun i H => ∃ xs ys : List V, SqK K H k1 a xs ∧ SqK K H k2 b ys ∧ min xs.length ys.length = i⟩
theorem Value.rel_of {xs : List V} {its : List Value} {i : Nat} {x : V} {u : Value} (rv : Vals xs its) (hx : xs[i]? = some x) (hu : its.toArray[i]? = some u) : RelV x u := by
  obtain ⟨u', hu', r⟩ := rv.get hx
  have q : its[i]? = some u := by simpa using hu
  rw [hu'] at q
  rw [← Option.some.inj q]
  exact r
theorem zip_l : (Value.type "zip" : Value) ≠ Value.type "list" := by decide
theorem zip_t : (Value.type "zip" : Value) ≠ Value.type "tuple" := by decide
/-- the cells of the zip, its iterators' sources elsewhere -/
structure ZAp (z TI TO i1 i2 : Addr) : Prop where
  a : TI ≠ z
  b : TO ≠ z
  c : TI ≠ TO
  d : TI ≠ i1
  e : TI ≠ i2
  f : z ≠ i1
  g : z ≠ i2
  h : TO ≠ i1
  i : TO ≠ i2
  j : i1 ≠ i2
theorem cls_ne {h : Heap} {b c : Addr} {o : Obj} {k : Kd} {its : Array Value} (e : h.get? b = some o) (p : hasK h k c its) (n1 : o.cls ≠ .type "list") (n2 : o.cls ≠ .type "tuple") : b ≠ c := by
  rintro rfl
  cases k with
  | l => obtain ⟨o', q, c, _⟩ := p; rw [e] at q; cases q; exact n1 c
  | t => obtain ⟨o', q, c, _⟩ := p; rw [e] at q; cases q; exact n2 c
theorem itk_cls {h : Heap} {k : Kd} {it a : Addr} {i : Nat} (st : ItK h k it a i) : ∃ o, h.get? it = some o ∧ o.cls ≠ .type "list" ∧ o.cls ≠ .type "tuple" := by
  cases k with
  | l => obtain ⟨o, e, c, _⟩ := st; exact ⟨o, e, by rw [c]; decide, by rw [c]; decide⟩
  | t => obtain ⟨o, e, c, _⟩ := st; exact ⟨o, e, by rw [c]; decide, by rw [c]; decide⟩
theorem turn_zipK {P : Program} {w : World} {K : PySem.W.Frag} {elts : List Expr} {kk : Nat} {tpos : Pos} {k1 k2 : Kd} {a b z TI TO i1 i2 : Addr} (D : ZAp z TI TO i1 i2) :
    Turn P w K (.Tuple elts kk tpos) (ItZ K k1 k2 a b) [z, TI, TO, i1, i2] z (fun i h => IsZip h z TI TO .none ∧ IsTupOf2 h TI (.ref i1) (.ref i2) ∧ (∃ x y, IsTupOf2 h TO x y) ∧ ItK h k1 i1 a i ∧ ItK h k2 i2 b i ∧ TO ≠ a ∧ TO ≠ b) where
  mem := by simp
  obj := fun i h st c hc => by
    obtain ⟨hz, hTI, ⟨x, y, hTO⟩, h1, h2, _⟩ := st
    have e' : c = z ∨ c = TI ∨ c = TO ∨ c = i1 ∨ c = i2 := by simpa using hc
    rcases e' with rfl | rfl | rfl | rfl | rfl
    · exact ⟨_, hz, fun v q => nomatch q⟩
    · exact ⟨_, hTI, fun v q => nomatch q⟩
    · exact ⟨_, hTO, fun v q => nomatch q⟩
    · exact itk_obj h1
    · exact itk_obj h2
  keep := fun i h h' st kp => by
    obtain ⟨hz, hTI, ⟨x, y, hTO⟩, h1, h2, n⟩ := st
    exact ⟨kp z (by simp) _ hz, kp TI (by simp) _ hTI, ⟨x, y, kp TO (by simp) _ hTO⟩, itk_keep h1 fun o q => kp i1 (by simp) o q, itk_keep h2 fun o q => kp i2 (by simp) o q, n⟩
  item := by
    intro X hP hw hK hc i pins s σ H E I hf st hg
    subst hP hw hK
    obtain ⟨hz, hTI, ⟨x0, y0, hTO⟩, h1, h2, na, nb⟩ := st
    obtain ⟨xs, ys, x, y, hqx, hqy, hx, hy⟩ := hg
    obtain ⟨its, rv, p, l1⟩ := sqk_at I hqx
    obtain ⟨its2, rv2, p2, l2⟩ := sqk_at I hqy
    obtain ⟨o1, g1, c1, c1'⟩ := itk_cls h1
    obtain ⟨o2, g2, c2, c2'⟩ := itk_cls h2
    have hzl : z < s.heap.objs.size := Heap.lt_size hz
    have S : ZipSep2 z TI TO i1 i2 [i1, a] [i2, b] := { TIz := D.a, TOz := D.b, TITO := D.c, TIi1 := D.d, mem1 := by simp, zf1 := by simp [D.f, cls_ne hz p zip_l zip_t], Tf1 := by simp [D.h, na], TIi2 := D.e, mem2 := by simp, zf2 := by simp [D.g, cls_ne hz p2 zip_l zip_t], Tf2 := by simp [D.i, nb], sep1_2 := by simp [D.j, cls_ne g1 p2 c1 c1'], sep2_1 := by simp [D.j.symm, cls_ne g2 p c2 c2'] }
    have hl1 : i < its.toArray.size := by
      have q := (List.getElem?_eq_some_iff.mp hx).1
      rw [List.size_toArray]; omega
    have hl2 : i < its2.toArray.size := by
      have q := (List.getElem?_eq_some_iff.mp hy).1
      rw [List.size_toArray]; omega
    refine wpAny_pyNext_zipD2_item S (drawsK (X := X) (A := X.A.in1) (I.ok.hd hc) (itk_ne h1 p)) (drawsK (X := X) (A := X.A.in1) (I.ok.hd hc) (itk_ne h2 p2)) hz hTI hTO ⟨h1, p⟩ ⟨h2, p2⟩ hl1 hl2 fun u u2 h' tk hu hu2 z' TO' s1' s2' hT hsz hk => ?_
    have ru := Value.rel_of rv hx hu
    have ru2 := Value.rel_of rv2 hy hu2
    refine ⟨_, rfl, wpAny_letOwnedTupleGo_zip (s := { s with heap := h', toks := tk }) z' fun h'' z'' sb => ?_⟩
    have hT2 : h''.get? s.heap.objs.size = some { cls := .type "tuple", data := .seq #[u, u2] } := (sb.2 _ (Nat.ne_of_gt hzl)).trans hT
    have new : ObjOk X.prog X.w (upd H s.heap.objs.size (.tup [x, y])) h'' s.heap.objs.size (.tup [x, y]) :=
      ⟨by show 2 ≤ sizeLine; decide, [u, u2], .cons ru (.cons ru2 .nil), ⟨_, hT2, rfl, _, rfl⟩⟩
    have I1 : Inv X pins σ (upd H s.heap.objs.size (.tup [x, y])) { s with heap := h'', toks := tk } :=
      I.turnedNew (ch := [z, TI, TO, i1, i2]) (fun c o hb q => (sb.2 c (fun q' => hb (by simp [q']))).trans (hk c o (fun q' => hb (by simp [q'])) (fun q' => hb (by simp [q'])) (fun q' => hb (by simp [q'])) (fun q' => hb (by simp [q'])) q)) hf (Nat.le_refl _) new
    refine ⟨.ref s.heap.objs.size, _, I1, rfl, ⟨_, x, y, rfl, I.hok.fresh (Nat.le_refl _), rfl, fun l hl => by rw [sqk_inj I hl hqx]; exact hx, fun l hl => by rw [sqk_inj I hl hqy]; exact hy⟩, ⟨z'', ?_, ⟨u, u2, ?_⟩, ?_, ?_, na, nb⟩, fun c hcm => ?_⟩
    · exact (sb.2 _ D.a).trans (hk _ _ D.a D.c D.d D.e hTI)
    · exact (sb.2 _ D.b).trans TO'
    · exact itk_keep s1'.1 fun o q => (sb.2 _ D.f.symm).trans q
    · exact itk_keep s2'.1 fun o q => (sb.2 _ D.g.symm).trans q
    · have hlt : c < s.heap.objs.size := by
        have e' : c = z ∨ c = TI ∨ c = TO ∨ c = i1 ∨ c = i2 := by simpa using hcm
        rcases e' with rfl | rfl | rfl | rfl | rfl
        · exact hzl
        · exact Heap.lt_size hTI
        · exact Heap.lt_size hTO
        · exact Heap.lt_size g1
        · exact Heap.lt_size g2
      rw [upd_ne (Nat.ne_of_lt hlt)]
      exact (hf c hcm).1
  done := by
    intro X hP hw hK hc i pins s σ H E I hf st hg
    subst hP hw hK
    obtain ⟨hz, hTI, ⟨x0, y0, hTO⟩, h1, h2, na, nb⟩ := st
    obtain ⟨xs, ys, hqx, hqy, hend⟩ := hg
    obtain ⟨its, rv, p, l1⟩ := sqk_at I hqx
    obtain ⟨its2, rv2, p2, l2⟩ := sqk_at I hqy
    obtain ⟨o1, g1, c1, c1'⟩ := itk_cls h1
    obtain ⟨o2, g2, c2, c2'⟩ := itk_cls h2
    have S : ZipSep2 z TI TO i1 i2 [i1, a] [i2, b] := { TIz := D.a, TOz := D.b, TITO := D.c, TIi1 := D.d, mem1 := by simp, zf1 := by simp [D.f, cls_ne hz p zip_l zip_t], Tf1 := by simp [D.h, na], TIi2 := D.e, mem2 := by simp, zf2 := by simp [D.g, cls_ne hz p2 zip_l zip_t], Tf2 := by simp [D.i, nb], sep1_2 := by simp [D.j, cls_ne g1 p2 c1 c1'], sep2_1 := by simp [D.j.symm, cls_ne g2 p c2 c2'] }
    refine wpAny_pyNext_zipD2_end S (drawsK (X := X) (A := X.A.in1) (I.ok.hd hc) (itk_ne h1 p)) (drawsK (X := X) (A := X.A.in1) (I.ok.hd hc) (itk_ne h2 p2)) hz hTI hTO ⟨h1, p⟩ ⟨h2, p2⟩ (by rw [List.size_toArray]; omega) (by rw [List.size_toArray]; omega) (by rw [List.size_toArray, List.size_toArray]; omega) fun h' tk hk => ⟨rfl, I.turnedL (ch := [z, TI, TO, i1, i2]) (fun c o hb q =>
      hk c o (fun q' => hb (by simp [q'])) (fun q' => hb (by simp [q'])) (fun q' => hb (by simp [q'])) (fun q' => hb (by simp [q'])) q) hf⟩
  self := fun A i s Q E st h => wpAny_pyIter_zip st.1 h
def iZipK (K : PySem.W.Frag) (ta : TA) : TI := fun σ H R => ta σ H fun vs H1 => ∃ k1 k2 a b xs ys, vs = [.ref a, .ref b] ∧ SqK K H1 k1 a xs ∧ SqK K H1 k2 b ys ∧ (xs.length ≤ sizeLine → ys.length ≤ sizeLine → R (ItZ K k1 k2 a b) H1)
theorem pi_zipK {X : Cx} {e e2 : Expr} {ta : TA} {p pos tpos : Pos} {elts : List Expr} {kk : Nat} (hg : Gl X "zip") (hm : X.mg "zip" = none) (ha : PA X [e, e2] ta) (hs : starEach [e, e2] X.env = [(false, eval e X.env), (false, eval e2 X.env)] := by rfl)
    (hs2 : starEach [e2] X.env = [(false, eval e2 X.env)] := by rfl) : PI X (.Tuple elts kk tpos) (.Call (.Name "zip" p) [e, e2] [] pos) (iZipK X.K ta) := by
  refine ⟨fun pins s σ H R I h => ?_⟩
  refine Call_ (ld_blt I hg hm boot_zip (PyProof.Rows.callWith_type1 (thn (ha.run pos pins s σ H _ I h) fun us s1 ⟨vs, H1, I1, r1, q1⟩ => ?_) (by rw [hs, hs2]) (by rw [hs2]; rfl)))
  obtain ⟨k1, k2, a, b, xs, ys, rfl, hq, hq2, q⟩ := q1
  obtain ⟨u, u2, rfl, ru, ru2⟩ := vals2 r1
  cases ru
  cases ru2
  obtain ⟨its, rv, p1, hz⟩ := sqk_at I1 hq
  obtain ⟨its2, rv2, p2, hz2⟩ := sqk_at I1 hq2
  have low : ∀ {k : Kd} {c : Addr} {js : Array Value}, hasK s1.heap k c js → c < s1.heap.objs.size := fun {k c js} p => by
    cases k with
    | l => obtain ⟨o, e, _⟩ := p; exact Heap.lt_size e
    | t => obtain ⟨o, e, _⟩ := p; exact Heap.lt_size e
  have la := low p1
  have lb := low p2
  refine zip_begins2 (beginsK k1 a its.toArray) (beginsK k2 b its2.toArray) p1 p2 fun h' z1 t1 t2 g1 g2 hsz hk => wpAny_pyIter_zip z1 ?_
  have I2 : Inv X pins σ H1 { s1 with heap := h' } := I1.kept (t' := s1.toks) hk
  refine ⟨s1.heap.objs.size + 4, [s1.heap.objs.size + 4, s1.heap.objs.size + 2, s1.heap.objs.size + 3, s1.heap.objs.size, s1.heap.objs.size + 1], _, _, H1, rfl, I2, turn_zipK ?_, ⟨z1, t1, ⟨_, _, t2⟩, itk_new g1, itk_new g2, ?_, ?_⟩, fun c hc => ?_, q (sqk_len I1 hq) (sqk_len I1 hq2)⟩
  · constructor <;> (intro q; have q' : (_ : Nat) = _ := q; omega)
  · exact Nat.ne_of_gt (Nat.lt_of_lt_of_le la (Nat.le_add_right _ 3))
  · exact Nat.ne_of_gt (Nat.lt_of_lt_of_le lb (Nat.le_add_right _ 3))
  · have hle : s1.heap.objs.size ≤ c := by
      have e' : c = s1.heap.objs.size + 4 ∨ c = s1.heap.objs.size + 2 ∨ c = s1.heap.objs.size + 3 ∨ c = s1.heap.objs.size ∨ c = s1.heap.objs.size + 1 := by simpa using hc
      rcases e' with rfl | rfl | rfl | rfl | rfl <;> first | exact Nat.le_add_right _ _ | exact Nat.le_refl _
    exact I1.fpOk hle (I1.hok.fresh hle)
end L2.Zy
namespace L2.Zy
open PySem PyProof.Rows PySem.Spec

/-! ## what a loop walks, as data -/
structure ItOk (K : PySem.W.Frag) (R : Hp → Prop) (J : It) (ds : List D) : Prop where
  go : ∀ H i, R H → i < ds.length → J.go i H
  stop : ∀ H, R H → J.stop ds.length H
  yld : ∀ H i x H', R H → i < ds.length → J.yld i H x H' → Same H H' ∧ ∃ d, ds[i]? = some d ∧ Fz K H' x d
theorem ItOk.mono {K : PySem.W.Frag} {R R' : Hp → Prop} {J : It} {ds : List D} (h : ItOk K R J ds) (w : ∀ H, R' H → R H) : ItOk K R' J ds :=
  ⟨fun H i r => h.go H i (w H r), fun H r => h.stop H (w H r), fun H i x H' r => h.yld H i x H' (w H r)⟩
section
variable (kn : PotKeys) (K : PySem.W.Frag)
/-- of a loop's statement: the source never changes -/
def tIS (f : DSt → T (List D)) : TI := fun σ H R => ∃ Z st Fp, SR kn K Z H st σ Fp ∧ (f st).all fun ds => ∀ J H', Ext Z H H' → Z.Ok kn H' → ItOk K (Imm H') J ds → ds.length ≤ sizeLine → R J H'
/-- of a comprehension: the source stays while expressions run -/
def tIE (f : DSt → T (List D)) : TI := fun σ H R => ∃ Z st Fp, SR kn K Z H st σ Fp ∧ (f st).all fun ds => ∀ J H', Ext Z H H' → Z.Ok kn H' → ItOk K (Ext Z H') J ds → ds.length ≤ sizeLine → R J H'
end
def M.seqP : M → Option (List D)
  | .pure (.list ds) => some ds
  | .pure (.tuple ds) => some ds
  | _ => none
def itemsP (f : DSt → T M) : DSt → T (List D) := fun st => f st >>= fun m => T.ofO m.seqP
def itemsE (f : DSt → T M) : DSt → T (List D) := fun st => f st >>= fun m => T.ofO m.seqD
section
variable {X : Cx} {tg e e2 : Expr} {pos p : Pos} {kn : PotKeys}
theorem pi_mono {w w' : TI} (h : PI X tg e w) (k : ∀ σ H R, w' σ H R → w σ H R) : PI X tg e w' := ⟨fun pins s σ H R I q => h.run pins s σ H R I (k σ H R q)⟩
theorem pi_ES {f : DSt → T (List D)} (h : PI X tg e (tIS kn X.K f)) : PI X tg e (tIE kn X.K f) := pi_mono h fun σ H R ⟨Z, st, Fp, s, q⟩ =>
  ⟨Z, st, Fp, s, T.all_mono q fun ds hd J H' x z it hl => hd J H' x z (it.mono fun H2 x2 => x2.imm z) hl⟩
def ItSq (K : PySem.W.Frag) : Kd → Addr → It
  | .l, a => Itl K a
  | .t, a => Itt K a
def iSeqK (K : PySem.W.Frag) (tl : TE) : TI := fun σ H R => tl σ H fun x H1 => ∃ k a xs, x = .ref a ∧ SqK K H1 k a xs ∧ (xs.length ≤ sizeLine → R (ItSq K k a) H1)
theorem pi_seqK {tl : TE} (hl : PE X e tl) : PI X tg e (iSeqK X.K tl) := by
  refine ⟨fun pins s σ H R I h => ?_⟩
  refine thn (hl.run pins s σ H _ I h) fun v s1 ⟨x, H1, I1, r1, k, a, xs, e1, hq, q⟩ => ?_
  subst e1
  cases r1
  have hz := sqk_len I1 hq
  have fp : ∀ b ∈ [s1.heap.objs.size], FpOk X pins H1 b := fun b hb => by
    obtain rfl : b = s1.heap.objs.size := by simpa using hb
    exact I1.fpOk (Nat.le_refl _) (I1.hok.fresh (Nat.le_refl _))
  have kp : ∀ (o : Obj), Inv X pins σ H1 { s1 with heap := s1.heap.push o } := fun o => I1.kept (t' := s1.toks) fun b u eb => Heap.get?_push_of_some _ eb
  obtain ⟨its, rv, p', _⟩ := sqk_at I1 hq
  cases k with
  | l => exact wpAny_pyIter_list p' ⟨s1.heap.objs.size, [s1.heap.objs.size], _, _, H1, rfl, kp _, turn_list a _, ⟨_, Heap.get?_push_size _ rfl, rfl, rfl⟩, fp, q hz⟩
  | t => exact wpAny_pyIter_tuple p' ⟨s1.heap.objs.size, [s1.heap.objs.size], _, _, H1, rfl, kp _, turn_tuple a _, ⟨_, Heap.get?_push_size _ rfl, rfl, rfl⟩, fp, q hz⟩
theorem itOk_seq {K : PySem.W.Frag} {R : Hp → Prop} {k : Kd} {a : Addr} {xs : List V} {ds : List D} (st : ∀ H, R H → SqK K H k a xs ∧ FzAll K H xs ds) : ItOk K R (ItSq K k a) ds := by
  have at_ : ∀ H i, R H → i < ds.length → ∃ x, xs[i]? = some x ∧ ∃ d, ds[i]? = some d ∧ Fz K H x d := fun H i r hi => by
    obtain ⟨_, f⟩ := st H r
    obtain ⟨v, h1, h2⟩ := f.get' (List.getElem?_eq_getElem hi)
    exact ⟨v, h1, _, List.getElem?_eq_getElem hi, h2⟩
  cases k with
  | l =>
    refine ⟨fun H i r hi => ?_, fun H r => ?_, fun H i x H' r hi y => ?_⟩
    · obtain ⟨x, h1, _⟩ := at_ H i r hi
      exact ⟨xs, x, (st H r).1, h1⟩
    · exact ⟨xs, (st H r).1, Nat.le_of_eq (st H r).2.length⟩
    · obtain ⟨rfl, y⟩ := y
      obtain ⟨x', h1, d, h2, h3⟩ := at_ H' i r hi
      have e := y xs (st H' r).1
      rw [h1] at e
      rw [← Option.some.inj e]
      exact ⟨.refl _, d, h2, h3⟩
  | t =>
    refine ⟨fun H i r hi => ?_, fun H r => ?_, fun H i x H' r hi y => ?_⟩
    · obtain ⟨x, h1, _⟩ := at_ H i r hi
      exact ⟨xs, x, (st H r).1, h1⟩
    · exact ⟨xs, (st H r).1, Nat.le_of_eq (st H r).2.length⟩
    · obtain ⟨rfl, y⟩ := y
      obtain ⟨x', h1, d, h2, h3⟩ := at_ H' i r hi
      have e := y xs (st H' r).1
      rw [h1] at e
      rw [← Option.some.inj e]
      exact ⟨.refl _, d, h2, h3⟩
theorem seqP_at {K : PySem.W.Frag} {Z : Zone} {H : Hp} {m : M} {v : V} {F : List Addr} {ds : List D} (e : m.seqP = some ds) (mv : MV K Z H m v F) : ∃ k a xs, v = .ref a ∧ FzAll K H xs ds ∧ ∀ H', Imm H H' → SqK K H' k a xs ∧ FzAll K H' xs ds := by
  unfold M.seqP at e
  split at e
  · cases e
    obtain ⟨_, f⟩ := mv
    cases f with
    | lst x y => exact ⟨.l, _, _, rfl, y, fun H' i => ⟨(x.imm i).sq, y.imm i⟩⟩
  · cases e
    obtain ⟨_, f⟩ := mv
    cases f with
    | tup x y => exact ⟨.t, _, _, rfl, y, fun H' i => ⟨sqT_imm i x, y.imm i⟩⟩
  · cases e
theorem seqD_at {K : PySem.W.Frag} {Z : Zone} {H : Hp} {m : M} {v : V} {F : List Addr} {ds : List D} (z : Z.Ok kn H) (o : Off Z F) (e : m.seqD = some ds) (mv : MV K Z H m v F) : ∃ k a xs, v = .ref a ∧ FzAll K H xs ds ∧ ∀ H', Ext Z H H' → SqK K H' k a xs ∧ FzAll K H' xs ds := by
  unfold M.seqD at e
  split at e
  · cases e
    obtain ⟨_, f⟩ := mv
    cases f with
    | lst x y => exact ⟨.l, _, _, rfl, y, fun H' i => ⟨(x.imm (i.imm z)).sq, y.imm (i.imm z)⟩⟩
  · cases e
    obtain ⟨_, f⟩ := mv
    cases f with
    | tup x y => exact ⟨.t, _, _, rfl, y, fun H' i => ⟨sqT_imm (i.imm z) x, y.imm (i.imm z)⟩⟩
  · cases e
    obtain ⟨a, vs, rfl, rfl, x, y⟩ := mv
    have oa := o a (by simp)
    exact ⟨.l, a, vs, rfl, y, fun H' i => ⟨.of (i a _ x oa.1 oa.2), y.imm (i.imm z)⟩⟩
  · cases e
theorem di_seqS {f : DSt → T M} (h : PE X e (tPk kn X.K f)) : PI X tg e (tIS kn X.K (itemsP f)) := pi_mono (pi_seqK h) fun σ H R ⟨Z, st, Fp, s, q⟩ =>
  ⟨Z, st, Fp, s, T.all_mono (T.bind_all q) fun m hm v H1 F x1 z1 mv o => by
    cases e : m.seqP with
    | none => rw [e] at hm; exact hm.elim
    | some ds =>
      rw [e] at hm
      obtain ⟨k, a, xs, rfl, f0, w⟩ := seqP_at e mv
      exact ⟨k, a, xs, rfl, (w H1 .refl).1, fun hl => (hm : ∀ J H', _ → _ → _ → _ → R J H') _ H1 x1 z1 (itOk_seq w) (by rw [← f0.length]; exact hl)⟩⟩
theorem di_seqE {f : DSt → T M} (h : PE X e (tPk kn X.K f)) : PI X tg e (tIE kn X.K (itemsE f)) := pi_mono (pi_seqK h) fun σ H R ⟨Z, st, Fp, s, q⟩ =>
  ⟨Z, st, Fp, s, T.all_mono (T.bind_all q) fun m hm v H1 F x1 z1 mv o => by
    cases e : m.seqD with
    | none => rw [e] at hm; exact hm.elim
    | some ds =>
      rw [e] at hm
      obtain ⟨k, a, xs, rfl, f0, w⟩ := seqD_at z1 o e mv
      exact ⟨k, a, xs, rfl, (w H1 .refl).1, fun hl => (hm : ∀ J H', _ → _ → _ → _ → R J H') _ H1 x1 z1 (itOk_seq w) (by rw [← f0.length]; exact hl)⟩⟩

/-! ### range -/
def rangeL (lo : Int) (n : Nat) : List D := (List.range n).map fun i => .int (lo + (i : Nat))
theorem rangeL_len (lo : Int) (n : Nat) : (rangeL lo n).length = n := by simp [rangeL]
def range1 : List M → T (List D)
  | [.pure (.int j)] => if -16777216 ≤ j ∧ j ≤ 16777216 then .ret (rangeL 0 j.toNat) else .bad
  | _ => .bad
def range2 : List M → T (List D)
  | [.pure (.int i), .pure (.int j)] => if -16777216 ≤ i ∧ i ≤ 16777216 ∧ -16777216 ≤ j ∧ j ≤ 16777216 ∧ j - i ≤ 16777216 then .ret (rangeL i (j - i).toNat) else .bad
  | _ => .bad
theorem itOk_range {K : PySem.W.Frag} {R : Hp → Prop} (lo : Int) (n : Nat) : ItOk K R (Itr lo n) (rangeL lo n) := by
  refine ⟨fun H i r hi => ?_, fun H r => ?_, fun H i x H' r hi y => ?_⟩
  · rw [rangeL_len] at hi; exact hi
  · show n ≤ _
    rw [rangeL_len]; exact Nat.le_refl _
  · obtain ⟨rfl, rfl⟩ := y
    rw [rangeL_len] at hi
    exact ⟨.refl _, _, by simp [rangeL, hi], .int _⟩
theorem size_eq : (sizeLine : Nat) = 16777216 := by rw [sizeLine_eq]
theorem di_range1 {fs : DSt → T (List M)} (hg : Gl X "range") (hm : X.mg "range" = none) (ha : PA X [e] (tL kn X.K fs)) (hs : starEach [e] X.env = [(false, eval e X.env)] := by rfl) : PI X tg (.Call (.Name "range" p) [e] [] pos) (tIS kn X.K fun st => fs st >>= range1) :=
  pi_mono (pi_range1 hg hm ha hs) fun σ H R ⟨Z, st, Fp, s, q⟩ => ⟨Z, st, Fp, s, T.all_mono (T.bind_all q) fun ms hm vs H1 x1 z1 mvs => by
    unfold range1 at hm
    split at hm
    · split at hm
      · rename_i j hj
        cases mvs with
        | cons mv o t =>
          cases t
          obtain rfl := fz_int mv.2
          exact ⟨j, rfl, by omega, by omega, hm _ H1 x1 z1 (itOk_range 0 _) (by rw [rangeL_len, size_eq]; omega)⟩
      · exact hm.elim
    · exact hm.elim⟩
theorem di_range2 {fs : DSt → T (List M)} (hg : Gl X "range") (hm : X.mg "range" = none) (ha : PA X [e, e2] (tL kn X.K fs)) (hs : starEach [e, e2] X.env = [(false, eval e X.env), (false, eval e2 X.env)] := by rfl)
    (hs2 : starEach [e2] X.env = [(false, eval e2 X.env)] := by rfl) : PI X tg (.Call (.Name "range" p) [e, e2] [] pos) (tIS kn X.K fun st => fs st >>= range2) :=
  pi_mono (pi_range2 hg hm ha hs hs2) fun σ H R ⟨Z, st, Fp, s, q⟩ => ⟨Z, st, Fp, s, T.all_mono (T.bind_all q) fun ms hm vs H1 x1 z1 mvs => by
    unfold range2 at hm
    split at hm
    · split at hm
      · rename_i i j hj
        cases mvs with
        | cons mv o t =>
          cases t with
          | cons mv2 o2 t =>
            cases t
            obtain rfl := fz_int mv.2
            obtain rfl := fz_int mv2.2
            exact ⟨i, j, rfl, by omega, hm _ H1 x1 z1 (itOk_range i _) (by rw [rangeL_len, size_eq]; omega)⟩
      · exact hm.elim
    · exact hm.elim⟩

/-! ### enumerate, zip -/
def enumL (ds : List D) : List D := ds.zipIdx.map fun p => .tuple [.int (p.2 : Nat), p.1]
theorem enumL_len (ds : List D) : (enumL ds).length = ds.length := by simp [enumL]
def zipL (xs ys : List D) : List D := List.zipWith (fun a b => .tuple [a, b]) xs ys
theorem zipL_len (xs ys : List D) : (zipL xs ys).length = min xs.length ys.length := by simp [zipL]
theorem itOk_enum {K : PySem.W.Frag} {R : Hp → Prop} {k : Kd} {a : Addr} {xs : List V} {ds : List D} (w : ∀ H, R H → SqK K H k a xs ∧ FzAll K H xs ds) : ItOk K R (ItE K k a) (enumL ds) := by
  refine ⟨fun H i r hi => ?_, fun H r => ?_, fun H i x H' r hi y => ?_⟩
  · rw [enumL_len] at hi
    obtain ⟨v, h1, _⟩ := (w H r).2.get' (List.getElem?_eq_getElem hi)
    exact ⟨xs, v, (w H r).1, h1⟩
  · exact ⟨xs, (w H r).1, by rw [enumL_len]; exact (w H r).2.length⟩
  · rw [enumL_len] at hi
    obtain ⟨v, h1, h2⟩ := (w H r).2.get' (List.getElem?_eq_getElem hi)
    obtain ⟨T, u, rfl, hT, rfl, y⟩ := y
    have e' := y xs (w H r).1
    rw [h1] at e'
    obtain rfl := Option.some.inj e'
    exact ⟨same_new hT, _, by simp [enumL, hi], .tup (.of upd_same) (.cons (.int _) (.cons (h2.imm (.of_same (same_new hT))) .nil))⟩
theorem itOk_zip {K : PySem.W.Frag} {R : Hp → Prop} {k1 k2 : Kd} {a b : Addr} {xs ys : List V} {ds es : List D} (w : ∀ H, R H → SqK K H k1 a xs ∧ FzAll K H xs ds) (w2 : ∀ H, R H → SqK K H k2 b ys ∧ FzAll K H ys es) : ItOk K R (ItZ K k1 k2 a b) (zipL ds es) := by
  refine ⟨fun H i r hi => ?_, fun H r => ?_, fun H i x H' r hi y => ?_⟩
  · rw [zipL_len] at hi
    obtain ⟨v, h1, _⟩ := (w H r).2.get' (List.getElem?_eq_getElem (show i < ds.length by omega))
    obtain ⟨u, h2, _⟩ := (w2 H r).2.get' (List.getElem?_eq_getElem (show i < es.length by omega))
    exact ⟨xs, ys, v, u, (w H r).1, (w2 H r).1, h1, h2⟩
  · exact ⟨xs, ys, (w H r).1, (w2 H r).1, by rw [zipL_len, (w H r).2.length, (w2 H r).2.length]⟩
  · rw [zipL_len] at hi
    have l1 : i < ds.length := by omega
    have l2 : i < es.length := by omega
    obtain ⟨v, h1, f1⟩ := (w H r).2.get' (List.getElem?_eq_getElem l1)
    obtain ⟨u, h2, f2⟩ := (w2 H r).2.get' (List.getElem?_eq_getElem l2)
    obtain ⟨T, v', u', rfl, hT, rfl, y1, y2⟩ := y
    have e1 := y1 xs (w H r).1
    have e2 := y2 ys (w2 H r).1
    rw [h1] at e1
    rw [h2] at e2
    obtain rfl := Option.some.inj e1
    obtain rfl := Option.some.inj e2
    have im := Imm.of_same (same_new (o := .tup [v, u]) hT)
    exact ⟨same_new hT, _, by simp [zipL, List.getElem?_zipWith, l1, l2], .tup (.of upd_same) (.cons (f1.imm im) (.cons (f2.imm im) .nil))⟩
def enumP (fs : DSt → T (List M)) : DSt → T (List D) := fun st => fs st >>= fun ms => match ms with
  | [m] => T.ofO (m.seqP.map enumL)
  | _ => .bad
def enumE (fs : DSt → T (List M)) : DSt → T (List D) := fun st => fs st >>= fun ms => match ms with
  | [m] => T.ofO (m.seqD.map enumL)
  | _ => .bad
def zipP (fs : DSt → T (List M)) : DSt → T (List D) := fun st => fs st >>= fun ms => match ms with
  | [m, n] => match m.seqP, n.seqP with
    | some xs, some ys => .ret (zipL xs ys)
    | _, _ => .bad
  | _ => .bad
def zipE (fs : DSt → T (List M)) : DSt → T (List D) := fun st => fs st >>= fun ms => match ms with
  | [m, n] => match m.seqD, n.seqD with
    | some xs, some ys => .ret (zipL xs ys)
    | _, _ => .bad
  | _ => .bad
variable {elts : List Expr} {kk : Nat} {tpos : Pos}
theorem di_enumS {fs : DSt → T (List M)} (hg : Gl X "enumerate") (hm : X.mg "enumerate" = none) (ha : PA X [e] (tL kn X.K fs)) (hs : starEach [e] X.env = [(false, eval e X.env)] := by rfl) : PI X (.Tuple elts kk tpos) (.Call (.Name "enumerate" p) [e] [] pos) (tIS kn X.K (enumP fs)) :=
  pi_mono (pi_enumK hg hm ha hs) fun σ H R ⟨Z, st, Fp, s, q⟩ => ⟨Z, st, Fp, s, T.all_mono (T.bind_all q) fun ms hm vs H1 x1 z1 mvs => by
    split at hm
    · rename_i m
      cases mvs with
      | cons mv o t =>
        cases t
        cases e : m.seqP with
        | none => rw [e] at hm; exact hm.elim
        | some ds =>
          rw [e] at hm
          obtain ⟨k, a, xs, rfl, f0, w⟩ := seqP_at e mv
          exact ⟨k, a, xs, rfl, (w H1 .refl).1, fun hl => (hm : ∀ J H', _ → _ → _ → _ → R J H') _ H1 x1 z1 (itOk_enum w) (by rw [enumL_len, ← f0.length]; exact hl)⟩
    · exact hm.elim⟩
theorem di_enumE {fs : DSt → T (List M)} (hg : Gl X "enumerate") (hm : X.mg "enumerate" = none) (ha : PA X [e] (tL kn X.K fs)) (hs : starEach [e] X.env = [(false, eval e X.env)] := by rfl) : PI X (.Tuple elts kk tpos) (.Call (.Name "enumerate" p) [e] [] pos) (tIE kn X.K (enumE fs)) :=
  pi_mono (pi_enumK hg hm ha hs) fun σ H R ⟨Z, st, Fp, s, q⟩ => ⟨Z, st, Fp, s, T.all_mono (T.bind_all q) fun ms hm vs H1 x1 z1 mvs => by
    split at hm
    · rename_i m
      cases mvs with
      | cons mv o t =>
        cases t
        cases e : m.seqD with
        | none => rw [e] at hm; exact hm.elim
        | some ds =>
          rw [e] at hm
          obtain ⟨k, a, xs, rfl, f0, w⟩ := seqD_at z1 o e mv
          exact ⟨k, a, xs, rfl, (w H1 .refl).1, fun hl => (hm : ∀ J H', _ → _ → _ → _ → R J H') _ H1 x1 z1 (itOk_enum w) (by rw [enumL_len, ← f0.length]; exact hl)⟩
    · exact hm.elim⟩
theorem di_zipS {fs : DSt → T (List M)} (hg : Gl X "zip") (hm : X.mg "zip" = none) (ha : PA X [e, e2] (tL kn X.K fs)) (hs : starEach [e, e2] X.env = [(false, eval e X.env), (false, eval e2 X.env)] := by rfl)
    (hs2 : starEach [e2] X.env = [(false, eval e2 X.env)] := by rfl) : PI X (.Tuple elts kk tpos) (.Call (.Name "zip" p) [e, e2] [] pos) (tIS kn X.K (zipP fs)) :=
  pi_mono (pi_zipK hg hm ha hs hs2) fun σ H R ⟨Z, st, Fp, s, q⟩ => ⟨Z, st, Fp, s, T.all_mono (T.bind_all q) fun ms hm vs H1 x1 z1 mvs => by
    split at hm
    · rename_i m n
      split at hm
      · rename_i ds es e1 e2
        cases mvs with
        | cons mv o t =>
          cases t with
          | cons mv2 o2 t =>
            cases t
            obtain ⟨k, a, xs, rfl, f0, w⟩ := seqP_at e1 mv
            obtain ⟨k2, b, ys, rfl, f1, w2⟩ := seqP_at e2 mv2
            exact ⟨k, k2, a, b, xs, ys, rfl, (w H1 .refl).1, (w2 H1 .refl).1, fun hl hl2 => (hm : ∀ J H', _ → _ → _ → _ → R J H') _ H1 x1 z1 (itOk_zip w w2) (by rw [zipL_len, ← f0.length]; omega)⟩
      · exact hm.elim
    · exact hm.elim⟩
theorem di_zipE {fs : DSt → T (List M)} (hg : Gl X "zip") (hm : X.mg "zip" = none) (ha : PA X [e, e2] (tL kn X.K fs)) (hs : starEach [e, e2] X.env = [(false, eval e X.env), (false, eval e2 X.env)] := by rfl)
    (hs2 : starEach [e2] X.env = [(false, eval e2 X.env)] := by rfl) : PI X (.Tuple elts kk tpos) (.Call (.Name "zip" p) [e, e2] [] pos) (tIE kn X.K (zipE fs)) :=
  pi_mono (pi_zipK hg hm ha hs hs2) fun σ H R ⟨Z, st, Fp, s, q⟩ => ⟨Z, st, Fp, s, T.all_mono (T.bind_all q) fun ms hm vs H1 x1 z1 mvs => by
    split at hm
    · rename_i m n
      split at hm
      · rename_i ds es e1 e2
        cases mvs with
        | cons mv o t =>
          cases t with
          | cons mv2 o2 t =>
            cases t
            obtain ⟨k, a, xs, rfl, f0, w⟩ := seqD_at z1 o e1 mv
            obtain ⟨k2, b, ys, rfl, f1, w2⟩ := seqD_at z1 o2 e2 mv2
            exact ⟨k, k2, a, b, xs, ys, rfl, (w H1 .refl).1, (w2 H1 .refl).1, fun hl hl2 => (hm : ∀ J H', _ → _ → _ → _ → R J H') _ H1 x1 z1 (itOk_zip w w2) (by rw [zipL_len, ← f0.length]; omega)⟩
      · exact hm.elim
    · exact hm.elim⟩
end

/-! ## targets -/
/-- the lists that slots own: none but those of the same slot before -/
def SubF (st : DSt) (Fp : Nat → List Addr) (st' : DSt) (Fp' : Nat → List Addr) : Prop := ∀ j m a, st'[j]? = some (some m) → a ∈ Fp' j → ∃ m0, st[j]? = some (some m0) ∧ a ∈ Fp j
theorem SubF.refl {st : DSt} {Fp : Nat → List Addr} : SubF st Fp st Fp := fun j m a e h => ⟨m, e, h⟩
theorem SubF.trans {st st1 st2 : DSt} {Fp Fp1 Fp2 : Nat → List Addr} (a : SubF st Fp st1 Fp1) (b : SubF st1 Fp1 st2 Fp2) : SubF st Fp st2 Fp2 := fun j m c e h => let ⟨m0, e0, h0⟩ := b j m c e h; a j m0 c e0 h0
theorem SubF.set {st : DSt} {Fp : Nat → List Addr} {i : Nat} {m : M} : SubF st Fp (st.set i (some m)) fun j => if j = i then [] else Fp j := fun j m' a e h => by
  by_cases hj : j = i
  · simp only [if_pos hj] at h; cases h
  · simp only [if_neg hj] at h
    rw [List.getElem?_set_ne (Ne.symm hj)] at e
    exact ⟨m', e, h⟩
def tGD (kn : PotKeys) (K : PySem.W.Frag) (g : D → DSt → T DSt) : TG := fun v σ H Q => ∃ Z st Fp d, SR kn K Z H st σ Fp ∧ Fz K H v d ∧ (g d st).all fun st' => ∀ σ' Fp', SR kn K Z H st' σ' Fp' → SubF st Fp st' Fp' → Q σ' H
def tGDs (kn : PotKeys) (K : PySem.W.Frag) (g : List D → DSt → T DSt) : TGs := fun vs σ H Q => ∃ Z st Fp ds, SR kn K Z H st σ Fp ∧ FzAll K H vs ds ∧ (g ds st).all fun st' => ∀ σ' Fp', SR kn K Z H st' σ' Fp' → SubF st Fp st' Fp' → Q σ' H
def setD (i : Nat) : D → DSt → T DSt := fun d st => .ret (st.set i (some (.pure d)))
def unpD (n : Nat) (g : List D → DSt → T DSt) : D → DSt → T DSt := fun d st => match d with
  | .tuple ds => if ds.length = n then g ds st else .bad
  | _ => .bad
def nilG : List D → DSt → T DSt := fun ds st => match ds with
  | [] => .ret st
  | _ => .bad
def consG (g : D → DSt → T DSt) (gs : List D → DSt → T DSt) : List D → DSt → T DSt := fun ds st => match ds with
  | d :: r => g d st >>= gs r
  | [] => .bad
section
variable {X : Cx} {tg e : Expr} {es : List Expr} {pos : Pos} {kn : PotKeys}
theorem pg_mono {t t' : TG} (h : PG X tg t) (w : ∀ v σ H Q, t' v σ H Q → t v σ H Q) : PG X tg t' := ⟨fun pins s σ H v u Q I r q => h.run pins s σ H v u Q I r (w v σ H Q q)⟩
theorem pgs_mono {t t' : TGs} (h : PGs X es t) (w : ∀ v σ H Q, t' v σ H Q → t v σ H Q) : PGs X es t' := ⟨fun pins s σ H v u Q I r q => h.run pins s σ H v u Q I r (w v σ H Q q)⟩
theorem dg_nm {i : Nat} {x : Str} (hN : X.N.Nodup) (hi : X.N[i]? = some x) (hx : Loc X.env.scope x) (hf : X.fn x = true ∨ X.env.scope.names.lookup x = some .local := by first | exact .inl rfl | exact .inr rfl | assumption) : PG X (.Name x pos) (tGD kn X.K (setD i)) :=
  pg_mono (pg_name hN hi hx hf) fun v σ H Q ⟨Z, st, Fp, d, s, f, q⟩ => (q : ∀ σ' Fp', _ → _ → Q σ' H) _ _ (s.set' (i := i) (v := v) (F := []) (m := .pure d) ⟨rfl, f⟩ (fun _ h => nomatch h) fun _ _ _ _ _ h => nomatch h) .set
theorem dgs_nil : PGs X [] (tGDs kn X.K nilG) := pgs_mono pgs_nil fun vs σ H Q ⟨Z, st, Fp, ds, s, f, q⟩ => by
  unfold nilG at q
  split at q
  · cases f
    exact ⟨rfl, q σ Fp s .refl⟩
  · exact q.elim
theorem dgs_cons {g : D → DSt → T DSt} {gs : List D → DSt → T DSt} (h1 : PG X e (tGD kn X.K g)) (h2 : PGs X es (tGDs kn X.K gs)) (hs : (assignEach (e :: es) X.env).map (·.2) = assign e X.env :: (assignEach es X.env).map (·.2) := by rfl) : PGs X (e :: es) (tGDs kn X.K (consG g gs)) :=
  pgs_mono (pgs_cons h1 h2 hs) fun vs σ H Q ⟨Z, st, Fp, ds, s, f, q⟩ => by
    unfold consG at q
    split at q
    · cases f with
      | cons f1 f2 =>
        exact ⟨_, _, rfl, Z, st, Fp, _, s, f1, T.all_mono (T.bind_all q) fun st' h σ' Fp' s' sub => ⟨Z, st', Fp', _, s', f2, T.all_mono h fun st2 h2 σ2 Fp2 s2 sub2 => h2 σ2 Fp2 s2 (sub.trans sub2)⟩⟩
    · exact q.elim
theorem dg_tup {k n : Nat} {g : List D → DSt → T DSt} (hc : X.calm = true) (h : PGs X es (tGDs kn X.K g)) (hn : (assignEach es X.env).length = n := by rfl) (hst : (assignEach es X.env).findIdx? (·.1) = none := by rfl) : PG X (.Tuple es k pos) (tGD kn X.K (unpD n g)) :=
  pg_mono (pg_tup hc h hn hst) fun v σ H Q ⟨Z, st, Fp, d, s, f, q⟩ => by
    unfold unpD at q
    split at q
    · split at q
      · rename_i hl
        cases f with
        | tup s1 g1 => exact ⟨_, _, rfl, s1, by rw [g1.length]; exact hl, Z, st, Fp, _, s, g1, q⟩
      · exact q.elim
    · exact q.elim
end
end L2.Zy
namespace L2.Zy
open PySem PyProof.Rows PySem.Spec

/-! ## comprehensions -/
def wipeD (st : DSt) : List Nat → DSt
  | [] => st
  | v :: vs => (wipeD st vs).set v none
theorem wipeD_len (st : DSt) : ∀ vs : List Nat, (wipeD st vs).length = st.length
  | [] => rfl
  | v :: vs => by rw [wipeD, List.length_set, wipeD_len st vs]
theorem wipeD_some {st : DSt} {i : Nat} {m : M} : ∀ {vs : List Nat}, (wipeD st vs)[i]? = some (some m) → st[i]? = some (some m) ∧ i ∉ vs
  | [], h => ⟨h, by simp⟩
  | v :: vs, h => by
    unfold wipeD at h
    by_cases e : i = v
    · subst e
      by_cases hi : i < (wipeD st vs).length
      · rw [List.getElem?_set_self hi] at h
        cases h
      · rw [List.getElem?_eq_none (by rw [List.length_set]; omega)] at h
        cases h
    · rw [List.getElem?_set_ne (Ne.symm e)] at h
      obtain ⟨h1, h2⟩ := wipeD_some h
      exact ⟨h1, by simp [e, h2]⟩
theorem wipe_in {σ : St} {i : Nat} : ∀ {vs : List Nat}, i ∈ vs → (wipe σ vs)[i]? = if i < σ.length then some none else none
  | j :: vs, h => by
    unfold wipe
    by_cases e : i = j
    · subst e
      by_cases hi : i < σ.length
      · rw [List.getElem?_set_self (by rw [wipe_length]; exact hi), if_pos hi]
      · rw [List.getElem?_eq_none (by rw [List.length_set, wipe_length]; omega), if_neg hi]
    · rw [List.getElem?_set_ne (Ne.symm e)]
      exact wipe_in ((List.mem_cons.mp h).resolve_left e)
theorem wipe_wipe (σ : St) (vs : List Nat) : wipe (wipe σ vs) vs = wipe σ vs := by
  apply List.ext_getElem?
  intro i
  by_cases h : i ∈ vs
  · rw [wipe_in h, wipe_in h, wipe_length]
  · rw [wipe_out h]
theorem wipe_out' {σ : St} {i : Nat} {vs : List Nat} (h : i ∉ vs) : (wipe σ vs)[i]? = σ[i]? := wipe_out h
theorem SR.wipe {kn : PotKeys} {K : PySem.W.Frag} {Z : Zone} {H : Hp} {st : DSt} {σ : St} {Fp : Nat → List Addr} (s : SR kn K Z H st σ Fp) (vs : List Nat) : SR kn K Z H (wipeD st vs) (wipe σ vs) Fp :=
  s.weak (by rw [wipeD_len, wipe_length]; exact s.len) fun i m e => by
    obtain ⟨h1, h2⟩ := wipeD_some e
    exact ⟨h1, wipe_out h2⟩
def asD : M → T D
  | .pure d => .ret d
  | _ => .bad
def asL : M → T (List D)
  | .lst ds => .ret ds
  | _ => .bad
/-- [e for g in items if t] -/
def lcLoop {α : Type} (st : DSt) (g : D → DSt → T DSt) (t : DSt → T Bool) (e : DSt → T α) : List D → T (List α)
  | [] => .ret []
  | x :: xs => g x st >>= fun st' => t st' >>= fun b => if b = true then e st' >>= fun a => lcLoop st g t e xs >>= fun r => .ret (a :: r) else lcLoop st g t e xs
def lcD (vs : List Nat) (fi : DSt → T (List D)) (g : D → DSt → T DSt) (t : DSt → T Bool) (e : DSt → T M) : DSt → T M :=
  fun st => fi st >>= fun ds => lcLoop (wipeD st vs) g t (fun s => e s >>= asD) ds >>= fun r => .ret (.lst r)
/-- its items are lists of their own -/
def lcL (vs : List Nat) (fi : DSt → T (List D)) (g : D → DSt → T DSt) (t : DSt → T Bool) (e : DSt → T M) : DSt → T M :=
  fun st => fi st >>= fun ds => lcLoop (wipeD st vs) g t (fun s => e s >>= asL) ds >>= fun r => .ret (.lst2 r)
/-- the target leaves the other slots alone -/
def tGW (kn : PotKeys) (K : PySem.W.Frag) (vs : List Nat) (g : D → DSt → T DSt) : TG := fun v σ H Q => ∃ Z st Fp d, SR kn K Z H st σ Fp ∧ Fz K H v d ∧ (g d st).all fun st' => ∀ σ' Fp', SR kn K Z H st' σ' Fp' → SubF st Fp st' Fp' → wipe σ' vs = wipe σ vs → Q σ' H
def tGWs (kn : PotKeys) (K : PySem.W.Frag) (vs : List Nat) (g : List D → DSt → T DSt) : TGs := fun us σ H Q => ∃ Z st Fp ds, SR kn K Z H st σ Fp ∧ FzAll K H us ds ∧ (g ds st).all fun st' => ∀ σ' Fp', SR kn K Z H st' σ' Fp' → SubF st Fp st' Fp' → wipe σ' vs = wipe σ vs → Q σ' H
theorem wipe_set {σ : St} {i : Nat} {v : V} : ∀ {vs : List Nat}, i ∈ vs → wipe (σ.set i (some v)) vs = wipe σ vs
  | [], h => by cases h
  | j :: vs, h => by
    unfold wipe
    by_cases e : i = j
    · subst e
      have : ∀ us : List Nat, (wipe (σ.set i (some v)) us).set i none = (wipe σ us).set i none := fun us => by
        induction us with
        | nil => show (σ.set i (some v)).set i none = σ.set i none; rw [List.set_set]
        | cons u us ih =>
          unfold wipe
          by_cases q : u = i
          · subst q
            rw [ih]
          · rw [List.set_comm _ _ q, ih, List.set_comm _ _ (Ne.symm q)]
      exact this vs
    · have h' : i ∈ vs := (List.mem_cons.mp h).resolve_left e
      rw [wipe_set h']
section
variable {X : Cx} {tg e : Expr} {es : List Expr} {pos : Pos} {kn : PotKeys} {vs : List Nat}
theorem wg_nm {i : Nat} {x : Str} (hN : X.N.Nodup) (hi : X.N[i]? = some x) (hx : Loc X.env.scope x) (hv : i ∈ vs) (hf : X.fn x = true ∨ X.env.scope.names.lookup x = some .local := by first | exact .inl rfl | exact .inr rfl | assumption) : PG X (.Name x pos) (tGW kn X.K vs (setD i)) :=
  pg_mono (pg_name hN hi hx hf) fun v σ H Q ⟨Z, st, Fp, d, s, f, q⟩ => (q : ∀ σ' Fp', _ → _ → _ → Q σ' H) _ _ (s.set' (i := i) (v := v) (F := []) (m := .pure d) ⟨rfl, f⟩ (fun _ h => nomatch h) fun _ _ _ _ _ h => nomatch h) .set (wipe_set hv)
theorem wgs_nil : PGs X [] (tGWs kn X.K vs nilG) := pgs_mono pgs_nil fun us σ H Q ⟨Z, st, Fp, ds, s, f, q⟩ => by
  unfold nilG at q
  split at q
  · cases f
    exact ⟨rfl, q σ Fp s .refl rfl⟩
  · exact q.elim
theorem wgs_cons {g : D → DSt → T DSt} {gs : List D → DSt → T DSt} (h1 : PG X e (tGW kn X.K vs g)) (h2 : PGs X es (tGWs kn X.K vs gs)) (hs : (assignEach (e :: es) X.env).map (·.2) = assign e X.env :: (assignEach es X.env).map (·.2) := by rfl) : PGs X (e :: es) (tGWs kn X.K vs (consG g gs)) :=
  pgs_mono (pgs_cons h1 h2 hs) fun us σ H Q ⟨Z, st, Fp, ds, s, f, q⟩ => by
    unfold consG at q
    split at q
    · cases f with
      | cons f1 f2 =>
        exact ⟨_, _, rfl, Z, st, Fp, _, s, f1, T.all_mono (T.bind_all q) fun st' h σ' Fp' s' sub w => ⟨Z, st', Fp', _, s', f2, T.all_mono h fun st2 h2 σ2 Fp2 s2 sub2 w2 => h2 σ2 Fp2 s2 (sub.trans sub2) (w2.trans w)⟩⟩
    · exact q.elim
theorem wg_tup {k n : Nat} {g : List D → DSt → T DSt} (hc : X.calm = true) (h : PGs X es (tGWs kn X.K vs g)) (hn : (assignEach es X.env).length = n := by rfl) (hst : (assignEach es X.env).findIdx? (·.1) = none := by rfl) : PG X (.Tuple es k pos) (tGW kn X.K vs (unpD n g)) :=
  pg_mono (pg_tup hc h hn hst) fun v σ H Q ⟨Z, st, Fp, d, s, f, q⟩ => by
    unfold unpD at q
    split at q
    · split at q
      · rename_i hl
        cases f with
        | tup s1 g1 => exact ⟨_, _, rfl, s1, by rw [g1.length]; exact hl, Z, st, Fp, _, s, g1, q⟩
      · exact q.elim
    · exact q.elim
theorem pts_mono {ifs : List Expr} {t t' : TT} (h : PTs X ifs t) (w : ∀ σ H Q, t' σ H Q → t σ H Q) : PTs X ifs t' := ⟨fun pins s σ H Q I q => h.run pins s σ H Q I (w σ H Q q)⟩
def yesT : DSt → T Bool := fun _ => .ret true
theorem dts_nil : PTs X [] (tT kn X.K yesT) := pts_mono pts_nil fun σ H Q ⟨Z, st, Fp, s, q⟩ => (q : ∀ H', _ → _ → Q true H') H .refl s.zok
theorem dts_one {c : Expr} {f : DSt → T Bool} (h : PT X c (tT kn X.K f)) : PTs X [c] (tT kn X.K f) := pts_one h
/-- the list's items so far: values, or lists of their own -/
structure LcMake (K : PySem.W.Frag) (α : Type) (as : M → T α) (mk : List α → M) where
  Ac : Hp → List V → List α → List Addr → Prop
  nil : ∀ H, Ac H [] [] []
  keep : ∀ {H H' : Hp} {vs : List V} {xs : List α} {F : List Addr}, Imm H H' → (∀ a ∈ F, ∀ o, H a = some o → H' a = some o) → Ac H vs xs F → Ac H' vs xs F
  snoc : ∀ {Z : Zone} {H : Hp} {vs : List V} {xs : List α} {F F' : List Addr} {m : M} {v : V} {P : α → Prop}, Ac H vs xs F → MV K Z H m v F' → (∀ a ∈ F', a ∉ F) → (as m).all P → ∃ a, P a ∧ Ac H (vs ++ [v]) (xs ++ [a]) (F ++ F')
  len : ∀ {H : Hp} {vs : List V} {xs : List α} {F : List Addr}, Ac H vs xs F → vs.length = xs.length
  trk : ∀ {H : Hp} {vs : List V} {xs : List α} {F : List Addr}, Ac H vs xs F → ∀ a ∈ F, ∃ vs, H a = some (.lst vs)
  fin : ∀ {Z : Zone} {H : Hp} {vs : List V} {xs : List α} {F : List Addr} {p : Addr}, Ac H vs xs F → H p = some (.lst vs) → p ∉ F → MV K Z H (mk xs) (.ref p) (p :: F)
def lcMakeD (K : PySem.W.Frag) : LcMake K D asD M.lst where
  Ac := fun H vs xs F => F = [] ∧ FzAll K H vs xs
  nil := fun H => ⟨rfl, .nil⟩
  keep := fun i _ h => ⟨h.1, h.2.imm i⟩
  snoc := by
    intro Z H vs xs F F' m v P h mv n q
    unfold asD at q
    split at q
    · obtain ⟨rfl, f⟩ := mv
      exact ⟨_, q, by rw [h.1]; rfl, h.2.append (.cons f .nil)⟩
    · exact q.elim
  len := fun h => h.2.length
  trk := fun h a ha => by rw [h.1] at ha; cases ha
  fin := fun {Z H vs xs F p} h e n => by
    obtain ⟨rfl, f⟩ := h
    exact ⟨p, vs, rfl, rfl, e, f⟩
def lcMakeL (K : PySem.W.Frag) : LcMake K (List D) asL M.lst2 where
  Ac := fun H vs xs F => vs = F.map V.ref ∧ Rows K H F xs ∧ F.Nodup
  nil := fun H => ⟨rfl, .nil, .nil⟩
  keep := fun i k h => ⟨h.1, h.2.1.keep i k, h.2.2⟩
  snoc := by
    intro Z H vs xs F F' m v P h mv n q
    unfold asL at q
    split at q
    · obtain ⟨a, ws, rfl, rfl, e, f⟩ := mv
      refine ⟨_, q, by rw [h.1, List.map_append]; rfl, h.2.1.snoc e f, ?_⟩
      refine List.nodup_append.mpr ⟨h.2.2, by simp, fun b hb c hc => ?_⟩
      obtain rfl : c = a := by simpa using hc
      rintro rfl
      exact n b (by simp) hb
    · exact q.elim
  len := fun h => by rw [h.1, List.length_map, h.2.1.length]
  trk := fun h a ha => h.2.1.tracked a ha
  fin := fun {Z H vs xs F p} h e n => by
    obtain ⟨rfl, r, nd⟩ := h
    exact ⟨p, F, rfl, rfl, e, List.nodup_cons.mpr ⟨n, nd⟩, r⟩
theorem tLc_of {K : PySem.W.Frag} {α : Type} {as : M → T α} {mk : List α → M} (L : LcMake K α as mk) {fi : DSt → T (List D)} {g : D → DSt → T DSt} {t : DSt → T Bool} {f : DSt → T M} {σ : St} {H : Hp} {Q : VK}
    (h : tM kn K (fun st => fi st >>= fun ds => lcLoop (wipeD st vs) g t (fun s => f s >>= as) ds >>= fun r => .ret (mk r)) σ H Q) : tLc (tIE kn K fi) (tGW kn K vs g) (tT kn K t) (tM kn K f) vs σ H Q := by
  obtain ⟨Z, st, Fp, s, q⟩ := h
  refine ⟨Z, st, Fp, s, T.all_mono (T.bind_all q) fun ds hd J H1 x1 z1 it hl D hD => ?_⟩
  have hDp : some D ≠ Z.p := z1.isP hD
  have hDg : some D ≠ Z.g := z1.isG hD
  have hd' := T.bind_all hd
  refine ⟨fun i m H2 => i ≤ ds.length ∧ m = ds.length - i ∧ ∃ av xs F, H2 D = some (.lst av) ∧ L.Ac H2 av xs F ∧ (∀ a ∈ F, H1 a = none ∧ a ≠ D) ∧ Ext Z H1 H2 ∧ Z.Ok kn H2 ∧ av.length ≤ i ∧
      (lcLoop (wipeD st vs) g t (fun s => f s >>= as) (ds.drop i)).all (fun r => ∀ v H' F, Ext Z H H' → Z.Ok kn H' → MV K Z H' (mk (xs ++ r)) v F → (∀ a ∈ F, H a = none) → Q v H'),
    ⟨ds.length, Nat.zero_le _, rfl, [], [], [], upd_same, L.nil _, (fun a h => nomatch h), .of_same (same_new hD), z1.upd hDp hDg, Nat.le_refl _, ?_⟩, fun i m H2 ⟨hi, hm, av, xs, F, eD, ac, fr, x2, z2, la, w⟩ => ?_⟩
  · rw [List.drop_zero]
    exact T.all_mono hd' fun r hr => hr
  · by_cases hlt : i < ds.length
    · refine .inr ⟨it.go H2 i x2 hlt, fun H' => ∃ av xs F, H' D = some (.lst av) ∧ L.Ac H' av xs F ∧ (∀ a ∈ F, H1 a = none ∧ a ≠ D) ∧ Ext Z H1 H' ∧ Z.Ok kn H' ∧ av.length ≤ i + 1 ∧
        (lcLoop (wipeD st vs) g t (fun s => f s >>= as) (ds.drop (i + 1))).all (fun r => ∀ v H' F, Ext Z H H' → Z.Ok kn H' → MV K Z H' (mk (xs ++ r)) v F → (∀ a ∈ F, H a = none) → Q v H'), fun H' n' => ⟨ds.length - (i + 1), by omega, hlt, rfl, n'⟩, fun x H3 y => ?_⟩
      obtain ⟨sm, d, hdi, fz⟩ := it.yld H2 i x H3 x2 hlt y
      rw [List.drop_eq_getElem_cons hlt] at w
      have ed : ds[i] = d := by
        rw [List.getElem?_eq_getElem hlt] at hdi
        exact Option.some.inj hdi
      rw [ed] at w
      have x3 : Ext Z H1 H3 := x2.trans (.of_same sm)
      have z3 := z2.same sm
      have s3 : SR kn K Z H3 (wipeD st vs) (wipe σ vs) Fp := (s.ext (x1.trans x3) z3).wipe vs
      refine ⟨Z, _, Fp, d, s3, fz, T.all_mono (T.bind_all w) fun st4 h4 σ4 Fp4 s4 sub ww => ⟨ww.trans (wipe_wipe σ vs), Z, st4, Fp4, s4, T.all_mono (T.bind_all h4) fun b hb H5 x5 z5 => ?_⟩⟩
      have e3 : H3 D = some (.lst av) := sm _ _ eD
      have e5 : H5 D = some (.lst av) := x5 D _ e3 hDp hDg
      have Foff : ∀ {H' : Hp}, (∃ _ : L.Ac H' av xs F, True) → ∀ a ∈ F, some a ≠ Z.p ∧ some a ≠ Z.g := fun _ a ha => ⟨z1.isP (fr a ha).1, z1.isG (fr a ha).1⟩
      have ac5 : L.Ac H5 av xs F := L.keep ((Imm.of_same sm).trans (x5.imm z3)) (fun a ha o e => x5 a o (sm a o e) (Foff ⟨ac, trivial⟩ a ha).1 (Foff ⟨ac, trivial⟩ a ha).2) ac
      cases b with
      | false =>
        rw [if_neg Bool.false_ne_true] at hb
        refine iteF ?_
        exact ⟨av, xs, F, e5, ac5, fr, x3.trans x5, z5, Nat.le_succ_of_le la, hb⟩
      | true =>
        rw [if_pos rfl] at hb
        refine iteT ?_
        refine ⟨Z, st4, Fp4, s4.ext x5 z5, T.all_mono (T.bind_all (T.bind_all hb)) fun m hm v H6 F6 x6 z6 mv fr6 => ?_⟩
        have e6 : H6 D = some (.lst av) := x6 D _ e5 hDp hDg
        have ac6 : L.Ac H6 av xs F := L.keep (x6.imm z5) (fun a ha o e => x6 a o e (Foff ⟨ac, trivial⟩ a ha).1 (Foff ⟨ac, trivial⟩ a ha).2) ac5
        have nF : ∀ a ∈ F6, a ∉ F := fun a ha hb => by
          obtain ⟨_, t⟩ := L.trk ac5 a hb
          rw [fr6 a ha] at t
          cases t
        have nD : ∀ a ∈ F6, a ≠ D := fun a ha e => by
          have q := fr6 a ha
          rw [e, e5] at q
          cases q
        obtain ⟨a, pa, ac7⟩ := L.snoc ac6 mv nF hm
        refine ⟨av, e6, by rw [size_eq] at hl ⊢; omega, av ++ [v], xs ++ [a], F ++ F6, upd_same, ?_, ?_, ?_, z6.upd hDp hDg, by rw [List.length_append]; simp; omega, ?_⟩
        · refine L.keep ?_ (fun c hc o e => ?_) ac7
          · intro c o e i
            by_cases q : c = D
            · subst q; rw [e6] at e; cases e; cases i
            · rw [upd_ne q]; exact e
          · have q : c ≠ D := by
              rcases List.mem_append.mp hc with h | h
              · exact (fr c h).2
              · exact nD c h
            rw [upd_ne q]; exact e
        · intro c hc
          rcases List.mem_append.mp hc with h | h
          · exact fr c h
          · exact ⟨(x3.trans x5).none z5 (fr6 c h), nD c h⟩
        · intro c o e n1 n2
          have q : c ≠ D := fun q => by rw [q, hD] at e; cases e
          rw [upd_ne q]
          exact (x3.trans (x5.trans x6)) c o e n1 n2
        · refine T.all_mono (T.bind_all (show (lcLoop (wipeD st vs) g t (fun s => f s >>= as) (ds.drop (i + 1)) >>= fun r => T.ret (a :: r)).all _ from pa)) fun r hr => ?_
          have hr' : ∀ v H' F, Ext Z H H' → Z.Ok kn H' → MV K Z H' (mk (xs ++ (a :: r))) v F → (∀ a ∈ F, H a = none) → Q v H' := hr
          rw [List.append_assoc]
          exact hr'
    · have ei : i = ds.length := by omega
      subst ei
      refine .inl ⟨it.stop H2 x2, ?_⟩
      rw [List.drop_length] at w
      have w' : ∀ v H' F, Ext Z H H' → Z.Ok kn H' → MV K Z H' (mk (xs ++ [])) v F → (∀ a ∈ F, H a = none) → Q v H' := w
      rw [List.append_nil] at w'
      refine w' (.ref D) H2 (D :: F) (x1.trans x2) z2 (L.fin ac eD fun q => (fr D q).2 rfl) fun a ha => x1.none z1 ?_
      rcases List.mem_cons.mp ha with rfl | ha
      · exact hD
      · exact (fr a ha).1
end
end L2.Zy
namespace L2.Zy
open PySem PyProof.Rows PySem.Spec

section
variable {X : Cx} {kn : PotKeys} {elt tg iter : Expr} {ifs : List Expr} {scope : Scope} {own : List (Str × Nat)} {pos : Pos}
theorem dm_lc {fi : DSt → T (List D)} {g : D → DSt → T DSt} {t : DSt → T Bool} {f : DSt → T M} (hc : X.calm = true) (hN : X.N.Nodup) (ok : BlkOk X.N X.env.scope scope own) (hi : PI X tg iter (tIE kn X.K fi))
    (hg : ∀ (s : Shared) (H : Hp) (C : Addr) (cl : List (Str × Addr)) (fp : List Addr), PG (X.blk s H scope (compEnvC scope cl C X.env) fp) tg (tGW kn X.K (own.map (·.2)) g))
    (ht : ∀ (s : Shared) (H : Hp) (C : Addr) (cl : List (Str × Addr)) (fp : List Addr), PTs (X.blk s H scope (compEnvC scope cl C X.env) fp) ifs (tT kn X.K t))
    (he : ∀ (s : Shared) (H : Hp) (C : Addr) (cl : List (Str × Addr)) (fp : List Addr), PE (X.blk s H scope (compEnvC scope cl C X.env) fp) elt (tM kn X.K f)) (hs : ∀ x, foldedSetIterable iter X.env x = pure x := by intro _; rfl) :
    PE X (.ListComp elt [⟨tg, iter, ifs, 0⟩] scope pos) (tM kn X.K (lcD (own.map (·.2)) fi g t f)) :=
  pe_mono (pe_lc hc hN hi ok hg ht he hs) fun _ _ _ h => tLc_of (lcMakeD X.K) h
theorem dm_lcl {fi : DSt → T (List D)} {g : D → DSt → T DSt} {t : DSt → T Bool} {f : DSt → T M} (hc : X.calm = true) (hN : X.N.Nodup) (ok : BlkOk X.N X.env.scope scope own) (hi : PI X tg iter (tIE kn X.K fi))
    (hg : ∀ (s : Shared) (H : Hp) (C : Addr) (cl : List (Str × Addr)) (fp : List Addr), PG (X.blk s H scope (compEnvC scope cl C X.env) fp) tg (tGW kn X.K (own.map (·.2)) g))
    (ht : ∀ (s : Shared) (H : Hp) (C : Addr) (cl : List (Str × Addr)) (fp : List Addr), PTs (X.blk s H scope (compEnvC scope cl C X.env) fp) ifs (tT kn X.K t))
    (he : ∀ (s : Shared) (H : Hp) (C : Addr) (cl : List (Str × Addr)) (fp : List Addr), PE (X.blk s H scope (compEnvC scope cl C X.env) fp) elt (tM kn X.K f)) (hs : ∀ x, foldedSetIterable iter X.env x = pure x := by intro _; rfl) :
    PE X (.ListComp elt [⟨tg, iter, ifs, 0⟩] scope pos) (tM kn X.K (lcL (own.map (·.2)) fi g t f)) :=
  pe_mono (pe_lc hc hN hi ok hg ht he hs) fun _ _ _ h => tLc_of (lcMakeL X.K) h
end

/-! ## statements -/
inductive Fw where
  | nx | bk | ct | rt (m : M)
abbrev Sm := DSt → T (Fw × DSt)
section
variable (kn : PotKeys) (K : PySem.W.Frag) (H0 : Hp)
structure Sk (Z : Zone) (st : DSt) (σ : St) (H : Hp) (Fp : Nat → List Addr) : Prop where
  sr : SR kn K Z H st σ Fp
  old : Ext Z H0 H
  new : ∀ i m, st[i]? = some (some m) → ∀ a ∈ Fp i, H0 a = none
def Po (Z : Zone) (H : Hp) (E : Ends) : Fw × DSt → Prop
  | (.nx, st') => ∀ σ' H' Fp', Sk kn K H0 Z st' σ' H' Fp' → Imm H H' → E.nx σ' H'
  | (.bk, st') => ∀ σ' H' Fp', Sk kn K H0 Z st' σ' H' Fp' → Imm H H' → E.bk σ' H'
  | (.ct, st') => ∀ σ' H' Fp', Sk kn K H0 Z st' σ' H' Fp' → Imm H H' → E.ct σ' H'
  | (.rt m, _) => ∀ v H' F, Ext Z H0 H' → Z.Ok kn H' → MV K Z H' m v F → (∀ a ∈ F, H0 a = none) → E.rt v H'
def tS (s : Sm) : TS := fun E σ H => ∃ Z st Fp, Sk kn K H0 Z st σ H Fp ∧ (s st).all (Po kn K H0 Z H E)
end
section
variable {kn : PotKeys} {K : PySem.W.Frag} {H0 : Hp} {Z : Zone} {H H' : Hp} {st : DSt} {σ : St} {Fp : Nat → List Addr} {E E' : Ends}
theorem po_imm {x : Fw × DSt} (i : Imm H H') (h : Po kn K H0 Z H E x) : Po kn K H0 Z H' E x := by
  obtain ⟨f, st'⟩ := x
  cases f with
  | nx => exact fun σ' H2 Fp' s j => h σ' H2 Fp' s (i.trans j)
  | bk => exact fun σ' H2 Fp' s j => h σ' H2 Fp' s (i.trans j)
  | ct => exact fun σ' H2 Fp' s j => h σ' H2 Fp' s (i.trans j)
  | rt m => exact h
theorem Sk.ext (s : Sk kn K H0 Z st σ H Fp) (x : Ext Z H H') (z : Z.Ok kn H') : Sk kn K H0 Z st σ H' Fp := ⟨s.sr.ext x z, s.old.trans x, s.new⟩
theorem Sk.imm (s : Sk kn K H0 Z st σ H Fp) (x : Ext Z H H') : Imm H H' := x.imm s.sr.zok
theorem Sk.fresh (s : Sk kn K H0 Z st σ H Fp) {a : Addr} (h : H a = none) : H0 a = none := s.old.none s.sr.zok h
/-- a slot given a new value -/
theorem Sk.put (s : Sk kn K H0 Z st σ H Fp) (x : Ext Z H H') (z : Z.Ok kn H') {i : Nat} {m : M} {v : V} {F : List Addr} (mv : MV K Z H' m v F) (fr : ∀ a ∈ F, H a = none) :
    Sk kn K H0 Z (st.set i (some m)) (σ.set i (some v)) H' fun j => if j = i then F else Fp j := by
  refine ⟨(s.sr.ext x z).set' mv (.of_new s.sr.zok fr) fun j m' hj e a ha hb => ?_, s.old.trans x, fun j m' e a ha => ?_⟩
  · obtain ⟨_, _, hm⟩ := s.sr.at_ j m' e
    obtain ⟨_, t⟩ := hm.tracked a hb
    rw [fr a ha] at t
    cases t
  · by_cases hj : j = i
    · simp only [if_pos hj] at ha
      exact s.fresh (fr a ha)
    · simp only [if_neg hj] at ha
      rw [List.getElem?_set_ne (Ne.symm hj)] at e
      exact s.new j m' e a ha
end
def seqS (s1 s2 : Sm) : Sm := fun st => s1 st >>= fun x => match x.1 with
  | .nx => s2 x.2
  | _ => .ret x
def iteS (c : DSt → T Bool) (s1 s2 : Sm) : Sm := fun st => c st >>= fun b => if b = true then s1 st else s2 st
def skS : Sm := fun st => .ret (.nx, st)
def asgS (i : Nat) (f : DSt → T M) : Sm := fun st => f st >>= fun m => .ret (.nx, st.set i (some m))
def retS (f : DSt → T M) : Sm := fun st => f st >>= fun m => .ret (.rt m, st)
def drpS (f : DSt → T M) : Sm := fun st => f st >>= fun _ => .ret (.nx, st)
def frzI (i : Nat) (st : DSt) : T DSt := match st[i]? with
  | some (some m) => frz m >>= fun m' => .ret (st.set i (some m'))
  | _ => .bad
def frzS (i : Nat) (s : Sm) : Sm := fun st => frzI i st >>= s
def killS (is : List Nat) (s : Sm) : Sm := fun st => s (wipeD st is)
def loopS (b : D → Sm) : List D → Sm
  | [], st => .ret (.nx, st)
  | x :: xs, st => b x st >>= fun y => match y.1 with
    | .nx => loopS b xs y.2
    | .ct => loopS b xs y.2
    | .bk => .ret (.nx, y.2)
    | .rt m => .ret (.rt m, y.2)
def forS (fi : DSt → T (List D)) (ks : List Nat) (g : D → DSt → T DSt) (b : Sm) : Sm := fun st => fi st >>= fun ds => loopS (fun d st => g d st >>= b) ds (wipeD st ks)
def iterW (c : DSt → T Bool) (b : Sm) : Nat → Sm
  | 0, _ => .bad
  | n + 1, st => c st >>= fun k => if k = true then b st >>= fun y => match y.1 with
    | .nx => iterW c b n y.2
    | .ct => iterW c b n y.2
    | .bk => .ret (.nx, y.2)
    | .rt m => .ret (.rt m, y.2)
    else .ret (.nx, st)
open Classical in
noncomputable def whlS (c : DSt → T Bool) (b : Sm) : Sm := fun st => if h : ∃ n, (iterW c b n st).all fun _ => True then iterW c b h.choose st else .bad
section
variable {X : Cx} {kn : PotKeys} {H0 : Hp} {st : Stmt} {rest a b : List Stmt} {e c tg iter : Expr} {pos : Pos}
theorem ps_mono {t t' : TS} (h : PS X st t) (w : ∀ E σ H, t' E σ H → t E σ H) : PS X st t' := ⟨fun pins s σ H E I q => h.run pins s σ H E I (w E σ H q)⟩
theorem pss_mono {t t' : TS} (h : PSs X rest t) (w : ∀ E σ H, t' E σ H → t E σ H) : PSs X rest t' := ⟨fun pins s σ H E I q => h.run pins s σ H E I (w E σ H q)⟩
theorem ds_one {s : Sm} (h : PS X st (tS kn X.K H0 s)) : PSs X [st] (tS kn X.K H0 s) := pss_one h
theorem ds_nil : PSs X [] (tS kn X.K H0 skS) := pss_mono pss_nil fun E σ H ⟨Z, st, Fp, s, q⟩ => (q : ∀ σ' H' Fp', _ → _ → E.nx σ' H') σ H Fp s .refl
theorem ds_cons {s1 s2 : Sm} (h1 : PS X st (tS kn X.K H0 s1)) (h2 : PSs X rest (tS kn X.K H0 s2)) : PSs X (st :: rest) (tS kn X.K H0 (seqS s1 s2)) :=
  pss_mono (pss_cons h1 h2) fun E σ H ⟨Z, st, Fp, s, q⟩ => ⟨Z, st, Fp, s, T.all_mono (T.bind_all q) fun x hx => by
    obtain ⟨f, st'⟩ := x
    cases f with
    | nx => exact fun σ' H' Fp' s' i => ⟨Z, st', Fp', s', T.all_mono hx fun y hy => po_imm i hy⟩
    | bk => exact hx
    | ct => exact hx
    | rt m => exact hx⟩
theorem ds_if {fc : DSt → T Bool} {s1 s2 : Sm} (hc : PT X c (tT kn X.K fc)) (ha : PSs X a (tS kn X.K H0 s1)) (hb : PSs X b (tS kn X.K H0 s2)) : PS X (.If c a b pos) (tS kn X.K H0 (iteS fc s1 s2)) :=
  ps_mono (ps_if hc ha hb) fun E σ H ⟨Z, st, Fp, s, q⟩ => ⟨Z, st, Fp, s.sr, T.all_mono (T.bind_all q) fun k hk H1 x1 z1 => by
    cases k with
    | true =>
      rw [if_pos rfl] at hk
      exact iteT ⟨Z, st, Fp, s.ext x1 z1, T.all_mono hk fun y hy => po_imm (s.imm x1) hy⟩
    | false =>
      rw [if_neg Bool.false_ne_true] at hk
      exact iteF ⟨Z, st, Fp, s.ext x1 z1, T.all_mono hk fun y hy => po_imm (s.imm x1) hy⟩⟩
theorem asg_of {f : DSt → T M} {i : Nat} {E : Ends} {σ : St} {H : Hp} (h : tS kn X.K H0 (asgS i f) E σ H) : tAsg (tM kn X.K f) (gName i) E σ H := by
  obtain ⟨Z, st, Fp, s, q⟩ := h
  exact ⟨Z, st, Fp, s.sr, T.all_mono (T.bind_all q) fun m hm v H1 F x1 z1 mv fr => (hm : ∀ σ' H' Fp', _ → _ → E.nx σ' H') _ H1 _ (s.put x1 z1 mv fr) (s.imm x1)⟩
theorem ds_set {i : Nat} {x : Str} {f : DSt → T M} {pos' : Pos} (hN : X.N.Nodup) (hi : X.N[i]? = some x) (hx : Loc X.env.scope x) (he : PE X e (tM kn X.K f)) (hs : swapsWith e (some (.Name x pos')) pos.line X.env = pure false := by rfl)
    (hf : X.fn x = true ∨ X.env.scope.names.lookup x = some .local := by first | exact .inl rfl | exact .inr rfl | assumption) : PS X (.Assign [.Name x pos'] e pos) (tS kn X.K H0 (asgS i f)) :=
  ps_mono (ps_set hN hi hx he hs hf) fun _ _ _ => asg_of
theorem asg_lc {α : Type} {as : M → T α} {mk : List α → M} (L : LcMake X.K α as mk) {vs : List Nat} {fi : DSt → T (List D)} {g : D → DSt → T DSt} {t : DSt → T Bool} {f : DSt → T M} {i : Nat} {E : Ends} {σ : St} {H : Hp}
    (h : tS kn X.K H0 (asgS i fun st => fi st >>= fun ds => lcLoop (wipeD st vs) g t (fun s => f s >>= as) ds >>= fun r => .ret (mk r)) E σ H) : tAsg (tLc (tIE kn X.K fi) (tGW kn X.K vs g) (tT kn X.K t) (tM kn X.K f) vs) (gName i) E σ H :=
  tLc_of L (asg_of h)
variable {elt : Expr} {ifs : List Expr} {scope : Scope} {own : List (Str × Nat)} {spos py : Pos} {y : Str}
theorem ds_setLc {i : Nat} {fi : DSt → T (List D)} {g : D → DSt → T DSt} {t : DSt → T Bool} {f : DSt → T M} (hc : X.calm = true) (hN : X.N.Nodup) (hy : X.N[i]? = some y) (hyl : X.env.scope.names.lookup y = some .local)
    (hsw : swapsWith (.ListComp elt [⟨tg, iter, ifs, 0⟩] scope pos) (some (.Name y py)) spos.line X.env = pure true) (ok : BlkOk X.N X.env.scope scope own) (hi : PI X tg iter (tIE kn X.K fi))
    (hg : ∀ (s : Shared) (H : Hp) (C : Addr) (cl : List (Str × Addr)) (fp : List Addr), PG (X.blk s H scope (compEnvC scope cl C X.env) fp) tg (tGW kn X.K (own.map (·.2)) g))
    (ht : ∀ (s : Shared) (H : Hp) (C : Addr) (cl : List (Str × Addr)) (fp : List Addr), PTs (X.blk s H scope (compEnvC scope cl C X.env) fp) ifs (tT kn X.K t))
    (he : ∀ (s : Shared) (H : Hp) (C : Addr) (cl : List (Str × Addr)) (fp : List Addr), PE (X.blk s H scope (compEnvC scope cl C X.env) fp) elt (tM kn X.K f)) (hs : ∀ x, foldedSetIterable iter X.env x = pure x := by intro _; rfl) :
    PS X (.Assign [.Name y py] (.ListComp elt [⟨tg, iter, ifs, 0⟩] scope pos) spos) (tS kn X.K H0 (asgS i (lcD (own.map (·.2)) fi g t f))) :=
  ps_mono (ps_setLc hc hN hy hyl hsw hi ok hg ht he hs) fun _ _ _ h => asg_lc (lcMakeD X.K) h
theorem ds_setLcl {i : Nat} {fi : DSt → T (List D)} {g : D → DSt → T DSt} {t : DSt → T Bool} {f : DSt → T M} (hc : X.calm = true) (hN : X.N.Nodup) (hy : X.N[i]? = some y) (hyl : X.env.scope.names.lookup y = some .local)
    (hsw : swapsWith (.ListComp elt [⟨tg, iter, ifs, 0⟩] scope pos) (some (.Name y py)) spos.line X.env = pure true) (ok : BlkOk X.N X.env.scope scope own) (hi : PI X tg iter (tIE kn X.K fi))
    (hg : ∀ (s : Shared) (H : Hp) (C : Addr) (cl : List (Str × Addr)) (fp : List Addr), PG (X.blk s H scope (compEnvC scope cl C X.env) fp) tg (tGW kn X.K (own.map (·.2)) g))
    (ht : ∀ (s : Shared) (H : Hp) (C : Addr) (cl : List (Str × Addr)) (fp : List Addr), PTs (X.blk s H scope (compEnvC scope cl C X.env) fp) ifs (tT kn X.K t))
    (he : ∀ (s : Shared) (H : Hp) (C : Addr) (cl : List (Str × Addr)) (fp : List Addr), PE (X.blk s H scope (compEnvC scope cl C X.env) fp) elt (tM kn X.K f)) (hs : ∀ x, foldedSetIterable iter X.env x = pure x := by intro _; rfl) :
    PS X (.Assign [.Name y py] (.ListComp elt [⟨tg, iter, ifs, 0⟩] scope pos) spos) (tS kn X.K H0 (asgS i (lcL (own.map (·.2)) fi g t f))) :=
  ps_mono (ps_setLc hc hN hy hyl hsw hi ok hg ht he hs) fun _ _ _ h => asg_lc (lcMakeL X.K) h
theorem ds_ret {f : DSt → T M} (he : PE X e (tM kn X.K f)) : PS X (.Return (some e) pos) (tS kn X.K H0 (retS f)) :=
  ps_mono (ps_ret he) fun E σ H ⟨Z, st, Fp, s, q⟩ => ⟨Z, st, Fp, s.sr, T.all_mono (T.bind_all q) fun m hm v H1 F x1 z1 mv fr => (hm : ∀ v H' F, _ → _ → _ → _ → E.rt v H') v H1 F (s.old.trans x1) z1 mv fun a ha => s.fresh (fr a ha)⟩
/-- a list of the def's own is handed out -/
theorem ds_retMove (i : Nat) {x : Str} {p : Pos} (hN : X.N[i]? = some x := by rfl) (hv : Vis X.env.scope x := by first | exact Or.inl rfl | exact Or.inr (Or.inl rfl) | exact Or.inr (Or.inr rfl)) (hd : (x == ("__debug__" : Str)) = false := by decide)
    (hcd : (x == ("__classdict__" : Str)) = false := by decide) : PS X (.Return (some (.Name x p)) pos) (tS kn X.K H0 (retS (nm i))) :=
  ps_mono (ps_ret (pe_var hN hv hd hcd)) fun E σ H ⟨Z, st, Fp, s, q⟩ => by
    have q := T.bind_all q
    unfold nm at q
    split at q
    · rename_i m e
      obtain ⟨v, h1, h2⟩ := s.sr.at_ i m e
      exact ⟨v, h1, (q : ∀ v H' F, _ → _ → _ → _ → E.rt v H') v H (Fp i) s.old s.sr.zok h2 (s.new i m e)⟩
    · exact q.elim
theorem ds_expr {f : DSt → T M} (he : PE X e (tM kn X.K f)) (hs : swapsWith e none pos.line X.env = pure false := by rfl) : PS X (.Expr e pos) (tS kn X.K H0 (drpS f)) :=
  ps_mono (ps_expr he hs) fun E σ H ⟨Z, st, Fp, s, q⟩ => ⟨Z, st, Fp, s.sr, T.all_mono (T.bind_all q) fun m hm v H1 F x1 z1 mv fr => (hm : ∀ σ' H' Fp', _ → _ → E.nx σ' H') σ H1 Fp (s.ext x1 z1) (s.imm x1)⟩
theorem ds_pass : PS X (.Pass pos) (tS kn X.K H0 skS) := ps_mono ps_pass fun E σ H ⟨Z, st, Fp, s, q⟩ => (q : ∀ σ' H' Fp', _ → _ → E.nx σ' H') σ H Fp s .refl
theorem ds_break : PS X (.Break pos) (tS kn X.K H0 fun st => .ret (.bk, st)) := ps_mono ps_break fun E σ H ⟨Z, st, Fp, s, q⟩ => (q : ∀ σ' H' Fp', _ → _ → E.bk σ' H') σ H Fp s .refl
theorem ds_cont : PS X (.Continue pos) (tS kn X.K H0 fun st => .ret (.ct, st)) := ps_mono ps_continue fun E σ H ⟨Z, st, Fp, s, q⟩ => (q : ∀ σ' H' Fp', _ → _ → E.ct σ' H') σ H Fp s .refl
/-- code that is never reached -/
theorem ds_never : PS X st (tS kn X.K H0 fun _ => .bad) := ps_mono ps_never fun E σ H ⟨_, _, _, _, q⟩ => q.elim
theorem ds_asg {f : DSt → T M} {g : D → DSt → T DSt} (he : PE X e (tM kn X.K f)) (hg : PG X tg (tGD kn X.K g)) (hs : swapsWithSole [tg] e pos.line X.env = pure false := by rfl) (hw : swappedStores [tg] e X.env = pure none := by rfl)
    (h1 : (assignEach [tg] X.env).map (·.2) = [assign tg X.env] := by rfl) : PS X (.Assign [tg] e pos) (tS kn X.K H0 fun st => f st >>= fun m => asD m >>= fun d => g d st >>= fun st' => .ret (.nx, st')) :=
  ps_mono (ps_asg he hg hs hw h1) fun E σ H ⟨Z, st, Fp, s, q⟩ => ⟨Z, st, Fp, s.sr, T.all_mono (T.bind_all q) fun m hm v H1 F x1 z1 mv fr => by
    have hm := T.bind_all hm
    unfold asD at hm
    split at hm
    · refine ⟨Z, st, Fp, _, s.sr.ext x1 z1, mv.2, T.all_mono (T.bind_all hm) fun st' h σ' Fp' s' sub => (h : ∀ σ' H' Fp', _ → _ → E.nx σ' H') σ' H1 Fp' ⟨s', s.old.trans x1, fun i m' e a ha => ?_⟩ (s.imm x1)⟩
      obtain ⟨m0, e0, h0⟩ := sub i m' a e ha
      exact s.new i m0 e0 a h0
    · exact hm.elim⟩
end
end L2.Zy
namespace L2.Zy
open PySem PyProof.Rows PySem.Spec

/-! ## loops -/
section
variable {X : Cx} {kn : PotKeys} {H0 : Hp} {st : Stmt} {body rest : List Stmt} {e c tg iter : Expr} {pos : Pos}
theorem whl_get {c : DSt → T Bool} {b : Sm} {st : DSt} {P : Fw × DSt → Prop} (h : (whlS c b st).all P) : ∃ n, (iterW c b n st).all P := by
  unfold whlS at h
  split at h
  · exact ⟨_, h⟩
  · exact h.elim
theorem ds_while {fc : DSt → T Bool} {b : Sm} (hp : PassesOwn (model X.prog X.w) X.A X.env X.xe) (hc : PT X c (tT kn X.K fc)) (hb : PSs X body (tS kn X.K H0 b)) : PS X (.While c body [] pos) (tS kn X.K H0 (whlS fc b)) :=
  ps_mono (ps_while hp hc hb) fun E σ H ⟨Z, st, Fp, s, q⟩ => by
    obtain ⟨n, q⟩ := whl_get q
    refine ⟨fun m σ2 H2 => ∃ st2 Fp2, Sk kn X.K H0 Z st2 σ2 H2 Fp2 ∧ Imm H H2 ∧ (iterW fc b m st2).all (Po kn X.K H0 Z H E), ⟨n, st, Fp, s, .refl, q⟩, fun m σ2 H2 ⟨st2, Fp2, s2, i2, w⟩ => ?_⟩
    cases m with
    | zero => exact w.elim
    | succ m =>
      refine ⟨Z, st2, Fp2, s2.sr, T.all_mono (T.bind_all w) fun k hk H3 x3 z3 => ?_⟩
      have s3 := s2.ext x3 z3
      have i3 : Imm H H3 := i2.trans (s2.imm x3)
      cases k with
      | true =>
        rw [if_pos rfl] at hk
        refine iteT ⟨fun σ' H' => ∃ st2 Fp2, Sk kn X.K H0 Z st2 σ' H' Fp2 ∧ Imm H H' ∧ (iterW fc b m st2).all (Po kn X.K H0 Z H E), fun σ' H' n => ⟨m, Nat.lt_succ_self _, n⟩, Z, st2, Fp2, s3, T.all_mono (T.bind_all hk) fun y hy => ?_⟩
        obtain ⟨f, st5⟩ := y
        cases f with
        | nx => exact fun σ' H' Fp' s' j => ⟨st5, Fp', s', i3.trans j, hy⟩
        | ct => exact fun σ' H' Fp' s' j => ⟨st5, Fp', s', i3.trans j, hy⟩
        | bk => exact fun σ' H' Fp' s' j => (hy : ∀ σ' H' Fp', _ → _ → E.nx σ' H') σ' H' Fp' s' (i3.trans j)
        | rt m => exact hy
      | false =>
        rw [if_neg Bool.false_ne_true] at hk
        exact iteF ((hk : ∀ σ' H' Fp', _ → _ → E.nx σ' H') σ2 H3 Fp2 s3 i3)

/-! ## ghost steps -/
theorem sk_frz {pins : List (Addr × Obj)} {s : Shared} {σ : St} {H : Hp} {Z : Zone} {st : DSt} {Fp : Nat → List Addr} {i : Nat} {P : DSt → Prop} (I : Inv X pins σ H s) (k : Sk kn X.K H0 Z st σ H Fp) (h : (frzI i st).all P) :
    ∃ H' st' Fp', P st' ∧ Inv X pins σ H' s ∧ Sk kn X.K H0 Z st' σ H' Fp' ∧ Imm H H' := by
  unfold frzI at h
  split at h
  · rename_i m e
    obtain ⟨v, hv, mv⟩ := k.sr.at_ i m e
    obtain ⟨H', m', p, I', kp, mv', im⟩ := frz_run I mv (T.bind_all h)
    have off := k.sr.off i m e
    have z' : Z.Ok kn H' := by
      exact k.sr.zok.keep fun c o ec q => kp c o ec fun m => q.elim (off _ m).1 (off _ m).2
    refine ⟨H', st.set i (some m'), _, p, I', ⟨k.sr.mut e hv im (fun a ha o ea => kp a o ea ha) mv' (fun _ h => nomatch h) (fun _ h => nomatch h) z', fun a o ea h1 h2 => kp a o (k.old a o ea h1 h2) fun q => ?_, fun j m2 ej a ha => ?_⟩, im⟩
    · rw [k.new i m e a q] at ea
      cases ea
    · by_cases hj : j = i
      · simp only [if_pos hj] at ha; cases ha
      · simp only [if_neg hj] at ha
        rw [List.getElem?_set_ne (Ne.symm hj)] at ej
        exact k.new j m2 ej a ha
  · exact h.elim
theorem ds_frz (i : Nat) {s : Sm} (h : PS X st (tS kn X.K H0 s)) : PS X st (tS kn X.K H0 (frzS i s)) := by
  refine ⟨fun pins sh σ H E I ⟨Z, d, Fp, k, q⟩ => ?_⟩
  obtain ⟨H', d', Fp', p, I', k', im⟩ := sk_frz I k (T.bind_all q)
  exact h.run pins sh σ H' E I' ⟨Z, d', Fp', k', T.all_mono p fun y hy => po_imm im hy⟩
theorem dss_frz (i : Nat) {s : Sm} (h : PSs X rest (tS kn X.K H0 s)) : PSs X rest (tS kn X.K H0 (frzS i s)) := by
  refine ⟨fun pins sh σ H E I ⟨Z, d, Fp, k, q⟩ => ?_⟩
  obtain ⟨H', d', Fp', p, I', k', im⟩ := sk_frz I k (T.bind_all q)
  exact h.run pins sh σ H' E I' ⟨Z, d', Fp', k', T.all_mono p fun y hy => po_imm im hy⟩
theorem Sk.kill {Z : Zone} {H : Hp} {st : DSt} {σ : St} {Fp : Nat → List Addr} {K : PySem.W.Frag} (k : Sk kn K H0 Z st σ H Fp) (is : List Nat) : Sk kn K H0 Z (wipeD st is) σ H Fp :=
  ⟨k.sr.weak (by rw [wipeD_len]; exact k.sr.len) fun i m e => ⟨(wipeD_some e).1, rfl⟩, k.old, fun i m e => k.new i m (wipeD_some e).1⟩
theorem ds_for {fi : DSt → T (List D)} {ks : List Nat} {g : D → DSt → T DSt} {b : Sm} (hp : PassesOwn (model X.prog X.w) X.A X.env X.xe) (hc : X.calm = true) (hi : PI X tg iter (tIS kn X.K fi)) (hg : PG X tg (tGD kn X.K g)) (hb : PSs X body (tS kn X.K H0 b))
    (hs : ∀ x, foldedSetIterable iter X.env x = pure x := by intro _; rfl) : PS X (.For tg iter body [] pos) (tS kn X.K H0 (forS fi ks g b)) :=
  ps_mono (ps_for hp hc hi hg hb hs) fun E σ H ⟨Z, st, Fp, s, q⟩ => ⟨Z, st, Fp, s.sr, T.all_mono (T.bind_all q) fun ds hd J H1 x1 z1 it hl => by
    refine ⟨fun i m σ2 H2 => i ≤ ds.length ∧ m = ds.length - i ∧ ∃ st2 Fp2, Sk kn X.K H0 Z st2 σ2 H2 Fp2 ∧ Imm H1 H2 ∧ (loopS (fun d st => g d st >>= b) (ds.drop i) st2).all (Po kn X.K H0 Z H1 E),
      ⟨ds.length, Nat.zero_le _, rfl, _, Fp, (s.ext x1 z1).kill ks, .refl, by rw [List.drop_zero]; exact T.all_mono hd fun y hy => po_imm (s.imm x1) hy⟩, fun i m σ2 H2 ⟨hi, hm, st2, Fp2, s2, i2, w⟩ => ?_⟩
    by_cases hlt : i < ds.length
    · refine .inr ⟨it.go H2 i i2 hlt, fun σ' H' => ∃ st2 Fp2, Sk kn X.K H0 Z st2 σ' H' Fp2 ∧ Imm H1 H' ∧ (loopS (fun d st => g d st >>= b) (ds.drop (i + 1)) st2).all (Po kn X.K H0 Z H1 E), fun σ' H' n => ⟨ds.length - (i + 1), by omega, hlt, rfl, n⟩, fun x H3 y => ?_⟩
      obtain ⟨sm, d, hdi, fz⟩ := it.yld H2 i x H3 i2 hlt y
      rw [List.drop_eq_getElem_cons hlt] at w
      have ed : ds[i] = d := by
        rw [List.getElem?_eq_getElem hlt] at hdi
        exact Option.some.inj hdi
      rw [ed] at w
      have s3 : Sk kn X.K H0 Z st2 σ2 H3 Fp2 := s2.ext (.of_same sm) (s2.sr.zok.same sm)
      have w1 := T.bind_all (T.bind_all w)
      refine ⟨Z, st2, Fp2, d, s3.sr, fz, T.all_mono w1 fun st4 h4 σ4 Fp4 s4 sub => ⟨Z, st4, Fp4, ⟨s4, s3.old, fun j m' e a ha => ?_⟩, T.all_mono h4 fun y hy => ?_⟩⟩
      · obtain ⟨m0, e0, h0⟩ := sub j m' a e ha
        exact s3.new j m0 e0 a h0
      · have i3 : Imm H1 H3 := i2.trans (.of_same sm)
        obtain ⟨f, st5⟩ := y
        cases f with
        | nx => exact fun σ' H' Fp' s' j => ⟨st5, Fp', s', i3.trans j, hy⟩
        | ct => exact fun σ' H' Fp' s' j => ⟨st5, Fp', s', i3.trans j, hy⟩
        | bk => exact fun σ' H' Fp' s' j => (hy : ∀ σ' H' Fp', _ → _ → E.nx σ' H') σ' H' Fp' s' (i3.trans j)
        | rt m => exact hy
    · have ei : i = ds.length := by omega
      subst ei
      rw [List.drop_length] at w
      exact .inl ⟨it.stop H2 i2, (w : ∀ σ' H' Fp', _ → _ → E.nx σ' H') σ2 H2 Fp2 s2 i2⟩⟩
theorem ds_kill (is : List Nat) {s : Sm} (h : PS X st (tS kn X.K H0 s)) : PS X st (tS kn X.K H0 (killS is s)) := ps_mono h fun E σ H ⟨Z, d, Fp, k, q⟩ => ⟨Z, _, Fp, k.kill is, q⟩
theorem dss_kill (is : List Nat) {s : Sm} (h : PSs X rest (tS kn X.K H0 s)) : PSs X rest (tS kn X.K H0 (killS is s)) := pss_mono h fun E σ H ⟨Z, d, Fp, k, q⟩ => ⟨Z, _, Fp, k.kill is, q⟩

/-! ## a, b = x, y -/
def par2 (i j : Nat) (fa fb : DSt → T M) : Sm := fun st => fa st >>= fun m => fb st >>= fun n => .ret (.nx, (st.set i (some m)).set j (some n))
def par3 (i j l : Nat) (fa fb fc : DSt → T M) : Sm := fun st => fa st >>= fun m => fb st >>= fun n => fc st >>= fun o => .ret (.nx, ((st.set i (some m)).set j (some n)).set l (some o))
variable {a b d : Expr}
theorem put_apart {Z : Zone} {K : PySem.W.Frag} {H H' : Hp} {m : M} {v : V} {F F' : List Addr} (mv : MV K Z H m v F) (fr : ∀ x ∈ F', H x = none) : ∀ x ∈ F', x ∉ F := fun x hx hF => by
  obtain ⟨_, t⟩ := mv.tracked x hF
  rw [fr x hx] at t
  cases t
/-- another slot given a new value, laid before the last of the heap -/
theorem Sk.put2 {Z : Zone} {K : PySem.W.Frag} {H H1 H2 : Hp} {st : DSt} {σ : St} {Fp : Nat → List Addr} (k : Sk kn K H0 Z st σ H Fp) (x1 : Ext Z H H1) (z1 : Z.Ok kn H1) (x2 : Ext Z H1 H2) (z2 : Z.Ok kn H2) {i j : Nat} {m n : M} {v w : V} {F F' : List Addr}
    (mv : MV K Z H1 m v F) (fr : ∀ a ∈ F, H a = none) (mw : MV K Z H2 n w F') (fr' : ∀ a ∈ F', H1 a = none) :
    Sk kn K H0 Z ((st.set i (some m)).set j (some n)) ((σ.set i (some v)).set j (some w)) H2 fun l => if l = j then F' else if l = i then F else Fp l :=
  (k.put x1 z1 mv fr).put x2 z2 mw fr'
theorem ds_par {i j : Nat} {x y : Str} {fa fb : DSt → T M} {px py pt : Pos} {kt : Nat} {k2 : Nat} {pt2 : Pos} (hc : X.calm = true) (hN : X.N.Nodup) (hi : X.N[i]? = some x) (hj : X.N[j]? = some y) (hij : i ≠ j)
    (hx : X.env.scope.names.lookup x = some .local) (hy : X.env.scope.names.lookup y = some .local) (ha : PE X a (tM kn X.K fa)) (hb : PE X b (tM kn X.K fb))
    (hw : swappedStores [.Tuple [.Name x px, .Name y py] kt pt] (.Tuple [a, b] k2 pt2) X.env = pure (some [x, y]))
    (hs : swapsWithSole [.Tuple [.Name x px, .Name y py] kt pt] (.Tuple [a, b] k2 pt2) pos.line X.env = pure false := by rfl) (h1 : starEach [a, b] X.env = (false, eval a X.env) :: starEach [b] X.env := by rfl) (h2 : starEach [b] X.env = (false, eval b X.env) :: starEach [] X.env := by rfl) :
    PS X (.Assign [.Tuple [.Name x px, .Name y py] kt pt] (.Tuple [a, b] k2 pt2) pos) (tS kn X.K H0 (par2 i j fa fb)) :=
  ps_mono (ps_par hc hN hi hj hij hx hy (pa_cons ha (pa_cons hb pa_nil h2) h1) hw hs) fun E σ H ⟨Z, st, Fp, k, q⟩ =>
    ⟨Z, st, Fp, k.sr, T.all_mono (T.bind_all q) fun m hm v H1 F x1 z1 mv fr => ⟨Z, st, Fp, k.sr.ext x1 z1, T.all_mono (T.bind_all hm) fun n hn w H2 F' x2 z2 mw fr' =>
      ⟨v, w, rfl, (hn : ∀ σ' H' Fp', _ → _ → E.nx σ' H') _ H2 _ (k.put2 x1 z1 x2 z2 mv fr mw fr') ((k.imm x1).trans (x2.imm z1))⟩⟩⟩
theorem ds_par3 {i j l : Nat} {x y z : Str} {fa fb fd : DSt → T M} {px py pz pt : Pos} {kt : Nat} {k2 : Nat} {pt2 : Pos} (hc : X.calm = true) (hN : X.N.Nodup) (hi : X.N[i]? = some x) (hj : X.N[j]? = some y) (hl : X.N[l]? = some z) (hij : i ≠ j) (hil : i ≠ l) (hjl : j ≠ l)
    (hx : X.env.scope.names.lookup x = some .local) (hy : X.env.scope.names.lookup y = some .local) (hz : X.env.scope.names.lookup z = some .local) (ha : PE X a (tM kn X.K fa)) (hb : PE X b (tM kn X.K fb)) (hd : PE X d (tM kn X.K fd))
    (hw : swappedStores [.Tuple [.Name x px, .Name y py, .Name z pz] kt pt] (.Tuple [a, b, d] k2 pt2) X.env = pure (some [x, y, z]))
    (hs : swapsWithSole [.Tuple [.Name x px, .Name y py, .Name z pz] kt pt] (.Tuple [a, b, d] k2 pt2) pos.line X.env = pure false := by rfl) (h1 : starEach [a, b, d] X.env = (false, eval a X.env) :: starEach [b, d] X.env := by rfl) (h2 : starEach [b, d] X.env = (false, eval b X.env) :: starEach [d] X.env := by rfl)
    (h3 : starEach [d] X.env = (false, eval d X.env) :: starEach [] X.env := by rfl) :
    PS X (.Assign [.Tuple [.Name x px, .Name y py, .Name z pz] kt pt] (.Tuple [a, b, d] k2 pt2) pos) (tS kn X.K H0 (par3 i j l fa fb fd)) :=
  ps_mono (ps_par3 hc hN hi hj hl hij hil hjl hx hy hz (pa_cons ha (pa_cons hb (pa_cons hd pa_nil h3) h2) h1) hw hs) fun E σ H ⟨Z, st, Fp, k, q⟩ =>
    ⟨Z, st, Fp, k.sr, T.all_mono (T.bind_all q) fun m hm v H1 F x1 z1 mv fr => ⟨Z, st, Fp, k.sr.ext x1 z1, T.all_mono (T.bind_all hm) fun n hn w H2 F' x2 z2 mw fr' =>
      ⟨Z, st, Fp, (k.sr.ext x1 z1).ext x2 z2, T.all_mono (T.bind_all hn) fun o ho u H3 F'' x3 z3 mu fr'' =>
      ⟨v, w, u, rfl, (ho : ∀ σ' H' Fp', _ → _ → E.nx σ' H') _ H3 _ ((k.put2 x1 z1 x2 z2 mv fr mw fr').put x3 z3 mu fr'') (((k.imm x1).trans (x2.imm z1)).trans (x3.imm z2))⟩⟩⟩⟩

/-! ## a list of one's own is changed -/
theorem Sk.noneOf {Z : Zone} {K : PySem.W.Frag} {H : Hp} {st : DSt} {σ : St} {Fp : Nat → List Addr} (k : Sk kn K H0 Z st σ H Fp) {a : Addr} (h : H a = none) : ∀ j m, st[j]? = some (some m) → a ∉ Fp j := fun j m e hb => by
  obtain ⟨_, _, hm⟩ := k.sr.at_ j m e
  obtain ⟨_, t⟩ := hm.tracked a hb
  rw [h] at t
  cases t
theorem imm_upd {H : Hp} {p : Addr} {ws xs : List V} (ho : H p = some (.lst ws)) : Imm H (L2.upd H p (.lst xs)) := fun c o ec ic => by
  by_cases q : c = p
  · subst q; rw [ho] at ec; cases ec; cases ic
  · rw [upd_ne q]; exact ec
/-- slot i's list is written, all else stays; G: what stood ahead of the last value -/
theorem Sk.upd {Z : Zone} {K : PySem.W.Frag} {G H : Hp} {st : DSt} {σ : St} {Fp : Nat → List Addr} (k0 : Sk kn K H0 Z st σ G Fp) (k : Sk kn K H0 Z st σ H Fp) {i : Nat} {m m' : M} {v : V} {p : Addr} {ws xs : List V} {F : List Addr} (e : st[i]? = some (some m)) (hv : σ[i]? = some (some v)) (hp : p ∈ Fp i) (ho : H p = some (.lst ws))
    (mv : MV K Z (L2.upd H p (.lst xs)) m' v F) (fr : ∀ a ∈ F, a ∈ Fp i ∨ G a = none) : ∃ Fp', Sk kn K H0 Z (st.set i (some m')) σ (L2.upd H p (.lst xs)) Fp' := by
  have off := k.sr.off i m e
  have offF : Off Z F := fun a ha => by
    rcases fr a ha with h | h
    · exact off a h
    · exact ⟨k0.sr.zok.isP h, k0.sr.zok.isG h⟩
  refine ⟨_, ⟨k.sr.mut e hv (imm_upd ho) (fun c hc o ec => ?_) mv offF (fun a ha => (fr a ha).imp id k0.noneOf) (k.sr.zok.upd (off p hp).1 (off p hp).2), fun c o ec h1 h2 => ?_, fun j m2 ej c hc => ?_⟩⟩
  · have q : c ≠ p := by
      rintro rfl
      exact hc hp
    rw [upd_ne q]; exact ec
  · have q : c ≠ p := fun q => by rw [q, k.new i m e p hp] at ec; cases ec
    rw [upd_ne q]
    exact k.old c o ec h1 h2
  · by_cases hj : j = i
    · simp only [if_pos hj] at hc
      rcases fr c hc with h | h
      · exact k.new i m e c h
      · exact k0.fresh h
    · simp only [if_neg hj] at hc
      rw [List.getElem?_set_ne (Ne.symm hj)] at ej
      exact k.new j m2 ej c hc
/-- the slot's list, behind a value -/
theorem Sk.lst {Z : Zone} {K : PySem.W.Frag} {H : Hp} {st : DSt} {σ : St} {Fp : Nat → List Addr} (k : Sk kn K H0 Z st σ H Fp) {i : Nat} {ds : List D} {v : V} (e : st[i]? = some (some (.lst ds))) (hv : σ[i]? = some (some v)) : ∃ p vs, v = .ref p ∧ Fp i = [p] ∧ H p = some (.lst vs) ∧ FzAll K H vs ds := by
  obtain ⟨v', h1, mv⟩ := k.sr.at_ i _ e
  rw [hv] at h1
  obtain rfl := Option.some.inj (Option.some.inj h1)
  exact mv
theorem Sk.lst2 {Z : Zone} {K : PySem.W.Frag} {H : Hp} {st : DSt} {σ : St} {Fp : Nat → List Addr} (k : Sk kn K H0 Z st σ H Fp) {i : Nat} {dss : List (List D)} {v : V} (e : st[i]? = some (some (.lst2 dss))) (hv : σ[i]? = some (some v)) :
    ∃ p bs, v = .ref p ∧ Fp i = p :: bs ∧ H p = some (.lst (bs.map V.ref)) ∧ (p :: bs).Nodup ∧ Rows K H bs dss := by
  obtain ⟨v', h1, mv⟩ := k.sr.at_ i _ e
  rw [hv] at h1
  obtain rfl := Option.some.inj (Option.some.inj h1)
  exact mv
def appS (i : Nat) (f : DSt → T M) : Sm := fun st => match st[i]? with
  | some (some (.lst ds)) => f st >>= fun m => asD m >>= fun d => if ds.length < sizeLine then .ret (.nx, st.set i (some (.lst (ds ++ [d])))) else .bad
  | some (some (.lst2 dss)) => f st >>= fun m => asL m >>= fun ds => if dss.length < sizeLine then .ret (.nx, st.set i (some (.lst2 (dss ++ [ds])))) else .bad
  | _ => .bad
theorem asD_all {K : PySem.W.Frag} {Z : Zone} {H : Hp} {m : M} {v : V} {F : List Addr} {α : Type} {f : D → T α} {P : α → Prop} (mv : MV K Z H m v F) (h : (asD m >>= f).all P) : ∃ d, Fz K H v d ∧ (f d).all P := by
  unfold asD at h
  split at h
  · exact ⟨_, mv.2, h⟩
  · exact h.elim
theorem asL_all {K : PySem.W.Frag} {Z : Zone} {H : Hp} {m : M} {v : V} {F : List Addr} {α : Type} {f : List D → T α} {P : α → Prop} (mv : MV K Z H m v F) (h : (asL m >>= f).all P) : ∃ ds c ws, v = .ref c ∧ F = [c] ∧ H c = some (.lst ws) ∧ FzAll K H ws ds ∧ (f ds).all P := by
  unfold asL at h
  split at h
  · obtain ⟨c, ws, h1, h2, h3, h4⟩ := mv
    exact ⟨_, c, ws, h1, h2, h3, h4, h⟩
  · exact h.elim
theorem ds_app {i : Nat} {f : DSt → T M} {call : Expr} (h : PE X call (tBM X.K "list" rAppend (tVar i) (tCons (tM kn X.K f) tNil))) (hs : swapsWith call none pos.line X.env = pure false := by rfl) : PS X (.Expr call pos) (tS kn X.K H0 (appS i f)) :=
  ps_mono (ps_expr h hs) fun E σ H ⟨Z, st, Fp, k, q⟩ => by
    unfold appS at q
    split at q
    · rename_i ds e0
      obtain ⟨v0, s0, mv0⟩ := k.sr.at_ i _ e0
      obtain ⟨p, vs, rfl, eF, hp, fz⟩ := mv0
      refine ⟨_, s0, .inl ⟨rfl, vs, .of hp⟩, Z, st, Fp, k.sr, T.all_mono (T.bind_all q) fun m hm w H1 F x1 z1 mw fr => ?_⟩
      have k1 := k.ext x1 z1
      obtain ⟨_, vs', eq, _, hp', fz'⟩ := k1.lst e0 s0
      cases eq
      obtain ⟨d, fd, hm⟩ := asD_all mw hm
      split at hm
      · rename_i hz
        obtain ⟨Fp', k'⟩ := k.upd k1 (xs := vs' ++ [w]) (m' := .lst (ds ++ [d])) (F := [p]) e0 s0 (by rw [eF]; simp) hp' ⟨p, _, rfl, rfl, upd_same, (fz'.append (.cons fd .nil)).imm (imm_upd hp')⟩ (fun a ha => .inl (by rw [eF]; exact ha))
        exact ⟨p, vs', w, rfl, rfl, hp', by rw [fz'.length]; exact hz, (hm : ∀ σ' H' Fp', _ → _ → E.nx σ' H') σ _ Fp' k' ((k.imm x1).trans (imm_upd hp'))⟩
      · exact hm.elim
    · rename_i dss e0
      obtain ⟨v0, s0, mv0⟩ := k.sr.at_ i _ e0
      obtain ⟨p, bs, rfl, eF, hp, nd, rw0⟩ := mv0
      refine ⟨_, s0, .inl ⟨rfl, _, .of hp⟩, Z, st, Fp, k.sr, T.all_mono (T.bind_all q) fun m hm w H1 F x1 z1 mw fr => ?_⟩
      have k1 := k.ext x1 z1
      obtain ⟨_, bs', eq, eF', hp', nd', rw'⟩ := k1.lst2 e0 s0
      cases eq
      obtain ⟨ds, c, ws, rfl, rfl, hc, fc, hm⟩ := asL_all mw hm
      split at hm
      · rename_i hz
        have hcn : H c = none := fr c (by simp)
        have nc : c ∉ p :: bs' := fun h => k.noneOf hcn i _ e0 (by rw [eF']; exact h)
        have keep : ∀ a, a ≠ p → ∀ o, H1 a = some o → (L2.upd H1 p (.lst (bs'.map V.ref ++ [V.ref c]))) a = some o := fun a h o e => by rw [upd_ne h]; exact e
        have nd2 := List.nodup_cons.mp nd'
        have cp' : c ≠ p := fun q => nc (by simp [q])
        obtain ⟨Fp', k'⟩ := k.upd k1 (xs := bs'.map V.ref ++ [V.ref c]) (m' := .lst2 (dss ++ [ds])) (F := p :: (bs' ++ [c])) e0 s0 (by rw [eF']; simp) hp' ⟨p, bs' ++ [c], rfl, rfl, by rw [upd_same, List.map_append]; rfl, by
            refine List.nodup_cons.mpr ⟨fun h => ?_, List.nodup_append.mpr ⟨nd2.2, by simp, fun b hb c' hc' => ?_⟩⟩
            · rcases List.mem_append.mp h with h | h
              · exact nd2.1 h
              · exact cp' (List.mem_singleton.mp h).symm
            · obtain rfl : c' = c := by simpa using hc'
              rintro rfl
              exact nc (List.mem_cons_of_mem _ hb),
          (rw'.keep (imm_upd hp') fun b hb o e => keep b (fun (q : b = p) => nd2.1 (by rw [← q]; exact hb)) o e).snoc (keep c cp' _ hc) (fc.imm (imm_upd hp'))⟩ (fun a ha => by
            rcases List.mem_cons.mp ha with rfl | ha
            · exact .inl (by rw [eF']; simp)
            · rcases List.mem_append.mp ha with ha | ha
              · exact .inl (by rw [eF']; exact List.mem_cons_of_mem _ ha)
              · obtain rfl : a = c := by simpa using ha
                exact .inr hcn)
        exact ⟨p, _, _, rfl, rfl, hp', by rw [List.length_map, rw'.length]; exact hz, (hm : ∀ σ' H' Fp', _ → _ → E.nx σ' H') σ _ Fp' k' ((k.imm x1).trans (imm_upd hp'))⟩
      · exact hm.elim
    · exact q.elim
end
end L2.Zy
namespace L2.Zy
open PySem PyProof.Rows PySem.Spec

/-! ## defs: where no repr is running -/
structure FnG (P : Program) (w : World) (K : PySem.W.Frag) (mg : Str → Option Value) (base : Heap) (k : Nat) (f : Addr) (fd : FuncData) (ps : List Str) (sp : Sp) : Prop where
  len : ∀ vs H Q E, sp vs H Q E → vs.length = ps.length
  run : ∀ (A : Around) (outer : List Env) (s : Shared) (H : Hp) (args : Args) (us : List Value) (vs : List V) (Q : VK) (E : XK), A.guards = some [] → Room k A → Env0 P w K mg base A outer s H →
    BindsTo s fd args (ps.zip us) → Vals vs us → sp vs H Q E → codeAny (model P w) A (.call (.ref f) args) (CR CX0 outer P w H s Q E) s
theorem FnG.mono {P : Program} {w : World} {K : PySem.W.Frag} {mg : Str → Option Value} {base : Heap} {j k : Nat} {f : Addr} {fd : FuncData} {ps : List Str} {sp : Sp} (F : FnG P w K mg base j f fd ps sp) (h : j ≤ k) : FnG P w K mg base k f fd ps sp :=
  ⟨F.len, fun A outer s H args us vs Q E hg hr => F.run A outer s H args us vs Q E hg (hr.mono h)⟩
section
variable {P : Program} {w : World} {K : PySem.W.Frag} {mg : Str → Option Value} {base : Heap}
theorem fn_g {x qual : Str} {st : Stmt} {f : Addr} {fd : FuncData} {N ps : List Str} {k : Nat} {sp : Sp} (F : Fun K x qual st f fd) (S : FnScope N ps (defScope st)) (len : ∀ vs H Q E, sp vs H Q E → vs.length = ps.length)
    (hbody : ∀ (cdv : Value) (A : Around) (outer : List Env) (s : Shared) (H : Hp) (vs : List V) (Q : VK) (E : XK), A.guards = some [] → Room k (A.deeper (envOfC qual (defScope st) s.heap.objs.size f cdv)) → sp vs H Q E →
      ∃ t, PSs (cxOf CX0 P w K mg base N qual (defScope st) f cdv A outer s H E).nox (defBody st) t ∧ t { nx := fun _ H' => Q .non H', rt := Q } (start N vs) H) : FnG P w K mg base (k + 1) f fd ps sp := by
  obtain ⟨oc, od, kV, doc, pm, an, cdv, ct, osl, rfl, lk, hcd⟩ := F.ex
  refine ⟨len, fun A outer s H args us vs Q E hgd hr e0 hb r hsp => ?_⟩
  have hl := len _ _ _ _ hsp
  have keepB : ∀ b o, base.get? b = some o → s.heap.get? b = some o := fun b o e => (e0.bs b o e).1
  have KX : K.In s.heap := e0.mod.kin.keeps keepB
  have lim : s.heap.NoLimit := e0.mod.nolimit.keeps keepB
  have hkind : ∀ y ∈ ps.zip us, (defScope st).names.lookup y.1 = some .local ∨ ((defScope st).names.lookup y.1 = some .cell ∧ ((cellsFrom (s.heap.objs.size + 1) (defScope st).names []).lookup y.1).isSome = true) := fun ⟨n, v⟩ hy =>
    (S.par n (List.of_mem_zip hy).1).imp id fun q => ⟨q, PySem.W.cellsFrom_some _ _ _ (.inl q)⟩
  refine codeAny_call_function hr.depth (KX _ _ lk) rfl S.co S.gen rfl (PySem.W.codeRec_of KX hcd) (hb _ _ _ _ ?_)
  refine wpAny_newFunctionEnv_cells S.kind hkind fun env he s1 x => ?_
  subst he
  refine ⟨lim.keeps x.toInCall.keep, codeAny_func ?_⟩
  obtain ⟨t, ht, hq⟩ := hbody cdv A outer s H vs Q E hgd (hr.deeper _) hsp
  have I := inv_start (CX := CX0) (P := P) (w := w) (K := K) (mg := mg) (base := base) (N := N) (E := E) S hr.hd e0 hl r x
  refine wpAny_mono (ht.nox.run [] s1 (start N vs) H _ I hq) (fun fl s' hs => ?_) fun e s' hs => hs
  have fin : ∀ {σ' : St} {H' : Hp} {v : V} {u : Value}, Inv (cxOf CX0 P w K mg base N qual (defScope st) f cdv A outer s H E) [] σ' H' s' → RelV v u → Q v H' → CE outer P w H s Q u s' := fun J rv q => ⟨_, _, J.os, J.bare, J.base, J.hok, rv, q⟩
  cases fl with
  | ret u => obtain ⟨v, σ', H', J, rv, q⟩ := hs; exact fin J rv q
  | next => obtain ⟨σ', H', J, q⟩ := hs; exact fin (v := V.non) (u := Value.none) J rfl q
  | brk => obtain ⟨_, _, _, q⟩ := hs; exact False.elim q
  | cont => obtain ⟨_, _, _, q⟩ := hs; exact False.elim q
end
def allPP (ms : List M) : Bool := ms.all M.isPP
/-- a def's promise: with values that never change (or the pot) it does what df tells -/
def spM (kn : PotKeys) (K : PySem.W.Frag) (n : Nat) (df : List M → T M) : Sp := fun vs H Q _ => ∃ Z ms, Z.Ok kn H ∧ MVs K Z H ms vs ∧ ms.length = n ∧ allPP ms = true ∧
  (df ms).all fun m => ∀ v H' F, Ext Z H H' → Z.Ok kn H' → MV K Z H' m v F → (∀ a ∈ F, H a = none) → Q v H'
theorem MVs.length {K : PySem.W.Frag} {Z : Zone} {H : Hp} : ∀ {ms : List M} {vs : List V}, MVs K Z H ms vs → vs.length = ms.length
  | _, _, .nil => rfl
  | _, _, .cons _ _ t => congrArg (· + 1) (MVs.length t)
def bodyD (n : Nat) (s : Sm) : List M → T M := fun ms => s (ms.map some ++ List.replicate (n - ms.length) none) >>= fun x => match x.1 with
  | .rt m => .ret m
  | .nx => .ret (.pure .none)
  | _ => .bad
theorem sk_start {kn : PotKeys} {K : PySem.W.Frag} {Z : Zone} {H : Hp} {N : List Str} {ms : List M} {vs : List V} (z : Z.Ok kn H) (h : MVs K Z H ms vs) (pp : allPP ms = true) :
    Sk kn K H Z (ms.map some ++ List.replicate (N.length - ms.length) none) (start N vs) H fun _ => [] := by
  have get : ∀ {ms : List M} {vs : List V}, MVs K Z H ms vs → allPP ms = true → ∀ (i : Nat) (m : M), ms[i]? = some m → ∃ v, vs[i]? = some v ∧ MV K Z H m v [] := by
    intro ms vs h
    induction h with
    | nil => intro _ i m e; simp at e
    | cons mv o t ih =>
      intro pp i m e
      have pp' := Bool.and_eq_true_iff.mp (show (M.isPP _ && allPP _) = true from pp)
      cases i with
      | zero =>
        simp at e
        subst e
        exact ⟨_, rfl, by have q := mv.pp pp'.1; rw [q] at mv; exact mv⟩
      | succ i =>
        obtain ⟨v, h1, h2⟩ := ih pp'.2 i m (by simpa using e)
        exact ⟨v, by simpa using h1, h2⟩
  have el := h.length
  refine ⟨⟨by simp [start, el], fun i m e => ?_, (fun i j m m' a _ _ h => nomatch h), (fun i m e a h => nomatch h), z⟩, .refl, (fun i m e a h => nomatch h)⟩
  by_cases hi : i < ms.length
  · rw [List.getElem?_append_left (by simpa using hi), List.getElem?_map] at e
    obtain ⟨m', e1, e2⟩ := Option.map_eq_some_iff.mp e
    cases e2
    obtain ⟨v, h1, h2⟩ := get h pp i m e1
    refine ⟨v, ?_, h2⟩
    unfold start
    rw [List.getElem?_append_left (by simp [el, hi]), List.getElem?_map, h1]
    rfl
  · rw [List.getElem?_append_right (by simpa using hi)] at e
    rw [List.getElem?_replicate] at e
    split at e <;> cases e
section
variable {P : Program} {w : World} {K : PySem.W.Frag} {mg : Str → Option Value} {base : Heap} {kn : PotKeys}
/-- a def by its body's denotation -/
theorem fn_D {x qual : Str} {st : Stmt} {f : Addr} {fd : FuncData} {N ps : List Str} {k n m : Nat} {b : Sm} (F : Fun K x qual st f fd) (S : FnScope N ps (defScope st)) (hn : ps.length = n) (hm : N.length = m)
    (hb : ∀ (cdv : Value) (A : Around) (outer : List Env) (s : Shared) (H : Hp) (E : XK), A.guards = some [] → Room k (A.deeper (envOfC qual (defScope st) s.heap.objs.size f cdv)) →
      PSs (cxOf CX0 P w K mg base N qual (defScope st) f cdv A outer s H E).nox (defBody st) (tS kn K H b)) :
    FnG P w K mg base (k + 1) f fd ps (spM kn K n (bodyD m b)) := by
  refine fn_g F S (fun vs H Q E h => ?_) fun cdv A outer s H vs Q E hg hr h => ?_
  · obtain ⟨Z, ms, _, mvs, hl, _⟩ := h
    rw [mvs.length, hl, hn]
  · obtain ⟨Z, ms, z, mvs, hl, pp, q⟩ := h
    refine ⟨_, hb cdv A outer s H E hg hr, Z, _, _, sk_start (N := N) z mvs pp, ?_⟩
    rw [hm]
    refine T.all_mono (T.bind_all q) fun y hy => ?_
    obtain ⟨fl, st'⟩ := y
    cases fl with
    | nx => exact fun σ' H' Fp' k' i => (hy : ∀ v H' F, _ → _ → _ → _ → Q v H') .non H' [] k'.old k'.sr.zok ⟨rfl, .non⟩ fun _ h => nomatch h
    | bk => exact hy.elim
    | ct => exact hy.elim
    | rt m => exact hy
end

/-! ## calls -/
def callD (n : Nat) (df : List M → T M) (fs : DSt → T (List M)) : DSt → T M := fun st => fs st >>= fun ms => if ms.length = n ∧ allPP ms = true then df ms else .bad
def gP {α : Type} (pi : List Nat) (xs : List α) : List α := pi.filterMap fun i => xs[i]?
/-- by names: pi tells which keyword each parameter gets -/
def callK (n : Nat) (pi : List Nat) (df : List M → T M) (fs : DSt → T (List M)) : DSt → T M := fun st => fs st >>= fun ms => if ms.length = n ∧ allPP ms = true then df (gP pi ms) else .bad
section
variable {X : Cx} {k n : Nat} {f : Addr} {fd : FuncData} {ps ks : List Str} {kn : PotKeys} {df : List M → T M} {x : Str} {p pos : Pos} {e : Expr} {es : List Expr} {kws : List Keyword} {fs : DSt → T (List M)}
theorem call_g {pins : List (Addr × Obj)} {σ : St} {H : Hp} {s : Shared} {Q : VK} {us ws : List Value} {kw : List (Str × Value)} {vs : List V} {sp : Sp} (F : FnG X.prog X.w X.K X.mg X.base k f fd ps sp) (hgd : X.A.guards = some []) (hr : Room k X.A) (hb : BindsTo s fd ⟨ws, kw⟩ (ps.zip us))
    (I : Inv X pins σ H s) (r : Vals vs us) (h : sp vs H Q E0) : wpAny (model X.prog X.w) X.A (call (.ref f) ws kw) (EP X pins σ Q) X.xe s := by
  refine wpAny_call (codeAny_mono (F.run X.A X.stack s H _ us vs Q E0 hgd hr I.env0 hb r h) fun r s' hq => ?_)
  cases r with
  | error e => exact False.elim hq
  | ok fl =>
    cases fl with
    | ret u => exact I.after hq
    | next => exact False.elim hq
    | brk => exact False.elim hq
    | cont => exact False.elim hq
theorem spM_of {σ : St} {H : Hp} {Q : VK} (h : tM kn X.K (callD n df fs) σ H Q) : tL kn X.K fs σ H fun vs H1 => spM kn X.K n df vs H1 Q E0 := by
  obtain ⟨Z, st, Fp, s, q⟩ := h
  refine ⟨Z, st, Fp, s, T.all_mono (T.bind_all q) fun ms hm vs H1 x1 z1 mvs => ?_⟩
  split at hm
  · rename_i c
    exact ⟨Z, ms, z1, mvs, c.1, c.2, T.all_mono hm fun m hq v H2 F x2 z2 mv fr => hq v H2 F (x1.trans x2) z2 mv fun a ha => x1.none z1 (fr a ha)⟩
  · exact hm.elim
/-- f(e, ..) -/
theorem dm_call (F : FnG X.prog X.w X.K X.mg X.base k f fd ps (spM kn X.K n df)) (hgd : X.A.guards = some []) (hr : Room k X.A) (hg : Gl X x) (hm : X.mg x = some (.ref f)) (hk : PySem.W.keepIn X.K (.ref f) = true) (hb : Binds X.K fd ps []) (hp : ps.length = n)
    (ha : PA X (e :: es) (tL kn X.K fs)) (hdb : (x == ("__debug__" : Str)) = false := by decide) (he : starEach (e :: es) X.env = (false, eval e X.env) :: starEach es X.env := by rfl) (hpl : (backTo pos (starEach es X.env)).any (·.1) = false := by rfl) :
    PE X (.Call (.Name x p) (e :: es) [] pos) (tM kn X.K (callD n df fs)) := by
  refine ⟨fun pins s σ H Q I h => ?_⟩
  refine wpAny_Call_Name_kw (ld_glob I hg hm ?_ hdb)
  refine PySem.W.callWith_K (h₀ := X.base) I.ok.mod.kin hk (thn (ha.run pos pins s σ H _ I (spM_of h)) fun us s1 ⟨vs, H1, I1, r, q⟩ => ⟨I1.kIn, ?_⟩) he hpl
  have hl : (us ++ []).length = ps.length := by
    obtain ⟨Z, ms, _, mvs, hl, _⟩ := q
    have e1 := mvs.length
    have e2 := r.length
    simp only [List.append_nil]
    omega
  refine call_g F hgd hr (hb s1 us I1.kIn hl) I1 ?_ q
  rw [List.append_nil]
  exact r
theorem dk_nil : PK X [] (tL kn X.K nilL) := ⟨fun pos pins s σ H Q I ⟨Z, st, Fp, sr, q⟩ => pk_nil.run pos pins s σ H Q I ((q : ∀ vs H', _ → _ → _ → Q vs H') [] H .refl sr.zok .nil)⟩
theorem dk_cons {g : DSt → T M} {nm : Option Str} {kpos : Pos} (ha : PE X e (tPk kn X.K g)) (hr : PK X kws (tL kn X.K fs)) : PK X (⟨nm, e, kpos⟩ :: kws) (tL kn X.K (consL g fs)) :=
  ⟨fun pos pins s σ H Q I ⟨Z, st, Fp, sr, q⟩ => (pk_cons ha hr).run pos pins s σ H Q I ⟨Z, st, Fp, sr, T.all_mono (T.bind_all q) fun m hm v H1 F x1 z1 mv o =>
    ⟨Z, st, Fp, sr.ext x1 z1, T.all_mono (T.bind_all hm) fun ms hms vs H2 x2 z2 mvs => hms (v :: vs) H2 (x1.trans x2) z2 (.cons (mv.ext z1 x2 o) o mvs)⟩⟩⟩
theorem mvs_perm {K : PySem.W.Frag} {Z : Zone} {H : Hp} {ms : List M} {vs : List V} (h : MVs K Z H ms vs) : ∀ (i : Nat), (∃ m v F, ms[i]? = some m ∧ vs[i]? = some v ∧ MV K Z H m v F ∧ Off Z F) ∨ (ms[i]? = none ∧ vs[i]? = none) := by
  induction h with
  | nil => exact fun i => .inr ⟨by simp, by simp⟩
  | cons mv o t ih =>
    intro i
    cases i with
    | zero => exact .inl ⟨_, _, _, rfl, rfl, mv, o⟩
    | succ i => exact (ih i).imp (fun ⟨m, v, F, a, b, c⟩ => ⟨m, v, F, by simpa using a, by simpa using b, c⟩) fun ⟨a, b⟩ => ⟨by simpa using a, by simpa using b⟩
theorem mvs_gP {K : PySem.W.Frag} {Z : Zone} {H : Hp} {ms : List M} {vs : List V} (h : MVs K Z H ms vs) : ∀ pi : List Nat, MVs K Z H (gP pi ms) (gP pi vs)
  | [] => .nil
  | i :: pi => by
    unfold gP
    rw [List.filterMap_cons, List.filterMap_cons]
    rcases mvs_perm h i with ⟨m, v, F, e1, e2, mv, o⟩ | ⟨e1, e2⟩
    · rw [e1, e2]
      exact .cons mv o (mvs_gP h pi)
    · rw [e1, e2]
      exact mvs_gP h pi
theorem vals_gP {vs : List V} {us : List Value} (h : Vals vs us) : ∀ pi : List Nat, Vals (gP pi vs) (gP pi us)
  | [] => .nil
  | i :: pi => by
    unfold gP
    rw [List.filterMap_cons, List.filterMap_cons]
    cases e : vs[i]? with
    | none =>
      rw [h.none_of e]
      exact vals_gP h pi
    | some v =>
      obtain ⟨u, e2, r⟩ := h.get e
      rw [e2]
      exact .cons r (vals_gP h pi)
theorem allPP_gP {ms : List M} (h : allPP ms = true) (pi : List Nat) : allPP (gP pi ms) = true := by
  unfold allPP at h ⊢
  rw [List.all_eq_true] at h ⊢
  intro m hm
  obtain ⟨i, _, e⟩ := List.mem_filterMap.mp hm
  exact h m (List.mem_of_getElem? e)
/-- f(x = e, ..), all by names -/
theorem dm_callK {pi : List Nat} (F : FnG X.prog X.w X.K X.mg X.base k f fd ps (spM kn X.K n df)) (hgd : X.A.guards = some []) (hr : Room k X.A) (hg : Gl X x) (hm : X.mg x = some (.ref f)) (hk : PySem.W.keepIn X.K (.ref f) = true) (hp : ps.length = n) (hpi : ∀ ms : List M, ms.length = n → (gP pi ms).length = n)
    (hb : ∀ (s : Shared) (ws : List Value), ws.length = n → BindsTo s fd ⟨[], ks.zip ws⟩ (ps.zip (gP pi ws))) (ha : PK X kws (tL kn X.K fs)) (hall : (backToKw pos (keywordEach kws X.env)).all (·.1.isSome) = true := by rfl) (hks : (backToKw pos (keywordEach kws X.env)).filterMap (·.1) = ks := by rfl)
    (hdb : (x == ("__debug__" : Str)) = false := by decide) (hpl : ((backTo pos (starEach [] X.env)).any (·.1) || (backToKw pos (keywordEach kws X.env)).any (·.1.isNone)) = false := by rfl) :
    PE X (.Call (.Name x p) [] kws pos) (tM kn X.K (callK n pi df fs)) := by
  refine ⟨fun pins s σ H Q I h => ?_⟩
  refine wpAny_Call_Name_kw (ld_glob I hg hm ?_ hdb)
  have h' : tL kn X.K fs σ H fun vs H1 => vs.length = n ∧ spM kn X.K n df (gP pi vs) H1 Q E0 := by
    obtain ⟨Z, st, Fp, s, q⟩ := h
    refine ⟨Z, st, Fp, s, T.all_mono (T.bind_all q) fun ms hm vs H1 x1 z1 mvs => ?_⟩
    split at hm
    · rename_i c
      exact ⟨by rw [mvs.length, c.1], Z, gP pi ms, z1, mvs_gP mvs pi, hpi ms c.1, allPP_gP c.2 pi, T.all_mono hm fun m hq v H2 F x2 z2 mv fr => hq v H2 F (x1.trans x2) z2 mv fun a ha => x1.none z1 (fr a ha)⟩
    · exact hm.elim
  refine PySem.W.callWith_KW0 (h₀ := X.base) I.ok.mod.kin hk hall (thn (ha.run pos pins s σ H _ I h') fun ws s1 ⟨vs, H1, I1, r, hl, q⟩ => ⟨I1.kIn, ?_⟩) hpl
  rw [hks]
  have hl' : ws.length = n := by rw [← r.length]; exact hl
  exact call_g F hgd hr (hb s1 ws hl') I1 (vals_gP r pi) q
end
end L2.Zy
namespace L2.Zy
open PySem PyProof.Rows PySem.Spec
theorem un64 {A : Around} {k : Nat} (h : Room k A) : A.units + 64 < cLine := h.units
theorem un65 {A : Around} {k : Nat} (h : Room k A) : A.units + 65 < cLine := by have := h.un; omega
theorem un70 {A : Around} {k : Nat} (h : Room k A) : A.units + 70 < cLine := by have := h.un; omega
section
variable {X : Cx} {kn : PotKeys} {H0 : Hp} {e : Expr} {pos : Pos}
/-- extend by a list, owned or not -/
def rExtM (K : PySem.W.Frag) : V → List V → Hp → VK → Prop := fun x vs H Q => ∃ l b xs zs, x = .ref l ∧ vs = [.ref b] ∧ H l = some (.lst xs) ∧ Lv K H b zs ∧ xs.length + zs.length ≤ sizeLine ∧ Q .non (upd H l (.lst (xs ++ zs)))
theorem mt_extM : MtM X "list.extend" (rExtM X.K) := by
  intro pins s σ H x vs v us Q I rx rv h
  obtain ⟨l, b, xs, zs, rfl, rfl, hH, hB, hz, q⟩ := h
  cases rx
  obtain ⟨u, rfl, ru⟩ := rv.one
  cases ru
  obtain ⟨z, its, n, r, hl, e⟩ := I.lstM hH
  obtain ⟨z2, its2, n2, r2, hl2, e2⟩ := hB.get I
  have hsz : its.toArray.size + its2.toArray.size ≤ sizeLine := by simp only [List.size_toArray]; omega
  have hlong : ¬ (!its.toArray.isEmpty && Builtin.List.listTooLong (its.toArray.size + its2.toArray.size)) = true := by
    rw [notLongL hsz, Bool.and_false]; exact Bool.false_ne_true
  refine call_meets PySem.F.slot_list_extend ⟨_, e, rfl⟩ PySem.F.entry_list_extend (PySem.F.args_list_extend_2 _ _)
    (AutoSeq1.list_extend_list_list_0 l its.toArray n b its2.toArray n2 hlong (by rw [List.size_toArray]; omega) (by omega)) ⟨e, e2, ?_⟩
  exact ⟨.non, _, I.lset (its' := its ++ its2) hH e (by simp) (r.append r2) (by rw [List.length_append]; omega), rfl, q⟩
def extS (i : Nat) (f : DSt → T M) : Sm := fun st => match st[i]? with
  | some (some (.lst ds)) => f st >>= fun m => match m.listD with
    | some es => if ds.length + es.length ≤ sizeLine then .ret (.nx, st.set i (some (.lst (ds ++ es)))) else .bad
    | none => .bad
  | _ => .bad
theorem ds_ext {i : Nat} {f : DSt → T M} {call : Expr} (h : PE X call (tBM X.K "list" (rExtM X.K) (tVar i) (tCons (tM kn X.K f) tNil))) (hs : swapsWith call none pos.line X.env = pure false := by rfl) : PS X (.Expr call pos) (tS kn X.K H0 (extS i f)) :=
  ps_mono (ps_expr h hs) fun E σ H ⟨Z, st, Fp, k, q⟩ => by
    unfold extS at q
    split at q
    · rename_i ds e0
      obtain ⟨v0, s0, mv0⟩ := k.sr.at_ i _ e0
      obtain ⟨p, vs, rfl, eF, hp, fz⟩ := mv0
      refine ⟨_, s0, .inl ⟨rfl, vs, .of hp⟩, Z, st, Fp, k.sr, T.all_mono (T.bind_all q) fun m hm w H1 F x1 z1 mw fr => ?_⟩
      have k1 := k.ext x1 z1
      obtain ⟨_, vs', eq, _, hp', fz'⟩ := k1.lst e0 s0
      cases eq
      split at hm
      · rename_i es em
        split at hm
        · rename_i hz
          obtain ⟨b, ws, rfl, lv, fw⟩ := mv_list em mw
          obtain ⟨Fp', k'⟩ := k.upd k1 (xs := vs' ++ ws) (m' := .lst (ds ++ es)) (F := [p]) e0 s0 (by rw [eF]; simp) hp' ⟨p, _, rfl, rfl, upd_same, (fz'.append fw).imm (imm_upd hp')⟩ (fun a ha => .inl (by rw [eF]; exact ha))
          exact ⟨p, b, vs', ws, rfl, rfl, hp', lv, by rw [fz'.length, fw.length]; exact hz, (hm : ∀ σ' H' Fp', _ → _ → E.nx σ' H') σ _ Fp' k' ((k.imm x1).trans (imm_upd hp'))⟩
        · exact hm.elim
      · exact hm.elim
    · exact q.elim
/-- a row of a list of rows -/
theorem Rows.set {K : PySem.W.Frag} {H : Hp} {b : Addr} {ws : List V} {es : List D} (hw : FzAll K H ws es) : ∀ {bs : List Addr} {dss : List (List D)} {j : Nat}, Rows K H bs dss → bs.Nodup → bs[j]? = some b → (∃ vs, H b = some (.lst vs)) →
    Rows K (L2.upd H b (.lst ws)) bs (dss.set j es)
  | _, _, _, .nil, _, e, _ => by simp at e
  | c :: bs, ds :: dss, 0, .cons h f r, nd, e, ⟨vs, hv⟩ => by
    obtain rfl : c = b := by simpa using e
    have nd' := List.nodup_cons.mp nd
    exact .cons upd_same (hw.imm (imm_upd hv)) (r.keep (imm_upd hv) fun a ha o eo => by
      have q : a ≠ c := by
        rintro rfl
        exact nd'.1 ha
      rw [upd_ne q]; exact eo)
  | c :: bs, ds :: dss, j + 1, .cons h f r, nd, e, ⟨vs, hv⟩ => by
    have nd' := List.nodup_cons.mp nd
    have q : c ≠ b := by
      rintro rfl
      exact nd'.1 (List.mem_of_getElem? (show bs[j]? = some c by simpa using e))
    exact .cons (by rw [upd_ne q]; exact h) (f.imm (imm_upd hv)) (Rows.set hw r nd'.2 (by simpa using e) ⟨vs, hv⟩)
def appR (i : Nat) (fj f : DSt → T M) : Sm := fun st => match st[i]? with
  | some (some (.lst2 dss)) => fj st >>= fun n => match n with
    | .pure (.int j) => match ixN dss.length j with
      | some l => match dss[l]? with
        | some ds => f st >>= fun m => asD m >>= fun d => if ds.length < sizeLine then .ret (.nx, st.set i (some (.lst2 (dss.set l (ds ++ [d]))))) else .bad
        | none => .bad
      | none => .bad
    | _ => .bad
  | _ => .bad
theorem Rows.at {K : PySem.W.Frag} {H : Hp} : ∀ {bs : List Addr} {dss : List (List D)} {j : Nat} {ds : List D}, Rows K H bs dss → dss[j]? = some ds → ∃ b vs, bs[j]? = some b ∧ H b = some (.lst vs) ∧ FzAll K H vs ds := fun r e => r.get e
theorem ds_appR {i : Nat} {fj f : DSt → T M} {call : Expr} (h : PE X call (tBM X.K "list" rAppend (tOp (rIxL X.K) (tVar i) (tPk kn X.K fj)) (tCons (tM kn X.K f) tNil))) (hs : swapsWith call none pos.line X.env = pure false := by rfl) : PS X (.Expr call pos) (tS kn X.K H0 (appR i fj f)) :=
  ps_mono (ps_expr h hs) fun E σ H ⟨Z, st, Fp, k, q⟩ => by
    unfold appR at q
    split at q
    · rename_i dss e0
      obtain ⟨v0, s0, mv0⟩ := k.sr.at_ i _ e0
      obtain ⟨p, bs, rfl, eF, hp, nd, rw0⟩ := mv0
      refine ⟨_, s0, Z, st, Fp, k.sr, T.all_mono (T.bind_all q) fun n hn w0 H1 F1 x1 z1 mw0 o1 => ?_⟩
      have k1 := k.ext x1 z1
      obtain ⟨_, bs1, eq, eF1, hp1, nd1, rw1⟩ := k1.lst2 e0 s0
      cases eq
      split at hn
      · rename_i j
        obtain rfl := fz_int mw0.2
        split at hn
        · rename_i l el
          split at hn
          · rename_i ds eds
            obtain ⟨b, vs, eb, hb, fv⟩ := rw1.at eds
            have eat : atI (bs1.map V.ref) j = some (.ref b) := by
              unfold atI
              rw [List.length_map, rw1.length, el]
              show (bs1.map V.ref)[l]? = _
              rw [List.getElem?_map, eb]
              rfl
            refine ⟨p, bs1.map V.ref, j, .ref b, rfl, rfl, .of hp1, eat, .inl ⟨rfl, vs, .of hb⟩, Z, st, Fp, k1.sr, T.all_mono (T.bind_all hn) fun m hm w H2 F x2 z2 mw fr => ?_⟩
            have k2 := k1.ext x2 z2
            obtain ⟨_, bs2, eq, eF2, hp2, nd2, rw2⟩ := k2.lst2 e0 s0
            cases eq
            have ebs : bs2 = bs1 := by
              rw [eF1] at eF2
              exact (List.cons.inj eF2).2.symm
            subst ebs
            obtain ⟨d, fd, hm⟩ := asD_all mw hm
            split at hm
            · rename_i hz
              have nd2' := List.nodup_cons.mp nd2
              obtain ⟨b', vs2, eb', hb2, fv2⟩ := rw2.at eds
              rw [eb] at eb'
              cases eb'
              have hbm : b ∈ bs2 := List.mem_of_getElem? eb
              have hpb : p ≠ b := by
                rintro rfl
                exact nd2'.1 hbm
              obtain ⟨Fp', k'⟩ := k1.upd k2 (p := b) (xs := vs2 ++ [w]) (m' := .lst2 (dss.set l (ds ++ [d]))) (F := p :: bs2) e0 s0 (by rw [eF2]; exact List.mem_cons_of_mem _ hbm) hb2
                ⟨p, bs2, rfl, rfl, by rw [upd_ne hpb]; exact hp2, nd2, Rows.set (fv2.append (.cons fd .nil)) rw2 nd2'.2 eb ⟨_, hb2⟩⟩ (fun a ha => .inl (by rw [eF2]; exact ha))
              exact ⟨b, vs2, w, rfl, rfl, hb2, by rw [fv2.length]; exact hz, (hm : ∀ σ' H' Fp', _ → _ → E.nx σ' H') σ _ Fp' k' (((k.imm x1).trans (k1.imm x2)).trans (imm_upd hb2))⟩
            · exact hm.elim
          · exact hn.elim
        · exact hn.elim
      · exact hn.elim
    · exact q.elim
end
end L2.Zy
namespace L2.Zy
open PySem PyProof.Rows PySem.Spec

/-! ## sorted(set(xs)), xs tuples of small numbers of one length -/
def tupD1 : D → Option (List Int)
  | .tuple ds => intsD ds
  | _ => none
def tupsD : List D → Option (List (List Int))
  | [] => some []
  | d :: r => match tupD1 d, tupsD r with
    | some ns, some nss => some (ns :: nss)
    | _, _ => none
def tupI (ns : List Int) : D := .tuple (ns.map .int)
theorem tupsD_eq : ∀ {ds : List D} {nss : List (List Int)}, tupsD ds = some nss → ds = nss.map tupI
  | [], nss, h => by cases h; rfl
  | d :: r, nss, h => by
    unfold tupsD at h
    split at h
    · rename_i ns nss' e1 e2
      cases h
      rw [tupsD_eq e2, List.map_cons]
      unfold tupD1 at e1
      split at e1
      · rw [intsD_eq e1]; rfl
      · cases e1
    · cases h
@[simp] theorem tupsD_map : ∀ nss : List (List Int), tupsD (nss.map tupI) = some nss
  | [] => rfl
  | ns :: nss => by
    rw [List.map_cons]
    unfold tupsD
    rw [tupsD_map nss]
    simp [tupI, tupD1]
/-- lexicographic -/
def lexI : List Int → List Int → Bool
  | [], _ => true
  | _ :: _, [] => false
  | x :: xs, y :: ys => if x = y then lexI xs ys else decide (x < y)
def insI (a : List Int) : List (List Int) → List (List Int)
  | [] => [a]
  | b :: r => if a = b then b :: r else if lexI a b = true then a :: b :: r else b :: insI a r
/-- sorted, each once -/
def uniqI (nss : List (List Int)) : List (List Int) := nss.foldr insI []
def okTups (nss : List (List Int)) : Prop := nss.length < 64 ∧ ∃ d, 1 ≤ d ∧ ∀ ns ∈ nss, ns.length = d ∧ ∀ n ∈ ns, 0 ≤ n ∧ n < 64
theorem lexI_refl : ∀ a, lexI a a = true
  | [] => rfl
  | x :: xs => by simp [lexI, lexI_refl xs]
theorem lexI_total : ∀ a b, lexI a b = true ∨ lexI b a = true
  | [], _ => .inl rfl
  | _ :: _, [] => .inr rfl
  | x :: xs, y :: ys => by
    by_cases h : x = y
    · subst h
      simpa [lexI] using lexI_total xs ys
    · have h' : y ≠ x := Ne.symm h
      simp only [lexI, if_neg h, if_neg h', decide_eq_true_eq]
      omega
theorem lexI_anti : ∀ a b, lexI a b = true → lexI b a = true → a = b
  | [], [], _, _ => rfl
  | [], _ :: _, _, h => by simp [lexI] at h
  | _ :: _, [], h, _ => by simp [lexI] at h
  | x :: xs, y :: ys, h1, h2 => by
    by_cases h : x = y
    · subst h
      simp only [lexI, if_pos] at h1 h2
      rw [lexI_anti xs ys h1 h2]
    · have h' : y ≠ x := Ne.symm h
      simp only [lexI, if_neg h, if_neg h', decide_eq_true_eq] at h1 h2
      omega
theorem lexI_trans : ∀ a b c, lexI a b = true → lexI b c = true → lexI a c = true
  | [], _, _, _, _ => rfl
  | _ :: _, [], _, h, _ => by simp [lexI] at h
  | _ :: _, _ :: _, [], _, h => by simp [lexI] at h
  | x :: xs, y :: ys, z :: zs, h1, h2 => by
    by_cases h : x = y
    · subst h
      by_cases g : x = z
      · subst g
        simp only [lexI, if_pos] at h1 h2 ⊢
        exact lexI_trans xs ys zs h1 h2
      · simp only [lexI, if_pos, if_neg g] at h1 h2 ⊢
        exact h2
    · by_cases g : y = z
      · subst g
        simp only [lexI, if_pos, if_neg h] at h1 h2 ⊢
        exact h1
      · simp only [lexI, if_neg h, if_neg g, decide_eq_true_eq] at h1 h2
        have : x ≠ z := by omega
        simp only [lexI, if_neg this, decide_eq_true_eq]
        omega
theorem mem_insI {c a : List Int} : ∀ {l : List (List Int)}, c ∈ insI a l ↔ c = a ∨ c ∈ l
  | [] => by simp [insI]
  | b :: r => by
    unfold insI
    split
    · rename_i h
      subst h
      simp
    · split
      · simp
      · simp only [List.mem_cons, mem_insI (l := r)]
        constructor
        · rintro (h | h | h)
          · exact .inr (.inl h)
          · exact .inl h
          · exact .inr (.inr h)
        · rintro (h | h | h)
          · exact .inr (.inl h)
          · exact .inl h
          · exact .inr (.inr h)
theorem insI_sorted {a : List Int} : ∀ {l : List (List Int)}, l.Pairwise (fun x y => lexI x y = true ∧ x ≠ y) → (insI a l).Pairwise (fun x y => lexI x y = true ∧ x ≠ y)
  | [], _ => by simp [insI]
  | b :: r, h => by
    have h' := List.pairwise_cons.mp h
    unfold insI
    split
    · exact h
    · rename_i hab
      split
      · rename_i hl
        refine List.pairwise_cons.mpr ⟨fun c hc => ?_, h⟩
        rcases List.mem_cons.mp hc with rfl | hc
        · exact ⟨hl, hab⟩
        · refine ⟨lexI_trans _ _ _ hl (h'.1 c hc).1, ?_⟩
          rintro rfl
          exact hab (lexI_anti _ _ hl (h'.1 a hc).1)
      · rename_i hl
        have hl' : lexI b a = true := (lexI_total a b).resolve_left hl
        refine List.pairwise_cons.mpr ⟨fun c hc => ?_, insI_sorted h'.2⟩
        rcases mem_insI.mp hc with rfl | hc
        · exact ⟨hl', Ne.symm hab⟩
        · exact h'.1 c hc
theorem mem_uniqI {c : List Int} : ∀ {l : List (List Int)}, c ∈ uniqI l ↔ c ∈ l
  | [] => Iff.rfl
  | a :: r => by
    show c ∈ insI a (uniqI r) ↔ _
    rw [mem_insI, mem_uniqI (l := r), List.mem_cons]
theorem uniqI_sorted : ∀ (l : List (List Int)), (uniqI l).Pairwise (fun x y => lexI x y = true ∧ x ≠ y)
  | [] => .nil
  | a :: r => insI_sorted (uniqI_sorted r)
theorem uniqI_eq {l m : List (List Int)} (h1 : m.Nodup) (h2 : ∀ c, c ∈ m ↔ c ∈ l) (h3 : m.Pairwise fun x y => lexI x y = true) : m = uniqI l := by
  have s := uniqI_sorted l
  refine List.Perm.eq_of_pairwise (le := fun x y => lexI x y = true) (fun a b _ _ => lexI_anti a b) h3 (s.imp fun h => h.1) ?_
  refine (List.perm_ext_iff_of_nodup h1 (s.imp fun h => h.2)).mpr fun c => ?_
  rw [h2, mem_uniqI]
theorem code_lexI {B : Int} : ∀ {a b : List Int}, a.length = b.length → TS.Bd B a → TS.Bd B b → TS.code B a ≤ TS.code B b → lexI a b = true
  | [], _, _, _, _, _ => rfl
  | x :: xs, [], h, _, _, _ => by simp at h
  | x :: xs, y :: ys, h, h1, h2, hc => by
    have hl : xs.length = ys.length := by simpa using h
    rcases Int.lt_trichotomy x y with q | q | q
    · have : x ≠ y := by omega
      simp only [lexI, if_neg this, decide_eq_true_eq]
      exact q
    · subst q
      simp only [lexI, if_pos]
      refine code_lexI hl (fun m hm => h1 m (List.mem_cons_of_mem _ hm)) (fun m hm => h2 m (List.mem_cons_of_mem _ hm)) ?_
      simp only [TS.code, hl] at hc
      omega
    · have := TS.code_lt (B := B) hl.symm (fun m hm => h2 m (List.mem_cons_of_mem _ hm)) (fun m hm => h1 m (List.mem_cons_of_mem _ hm)) q
      omega
open Classical in
noncomputable def sortSetM (m : M) : T M := match m.listD with
  | some ds => match tupsD ds with
    | some nss => if okTups nss then .ret (.lst ((uniqI nss).map tupI)) else .bad
    | none => .bad
  | none => .bad
section
variable {X : Cx} {kn : PotKeys} {e : Expr} {pos p p2 q : Pos}
theorem tups_at {K : PySem.W.Frag} {H : Hp} : ∀ {vs : List V} {nss : List (List Int)}, FzAll K H vs (nss.map tupI) → ∃ ks : List (Addr × List Int), vs = ks.map (fun p => V.ref p.1) ∧ ks.map (·.2) = nss ∧ ∀ p ∈ ks, SqT K H p.1 (p.2.map V.int)
  | _, [], h => by cases h; exact ⟨[], rfl, rfl, fun _ h => nomatch h⟩
  | _, ns :: nss, h => by
    cases h with
    | cons a b =>
      obtain ⟨ks, e1, e2, e3⟩ := tups_at b
      cases a with
      | tup x y =>
        rename_i ad xs
        obtain rfl := FzAll.ints_of y
        exact ⟨(ad, ns) :: ks, by rw [e1]; rfl, by rw [List.map_cons, e2], fun p hp => by
          rcases List.mem_cons.mp hp with rfl | hp
          · exact x
          · exact e3 p hp⟩
theorem fz_tups {K : PySem.W.Frag} {H : Hp} : ∀ (ks : List (Addr × List Int)), (∀ p ∈ ks, SqT K H p.1 (p.2.map V.int)) → FzAll K H (ks.map fun p => V.ref p.1) ((ks.map (·.2)).map tupI)
  | [], _ => .nil
  | k :: ks, h => .cons (.tup (h k List.mem_cons_self) (fz_ints _)) (fz_tups ks fun p hp => h p (List.mem_cons_of_mem _ hp))
theorem dm_sortSet {f : DSt → T M} (hc : X.calm = true) (hu : X.A.units + 70 < cLine) (hg : Gl X "sorted") (hm : X.mg "sorted" = none) (hg2 : Gl X "set") (hm2 : X.mg "set" = none) (ha : PE X e (tPk kn X.K f))
    (h1 : starEach [e] X.env = (false, eval e X.env) :: starEach [] X.env := by rfl) (h2 : starEach [.Call (.Name "set" p2) [e] [] q] X.env = (false, eval (.Call (.Name "set" p2) [e] [] q) X.env) :: starEach [] X.env := by rfl) :
    PE X (.Call (.Name "sorted" p) [.Call (.Name "set" p2) [e] [] q] [] pos) (tM kn X.K (un1 sortSetM f)) :=
  pe_mono (pe_callB (cr_sortedT hc) hg hm (by decide +kernel) (pa_cons (pe_callTy (cr_setOfT hc (by omega)) hg2 hm2 (by decide +kernel) (pa_cons ha pa_nil h1) (he := h1)) pa_nil h2) (he := h2)) fun σ H Q ⟨Z, st, Fp, s, q⟩ =>
    ⟨Z, st, Fp, s, T.all_mono (T.bind_all q) fun m hm v H1 F x1 z1 mv o => by
      unfold sortSetM at hm
      split at hm
      · rename_i ds ed
        split at hm
        · rename_i nss en
          split at hm
          · rename_i hok
            obtain ⟨hlen, d, hd1, hd⟩ := hok
            obtain ⟨a, vs, rfl, lv, f⟩ := mv_list ed mv
            rw [tupsD_eq en] at f
            obtain ⟨ks, rfl, rfl, hk⟩ := tups_at f
            rw [List.length_map] at hlen
            refine ⟨a, ks, rfl, lv.sq, hk, hlen, fun c L hcn hL hL2 => ?_⟩
            have sm : Same H1 (L2.upd H1 c (SetTO X.prog X.w c L)) := same_new hcn
            have hL' : ∀ p ∈ L, SqT X.K (L2.upd H1 c (SetTO X.prog X.w c L)) p.1 (p.2.map V.int) := fun p hp => sqT_imm (.of_same sm) (hk p (hL p hp))
            have bd : ∀ p ∈ L, p.2.length = d ∧ TS.Bd 64 p.2 := fun p hp => by
              have h := hd p.2 (List.mem_map.mpr ⟨p, hL p hp, rfl⟩)
              exact ⟨h.1, fun m hm => h.2 m hm⟩
            refine ⟨c, L, d, 64, rfl, upd_same, hL', hd1, bd, fun Lr b pm nd hlt pw hbn => ?_⟩
            have eu : Lr.map (·.2) = uniqI (ks.map (·.2)) := by
              refine uniqI_eq nd (fun z => ?_) ?_
              · constructor
                · intro hz
                  obtain ⟨p, hp, rfl⟩ := List.mem_map.mp hz
                  exact List.mem_map.mpr ⟨p, hL p (pm.mem_iff.mp hp), rfl⟩
                · intro hz
                  obtain ⟨p, hp, rfl⟩ := List.mem_map.mp hz
                  obtain ⟨p', hp', e'⟩ := List.mem_map.mp (hL2 p hp)
                  exact List.mem_map.mpr ⟨p', pm.mem_iff.mpr hp', e'⟩
              · rw [List.pairwise_map]
                refine List.Pairwise.imp_of_mem (fun {a b} ha hb h => ?_) pw
                have ba := bd a (pm.mem_iff.mp ha)
                have bb := bd b (pm.mem_iff.mp hb)
                exact code_lexI (by rw [ba.1, bb.1]) ba.2 bb.2 h
            have fz : FzAll X.K (L2.upd H1 c (SetTO X.prog X.w c L)) (Lr.map fun q => V.ref q.1) ((uniqI (ks.map (·.2))).map tupI) := by
              rw [← eu]
              exact fz_tups Lr fun p hp => hL' p (pm.mem_iff.mp hp)
            have sm2 := sm.trans (same_new (o := .lst (Lr.map fun q => V.ref q.1)) hbn)
            exact (hm : ∀ v H' F, _ → _ → _ → _ → Q v H') (.ref b) _ [b] (x1.trans (.of_same sm2)) (z1.same sm2) (mv_lst hbn fz) fun y hy => by
              obtain rfl : y = b := by simpa using hy
              exact x1.none z1 (sm.free hbn)
          · exact hm.elim
        · exact hm.elim
      · exact hm.elim⟩
end
end L2.Zy
namespace L2.Zy
open PySem PyProof.Rows PySem.Spec
section
variable {X : Cx} {kn : PotKeys}
/-- a whole number the modules name -/
theorem dm_gl {x : Str} {i : Int} {pos : Pos} (hg : Gl X x) (h : ∃ t, X.mg x = some (.int i t)) (hd : (x == ("__debug__" : Str)) = false := by decide) : PE X (.Name x pos) (tM kn X.K (kM (.int i))) := by
  obtain ⟨t, e⟩ := h
  exact dm_c (pe_glob hg e (v := .int i) ⟨t, rfl⟩ hd) fun _ => .int i
end
end L2.Zy
namespace L2.Zy
open PySem PyProof.Rows PySem.Spec
/-! ## the pot's numbers -/
theorem valV_pairs (k : Str) : ∀ (ks : List Str) (is : List Int), is.length = ks.length → k ∈ ks → ∃ j ∈ is, valV ((ks.zip is).map fun q => ((Sum.inr q.1 : Key), V.int q.2)) (.inr k) = some (.int j)
  | [], _, _, h => nomatch h
  | x :: ks, [], h, _ => nomatch h
  | x :: ks, i :: is, hl, hk => by
    by_cases e : x = k
    · subst e
      exact ⟨i, List.mem_cons_self .., valV_pos rfl⟩
    · obtain ⟨j, hj, e2⟩ := valV_pairs k ks is (Nat.succ.inj hl) ((List.mem_cons.mp hk).resolve_left (Ne.symm e))
      refine ⟨j, List.mem_cons_of_mem _ hj, ?_⟩
      rw [List.zip_cons_cons, List.map_cons, valV_neg (by intro q; cases q; exact e rfl)]
      exact e2
theorem valV_pot {kn : PotKeys} {g : Addr} {is : List Int} {k : Str} (hl : is.length = kn.ks.length) (hk : k ∈ kn.ks) (h0 : kn.k0 ≠ k) : ∃ j ∈ is, valV (potPairs kn g is) (.inr k) = some (.int j) := by
  obtain ⟨j, hj, e⟩ := valV_pairs k kn.ks is hl hk
  refine ⟨j, hj, ?_⟩
  unfold potPairs
  rw [valV_neg (by intro q; cases q; exact h0 rfl)]
  exact e
theorem zipput (k : Str) (v : Int) : ∀ (ks : List Str) (is : List Int), is.length = ks.length → ∃ js : List Int, js.length = ks.length ∧ (∀ j ∈ js, j = v ∨ j ∈ is) ∧
    ((ks.zip is).map fun q => ((Sum.inr q.1 : Key), V.int q.2)).map (fun kv => if kv.1 = Sum.inr k then (kv.1, V.int v) else kv) = (ks.zip js).map fun q => ((Sum.inr q.1 : Key), V.int q.2)
  | [], _, _ => ⟨[], rfl, (fun _ h => nomatch h), rfl⟩
  | x :: ks, [], h => nomatch h
  | x :: ks, i :: is, hl => by
    obtain ⟨js, l, m, e⟩ := zipput k v ks is (Nat.succ.inj hl)
    by_cases q : x = k
    · subst q
      refine ⟨v :: js, congrArg Nat.succ l, fun j hj => ?_, ?_⟩
      · rcases List.mem_cons.mp hj with h | h
        · exact .inl h
        · rcases m j h with h | h
          · exact .inl h
          · exact .inr (List.mem_cons_of_mem _ h)
      · rw [List.zip_cons_cons, List.zip_cons_cons, List.map_cons, List.map_cons, List.map_cons, e, if_pos rfl]
    · refine ⟨i :: js, congrArg Nat.succ l, fun j hj => ?_, ?_⟩
      · rcases List.mem_cons.mp hj with h | h
        · exact .inr (h ▸ List.mem_cons_self ..)
        · rcases m j h with h | h
          · exact .inl h
          · exact .inr (List.mem_cons_of_mem _ h)
      · rw [List.zip_cons_cons, List.zip_cons_cons, List.map_cons, List.map_cons, List.map_cons, e, if_neg (by intro h; cases h; exact q rfl)]
theorem put_pot {kn : PotKeys} {g : Addr} {is : List Int} {k : Str} {v : Int} (hl : is.length = kn.ks.length) (hk : k ∈ kn.ks) (h0 : kn.k0 ≠ k) (hp : ∀ i ∈ is, 0 ≤ i) (hv : 0 ≤ v) :
    ∃ js : List Int, js.length = kn.ks.length ∧ (∀ i ∈ js, 0 ≤ i) ∧ putK (potPairs kn g is) (.inr k) (.int v) = potPairs kn g js := by
  obtain ⟨j, _, e⟩ := valV_pot (g := g) hl hk h0
  obtain ⟨js, l, m, e2⟩ := zipput k v kn.ks is hl
  refine ⟨js, l, fun i hi => ?_, ?_⟩
  · rcases m i hi with h | h
    · exact h ▸ hv
    · exact hp i h
  · unfold putK
    rw [valV_any, e, if_pos (show (some (V.int j)).isSome = true from rfl)]
    unfold potPairs
    rw [List.map_cons, e2, if_neg (by intro h; cases h; exact h0 rfl)]
theorem Zone.Ok.on {kn : PotKeys} {Z : Zone} {H : Hp} (z : Z.Ok kn H) {p : Addr} (e : Z.p = some p) : ∃ g, Z.g = some g ∧ POk kn p g H := by
  rcases z with ⟨q, _⟩ | ⟨p', g, e1, e2, q⟩
  · rw [q] at e; cases e
  · rw [e1] at e
    cases e
    exact ⟨g, e2, q⟩
theorem potObj_dict {kn : PotKeys} {g : Addr} {is : List Int} (h : kn.lst = false) : potObj kn g is = .dK (potPairs kn g is) := by
  unfold potObj
  rw [h]
def potGet (m : M) : T M := match m with
  | .pot => .nat fun i => .ret (.pure (.int i))
  | _ => .bad
def potPut (v m : M) (st : DSt) : T (Fw × DSt) := match v, m with
  | .pure (.int i), .pot => if 0 ≤ i then .ret (.nx, st) else .bad
  | _, _ => .bad
section
variable {X : Cx} {kn : PotKeys} {o value : Expr} {H0 : Hp} {pos pos' pos'' : Pos}
theorem dm_potget {f : DSt → T M} {key : Str} {j : Nat} (hd : kn.lst = false) (hk : key ∈ kn.ks) (h0 : kn.k0 ≠ key) (hu : X.A.units + 1 < cLine) (ho : PE X o (tPk kn X.K f)) : PE X (.Subscript o (.Constant (.str key) j pos') pos) (tM kn X.K fun st => f st >>= potGet) :=
  pe_mono (pe_dget hu ho (pe_str (x := key)) (by intro _ _; rfl)) fun σ H Q ⟨Z, st, Fp, s, q⟩ => ⟨Z, st, Fp, s, T.all_mono (T.bind_all q) fun m hm v H' F x z mv of => by
    unfold potGet at hm
    split at hm
    · obtain ⟨_, p, ep, rfl⟩ := mv
      obtain ⟨g, eg, zz⟩ := z.on ep
      obtain ⟨is, hl, hp, e⟩ := zz.pot
      rw [potObj_dict hd] at e
      obtain ⟨i, hi, e2⟩ := valV_pot (g := g) hl hk h0
      exact ⟨p, .int i, rfl, by have := DGet.k (k := .inr key) e; rw [e2] at this; exact this, hm i (hp i hi) _ _ [] x z ⟨rfl, .int i⟩ fun _ h => nomatch h⟩
    · exact hm.elim⟩
theorem ds_potput {f g : DSt → T M} {key : Str} {j : Nat} (hd : kn.lst = false) (hk : key ∈ kn.ks) (h0 : kn.k0 ≠ key) (hz : kn.ks.length < 1000) (hu : X.A.units + 1 < cLine) (ho : PE X o (tPk kn X.K f)) (hv : PE X value (tM kn X.K g))
    (hs : swapsWith value (some (.Subscript o (.Constant (.str key) j pos') pos'')) pos.line X.env = pure false := by rfl) :
    PS X (.Assign [.Subscript o (.Constant (.str key) j pos') pos''] value pos) (tS kn X.K H0 fun st => g st >>= fun v => f st >>= fun m => potPut v m st) :=
  ps_mono (ps_dput hu ho (pe_str (x := key)) hv hs) fun D σ H ⟨Z, st, Fp, k, q⟩ => ⟨Z, st, Fp, k.sr, T.all_mono (T.bind_all q) fun v hv u H1 F1 x1 z1 mv1 fr1 =>
    ⟨Z, st, Fp, k.sr.ext x1 z1, T.all_mono (T.bind_all hv) fun m hm w H2 F2 x2 z2 mv2 of2 => by
      unfold potPut at hm
      split at hm
      · rename_i i
        split at hm
        · rename_i hi
          obtain ⟨_, fz⟩ := mv1
          obtain rfl := fz_int fz
          obtain ⟨_, p, ep, rfl⟩ := mv2
          obtain ⟨g, eg, zz⟩ := z2.on ep
          obtain ⟨is, hl, hp, e⟩ := zz.pot
          rw [potObj_dict hd] at e
          obtain ⟨js, l2, p2, e2⟩ := put_pot (g := g) (v := i) hl hk h0 hp hi
          obtain ⟨gs, g1, g2, g3⟩ := zz.great
          have ne := zz.ne
          have x3 : Ext Z H2 (upd H2 p (.dK (potPairs kn g js))) := fun a o h n1 n2 => by rw [upd_ne (fun q => n1 (by rw [q, ep]))]; exact h
          have z3 : Z.Ok kn (upd H2 p (.dK (potPairs kn g js))) := .inr ⟨p, g, ep, eg, ne, ⟨js, l2, p2, by rw [upd_same, potObj_dict hd]⟩, ⟨gs, g1, g2, by rw [upd_ne ne.symm]; exact g3⟩⟩
          have x := x1.trans (x2.trans x3)
          refine ⟨p, _, rfl, by have := DPut.k (k := .inr key) (v := .int i) e (by unfold potPairs; rw [List.length_cons, List.length_map, List.length_zip, hl, Nat.min_self]; exact Nat.lt_of_lt_of_le (Nat.succ_lt_succ hz) (by decide)); rw [e2] at this; exact this, ?_⟩
          exact (hm : ∀ σ' H' Fp', _ → _ → D.nx σ' H') σ _ Fp ⟨k.sr.ext x z3, k.old.trans x, k.new⟩ (x.imm k.sr.zok)
        · exact hm.elim
      · exact hm.elim⟩⟩
end
end L2.Zy
namespace L2.Zy
open PySem PyProof.Rows PySem.Spec
/-! ## the draw from the list of great numbers -/
theorem ints_depth : ∀ gs : List Int, PyData.depthAll (gs.map PyData.int) ≤ 1
  | [] => by simp [PyData.depthAll]
  | g :: gs => by
    have := ints_depth gs
    simp [PyData.depthAll, PyData.depth]
    try omega
theorem ints_lay : ∀ gs : List Int, PyData.canLayAll0 (gs.map PyData.int) = true
  | [] => by simp [PyData.canLayAll0]
  | g :: gs => by
    have := ints_lay gs
    simp [PyData.canLayAll0, PyData.canLay0, this]
theorem okD_ints (gs : List Int) (h : gs.length ≤ sizeLine) : okD (.list (gs.map PyData.int)) = true := by
  have h1 := ints_depth gs
  have h2 := ints_lay gs
  unfold okD SeqAt.shaped
  simp [PyData.canLay0, PyData.depth, h2, h]
  try omega

section
variable {X : Cx} {kn : PotKeys} {H0 : Hp} {tg : TE} {ct cond ep ea : Expr} {rest : List Stmt}
def greatS (ic im : Nat) (r : Sm) : Sm := fun st => match st[im]? with
  | some (some (.pure (.int n))) => if 0 < n ∧ n < 2 ^ 64 ∧ ic < st.length then .nat fun b => if b = 0 then .ret (.nx, st) else .nat fun c => r (st.set ic (some (.pure (.int c)))) else .bad
  | _ => .bad
structure AtG (Rg : Addr → St → Hp → Prop) (tg : TE) (ic : Nat) : Prop where
  get : ∀ a σ H Q, Rg a σ H → Q (.ref a) H → tg σ H Q
  set : ∀ a σ H v, Rg a σ H → Rg a (σ.set ic (some v)) H
  up : ∀ a σ H o, Rg a σ H → Rg a σ (upd H a o)
  same : ∀ a σ H H', Rg a σ H → Same H H' → Rg a σ H'
theorem ps_great {Rg : Addr → St → Hp → Prop} {ic im : Nat} {c : Str} {pc ps1 p1 p2 p3 : Pos} {s : Sm} (G : AtG Rg tg ic) (hN : X.N.Nodup) (hc : X.N[ic]? = some c) (hl : Loc X.env.scope c) (hic : ic ≠ im)
    (htest : PT X ct (tTest (tOp (rM2 X.K neM) tg (tLst tNil)))) (hpop : PE X ep (tBM0 X.K "list" rPop tg))
    (hcond : PT X cond (tTest (tOp (rM2 X.K geM) (tVar ic) (tVar im)))) (happ : PE X ea (tBM X.K "list" rAppend tg (tCons (tOp (rM2 X.K fdivM) (tVar ic) (tVar im)) tNil)))
    (hrest : PSs X rest (tS kn X.K H0 s)) (hs1 : swapsWith ep (some (.Name c pc)) ps1.line X.env = pure false := by rfl) (hs2 : swapsWith ea none p3.line X.env = pure false := by rfl)
    (hf : X.fn c = true ∨ X.env.scope.names.lookup c = some .local := by first | exact .inl rfl | exact .inr rfl | assumption) :
    PS X (.If ct (.Assign [.Name c pc] ep ps1 :: .If cond [.Expr ea p3] [] p2 :: rest) [] p1) fun D σ H => ∃ Z st Fp p g, Sk kn X.K H0 Z st σ H Fp ∧ Z.p = some p ∧ Z.g = some g ∧ Rg g σ H ∧ (greatS ic im s st).all (Po kn X.K H0 Z H D) :=
  ps_mono (ps_if htest (pss_cons (ps_set hN hc hl hpop hs1 hf) (pss_cons (ps_if hcond (pss_one (ps_expr happ hs2)) pss_nil) hrest)) pss_nil) fun D σ H ⟨Z, st, Fp, p0, g0, k, ep, eg, r, q⟩ => by
    unfold greatS at q
    split at q
    · rename_i n e0
      split at q
      · rename_i hn
        obtain ⟨g0', eg', zz0⟩ := k.sr.zok.on ep
        rw [eg] at eg'
        cases eg'
        obtain ⟨gs, g1, g2, g3⟩ := zz0.great
        have hsz : gs.length ≤ sizeLine := Nat.le_trans g2 (by decide)
        have q0 := q
        obtain ⟨vn, hvn, mvn⟩ := k.sr.at_ im _ e0
        obtain rfl := fz_int mvn.2
        refine G.get _ _ _ _ r ⟨Nat.zero_le _, fun p hp => ?_⟩
        have x1 : Same H (upd H p (.lst [])) := same_new hp
        have r1 := G.same _ _ _ _ r x1
        have g4 := x1 _ _ g3
        have k1 : Sk kn X.K H0 Z st σ (upd H p (.lst [])) Fp := k.ext (.of_same x1) (k.sr.zok.same x1)
        refine ⟨Z, .lst (gs.map PyData.int), .lst [], [g0], [p], ⟨_, _, rfl, rfl, g4, fz_ints gs⟩, ⟨_, _, rfl, rfl, upd_same, .nil⟩, ?_⟩
        unfold neM
        have ok1 := okD_ints gs hsz
        have ok2 : okD (.list []) = true := by decide
        simp only [M.toD, ok1, ok2, and_self, if_true, T.all_ret]
        intro v H2 F2 x2 mv2 _
        obtain rfl := fz_bl mv2.2
        refine ⟨_, rfl, ?_⟩
        have r2 := G.same _ _ _ _ r1 x2
        have g5 := x2 _ _ g4
        have k2 : Sk kn X.K H0 Z st σ H2 Fp := k1.ext (.of_same x2) (k1.sr.zok.same x2)
        have im2 : Imm H H2 := (Imm.of_same x1).trans (.of_same x2)
        have q1 : Po kn X.K H0 Z H D (.nx, st) := q 0 (Int.le_refl 0)
        rcases gs.eq_nil_or_concat with rfl | ⟨gi, gl, rfl⟩
        · rw [show (!PyData.eqv (.list (([] : List Int).map PyData.int)) (.list [])) = false by simp [PyData.eqv, PyData.eqvAll], if_neg Bool.false_ne_true]
          exact (q1 : ∀ σ' H' Fp', _ → _ → D.nx σ' H') _ _ _ k2 im2
        · have hgl : 0 ≤ gl := g1 gl (by simp)
          have hgi : ∀ i ∈ gi, 0 ≤ i := fun i hi => g1 i (by simp [hi])
          have hlen : gi.length + 1 ≤ 63 := by simpa using g2
          have q2 : (s (st.set ic (some (.pure (.int gl))))).all (Po kn X.K H0 Z H D) := q 1 (by decide) gl hgl
          rw [show (!PyData.eqv (.list ((gi.concat gl).map PyData.int)) (.list [])) = true by cases gi <;> simp [PyData.eqv, PyData.eqvAll], if_pos rfl]
          have hic' : ic < σ.length := k.sr.len ▸ hn.2.2
          refine G.get _ _ _ _ r2 ⟨.inl ⟨rfl, _, .of g5⟩, g0, _, .int gl, rfl, rfl, g5, by simp, ?_⟩
          have e3 : (((gi.concat gl).map V.int).dropLast) = gi.map V.int := by simp
          rw [e3]
          have x3 : Ext Z H2 (upd H2 g0 (.lst (gi.map V.int))) := fun a o h n1 n2 => by rw [upd_ne (fun q => n2 (by rw [q, eg]))]; exact h
          have zz : ∀ (H : Hp) (l : List Int), Z.Ok kn H → (∀ i ∈ l, 0 ≤ i) → l.length ≤ 63 → Z.Ok kn (upd H g0 (.lst (l.map V.int))) := fun H l z a b => by
            obtain ⟨g', e', zz⟩ := z.on ep
            rw [eg] at e'
            cases e'
            obtain ⟨is, i1, i2, i3⟩ := zz.pot
            exact .inr ⟨p0, g0, ep, eg, zz.ne, ⟨is, i1, i2, by rw [upd_ne zz.ne]; exact i3⟩, ⟨l, a, b, upd_same⟩⟩
          have z3 := zz H2 gi k2.sr.zok hgi (by omega)
          have k3 := k2.put (i := ic) (m := .pure (.int gl)) (v := .int gl) (F := []) x3 z3 ⟨rfl, .int _⟩ fun _ h => nomatch h
          have r3 : Rg g0 (σ.set ic (some (.int gl))) (upd H2 g0 (.lst (gi.map V.int))) := G.set _ _ _ _ (G.up _ _ _ _ r2)
          have s1 : (σ.set ic (some (V.int gl)))[ic]? = some (some (.int gl)) := List.getElem?_set_self hic'
          have s2 : (σ.set ic (some (V.int gl)))[im]? = some (some (.int n)) := by rw [List.getElem?_set_ne hic]; exact hvn
          have mi : ∀ (H : Hp) (i : Int), MV X.K Z H (.pure (.int i)) (.int i) [] := fun H i => ⟨rfl, .int i⟩
          refine ⟨_, s1, _, s2, Z, .pure (.int gl), .pure (.int n), [], [], mi _ _, mi _ _, ?_⟩
          show (T.ret (M.pure (.bool _))).all _
          intro v H4 F4 x4 mv4 _
          obtain rfl := fz_bl mv4.2
          refine ⟨_, rfl, ?_⟩
          have k4 := k3.ext (.of_same x4) (k3.sr.zok.same x4)
          have r4 := G.same _ _ _ _ r3 x4
          have g6 : H4 g0 = some (.lst (gi.map V.int)) := x4 _ _ upd_same
          have im4 : Imm H H4 := (im2.trans (x3.imm k2.sr.zok)).trans (.of_same x4)
          show if decide (n ≤ gl) = true then _ else _
          cases hb : (decide (n ≤ gl)) with
          | false =>
            rw [if_neg Bool.false_ne_true]
            exact ⟨Z, _, _, k4, T.all_mono q2 fun y hy => po_imm im4 hy⟩
          | true =>
            rw [if_pos rfl]
            refine G.get _ _ _ _ r4 ⟨.inl ⟨rfl, _, .of g6⟩, _, s1, _, s2, Z, .pure (.int gl), .pure (.int n), [], [], mi _ _, mi _ _, ?_⟩
            have hlog : n.natAbs.log2 < 9000 := Nat.lt_of_lt_of_le ((Nat.log2_lt (by omega)).mpr (show n.natAbs < 2 ^ 64 by omega)) (by decide)
            show (fdivM (.pure (.int gl)) (.pure (.int n))).all _
            unfold fdivM
            simp only [hn.1, hlog, and_self, if_true, T.all_ret]
            intro v H5 F5 x5 mv5 _
            obtain rfl := fz_int mv5.2
            have g7 := x5 _ _ g6
            refine ⟨g0, _, _, rfl, rfl, g7, by rw [List.length_map]; exact Nat.lt_of_lt_of_le (show gi.length < 63 by omega) (by decide), ?_⟩
            have e6 : gi.map V.int ++ [V.int (gl / n)] = (gi ++ [gl / n]).map V.int := by simp
            rw [e6]
            have k5 := k4.ext (.of_same x5) (k4.sr.zok.same x5)
            have x6 : Ext Z H5 (upd H5 g0 (.lst ((gi ++ [gl / n]).map V.int))) := fun a o h n1 n2 => by rw [upd_ne (fun q => n2 (by rw [q, eg]))]; exact h
            have z6 := zz H5 (gi ++ [gl / n]) k5.sr.zok (fun i hi => by
              rcases List.mem_append.mp hi with h | h
              · exact hgi i h
              · rw [List.mem_singleton.mp h]; exact Int.ediv_nonneg hgl (Int.le_of_lt hn.1)) (by rw [List.length_append]; exact hlen)
            exact ⟨Z, _, _, k5.ext x6 z6, T.all_mono q2 fun y hy => po_imm ((im4.trans (.of_same x5)).trans (x6.imm k5.sr.zok)) hy⟩
      · exact q.elim
    · exact q.elim

theorem seq_all {s1 s2 : Sm} {Z : Zone} {st : DSt} {H : Hp} {D : Ends} (q : (seqS s1 s2 st).all (Po kn X.K H0 Z H D)) : (s1 st).all (Po kn X.K H0 Z H { D with nx := tS kn X.K H0 s2 D }) :=
  T.all_mono (T.bind_all q) fun x hx => by
    obtain ⟨f, st'⟩ := x
    cases f with
    | nx => exact fun σ' H' Fp' s' i => ⟨Z, st', Fp', s', T.all_mono hx fun y hy => po_imm i hy⟩
    | bk => exact hx
    | ct => exact hx
    | rt m => exact hx
/-- the list is read anew each time -/
def greatJ (ip ic im : Nat) (s : Sm) : Sm := fun st => match st[ip]? with
  | some (some .pot) => greatS ic im s st
  | _ => .bad
/-- the list has a name -/
def greatP (ip ig ic im : Nat) (s s2 : Sm) : Sm := fun st => match st[ip]? with
  | some (some .pot) => if ig < st.length then seqS (greatS ic im s) s2 (wipeD st [ig]) else .bad
  | _ => .bad
theorem Sk.potAt {Z : Zone} {st : DSt} {σ : St} {H : Hp} {Fp : Nat → List Addr} {K : PySem.W.Frag} (k : Sk kn K H0 Z st σ H Fp) {i : Nat} (e : st[i]? = some (some .pot)) : ∃ p g, Z.p = some p ∧ Z.g = some g ∧ σ[i]? = some (some (.ref p)) ∧ POk kn p g H := by
  obtain ⟨v, h, mv⟩ := k.sr.at_ i _ e
  obtain ⟨_, p, ep, rfl⟩ := mv
  obtain ⟨g, eg, z⟩ := k.sr.zok.on ep
  exact ⟨p, g, ep, eg, h, z⟩
theorem atJ {ip ic : Nat} (h : ip ≠ ic) : AtG (fun a σ H => ∃ p is, p ≠ a ∧ σ[ip]? = some (some (.ref p)) ∧ H p = some (.dK (potPairs kn a is))) (tDGet (tVar ip) (tC (.str kn.k0))) ic where
  get a σ H Q r q := by
    obtain ⟨p, is, n, e, e2⟩ := r
    refine ⟨_, e, p, .ref a, rfl, ?_, q⟩
    have := DGet.k (k := .inr kn.k0) e2
    rw [show valV (potPairs kn a is) (.inr kn.k0) = some (.ref a) from valV_pos rfl] at this
    exact this
  set a σ H v r := by
    obtain ⟨p, is, n, e, e2⟩ := r
    exact ⟨p, is, n, by rw [List.getElem?_set_ne (Ne.symm h)]; exact e, e2⟩
  up a σ H o r := by
    obtain ⟨p, is, n, e, e2⟩ := r
    exact ⟨p, is, n, e, by rw [upd_ne n]; exact e2⟩
  same a σ H H' r s := by
    obtain ⟨p, is, n, e, e2⟩ := r
    exact ⟨p, is, n, e, s _ _ e2⟩
theorem atP {ig ic : Nat} (h : ig ≠ ic) : AtG (fun a σ H => σ[ig]? = some (some (.ref a))) (tVar ig) ic where
  get a σ H Q r q := ⟨_, r, q⟩
  set a σ H v r := by rw [List.getElem?_set_ne (Ne.symm h)]; exact r
  up a σ H o r := r
  same a σ H H' r s := r
theorem ds_greatJ {ip ic im : Nat} {c : Str} {pc ps1 p1 p2 p3 : Pos} {s : Sm} (hd : kn.lst = false) (hip : ip ≠ ic) (hN : X.N.Nodup) (hc : X.N[ic]? = some c) (hl : Loc X.env.scope c) (hic : ic ≠ im)
    (htest : PT X ct (tTest (tOp (rM2 X.K neM) (tDGet (tVar ip) (tC (.str kn.k0))) (tLst tNil)))) (hpop : PE X ep (tBM0 X.K "list" rPop (tDGet (tVar ip) (tC (.str kn.k0)))))
    (hcond : PT X cond (tTest (tOp (rM2 X.K geM) (tVar ic) (tVar im)))) (happ : PE X ea (tBM X.K "list" rAppend (tDGet (tVar ip) (tC (.str kn.k0))) (tCons (tOp (rM2 X.K fdivM) (tVar ic) (tVar im)) tNil)))
    (hrest : PSs X rest (tS kn X.K H0 s)) (hs1 : swapsWith ep (some (.Name c pc)) ps1.line X.env = pure false := by rfl) (hs2 : swapsWith ea none p3.line X.env = pure false := by rfl)
    (hf : X.fn c = true ∨ X.env.scope.names.lookup c = some .local := by first | exact .inl rfl | exact .inr rfl | assumption) :
    PS X (.If ct (.Assign [.Name c pc] ep ps1 :: .If cond [.Expr ea p3] [] p2 :: rest) [] p1) (tS kn X.K H0 (greatJ ip ic im s)) :=
  ps_mono (ps_great (atJ hip) hN hc hl hic htest hpop hcond happ hrest hs1 hs2 hf) fun D σ H ⟨Z, st, Fp, k, q⟩ => by
    unfold greatJ at q
    split at q
    · rename_i e
      obtain ⟨p, g, ep, eg, hσ, z⟩ := k.potAt e
      obtain ⟨is, _, _, e2⟩ := z.pot
      rw [potObj_dict hd] at e2
      exact ⟨Z, st, Fp, p, g, k, ep, eg, ⟨p, is, z.ne, hσ, e2⟩, q⟩
    · exact q.elim
theorem ds_greatP {ip ig ic im : Nat} {c g : Str} {pg psg pc ps1 p1 p2 p3 : Pos} {ed : Expr} {rest2 : List Stmt} {s s2 : Sm} (hdk : kn.lst = false) (hig : ig ≠ ic) (hN : X.N.Nodup) (hg : X.N[ig]? = some g) (hgl : Loc X.env.scope g) (hc : X.N[ic]? = some c) (hl : Loc X.env.scope c) (hic : ic ≠ im)
    (hd : PE X ed (tDGet (tVar ip) (tC (.str kn.k0)))) (htest : PT X ct (tTest (tOp (rM2 X.K neM) (tVar ig) (tLst tNil)))) (hpop : PE X ep (tBM0 X.K "list" rPop (tVar ig)))
    (hcond : PT X cond (tTest (tOp (rM2 X.K geM) (tVar ic) (tVar im)))) (happ : PE X ea (tBM X.K "list" rAppend (tVar ig) (tCons (tOp (rM2 X.K fdivM) (tVar ic) (tVar im)) tNil)))
    (hrest : PSs X rest (tS kn X.K H0 s)) (hrest2 : PSs X rest2 (tS kn X.K H0 s2)) (hs0 : swapsWith ed (some (.Name g pg)) psg.line X.env = pure false := by rfl) (hs1 : swapsWith ep (some (.Name c pc)) ps1.line X.env = pure false := by rfl) (hs2 : swapsWith ea none p3.line X.env = pure false := by rfl)
    (hfg : X.fn g = true ∨ X.env.scope.names.lookup g = some .local := by first | exact .inl rfl | exact .inr rfl | assumption)
    (hf : X.fn c = true ∨ X.env.scope.names.lookup c = some .local := by first | exact .inl rfl | exact .inr rfl | assumption) :
    PSs X (.Assign [.Name g pg] ed psg :: .If ct (.Assign [.Name c pc] ep ps1 :: .If cond [.Expr ea p3] [] p2 :: rest) [] p1 :: rest2) (tS kn X.K H0 (greatP ip ig ic im s s2)) :=
  pss_mono (pss_cons (ps_set hN hg hgl hd hs0 hfg) (pss_cons (ps_great (atP hig) hN hc hl hic htest hpop hcond happ hrest hs1 hs2 hf) hrest2)) fun D σ H ⟨Z, st, Fp, k, q⟩ => by
    unfold greatP at q
    split at q
    · rename_i e
      split at q
      · rename_i hlt
        obtain ⟨p, g0, ep, eg, hσ, z⟩ := k.potAt e
        obtain ⟨is, _, _, e2⟩ := z.pot
        rw [potObj_dict hdk] at e2
        refine ⟨_, hσ, p, .ref g0, rfl, ?_, ?_⟩
        · have := DGet.k (k := .inr kn.k0) e2
          rw [show valV (potPairs kn g0 is) (.inr kn.k0) = some (.ref g0) from valV_pos rfl] at this
          exact this
        · refine ⟨Z, wipeD st [ig], Fp, p, g0, ?_, ep, eg, List.getElem?_set_self (k.sr.len ▸ hlt), seq_all q⟩
          refine ⟨k.sr.weak (by rw [wipeD_len, List.length_set]; exact k.sr.len) fun i m e => ?_, k.old, fun i m e => k.new i m (wipeD_some e).1⟩
          refine ⟨(wipeD_some e).1, ?_⟩
          have := (wipeD_some e).2
          rw [List.getElem?_set_ne (fun h => this (by simp [h]))]
      · exact q.elim
    · exact q.elim
end
end L2.Zy
namespace L2.Zy
open PySem PyProof.Rows PySem.Spec
/-! ## what a draw promises -/
def drawPc : List M → T M
  | [.pot, .pure (.int n)] => if n < 2 ^ 64 then .draw n fun i => .ret (.pure (.int i)) else .bad
  | _ => .bad
def drawJc : List M → T M
  | [.pot, .pure (.int n)] => if n < 2 then .ret (.pure (.int 0)) else if n < 2 ^ 64 then .draw n fun i => .ret (.pure (.int i)) else .bad
  | _ => .bad
/-! sealed, so that no check looks inside -/
theorem drawP_ex : ∃ f : List M → T M, f = drawPc := ⟨_, rfl⟩
theorem drawJ_ex : ∃ f : List M → T M, f = drawJc := ⟨_, rfl⟩
noncomputable def drawP : List M → T M := Classical.choose drawP_ex
noncomputable def drawJ : List M → T M := Classical.choose drawJ_ex
theorem drawP_def : drawP = drawPc := Classical.choose_spec drawP_ex
theorem drawJ_def : drawJ = drawJc := Classical.choose_spec drawJ_ex
theorem drawP_inv {ms : List M} {P : M → Prop} (h : (drawP ms).all P) : ∃ n, ms = [.pot, .pure (.int n)] ∧ 0 < n ∧ n < 2 ^ 64 ∧ ∀ i : Int, 0 ≤ i → i < n → P (.pure (.int i)) := by
  rw [drawP_def] at h
  unfold drawPc at h
  split at h
  · rename_i n
    split at h
    · rename_i hn
      exact ⟨n, rfl, h.1, hn, h.2⟩
    · exact h.elim
  · exact h.elim
theorem drawJ_inv {ms : List M} {P : M → Prop} (h : (drawJ ms).all P) : ∃ n, ms = [.pot, .pure (.int n)] ∧ n < 2 ^ 64 ∧ (n < 2 → P (.pure (.int 0))) ∧ (2 ≤ n → ∀ i : Int, 0 ≤ i → i < n → P (.pure (.int i))) := by
  rw [drawJ_def] at h
  unfold drawJc at h
  split at h
  · rename_i n
    split at h
    · rename_i hn
      exact ⟨n, rfl, by omega, fun _ => h, fun h => by omega⟩
    · split at h
      · rename_i h2 hn
        exact ⟨n, rfl, hn, fun h => absurd h h2, fun _ => h.2⟩
      · exact h.elim
  · exact h.elim
section
variable {P : Program} {w : World} {K : PySem.W.Frag} {mg : Str → Option Value} {base : Heap} {kn : PotKeys} {f : Addr} {fd : FuncData} {ps : List Str} {n k : Nat} {d d' : List M → T M}
theorem fnD_mono (hm : ∀ ms (Q : M → Prop), (d ms).all Q → (d' ms).all Q) (h : FnG P w K mg base k f fd ps (spM kn K n d')) : FnG P w K mg base k f fd ps (spM kn K n d) :=
  ⟨fun vs H Q E ⟨Z, ms, z, mv, l, p, q⟩ => h.len vs H Q E ⟨Z, ms, z, mv, l, p, hm _ _ q⟩, fun A outer s H args us vs Q E hg hr he hb hv ⟨Z, ms, z, mv, l, p, q⟩ => h.run A outer s H args us vs Q E hg hr he hb hv ⟨Z, ms, z, mv, l, p, hm _ _ q⟩⟩
end
theorem un2 {A : Around} {k : Nat} (h : Room k A) : A.units + 1 < cLine := by
  have := un64 h
  omega

/-! ## running -/
theorem nm_at {i : Nat} {st : DSt} {m : M} (h : st[i]? = some (some m)) : nm i st = .ret m := by unfold nm; rw [h]
theorem nmP_at {i : Nat} {st : DSt} {d : D} (h : st[i]? = some (some (.pure d))) : nmP i st = .ret (.pure d) := by unfold nmP; rw [h]; rfl
theorem nmP_pot {i : Nat} {st : DSt} (h : st[i]? = some (some .pot)) : nmP i st = .ret .pot := by unfold nmP; rw [h]; rfl
theorem addM_ii (i j : Int) : addM (.pure (.int i)) (.pure (.int j)) = .ret (.pure (.int (i + j))) := rfl
theorem addM_ib (i : Int) (b : Bool) : addM (.pure (.int i)) (.pure (.bool b)) = .ret (.pure (.int (i + b2i b))) := rfl
theorem subM_ii (i j : Int) : subM (.pure (.int i)) (.pure (.int j)) = .ret (.pure (.int (i - j))) := rfl
theorem mulM_ii {i j : Int} (h : mulOk i j = true) : mulM (.pure (.int i)) (.pure (.int j)) = .ret (.pure (.int (i * j))) := by
  show (if mulOk i j = true then _ else _) = _
  rw [if_pos h]
theorem mulM_ir {i j : Int} (h : j.natAbs < 2 ^ 64) : mulM (.pure (.int i)) (.pure (.int j)) = .ret (.pure (.int (i * j))) := mulM_ii (decide_eq_true (.inr (.inl h)))
theorem mulM_il {i j : Int} (h : i.natAbs < 2 ^ 64) : mulM (.pure (.int i)) (.pure (.int j)) = .ret (.pure (.int (i * j))) := mulM_ii (decide_eq_true (.inl h))
theorem fdivM_ii {i j : Int} (h : 0 < j) (h2 : j < 2 ^ 64) : fdivM (.pure (.int i)) (.pure (.int j)) = .ret (.pure (.int (i / j))) := by
  show (if 0 < j ∧ j.natAbs.log2 < 9000 then _ else _) = _
  rw [if_pos ⟨h, Nat.lt_of_lt_of_le ((Nat.log2_lt (by omega)).mpr (show j.natAbs < 2 ^ 64 by omega)) (by decide)⟩]
theorem modM_ii {i j : Int} (h : 0 < j) : modM (.pure (.int i)) (.pure (.int j)) = .ret (.pure (.int (i % j))) := by
  show (if 0 < j then _ else _) = _
  rw [if_pos h]
theorem negM_i (i : Int) : negM (.pure (.int i)) = .ret (.pure (.int (-i))) := rfl
theorem intM_i (i : Int) : intM (.pure (.int i)) = .ret (.pure (.int i)) := rfl
theorem intM_b (b : Bool) : intM (.pure (.bool b)) = .ret (.pure (.int (if b then 1 else 0))) := rfl
theorem potGet_pot : potGet .pot = .nat fun i => .ret (.pure (.int i)) := rfl
theorem potPut_pot {i : Int} {st : DSt} (h : 0 ≤ i) : potPut (.pure (.int i)) .pot st = .ret (.nx, st) := by
  show (if 0 ≤ i then _ else _) = _
  rw [if_pos h]
end L2.Zy
namespace L2.Zy
open PySem PyProof.Rows PySem.Spec
/-! ## the end: the law's call where no repr is running -/
theorem law_callG {P : Program} {w : World} {K : PySem.W.Frag} {mg mb : Str → Option Value} {k : Nat} {fa a : Addr} {fd : FuncData} {x : Str} {sp : Sp} {t1 : Shared} {vs : List Value} {ns : List Int}
    (kx : K.In t1.heap) (nsM : t1.heap.Ns mainGlobals mg) (hB : t1.heap.Ns builtinsNs mb) (hBB : ∀ x : Str, x ≠ "__name__" → mb x = bootBuiltins x) (lims : t1.heap.NoLimit) (hg : t1.gens = #[])
    (ha : t1.heap.get? a = some { cls := .type "list", data := .seq vs.toArray }) (hi : IntsAre vs ns) (hl : ns.length ≤ sizeLine) (hr : Room k callerA)
    (F : ∀ base : Heap, K.In base → base.Ns mainGlobals mg → FnG P w K mg base k fa fd [x] sp) (hbind : ∀ (s : Shared) (u : Value), BindsTo s fd ⟨[u], []⟩ [(x, u)])
    (hsp : ∀ H : Hp, Only H → FzL K H a (ns.map V.int) → sp [.ref a] H (fun v _ => v = .bl true) fun _ _ _ => False) :
    codeAny (model P w) callerA (.call (.ref fa) ⟨[.ref a], []⟩) (fun r s' => r = .ok (.ret (.bool true)) ∧ OldK t1.heap s'.heap ∧ s'.os = t1.os ∧ AllBare s'.gens) t1 := by
  have rw1 := vals_ints hi
  have lv := hi.length
  -- from an abstract heap in which nothing but the script may be tracked
  have main1 : ∀ H : Hp, Only H → FzL K H a (ns.map V.int) → HOk P w H t1.heap → (∀ b, H b ≠ none → b = a) → (H a ≠ none → K.lookup a = none) →
      codeAny (model P w) callerA (.call (.ref fa) ⟨[.ref a], []⟩) (fun r s' => r = .ok (.ret (.bool true)) ∧ OldK t1.heap s'.heap ∧ s'.os = t1.os ∧ AllBare s'.gens) t1 := by
    intro H only sq okH onlyA offK
    have inB : ∀ {b : Addr} {o : Obj}, t1.heap.get? b = some o → H b = none → (hidT t1.heap H).get? b = some o := fun e n => hidT_get e n
    have notA : ∀ {b : Addr} {o : Obj} {es : Array DictEntry} {ep : Nat}, t1.heap.get? b = some o → o.data = .dict es ep → H b = none := fun {b o es ep} e d => by
      cases q : H b with
      | none => rfl
      | some u =>
        have e' : b = a := onlyA b (by rw [q]; simp)
        subst e'
        rw [ha] at e; cases e
        have d' : Data.seq vs.toArray _ = Data.dict es ep := d
        cases d'
    have nsB : ∀ {b : Addr} {m : Str → Option Value}, t1.heap.Ns b m → (hidT t1.heap H).Ns b m := fun {b m} ⟨o, es, ep, e, d, r⟩ => ⟨o, es, ep, inB e (notA e d), d, r⟩
    have kB : K.In (hidT t1.heap H) := fun b o e => inB (kx b o e) (by
      cases q : H b with
      | none => rfl
      | some u =>
        have e' : b = a := onlyA b (by rw [q]; simp)
        subst e'
        rw [offK (by rw [q]; simp)] at e; cases e)
    have mB : Mod K mg (hidT t1.heap H) := ⟨kB, nsB nsM, ⟨mb, nsB hB, hBB⟩, let ⟨mc, h1, h2⟩ := lims; ⟨mc, nsB h1, h2⟩⟩
    have env : Env0 P w K mg (hidT t1.heap H) callerA [] t1 H := ⟨rfl, mB, fun b o e => of_hidT e, Nat.le_of_eq (hidT_size _ _), trivial, fun b hB => absurd (show b ∈ ([] : List Addr) from hB) (by simp), okH, .of_eq hg⟩
    refine codeAny_mono ((F _ kB (nsB nsM)).run callerA [] t1 H ⟨[.ref a], []⟩ [.ref a] [.ref a] _ _ rfl hr env (hbind t1 (.ref a)) (.cons rfl .nil) (hsp H only sq)) fun r s' h => ?_
    cases r with
    | error e => exact (show False from h).elim
    | ok fl =>
      cases fl with
      | next => exact False.elim h
      | brk => exact False.elim h
      | cont => exact False.elim h
      | ret u =>
        obtain ⟨v, H', os, bare, un, hok', r', q⟩ := h
        have q' : v = .bl true := q
        subst q'
        obtain rfl : u = Value.bool true := r'
        refine ⟨rfl, OldK.of_keep fun b o e => ?_, os, bare⟩
        cases q : H b with
        | none => exact un.keep b o e q (by intro z; exact absurd (show b ∈ ([] : List Addr) from z) (by simp)) (by simp)
        | some u =>
          rcases only b with z | ⟨ob, xs, z⟩
          · rw [q] at z; cases z
          · have z2 := un.frzs b ob _ z
            obtain ⟨e1, _⟩ := okH b _ z
            obtain ⟨e2, _⟩ := hok' b _ z2
            rw [e] at e1; cases e1
            exact e2
  cases hk : K.lookup a with
  | some o =>
    -- the script is one of the module's own objects
    have e := kx a o hk
    rw [ha] at e
    cases e
    refine main1 (fun _ => none) (fun _ => .inl rfl) (.inr ⟨vs.toArray, _, hk, by rw [List.size_toArray, lv]; exact hl, by simpa using rw1⟩) (fun b u z => by have z' : (none : Option HO) = some u := z; cases z') (fun b z => absurd rfl z) fun z => absurd rfl z
  | none =>
    refine main1 (fun b => if b = a then some (.frz { cls := .type "list", data := .seq vs.toArray } (.lst (ns.map V.int))) else none) (fun b => ?_) (.inl ⟨{ cls := .type "list", data := .seq vs.toArray }, if_pos rfl⟩) (fun b u z => ?_) (fun b z => ?_) fun _ => hk
    · by_cases hB : b = a
      · exact .inr ⟨_, _, if_pos hB⟩
      · exact .inl (if_neg hB)
    · by_cases hB : b = a
      · have z' := (if_pos hB).symm.trans z
        cases z'
        subst hB
        exact ⟨ha, by rw [List.length_map]; exact hl, vs, _, rw1, ha⟩
      · have z' := (if_neg hB).symm.trans z
        cases z'
    · by_cases hB : b = a
      · exact hB
      · exact absurd (if_neg hB) z

/-- what the head leaves, from the law's promise -/
theorem walk_ofG {l : PySem.W.OpenLaw} {n k : Nat} {q : Program} {loose : List Str} {XP : (Str → Option Value) → Heap → Prop} {YP : World → Heap → Prop} {d : DefRec} {K : Params → PySem.W.Frag} {sp : PySem.W.Frag → Sp} {x : Str}
    (hn : l.most = some n) (small : n ≤ sizeLine) (nodef : d.params.defaults = []) (room : Room k callerA) (hin : ∀ (w : World) (h : Heap), YP w h → (K w.params).In h)
    (F : ∀ (w : World) (mg : Str → Option Value) (fa : Addr) (h : Heap), (K w.params).In h → h.Ns mainGlobals mg → mg d.name = some (.ref fa) → ∃ fd : FuncData,
      (∀ (s : Shared) (u : Value), BindsTo s fd ⟨[u], []⟩ [(x, u)]) ∧ ∀ base : Heap, (K w.params).In base → base.Ns mainGlobals mg → FnG l.prog w (K w.params) mg base k fa fd [x] (sp (K w.params)))
    (starts : ∀ (K : PySem.W.Frag) (H : Hp) (a : Addr) (ns : List Int), ns.length ≤ n → Only H → FzL K H a (ns.map V.int) → sp K [.ref a] H (fun v _ => v = .bl true) fun _ _ _ => False) :
    PySem.W.WalkO q loose XP YP l.row.toRowW d [] (fun f vs => PySem.call f vs) := by
  refine Att.attach_call hn nodef fun w s0 t1 mg mb fa o pm cd doc a vs ns G Y ho hd hcd hmg hobj hints hlen hg => ?_
  obtain ⟨fd, hb, hF⟩ := F w mg fa _ (hin w _ Y) G.T.g hmg
  exact law_callG (hin w _ Y) G.T.g G.T.b G.T.builtins G.T.nolimit hg hobj hints (Nat.le_trans hlen small) room hF hb fun H only sq => starts (K w.params) H a ns hlen only sq
end L2.Zy
namespace L2.Zy
open PySem PyProof.Rows PySem.Spec
/-! ## making the pot -/
def revM (m : M) : T M := match m.listD with
  | some ds => .ret (.lst ds.reverse)
  | none => .bad
section
variable {X : Cx} {kn : PotKeys} {e e0 e1 e2 : Expr} {pos : Pos}
theorem dm_rev {k : Nat} {p1 p2 p3 : Pos} {f : DSt → T M} (he : PE X e (tPk kn X.K f)) : PE X (.Subscript e (.Slice none none (some (.UnaryOp .USub (.Constant (.int 1) k p1) p2)) p3) pos) (tM kn X.K (un1 revM f)) :=
  pe_mono (pe_revL he) fun σ H Q ⟨Z, st, Fp, s, q⟩ => ⟨Z, st, Fp, s, T.all_mono (T.bind_all q) fun m hm v H1 F x1 z1 mv o => by
    unfold revM at hm
    split at hm
    · rename_i ds e
      obtain ⟨a, vs, rfl, l, f⟩ := mv_list e mv
      refine ⟨a, vs, rfl, l.sq, fun p hp => ?_⟩
      exact hm (.ref p) _ [p] (x1.trans (.of_same (same_new hp))) (z1.same (same_new hp)) (mv_lst hp f.reverse) fun b hb => by
        rw [List.mem_singleton.mp hb]
        exact x1.none z1 hp
    · exact hm.elim⟩
def intsOf : List D → Option (List Int)
  | [] => some []
  | .int i :: r => (intsOf r).map (i :: ·)
  | _ :: _ => none
theorem intsOf_some {K : PySem.W.Frag} {H : Hp} : ∀ {ds : List D} {gs : List Int} {vs : List V}, intsOf ds = some gs → FzAll K H vs ds → vs = gs.map V.int ∧ ds = gs.map PyData.int
  | [], gs, vs, h, f => by
    cases h
    cases f
    exact ⟨rfl, rfl⟩
  | d :: r, gs, vs, h, f => by
    cases d with
    | int i =>
      obtain ⟨g', e, rfl⟩ := Option.map_eq_some_iff.mp (show (intsOf r).map (i :: ·) = some gs from h)
      cases f with
      | cons a b =>
        cases a
        obtain ⟨h1, h2⟩ := intsOf_some e b
        exact ⟨by rw [h1]; rfl, by rw [h2]; rfl⟩
    | _ => cases h
theorem intsOf_ints : ∀ gs : List Int, intsOf (gs.map PyData.int) = some gs
  | [] => rfl
  | g :: gs => by
    show (intsOf (gs.map PyData.int)).map (g :: ·) = _
    rw [intsOf_ints gs]
    rfl
def asG : M → T (List Int)
  | .lst ds => T.ofO (intsOf ds)
  | _ => .bad
def asI : M → T Int
  | .pure (.int i) => .ret i
  | _ => .bad
def npot3 (kn : PotKeys) (f0 f1 f2 : DSt → T M) : DSt → T M := fun st => f0 st >>= asG >>= fun gs => f1 st >>= asI >>= fun i => f2 st >>= asI >>= fun j => .ret (.npot kn gs [i, j])
def npot2 (kn : PotKeys) (f0 f1 : DSt → T M) : DSt → T M := fun st => f0 st >>= asG >>= fun gs => f1 st >>= asI >>= fun i => .ret (.npot kn gs [i])
theorem asG_all {K : PySem.W.Frag} {Z : Zone} {H : Hp} {m : M} {v : V} {F : List Addr} {P : List Int → Prop} (h : (asG m).all P) (mv : MV K Z H m v F) : ∃ g gs, v = .ref g ∧ F = [g] ∧ H g = some (.lst (gs.map V.int)) ∧ P gs := by
  unfold asG at h
  split at h
  · rename_i ds
    cases e : intsOf ds with
    | none => rw [e] at h; exact h.elim
    | some gs =>
      rw [e] at h
      obtain ⟨a, vs, rfl, rfl, ha, f⟩ := mv
      obtain ⟨rfl, _⟩ := intsOf_some e f
      exact ⟨a, gs, rfl, rfl, ha, h⟩
  · exact h.elim
theorem asI_all {K : PySem.W.Frag} {Z : Zone} {H : Hp} {m : M} {v : V} {F : List Addr} {P : Int → Prop} (h : (asI m).all P) (mv : MV K Z H m v F) : ∃ i, v = .int i ∧ P i := by
  unfold asI at h
  split at h
  · obtain rfl := fz_int mv.2
    exact ⟨_, rfl, h⟩
  · exact h.elim
theorem dm_npot3 {k0 k1 k2 : Str} {j0 j1 j2 : Nat} {q0 q1 q2 : Pos} {f0 f1 f2 : DSt → T M} (hm : ∀ g i j, mergeK [] (potPairs ⟨k0, [k1, k2], false⟩ g [i, j]) = potPairs ⟨k0, [k1, k2], false⟩ g [i, j])
    (h0 : PE X e0 (tM kn X.K f0)) (h1 : PE X e1 (tM kn X.K f1)) (h2 : PE X e2 (tM kn X.K f2)) :
    PE X (.Dict [some (.Constant (.str k0) j0 q0), some (.Constant (.str k1) j1 q1), some (.Constant (.str k2) j2 q2)] [e0, e1, e2] pos) (tM kn X.K (npot3 ⟨k0, [k1, k2], false⟩ f0 f1 f2)) :=
  pe_mono (pe_disp (pps_cons pe_str h0 (pps_cons pe_str h1 (pps_cons pe_str h2 pps_nil))) rfl rfl (by simp) (by simp)) fun σ H Q ⟨Z, st, Fp, s, q⟩ p hp => by
    have x0 : Ext Z H (upd H p (.dK [])) := .of_same (same_new hp)
    have z0 : Z.Ok kn (upd H p (.dK [])) := s.zok.same (same_new hp)
    have hpp := s.zok.isP hp
    have hpg := s.zok.isG hp
    refine ⟨Z, st, Fp, s.ext x0 z0, T.all_mono (T.bind_all (T.bind_all q)) fun m0 hm0 v0 H1 F1 x1 z1 mv1 fr1 => ?_⟩
    obtain ⟨g, gs, rfl, rfl, hg, hr⟩ := asG_all hm0 mv1
    refine ⟨Z, st, Fp, s.ext (x0.trans x1) z1, T.all_mono (T.bind_all (T.bind_all hr)) fun m1 hm1 v1 H2 F2 x2 z2 mv2 fr2 => ?_⟩
    obtain ⟨i, rfl, hr1⟩ := asI_all hm1 mv2
    refine ⟨Z, st, Fp, s.ext (x0.trans (x1.trans x2)) z2, T.all_mono (T.bind_all (T.bind_all hr1)) fun m2 hm2 v2 H3 F3 x3 z3 mv3 fr3 => ?_⟩
    obtain ⟨j, rfl, hr2⟩ := asI_all hm2 mv3
    have gn : (upd H p (.dK [])) g = none := fr1 g (by simp)
    have np : p ≠ g := by
      rintro rfl
      rw [upd_same] at gn
      cases gn
    have gH : H g = none := by rw [upd_ne np.symm] at gn; exact gn
    have hgp := s.zok.isP gH
    have hgg := s.zok.isG gH
    have e3 : H3 p = some (.dK []) := x3 p _ (x2 p _ (x1 p _ upd_same hpp hpg) hpp hpg) hpp hpg
    have g3 : H3 g = some (.lst (gs.map V.int)) := x3 g _ (x2 g _ hg hgp hgg) hgp hgg
    refine ⟨e3, potPairs ⟨k0, [k1, k2], false⟩ g [i, j], rfl, by show 3 ≤ 15; decide, ?_⟩
    rw [hm]
    have x : Ext Z H (upd H3 p (.dK (potPairs ⟨k0, [k1, k2], false⟩ g [i, j]))) := fun a o h n1 n2 => by
      have ap : a ≠ p := fun q => by rw [q, hp] at h; cases h
      rw [upd_ne ap]
      exact x3 a o (x2 a o (x1 a o (x0 a o h n1 n2) n1 n2) n1 n2) n1 n2
    exact (hr2 : ∀ v H' F, _ → _ → _ → _ → Q v H') (.ref p) _ [p, g] x (z3.upd hpp hpg) ⟨p, g, rfl, rfl, np, upd_same, by rw [upd_ne np.symm]; exact g3⟩ fun a ha => by
      rcases List.mem_cons.mp ha with rfl | ha
      · exact hp
      · rw [List.mem_singleton.mp ha]; exact gH
theorem dm_npot2 {k0 k1 : Str} {j0 j1 : Nat} {q0 q1 : Pos} {f0 f1 : DSt → T M} (hm : ∀ g i, mergeK [] (potPairs ⟨k0, [k1], false⟩ g [i]) = potPairs ⟨k0, [k1], false⟩ g [i])
    (h0 : PE X e0 (tM kn X.K f0)) (h1 : PE X e1 (tM kn X.K f1)) :
    PE X (.Dict [some (.Constant (.str k0) j0 q0), some (.Constant (.str k1) j1 q1)] [e0, e1] pos) (tM kn X.K (npot2 ⟨k0, [k1], false⟩ f0 f1)) :=
  pe_mono (pe_disp (pps_cons pe_str h0 (pps_cons pe_str h1 pps_nil)) rfl rfl (by simp) (by simp)) fun σ H Q ⟨Z, st, Fp, s, q⟩ p hp => by
    have x0 : Ext Z H (upd H p (.dK [])) := .of_same (same_new hp)
    have z0 : Z.Ok kn (upd H p (.dK [])) := s.zok.same (same_new hp)
    have hpp := s.zok.isP hp
    have hpg := s.zok.isG hp
    refine ⟨Z, st, Fp, s.ext x0 z0, T.all_mono (T.bind_all (T.bind_all q)) fun m0 hm0 v0 H1 F1 x1 z1 mv1 fr1 => ?_⟩
    obtain ⟨g, gs, rfl, rfl, hg, hr⟩ := asG_all hm0 mv1
    refine ⟨Z, st, Fp, s.ext (x0.trans x1) z1, T.all_mono (T.bind_all (T.bind_all hr)) fun m1 hm1 v1 H3 F2 x2 z3 mv2 fr2 => ?_⟩
    obtain ⟨i, rfl, hr2⟩ := asI_all hm1 mv2
    have gn : (upd H p (.dK [])) g = none := fr1 g (by simp)
    have np : p ≠ g := by
      rintro rfl
      rw [upd_same] at gn
      cases gn
    have gH : H g = none := by rw [upd_ne np.symm] at gn; exact gn
    have hgp := s.zok.isP gH
    have hgg := s.zok.isG gH
    have e3 : H3 p = some (.dK []) := x2 p _ (x1 p _ upd_same hpp hpg) hpp hpg
    have g3 : H3 g = some (.lst (gs.map V.int)) := x2 g _ hg hgp hgg
    refine ⟨e3, potPairs ⟨k0, [k1], false⟩ g [i], rfl, by show 2 ≤ 15; decide, ?_⟩
    rw [hm]
    have x : Ext Z H (upd H3 p (.dK (potPairs ⟨k0, [k1], false⟩ g [i]))) := fun a o h n1 n2 => by
      have ap : a ≠ p := fun q => by rw [q, hp] at h; cases h
      rw [upd_ne ap]
      exact x2 a o (x1 a o (x0 a o h n1 n2) n1 n2) n1 n2
    exact (hr2 : ∀ v H' F, _ → _ → _ → _ → Q v H') (.ref p) _ [p, g] x (z3.upd hpp hpg) ⟨p, g, rfl, rfl, np, upd_same, by rw [upd_ne np.symm]; exact g3⟩ fun a ha => by
      rcases List.mem_cons.mp ha with rfl | ha
      · exact hp
      · rw [List.mem_singleton.mp ha]; exact gH
end
end L2.Zy
namespace L2.Zy
open PySem PyProof.Rows PySem.Spec
/-! ## the law: the pot is made, then the rest goes -/
def OkPot (kn : PotKeys) (gs is : List Int) : Prop := (∀ i ∈ gs, 0 ≤ i) ∧ gs.length ≤ 63 ∧ is.length = kn.ks.length ∧ ∀ i ∈ is, 0 ≤ i
def endsTrue (x : Fw × DSt) : Prop := match x.1 with
  | .rt (.pure (.bool b)) => b = true
  | _ => False
/-- what the law's whole body comes to -/
def lawM (kn : PotKeys) (i : Nat) (f1 : DSt → T M) (b : Sm) (st : DSt) : Prop :=
  (f1 st).all fun m => ∃ gs is, m = .npot kn gs is ∧ OkPot kn gs is ∧ (b (st.set i (some .pot))).all endsTrue
section
variable {X : Cx} {kn : PotKeys} {H0 : Hp} {e1 : Expr} {rest : List Stmt} {x : Str} {p pos : Pos} {i : Nat}
def tLaw (kn : PotKeys) (K : PySem.W.Frag) (H0 : Hp) (i : Nat) (f1 : DSt → T M) (b : Sm) : TS := fun D σ H => ∃ st, Sk kn K H0 ⟨none, none⟩ st σ H (fun _ => []) ∧ lawM kn i f1 b st ∧ ∀ H', D.rt (.bl true) H'
theorem dss_law {f1 : DSt → T M} {b : Sm} (hN : X.N.Nodup) (hi : X.N[i]? = some x) (hx : Loc X.env.scope x) (he : PE X e1 (tM kn X.K f1)) (hb : PSs X rest (tS kn X.K H0 b)) (hs : swapsWith e1 (some (.Name x p)) pos.line X.env = pure false := by rfl)
    (hf : X.fn x = true ∨ X.env.scope.names.lookup x = some .local := by first | exact .inl rfl | exact .inr rfl | assumption) : PSs X (.Assign [.Name x p] e1 pos :: rest) (tLaw kn X.K H0 i f1 b) :=
  pss_mono (pss_cons (ps_set hN hi hx he hs hf) hb) fun D σ H ⟨st, k, q, hD⟩ => by
    refine ⟨⟨none, none⟩, st, _, k.sr, T.all_mono q fun m hm v H1 F x1 z1 mv fr => ?_⟩
    obtain ⟨gs, is, rfl, ⟨g1, g2, i1, i2⟩, hq⟩ := hm
    obtain ⟨p, g, rfl, rfl, np, hp, hg⟩ := mv
    have hpn : H p = none := fr p (by simp)
    have hgn : H g = none := fr g (by simp)
    have z : (⟨some p, some g⟩ : Zone).Ok kn H1 := .inr ⟨p, g, rfl, rfl, np, ⟨is, i1, i2, hp⟩, ⟨gs, g1, g2, hg⟩⟩
    have im : Imm H H1 := x1.imm k.sr.zok
    have keep : ∀ a o, H a = some o → H1 a = some o := fun a o h => x1 a o h (fun q => nomatch q) (fun q => nomatch q)
    refine ⟨⟨some p, some g⟩, st.set i (some .pot), fun _ => [], ⟨⟨by rw [List.length_set, List.length_set]; exact k.sr.len, fun j m e => ?_, (fun j l m m' a _ _ h => nomatch h), (fun j m e a h => nomatch h), z⟩, fun a o h n1 n2 => keep a o (k.old a o h (fun q => nomatch q) fun q => nomatch q), fun j m e a h => nomatch h⟩, T.all_mono hq fun y hy => ?_⟩
    · by_cases hj : j = i
      · subst hj
        have hlt : j < st.length := by
          rcases Nat.lt_or_ge j st.length with h | h
          · exact h
          · rw [List.getElem?_eq_none (by rw [List.length_set]; exact h)] at e
            cases e
        rw [List.getElem?_set_self hlt] at e
        cases e
        exact ⟨.ref p, List.getElem?_set_self (k.sr.len ▸ hlt), rfl, p, rfl, rfl⟩
      · rw [List.getElem?_set_ne (Ne.symm hj)] at e
        obtain ⟨v, h1, mv⟩ := k.sr.at_ j m e
        refine ⟨v, by rw [List.getElem?_set_ne (Ne.symm hj)]; exact h1, ?_⟩
        cases m with
        | pure d => exact ⟨rfl, mv.2.imm im⟩
        | pot =>
          obtain ⟨_, q, e, _⟩ := mv
          cases e
        | lst ds =>
          obtain ⟨a, vs, _, e, _⟩ := mv
          cases e
        | lst2 ds =>
          obtain ⟨a, vs, _, e, _⟩ := mv
          cases e
        | npot a b c =>
          obtain ⟨a, vs, _, e, _⟩ := mv
          cases e
        | dic a =>
          obtain ⟨a, vs, _, e, _⟩ := mv
          cases e
        | dit a =>
          obtain ⟨a, vs, _, e, _⟩ := mv
          cases e
    · obtain ⟨fl, st'⟩ := y
      unfold endsTrue at hy
      cases fl with
      | nx => exact hy.elim
      | bk => exact hy.elim
      | ct => exact hy.elim
      | rt m =>
        intro v H' F _ _ mv _
        cases m with
        | pure d =>
          cases d with
          | bool b =>
            have hb : b = true := hy
            subst hb
            obtain rfl := fz_bl mv.2
            exact hD H'
          | _ => exact hy.elim
        | _ => exact hy.elim
end
/-- the law's promise -/
def spLaw (kn : PotKeys) (N i : Nat) (f1 : DSt → T M) (b : Sm) (K : PySem.W.Frag) : Sp := fun vs H Q _ => ∃ (a : Addr) (ns : List Int), vs = [.ref a] ∧ FzL K H a (ns.map V.int) ∧ lawM kn i f1 b (some (.pure (.list (ns.map PyData.int))) :: List.replicate (N - 1) none) ∧ ∀ H', Q (.bl true) H'
section
variable {P : Program} {w : World} {K : PySem.W.Frag} {mg : Str → Option Value} {base : Heap} {kn : PotKeys}
theorem law_fn {qual x0 : Str} {st : Stmt} {f : Addr} {fd : FuncData} {N : List Str} {k n i : Nat} {f1 : DSt → T M} {b : Sm} (F : Fun K qual qual st f fd) (S : FnScope N [x0] (defScope st)) (hn : N.length = n)
    (hb : ∀ (cdv : Value) (A : Around) (outer : List Env) (s : Shared) (H : Hp) (E : XK), A.guards = some [] → Room k (A.deeper (envOfC qual (defScope st) s.heap.objs.size f cdv)) →
      PSs (cxOf CX0 P w K mg base N qual (defScope st) f cdv A outer s H E).nox (defBody st) (tLaw kn K H i f1 b)) :
    FnG P w K mg base (k + 1) f fd [x0] (spLaw kn n i f1 b K) := by
  refine fn_g F S (fun vs H Q E h => ?_) fun cdv A outer s H vs Q E hg hr h => ?_
  · obtain ⟨a, ns, rfl, _⟩ := h
    rfl
  · obtain ⟨a, ns, rfl, hl, hm, hQ⟩ := h
    refine ⟨_, hb cdv A outer s H E hg hr, some (.pure (.list (ns.map PyData.int))) :: List.replicate (n - 1) none, ?_, hm, hQ⟩
    have sk := sk_start (kn := kn) (K := K) (Z := ⟨none, none⟩) (H := H) (N := N) (ms := [.pure (.list (ns.map PyData.int))]) (vs := [.ref a]) (.inl ⟨rfl, rfl⟩) (.cons ⟨rfl, .lst hl (fz_ints ns)⟩ (fun _ h => nomatch h) .nil) rfl
    rw [hn] at sk
    exact sk
end
end L2.Zy
namespace L2.Zy
open PySem PyProof.Rows PySem.Spec
/-! ## running loops -/
theorem lcLoop_ret {α β : Type} {st : DSt} {g : D → DSt → T DSt} {t : DSt → T Bool} {e : DSt → T α} (ι : β → D) (tb : β → Bool) (ev : β → α) : ∀ xs : List β,
    (∀ x ∈ xs, ∃ st', g (ι x) st = .ret st' ∧ t st' = .ret (tb x) ∧ (tb x = true → e st' = .ret (ev x))) → lcLoop st g t e (xs.map ι) = .ret ((xs.filter tb).map ev)
  | [], _ => rfl
  | x :: xs, h => by
    obtain ⟨st', h1, h2, h3⟩ := h x List.mem_cons_self
    have ih := lcLoop_ret ι tb ev xs fun y hy => h y (List.mem_cons_of_mem _ hy)
    show (g (ι x) st >>= fun st' => t st' >>= fun b => if b = true then e st' >>= fun a => lcLoop st g t e (xs.map ι) >>= fun r => .ret (a :: r) else lcLoop st g t e (xs.map ι)) = _
    rw [h1, T.ret_bind, h2, T.ret_bind]
    cases q : tb x with
    | true => rw [if_pos rfl, h3 q, T.ret_bind, ih, T.ret_bind, List.filter_cons_of_pos q]; rfl
    | false => rw [if_neg Bool.false_ne_true, ih, List.filter_cons_of_neg (by simp [q])]
theorem lcLoop_all {α β : Type} {st : DSt} {g : D → DSt → T DSt} {e : DSt → T α} (ι : β → D) (ev : β → α) (xs : List β) (h : ∀ x ∈ xs, ∃ st', g (ι x) st = .ret st' ∧ e st' = .ret (ev x)) : lcLoop st g yesT e (xs.map ι) = .ret (xs.map ev) := by
  have := lcLoop_ret (st := st) (g := g) (t := yesT) (e := e) ι (fun _ => true) ev xs fun x hx => let ⟨s, a, b⟩ := h x hx; ⟨s, a, rfl, fun _ => b⟩
  rw [this, List.filter_eq_self.mpr (by simp)]
theorem loopS_ret {β γ : Type} {b : D → Sm} (ι : β → D) (stOf : γ → DSt) (stp : γ → β → γ) (Inv : γ → Prop) : ∀ (xs : List β) (s : γ), Inv s →
    (∀ x ∈ xs, ∀ s, Inv s → b (ι x) (stOf s) = .ret (.nx, stOf (stp s x)) ∧ Inv (stp s x)) → loopS b (xs.map ι) (stOf s) = .ret (.nx, stOf (xs.foldl stp s)) ∧ Inv (xs.foldl stp s)
  | [], s, hs, _ => ⟨rfl, hs⟩
  | x :: xs, s, hs, h => by
    obtain ⟨h1, h2⟩ := h x List.mem_cons_self s hs
    have ih := loopS_ret ι stOf stp Inv xs (stp s x) h2 fun y hy => h y (List.mem_cons_of_mem _ hy)
    refine ⟨?_, ih.2⟩
    show (b (ι x) (stOf s) >>= fun y => match y.1 with
      | .nx => loopS b (xs.map ι) y.2
      | .ct => loopS b (xs.map ι) y.2
      | .bk => .ret (.nx, y.2)
      | .rt m => .ret (.rt m, y.2)) = _
    rw [h1]
    exact ih.1
/-- with draws: what holds at the end -/
theorem loopS_wp {β : Type} {b : D → Sm} {P : Fw × DSt → Prop} (ι : β → D) (Inv : List β → DSt → Prop) : ∀ (xs done : List β) (st : DSt), Inv done st →
    (∀ d x r st, done ++ xs = d ++ x :: r → Inv d st → (b (ι x) st).all fun y => (y.1 = .nx ∧ Inv (d ++ [x]) y.2) ∨ (∃ m, y.1 = .rt m ∧ P (.rt m, y.2))) → (∀ st, Inv (done ++ xs) st → P (.nx, st)) → (loopS b (xs.map ι) st).all P
  | [], done, st, hs, _, hP => hP st (by rw [List.append_nil]; exact hs)
  | x :: xs, done, st, hs, h, hP => by
    show ((b (ι x) st >>= fun y => match y.1 with
      | .nx => loopS b (xs.map ι) y.2
      | .ct => loopS b (xs.map ι) y.2
      | .bk => .ret (.nx, y.2)
      | .rt m => .ret (.rt m, y.2)) : T (Fw × DSt)).all P
    rw [T.all_bind]
    refine T.all_mono (h done x xs st rfl hs) fun y hy => ?_
    obtain ⟨f, st'⟩ := y
    rcases hy with ⟨e, hi⟩ | ⟨m, e, hp⟩
    · simp only at e
      subst e
      exact loopS_wp ι Inv xs (done ++ [x]) st' hi (fun d y r s e => h d y r s (by rw [← e, List.append_assoc]; rfl)) (by rw [List.append_assoc]; exact hP)
    · simp only at e
      subst e
      exact hp
theorem range1_n {n : Nat} (h : n ≤ 16777216) : range1 [.pure (.int (n : Int))] = .ret ((List.range n).map fun i => PyData.int (i : Nat)) := by
  show (if -16777216 ≤ (n : Int) ∧ (n : Int) ≤ 16777216 then _ else _) = _
  rw [if_pos ⟨by omega, by omega⟩]
  simp [rangeL]
theorem range_split {n : Nat} {d r : List Nat} {x : Nat} (h : List.range n = d ++ x :: r) : x < n ∧ d.length = x ∧ d = List.range x := by
  have hl : d.length < n := by
    have := congrArg List.length h
    simp at this
    omega
  have hx : x = d.length := by
    have h1 : (List.range n)[d.length]? = some x := by rw [h, List.getElem?_append_right (Nat.le_refl _)]; simp
    rw [List.getElem?_range hl] at h1
    exact (Option.some.inj h1).symm
  refine ⟨by omega, hx.symm, ?_⟩
  have h2 : (List.range n).take d.length = d := by rw [h]; simp
  rw [← h2, List.take_range, hx]
  congr 1
  omega
theorem range2_n {a n : Nat} (h : a ≤ 16777216) (h2 : n ≤ 16777216) : range2 [.pure (.int (a : Int)), .pure (.int (n : Int))] = .ret ((List.range' a (n - a)).map fun i => PyData.int (i : Nat)) := by
  show (if -16777216 ≤ (a : Int) ∧ (a : Int) ≤ 16777216 ∧ -16777216 ≤ (n : Int) ∧ (n : Int) ≤ 16777216 ∧ (n : Int) - a ≤ 16777216 then _ else _) = _
  rw [if_pos ⟨by omega, by omega, by omega, by omega, by omega⟩]
  have e : ((n : Int) - a).toNat = n - a := by omega
  rw [e]
  simp [rangeL, List.range'_eq_map_range]

theorem loopS_pre {β : Type} {b : D → Sm} (ι : β → D) (S : List β → DSt) : ∀ (xs done : List β), (∀ d x r, done ++ xs = d ++ x :: r → b (ι x) (S d) = .ret (.nx, S (d ++ [x]))) → loopS b (xs.map ι) (S done) = .ret (.nx, S (done ++ xs))
  | [], done, _ => by rw [List.append_nil]; rfl
  | x :: xs, done, h => by
    show (b (ι x) (S done) >>= fun y => match y.1 with
      | .nx => loopS b (xs.map ι) y.2
      | .ct => loopS b (xs.map ι) y.2
      | .bk => .ret (.nx, y.2)
      | .rt m => .ret (.rt m, y.2)) = _
    rw [h done x xs rfl]
    have ih := loopS_pre ι S xs (done ++ [x]) fun d y r e => h d y r (by rw [← e, List.append_assoc]; rfl)
    rw [List.append_assoc] at ih
    exact ih
abbrev iD (n : Nat) : D := .int (n : Int)
theorem eqv_int (a b : Int) : PyData.eqv (.int a) (.int b) = decide (a = b) := by
  simp only [PyData.eqv]
  rfl
theorem okD_int (a : Int) : okD (.int a) = true := by
  unfold okD SeqAt.shaped
  simp [PyData.canLay0, PyData.depth]
/-- pairs of numbers -/
def prD2 (p : Nat × Nat) : D := .tuple [.int (p.1 : Int), .int (p.2 : Int)]
theorem eqv_pr (p q : Nat × Nat) : PyData.eqv (prD2 p) (prD2 q) = decide (p = q) := by
  obtain ⟨a, b⟩ := p
  obtain ⟨c, d⟩ := q
  unfold prD2
  simp only [PyData.eqv, PyData.eqvAll, Bool.and_true]
  rw [Bool.eq_iff_iff]
  simp
  omega
theorem pr_lay (p : Nat × Nat) : PyData.canLay0 (prD2 p) = true := by simp [prD2, PyData.canLay0, PyData.canLayAll0]
theorem pr_depth (p : Nat × Nat) : PyData.depth (prD2 p) ≤ 2 := by simp [prD2, PyData.depth, PyData.depthAll]
theorem prs_lay : ∀ ps : List (Nat × Nat), PyData.canLayAll0 (ps.map prD2) = true
  | [] => by simp [PyData.canLayAll0]
  | p :: ps => by simp [PyData.canLayAll0, pr_lay p, prs_lay ps]
theorem prs_depth : ∀ ps : List (Nat × Nat), PyData.depthAll (ps.map prD2) ≤ 2
  | [] => by simp [PyData.depthAll]
  | p :: ps => by
    have h1 := prs_depth ps
    have h2 := pr_depth p
    simp only [List.map_cons, PyData.depthAll]
    omega
theorem okD_of {d : D} (h : PyData.canLay0 d = true) (h2 : PyData.depth d ≤ 64) : okD d = true := by
  unfold okD SeqAt.shaped
  rw [h, decide_eq_true h2]
  rfl
theorem okD_pr (p : Nat × Nat) : okD (prD2 p) = true := okD_of (pr_lay p) (Nat.le_trans (pr_depth p) (by decide))
theorem okD_prs (ps : List (Nat × Nat)) : okD (.list (ps.map prD2)) = true := okD_of (by simp only [PyData.canLay0]; exact prs_lay ps) (by have := prs_depth ps; simp only [PyData.depth]; omega)
theorem any_pr (ps : List (Nat × Nat)) (p : Nat × Nat) : ((ps.map prD2).any fun z => PyData.eqv z (prD2 p)) = decide (p ∈ ps) := by
  rw [List.any_map, Bool.eq_iff_iff, List.any_eq_true]
  simp only [Function.comp, eqv_pr, decide_eq_true_eq]
  exact ⟨fun ⟨x, h, e⟩ => e ▸ h, fun h => ⟨p, h, rfl⟩⟩
theorem inM_pr (ps : List (Nat × Nat)) (p : Nat × Nat) : inM (.pure (prD2 p)) (.pure (.tuple (ps.map prD2))) = .ret (.pure (.bool (decide (p ∈ ps)))) := by
  show (if okD (prD2 p) = true ∧ okD (.list (ps.map prD2)) = true then T.ret (M.pure (.bool ((ps.map prD2).any fun z => PyData.eqv z (prD2 p)))) else .bad) = _
  rw [if_pos ⟨okD_pr p, okD_prs ps⟩, any_pr]
/-- a web: how many houses, the roads -/
def webD (n : Nat) (R : List (Nat × Nat)) : D := .tuple [.int (n : Int), .tuple (R.map prD2)]
theorem web_0 (n : Nat) (R : List (Nat × Nat)) : ixM (.pure (webD n R)) (.pure (.int 0)) = .ret (.pure (.int (n : Int))) := rfl
theorem web_1 (n : Nat) (R : List (Nat × Nat)) : ixM (.pure (webD n R)) (.pure (.int 1)) = .ret (.pure (.tuple (R.map prD2))) := rfl
theorem ix_seq {m : M} {ds : List D} {k : Nat} {d : D} (h : m.seqD = some ds) (e : ds[k]? = some d) : ixM m (.pure (.int (k : Int))) = .ret (.pure d) := by
  have hk : k < ds.length := by
    rcases Nat.lt_or_ge k ds.length with q | q
    · exact q
    · rw [List.getElem?_eq_none q] at e; cases e
  have : atI ds (k : Int) = some d := by
    unfold atI ixN
    rw [if_pos (by omega), if_pos (by omega)]
    simpa using e
  show (match m.seqD with
    | some ds => match atI ds (k : Int) with
      | some d => T.ret (M.pure d)
      | none => .bad
    | none => .bad) = _
  rw [h]
  simp only
  rw [this]
theorem eqM_ii (a b : Int) : eqM (.pure (.int a)) (.pure (.int b)) = .ret (.pure (.bool (decide (a = b)))) := by
  show (if okD (.int a) = true ∧ okD (.int b) = true then T.ret (M.pure (.bool (PyData.eqv (.int a) (.int b)))) else .bad) = _
  rw [if_pos ⟨okD_int a, okD_int b⟩, eqv_int]
theorem neM_ii (a b : Int) : neM (.pure (.int a)) (.pure (.int b)) = .ret (.pure (.bool (!decide (a = b)))) := by
  show (if okD (.int a) = true ∧ okD (.int b) = true then T.ret (M.pure (.bool (!PyData.eqv (.int a) (.int b)))) else .bad) = _
  rw [if_pos ⟨okD_int a, okD_int b⟩, eqv_int]
theorem intsD_nat {β : Type} (f : β → Nat) : ∀ xs : List β, intsD (xs.map fun x => iD (f x)) = some (xs.map fun x => (f x : Int))
  | [] => rfl
  | x :: xs => by
    show (intsD (xs.map fun x => iD (f x))).map ((f x : Int) :: ·) = _
    rw [intsD_nat f xs]
    rfl
theorem sum_cast {β : Type} (f : β → Nat) : ∀ xs : List β, (xs.map fun x => (f x : Int)).sum = (((xs.map f).sum : Nat) : Int)
  | [] => rfl
  | x :: xs => by
    rw [List.map_cons, List.sum_cons, sum_cast f xs, List.map_cons, List.sum_cons]
    exact (Int.natCast_add _ _).symm
theorem sumM_nat {β : Type} {m : M} {xs : List β} {f : β → Nat} (h : m.seqD = some (xs.map fun x => iD (f x))) : sumM m = .ret (.pure (iD (xs.map f).sum)) := by
  unfold sumM
  rw [h]
  simp only
  rw [intsD_nat]
  simp only
  rw [sum_cast]
theorem ix_range {m : M} {n k : Nat} {f : Nat → D} (h : m.seqD = some ((List.range n).map f)) (hk : k < n) : ixM m (.pure (iD k)) = .ret (.pure (f k)) := ix_seq h (by rw [List.getElem?_map, List.getElem?_range hk]; rfl)
theorem frz_lst (ds : List D) : frz (.lst ds) = .ret (.pure (.list ds)) := rfl
theorem frz_lst2 (ds : List (List D)) : frz (.lst2 ds) = .ret (.pure (.list (ds.map .list))) := rfl
theorem frz_pure (d : D) : frz (.pure d) = .ret (.pure d) := rfl
theorem frz_pot : frz .pot = .ret .pot := rfl
theorem seqD_list (ds : List D) : (M.pure (.list ds)).seqD = some ds := rfl
theorem seqD_tuple (ds : List D) : (M.pure (.tuple ds)).seqD = some ds := rfl
theorem seqD_lst (ds : List D) : (M.lst ds).seqD = some ds := rfl
theorem seqP_list (ds : List D) : (M.pure (.list ds)).seqP = some ds := rfl
theorem seqP_tuple (ds : List D) : (M.pure (.tuple ds)).seqP = some ds := rfl
theorem listD_list (ds : List D) : (M.pure (.list ds)).listD = some ds := rfl
theorem listD_lst (ds : List D) : (M.lst ds).listD = some ds := rfl
theorem toD_pure (d : D) : (M.pure d).toD = some d := rfl
theorem toD_lst (ds : List D) : (M.lst ds).toD = some (.list ds) := rfl
theorem toD_lst2 (ds : List (List D)) : (M.lst2 ds).toD = some (.list (ds.map .list)) := rfl
theorem asD_pure (d : D) : asD (.pure d) = .ret d := rfl
theorem asL_lst (ds : List D) : asL (.lst ds) = .ret ds := rfl
theorem boolM_b (b : Bool) : boolM (.pure (.bool b)) = .ret b := rfl
theorem tupM_of {m : M} {ds : List D} (h : m.seqD = some ds) : tupM m = .ret (.pure (.tuple ds)) := by unfold tupM; rw [h]
theorem listM_of {m : M} {ds : List D} (h : m.seqD = some ds) : listM m = .ret (.lst ds) := by unfold listM; rw [h]
theorem lenM_lst (ds : List D) : lenM (.lst ds) = .ret (.pure (.int ds.length)) := rfl
theorem lenM_list (ds : List D) : lenM (.pure (.list ds)) = .ret (.pure (.int ds.length)) := rfl
theorem lenM_tuple (ds : List D) : lenM (.pure (.tuple ds)) = .ret (.pure (.int ds.length)) := rfl
/-! ## sorting numbers -/
theorem sortOk_nats (xs : List Nat) : sortOk (xs.map iD) := by
  refine ⟨?_, ?_, fun d hd => ?_⟩
  · exact PySem.W.AllAlike.of fun b b' => by simp [PySem.W.alike]
  · exact PySem.W.Sortable.others fun b => ⟨(fun h => nomatch h), (fun xs h => nomatch h)⟩
  · obtain ⟨b, _, rfl⟩ := List.mem_map.mp hd
    simp [PyData.depth]
theorem sortM_nats {m : M} {xs ys : List Nat} (h : m.listD = some (xs.map iD)) (hp : ys.Perm xs) (hs : ys.Pairwise (· ≤ ·)) : sortM m = .ret (.lst (ys.map iD)) := by
  unfold sortM
  rw [h]
  simp only
  rw [if_pos (sortOk_nats xs)]
  have e : (xs.mergeSort fun a b => decide (a ≤ b)).map iD = (xs.map iD).mergeSort (PySem.W.dataLe false id) := List.map_mergeSort fun a _ b _ => by
    have := congrFun (congrFun (PySem.W.dataLe_int (fun n : Nat => (n : Int))) a) b
    have e2 : PySem.W.dataLe false (fun b : Nat => PyData.int (b : Int)) a b = PySem.W.dataLe false id (iD a) (iD b) := rfl
    rw [← e2, this]
    simp
  rw [← e]
  have e3 : xs.mergeSort (fun a b => decide (a ≤ b)) = ys := by
    refine List.Perm.eq_of_pairwise (le := (· ≤ ·)) (fun a b _ _ h1 h2 => Nat.le_antisymm h1 h2) ?_ hs ((List.mergeSort_perm _ _).trans hp.symm)
    have := List.pairwise_mergeSort (le := fun a b : Nat => decide (a ≤ b)) (fun a b c h1 h2 => by simp at *; omega) (fun a b => by simp; omega) xs
    exact this.imp fun h => by simpa using h
  rw [e3]
theorem range_set {α : Type} (n a : Nat) (F : Nat → α) (v : α) : ((List.range n).map F).set a v = (List.range n).map fun i => if i = a then v else F i := by
  apply List.ext_getElem?
  intro i
  by_cases h : i = a
  · subst h
    by_cases hi : i < n
    · rw [List.getElem?_set_self (by simpa using hi), List.getElem?_map, List.getElem?_range hi]
      simp
    · rw [List.getElem?_eq_none (by simpa using hi), List.getElem?_eq_none (by simpa using hi)]
  · rw [List.getElem?_set_ne (Ne.symm h), List.getElem?_map, List.getElem?_map]
    cases e : (List.range n)[i]? with
    | none => rfl
    | some j =>
      have : j = i := by
        have hi : i < n := by
          rcases Nat.lt_or_ge i n with q | q
          · exact q
          · rw [List.getElem?_eq_none (by simpa using q)] at e; cases e
        rw [List.getElem?_range hi] at e
        exact (Option.some.inj e).symm
      subst this
      simp [h]
theorem appR_range {i n a : Nat} {fj f : DSt → T M} {st : DSt} {F : Nat → List D} {d : D} (e : st[i]? = some (some (.lst2 ((List.range n).map F)))) (hj : fj st = .ret (.pure (iD a))) (ha : a < n) (hf : f st = .ret (.pure d)) (hl : (F a).length < sizeLine) :
    appR i fj f st = .ret (.nx, st.set i (some (.lst2 ((List.range n).map fun k => if k = a then F a ++ [d] else F k)))) := by
  unfold appR
  rw [e]
  simp only
  rw [hj, T.ret_bind]
  simp only
  have e1 : ixN ((List.range n).map F).length (a : Int) = some a := by
    unfold ixN
    rw [if_pos (by omega), if_pos (by simp; omega)]
    simp
  rw [e1]
  simp only
  have e2 : ((List.range n).map F)[a]? = some (F a) := by
    rw [List.getElem?_map, List.getElem?_range ha]
    rfl
  rw [e2]
  simp only
  rw [hf, T.ret_bind, asD_pure, T.ret_bind, if_pos hl, range_set]
theorem enumL_range (n : Nat) (f : Nat → D) : enumL ((List.range n).map f) = (List.range n).map fun i => PyData.tuple [iD i, f i] := by
  unfold enumL
  apply List.ext_getElem?
  intro i
  rw [List.getElem?_map, List.getElem?_map]
  by_cases hi : i < n
  · rw [List.getElem?_zipIdx, List.getElem?_map, List.getElem?_range hi]
    simp
  · rw [List.getElem?_eq_none (by simpa using hi), List.getElem?_eq_none (by simpa using hi)]
    rfl
theorem min2M_n (a b : Nat) : min2M (.pure (iD a)) (.pure (iD b)) = .ret (.pure (iD (min a b))) := by
  show T.ret (M.pure (.int (if (b : Int) < a then (b : Int) else a))) = _
  by_cases h : b < a
  · rw [if_pos (by omega), Nat.min_eq_right (by omega)]
  · rw [if_neg (by omega), Nat.min_eq_left (by omega)]
theorem max2M_n (a b : Nat) : max2M (.pure (iD a)) (.pure (iD b)) = .ret (.pure (iD (max a b))) := by
  show T.ret (M.pure (.int (if (b : Int) > a then (b : Int) else a))) = _
  by_cases h : a < b
  · rw [if_pos (by omega), Nat.max_eq_right (by omega)]
  · rw [if_neg (by omega), Nat.max_eq_left (by omega)]
theorem sortSetM_of {m : M} {nss : List (List Int)} (h : m.listD = some (nss.map tupI)) (ok : okTups nss) : sortSetM m = .ret (.lst ((uniqI nss).map tupI)) := by
  unfold sortSetM
  rw [h]
  simp only
  rw [tupsD_map]
  simp only
  rw [if_pos ok]
theorem boolsD_of {β : Type} (p : β → Bool) : ∀ xs : List β, boolsD (xs.map fun x => PyData.bool (p x)) = some (xs.map p)
  | [] => rfl
  | x :: xs => by
    show (boolsD (xs.map fun x => PyData.bool (p x))).map (p x :: ·) = _
    rw [boolsD_of p xs]
    rfl
theorem allM_map {β : Type} {m : M} {xs : List β} {p : β → Bool} (h : m.listD = some (xs.map fun x => PyData.bool (p x))) : allM m = .ret (.pure (.bool (xs.all p))) := by
  unfold allM
  rw [h]
  simp only
  rw [boolsD_of]
  simp
theorem anyM_map {β : Type} {m : M} {xs : List β} {p : β → Bool} (h : m.listD = some (xs.map fun x => PyData.bool (p x))) : anyM m = .ret (.pure (.bool (xs.any p))) := by
  unfold anyM
  rw [h]
  simp only
  rw [boolsD_of]
  simp
theorem truM_b (b : Bool) : truM (.pure (.bool b)) = .ret b := rfl
theorem ltM_ii (a b : Int) : ltM (.pure (.int a)) (.pure (.int b)) = .ret (.pure (.bool (decide (a < b)))) := rfl
theorem gtM_ii (a b : Int) : gtM (.pure (.int a)) (.pure (.int b)) = .ret (.pure (.bool (decide (b < a)))) := rfl
theorem leM_ii (a b : Int) : leM (.pure (.int a)) (.pure (.int b)) = .ret (.pure (.bool (decide (a ≤ b)))) := rfl
theorem geM_ii (a b : Int) : geM (.pure (.int a)) (.pure (.int b)) = .ret (.pure (.bool (decide (b ≤ a)))) := rfl
theorem addM_tt {xs ys : List D} (h : xs.length + ys.length ≤ sizeLine) : addM (.pure (.tuple xs)) (.pure (.tuple ys)) = .ret (.pure (.tuple (xs ++ ys))) := by
  show (if xs.length + ys.length ≤ sizeLine then T.ret (M.pure (.tuple (xs ++ ys))) else .bad) = _
  rw [if_pos h]
theorem appS_lst {i : Nat} {f : DSt → T M} {st : DSt} {ds : List D} {d : D} (e : st[i]? = some (some (.lst ds))) (hf : f st = .ret (.pure d)) (h : ds.length < sizeLine) : appS i f st = .ret (.nx, st.set i (some (.lst (ds ++ [d])))) := by
  unfold appS
  rw [e]
  simp only
  rw [hf, T.ret_bind, asD_pure, T.ret_bind, if_pos h]
theorem isPP_pure (d : D) : (M.pure d).isPP = true := rfl
theorem isPP_pot : M.pot.isPP = true := rfl
/-! ## drawing -/
theorem drawP_wp {n : Nat} {P : M → Prop} (h0 : 0 < n) (h1 : n ≤ 16777216) (h : ∀ i : Nat, i < n → P (.pure (iD i))) : (drawP [.pot, .pure (iD n)]).all P := by
  have hn : (n : Int) < 2 ^ 64 := by omega
  rw [drawP_def]
  unfold drawPc
  simp only
  rw [if_pos hn]
  refine ⟨by omega, fun i hi hn => ?_⟩
  have e : i = ((i.toNat : Nat) : Int) := by omega
  show P _
  rw [e]
  exact h i.toNat (by omega)
theorem drawJ_wp {n : Nat} {P : M → Prop} (h1 : n ≤ 16777216) (h0 : P (.pure (iD 0))) (h : ∀ i : Nat, i < n → P (.pure (iD i))) : (drawJ [.pot, .pure (iD n)]).all P := by
  have hn : (n : Int) < 2 ^ 64 := by omega
  rw [drawJ_def]
  unfold drawJc
  simp only
  by_cases h2 : (n : Int) < 2
  · rw [if_pos h2]; exact h0
  · rw [if_neg h2, if_pos hn]
    refine ⟨by omega, fun i hi hn => ?_⟩
    have e : i = ((i.toNat : Nat) : Int) := by omega
    show P _
    rw [e]
    exact h i.toNat (by omega)
theorem lcLoop_wp {α β : Type} {st : DSt} {g : D → DSt → T DSt} {t : DSt → T Bool} {e : DSt → T α} (ι : β → D) (ev : β → α) : ∀ (xs : List β) (P : List α → Prop),
    (∀ x ∈ xs, ∃ st', g (ι x) st = .ret st' ∧ (t st').all (fun _ => True) ∧ e st' = .ret (ev x)) → (∀ ys : List β, ys.Sublist xs → P (ys.map ev)) → (lcLoop st g t e (xs.map ι)).all P
  | [], P, _, h => h [] (List.Sublist.refl _)
  | x :: xs, P, hx, h => by
    obtain ⟨st', h1, h2, h3⟩ := hx x List.mem_cons_self
    show (g (ι x) st >>= fun st' => t st' >>= fun b => if b = true then e st' >>= fun a => lcLoop st g t e (xs.map ι) >>= fun r => .ret (a :: r) else lcLoop st g t e (xs.map ι)).all P
    rw [h1, T.ret_bind, T.all_bind]
    refine T.all_mono h2 fun b _ => ?_
    have hx' := fun y hy => hx y (List.mem_cons_of_mem _ hy)
    cases b with
    | true =>
      rw [if_pos rfl, h3, T.ret_bind, T.all_bind]
      exact lcLoop_wp ι ev xs _ hx' fun ys hy => h (x :: ys) (hy.cons₂ x)
    | false =>
      rw [if_neg Bool.false_ne_true]
      exact lcLoop_wp ι ev xs P hx' fun ys hy => h ys (hy.cons x)
end L2.Zy
namespace L2.Zy
open PySem PyProof.Rows PySem.Spec
/-! ## how long a text a value shows -/
mutual
def szD : D → Nat
  | .none => 4
  | .bool _ => 5
  | .int i => i.natAbs.log2 + 3
  | .str x => (reprText x).length
  | .list xs => szAll xs + 2
  | .tuple xs => szAll xs + 4
  | .dict _ => 0
def szAll : List D → Nat
  | [] => 0
  | x :: xs => szD x + 2 + szAll xs
end
theorem textFrom_le : ∀ (ts : List Str) (k : Nat) (acc : Str), (textFrom k acc ts).length ≤ acc.length + (ts.map fun t => t.length + 2).sum
  | [], k, acc => Nat.le_refl _
  | t :: r, k, acc => by
    have h := textFrom_le r (k + 1) (acc ++ (if k > 0 then ", " else "" : String) ++ t)
    have e : (acc ++ (if k > 0 then ", " else "" : String) ++ t).length ≤ acc.length + 2 + t.length := by
      rw [strLen_append, strLen_append]
      have : (((if k > 0 then ", " else "" : String) : Str)).length ≤ 2 := by split <;> decide
      omega
    show (textFrom (k + 1) (acc ++ (if k > 0 then ", " else "" : String) ++ t) r).length ≤ _
    simp only [List.map_cons, List.sum_cons]
    omega
mutual
theorem shown_le : ∀ d : D, d.hasDict = false → d.shown.length ≤ szD d
  | .none, _ => by decide
  | .bool b, _ => by cases b <;> decide
  | .int i, _ => by
    have := int_text_length_le (a := i) (k := i.natAbs.log2 + 1) (by omega) (by omega)
    show (Str.ofString (toString i)).length ≤ _
    rw [PySem.ofString_length]
    unfold szD
    omega
  | .str x, _ => by
    simp only [PyData.shown, szD]
    exact Nat.le_refl _
  | .list xs, h => by
    have ih := shownAll_le xs (by simpa [PyData.hasDict] using h)
    simp only [PyData.shown, szD]
    unfold listText
    rw [strLen_append]
    have h1 := textFrom_le (PyData.shownAll xs) 0 "["
    have e1 : ((("[" : String) : Str)).length = 1 := rfl
    have e2 : ((("]" : String) : Str)).length = 1 := rfl
    rw [e1] at h1
    rw [e2]
    omega
  | .tuple xs, h => by
    have ih := shownAll_le xs (by simpa [PyData.hasDict] using h)
    simp only [PyData.shown, szD]
    unfold tupleText
    rw [strLen_append, strLen_append]
    have e1 : ((("(" : String) : Str)).length = 1 := rfl
    have e3 : (((if (PyData.shownAll xs).length == 1 then ",)" else ")" : String) : Str)).length ≤ 2 := by split <;> decide
    rw [e1]
    by_cases q : PyData.shownAll xs = []
    · rw [q]
      have : (Str.join ", " []).length = 0 := rfl
      rw [q] at e3
      omega
    · have h1 := join_length_add _ q
      unfold piled at h1
      omega
  | .dict kvs, h => by simp [PyData.hasDict] at h
theorem shownAll_le : ∀ xs : List D, PyData.hasDictAll xs = false → ((PyData.shownAll xs).map fun t => t.length + 2).sum ≤ szAll xs
  | [], _ => by simp [PyData.shownAll, szAll]
  | x :: xs, h => by
    have h' : x.hasDict = false ∧ PyData.hasDictAll xs = false := by simpa [PyData.hasDictAll] using h
    have h1 := shown_le x h'.1
    have h2 := shownAll_le xs h'.2
    simp only [PyData.shownAll, szAll, List.map_cons, List.sum_cons]
    omega
end
theorem szAll_map {β : Type} {f : β → D} {c : Nat} : ∀ {xs : List β}, (∀ x ∈ xs, szD (f x) ≤ c) → szAll (xs.map f) ≤ xs.length * (c + 2)
  | [], _ => Nat.zero_le _
  | x :: xs, h => by
    have h1 := h x List.mem_cons_self
    have h2 := szAll_map (c := c) fun y hy => h y (List.mem_cons_of_mem _ hy)
    simp only [List.map_cons, szAll, List.length_cons]
    rw [Nat.add_mul]
    omega
theorem showAll_map {β : Type} {f : β → D} : ∀ {xs : List β}, (∀ x ∈ xs, (f x).showable = true) → PyData.showableAll (xs.map f) = true
  | [], _ => by simp [PyData.showableAll]
  | x :: xs, h => by simp [PyData.showableAll, h x List.mem_cons_self, showAll_map fun y hy => h y (List.mem_cons_of_mem _ hy)]
theorem noDictAll_map {β : Type} {f : β → D} : ∀ {xs : List β}, (∀ x ∈ xs, (f x).hasDict = false) → PyData.hasDictAll (xs.map f) = false
  | [], _ => by simp [PyData.hasDictAll]
  | x :: xs, h => by simp [PyData.hasDictAll, h x List.mem_cons_self, noDictAll_map fun y hy => h y (List.mem_cons_of_mem _ hy)]
theorem depthAll_map {β : Type} {f : β → D} {c : Nat} : ∀ {xs : List β}, (∀ x ∈ xs, (f x).depth ≤ c) → PyData.depthAll (xs.map f) ≤ c
  | [], _ => by simp [PyData.depthAll]
  | x :: xs, h => by
    have h1 := h x List.mem_cons_self
    have h2 := depthAll_map (c := c) fun y hy => h y (List.mem_cons_of_mem _ hy)
    simp only [List.map_cons, PyData.depthAll]
    omega
/-- what is asked of a value that is shown -/
structure Fits (d : D) (dep sz : Nat) : Prop where
  sh : d.showable = true
  nd : d.hasDict = false
  dp : d.depth ≤ dep
  sz : szD d ≤ sz
theorem Fits.ok {d : D} {dep sz : Nat} (f : Fits d dep sz) (h : dep ≤ 64) (h2 : sz ≤ 16777216) : showOk d :=
  ⟨f.sh, f.nd, Nat.le_trans f.dp h, Nat.le_trans (shown_le d f.nd) (Nat.le_trans f.sz h2)⟩
theorem Fits.int {i : Int} {b : Nat} (h : i.natAbs < 2 ^ b) (hb : b ≤ 1900) : Fits (.int i) 0 (b + 3) := by
  have h1 : i.natAbs.log2 ≤ b := by
    by_cases h0 : i.natAbs = 0
    · rw [h0]; simp
    · exact Nat.le_of_lt ((Nat.log2_lt h0).mpr h)
  refine ⟨?_, by simp [PyData.hasDict], by simp [PyData.depth], by simp only [szD]; omega⟩
  simp only [PyData.showable]
  exact decide_eq_true (by omega)
theorem Fits.mono {d : D} {dep sz dep' sz' : Nat} (f : Fits d dep sz) (h : dep ≤ dep') (h2 : sz ≤ sz') : Fits d dep' sz' := ⟨f.sh, f.nd, Nat.le_trans f.dp h, Nat.le_trans f.sz h2⟩
theorem Fits.listMap {β : Type} {f : β → D} {xs : List β} {dep sz n : Nat} (h : ∀ x ∈ xs, Fits (f x) dep sz) (hn : xs.length ≤ n) : Fits (.list (xs.map f)) (dep + 1) (n * (sz + 2) + 2) := by
  refine ⟨?_, ?_, ?_, ?_⟩
  · simp only [PyData.showable]; exact showAll_map fun x hx => (h x hx).sh
  · simp only [PyData.hasDict]; exact noDictAll_map fun x hx => (h x hx).nd
  · simp only [PyData.depth]; exact Nat.succ_le_succ (depthAll_map fun x hx => (h x hx).dp)
  · have := szAll_map fun x hx => (h x hx).sz
    have h2 : xs.length * (sz + 2) ≤ n * (sz + 2) := Nat.mul_le_mul_right _ hn
    simp only [szD]
    omega
theorem Fits.tupMap {β : Type} {f : β → D} {xs : List β} {dep sz n : Nat} (h : ∀ x ∈ xs, Fits (f x) dep sz) (hn : xs.length ≤ n) : Fits (.tuple (xs.map f)) (dep + 1) (n * (sz + 2) + 4) := by
  refine ⟨?_, ?_, ?_, ?_⟩
  · simp only [PyData.showable]; exact showAll_map fun x hx => (h x hx).sh
  · simp only [PyData.hasDict]; exact noDictAll_map fun x hx => (h x hx).nd
  · simp only [PyData.depth]; exact Nat.succ_le_succ (depthAll_map fun x hx => (h x hx).dp)
  · have := szAll_map fun x hx => (h x hx).sz
    have h2 : xs.length * (sz + 2) ≤ n * (sz + 2) := Nat.mul_le_mul_right _ hn
    simp only [szD]
    omega
theorem Fits.list {ds : List D} {dep sz n : Nat} (h : ∀ x ∈ ds, Fits x dep sz) (hn : ds.length ≤ n) : Fits (.list ds) (dep + 1) (n * (sz + 2) + 2) := by
  have := Fits.listMap (f := id) (xs := ds) (n := n) h hn
  rwa [List.map_id] at this
theorem Fits.tup {ds : List D} {dep sz n : Nat} (h : ∀ x ∈ ds, Fits x dep sz) (hn : ds.length ≤ n) : Fits (.tuple ds) (dep + 1) (n * (sz + 2) + 4) := by
  have := Fits.tupMap (f := id) (xs := ds) (n := n) h hn
  rwa [List.map_id] at this
theorem reprM_of {m : M} {d : D} (h : m.toD = some d) (ok : showOk d) : reprM m = .ret (.pure (.str d.shown)) := by
  unfold reprM
  rw [h]
  simp only
  rw [if_pos ok]
/-! ## one statement after the other -/
theorem seq_at {s1 s2 : Sm} {st : DSt} {P : Fw × DSt → Prop} (Q : DSt → Prop) (h1 : (s1 st).all fun x => x.1 = .nx ∧ Q x.2) (h2 : ∀ st', Q st' → (s2 st').all P) : (seqS s1 s2 st).all P := by
  unfold seqS
  rw [T.all_bind]
  refine T.all_mono h1 fun x hx => ?_
  obtain ⟨f, st'⟩ := x
  obtain ⟨e, q⟩ := hx
  simp only at e
  subst e
  exact h2 st' q
theorem asg_wp {i : Nat} {f : DSt → T M} {st : DSt} {Q : DSt → Prop} (h : (f st).all fun m => Q (st.set i (some m))) : (asgS i f st).all fun x => x.1 = .nx ∧ Q x.2 := by
  unfold asgS
  rw [T.all_bind]
  exact T.all_mono h fun m hm => ⟨rfl, hm⟩
end L2.Zy
namespace L2.Zy
open PySem PyProof.Rows PySem.Spec
section
variable {X : Cx} {kn : PotKeys} {H0 : Hp} {e tgt call : Expr} {pos : Pos}
/-! ## xs[i] = v -/
def setI (i : Nat) (fj f : DSt → T M) : Sm := fun st => f st >>= fun m => asD m >>= fun d => match st[i]? with
  | some (some (.lst ds)) => fj st >>= fun n => match n with
    | .pure (.int j) => match ixN ds.length j with
      | some l => .ret (.nx, st.set i (some (.lst (ds.set l d))))
      | none => .bad
    | _ => .bad
  | _ => .bad
theorem ds_setI {i : Nat} {fj f : DSt → T M} (he : PE X e (tM kn X.K f)) (hg : PG X tgt (gSub (tVar i) (tPk kn X.K fj) rSetL)) (hs : swapsWithSole [tgt] e pos.line X.env = pure false := by rfl) (hw : swappedStores [tgt] e X.env = pure none := by rfl)
    (h1 : (assignEach [tgt] X.env).map (·.2) = [assign tgt X.env] := by rfl) : PS X (.Assign [tgt] e pos) (tS kn X.K H0 (setI i fj f)) :=
  ps_mono (ps_asg he hg hs hw h1) fun E σ H ⟨Z, st, Fp, k, q⟩ => ⟨Z, st, Fp, k.sr, T.all_mono (T.bind_all q) fun m hm w H1 F x1 z1 mw fr => by
    obtain ⟨d, fd, hm⟩ := asD_all mw hm
    split at hm
    · rename_i ds e0
      obtain ⟨v0, s0, mv0⟩ := k.sr.at_ i _ e0
      obtain ⟨p, vs, rfl, eF, hp, fz⟩ := mv0
      have k1 := k.ext x1 z1
      refine ⟨_, s0, Z, st, Fp, k1.sr, T.all_mono (T.bind_all hm) fun n hn u H2 F2 x2 z2 mu o2 => ?_⟩
      have k2 := k1.ext x2 z2
      obtain ⟨_, vs', eq, _, hp', fz'⟩ := k2.lst e0 s0
      cases eq
      split at hn
      · rename_i j
        obtain rfl := fz_int mu.2
        split at hn
        · rename_i l el
          obtain ⟨Fp', k'⟩ := k1.upd k2 (xs := vs'.set l w) (m' := .lst (ds.set l d)) (F := [p]) e0 s0 (by rw [eF]; simp) hp'
            ⟨p, _, rfl, rfl, upd_same, (FzAll.set (fd.imm (x2.imm z1)) l fz').imm (imm_upd hp')⟩ (fun a ha => .inl (by rw [eF]; exact ha))
          exact ⟨p, vs', j, l, rfl, rfl, hp', by rw [fz'.length]; exact el, (hn : ∀ σ' H' Fp', _ → _ → E.nx σ' H') σ _ Fp' k' (((k.imm x1).trans (k1.imm x2)).trans (imm_upd hp'))⟩
        · exact hn.elim
      · exact hn.elim
    · exact hm.elim⟩
/-! ## xs[i][j] = v -/
def setR (i : Nat) (fj fl f : DSt → T M) : Sm := fun st => f st >>= fun m => asD m >>= fun d => match st[i]? with
  | some (some (.lst2 dss)) => fj st >>= fun n => match n with
    | .pure (.int j) => match ixN dss.length j with
      | some l => match dss[l]? with
        | some ds => fl st >>= fun n2 => match n2 with
          | .pure (.int j2) => match ixN ds.length j2 with
            | some l2 => .ret (.nx, st.set i (some (.lst2 (dss.set l (ds.set l2 d)))))
            | none => .bad
          | _ => .bad
        | none => .bad
      | none => .bad
    | _ => .bad
  | _ => .bad
theorem ds_setR {i : Nat} {fj fl f : DSt → T M} (he : PE X e (tM kn X.K f)) (hg : PG X tgt (gSub (tOp (rIxL X.K) (tVar i) (tPk kn X.K fj)) (tPk kn X.K fl) rSetL)) (hs : swapsWithSole [tgt] e pos.line X.env = pure false := by rfl) (hw : swappedStores [tgt] e X.env = pure none := by rfl)
    (h1 : (assignEach [tgt] X.env).map (·.2) = [assign tgt X.env] := by rfl) : PS X (.Assign [tgt] e pos) (tS kn X.K H0 (setR i fj fl f)) :=
  ps_mono (ps_asg he hg hs hw h1) fun E σ H ⟨Z, st, Fp, k, q⟩ => ⟨Z, st, Fp, k.sr, T.all_mono (T.bind_all q) fun m hm w H1 F x1 z1 mw fr => by
    obtain ⟨d, fd, hm⟩ := asD_all mw hm
    split at hm
    · rename_i dss e0
      obtain ⟨v0, s0, mv0⟩ := k.sr.at_ i _ e0
      obtain ⟨p, bs, rfl, eF, hp, nd, rw0⟩ := mv0
      have k1 := k.ext x1 z1
      refine ⟨_, s0, Z, st, Fp, k1.sr, T.all_mono (T.bind_all hm) fun n hn u H2 F2 x2 z2 mu o2 => ?_⟩
      have k2 := k1.ext x2 z2
      obtain ⟨_, bs2, eq, eF2, hp2, nd2, rw2⟩ := k2.lst2 e0 s0
      cases eq
      split at hn
      · rename_i j
        obtain rfl := fz_int mu.2
        split at hn
        · rename_i l el
          split at hn
          · rename_i ds eds
            obtain ⟨b, vs, eb, hb, fv⟩ := rw2.at eds
            have eat : atI (bs2.map V.ref) j = some (.ref b) := by
              unfold atI
              rw [List.length_map, rw2.length, el]
              show (bs2.map V.ref)[l]? = _
              rw [List.getElem?_map, eb]
              rfl
            refine ⟨p, bs2.map V.ref, j, .ref b, rfl, rfl, .of hp2, eat, Z, st, Fp, k2.sr, T.all_mono (T.bind_all hn) fun n2 hn2 u2 H3 F3 x3 z3 mu2 o3 => ?_⟩
            have k3 := k2.ext x3 z3
            obtain ⟨_, bs3, eq, eF3, hp3, nd3, rw3⟩ := k3.lst2 e0 s0
            cases eq
            have ebs : bs3 = bs2 := by
              rw [eF2] at eF3
              exact (List.cons.inj eF3).2.symm
            subst ebs
            split at hn2
            · rename_i j2
              obtain rfl := fz_int mu2.2
              split at hn2
              · rename_i l2 el2
                have nd3' := List.nodup_cons.mp nd3
                obtain ⟨b', vs3, eb', hb3, fv3⟩ := rw3.at eds
                rw [eb] at eb'
                cases eb'
                have hbm : b ∈ bs3 := List.mem_of_getElem? eb
                have hpb : p ≠ b := by
                  rintro rfl
                  exact nd3'.1 hbm
                obtain ⟨Fp', k'⟩ := k2.upd k3 (p := b) (xs := vs3.set l2 w) (m' := .lst2 (dss.set l (ds.set l2 d))) (F := p :: bs3) e0 s0 (by rw [eF3]; exact List.mem_cons_of_mem _ hbm) hb3
                  ⟨p, bs3, rfl, rfl, by rw [upd_ne hpb]; exact hp3, nd3, Rows.set (FzAll.set (fd.imm ((x2.imm z1).trans (x3.imm z2))) l2 fv3) rw3 nd3'.2 eb ⟨_, hb3⟩⟩ (fun a ha => .inl (by rw [eF3]; exact ha))
                exact ⟨b, vs3, j2, l2, rfl, rfl, hb3, by rw [fv3.length]; exact el2, (hn2 : ∀ σ' H' Fp', _ → _ → E.nx σ' H') σ _ Fp' k' ((((k.imm x1).trans (k1.imm x2)).trans (k2.imm x3)).trans (imm_upd hb3))⟩
              · exact hn2.elim
            · exact hn2.elim
          · exact hn.elim
        · exact hn.elim
      · exact hn.elim
    · exact hm.elim⟩
end
end L2.Zy
namespace L2.Zy
open PySem PyProof.Rows PySem.Spec
/-! ## isinstance -/
def tyName : D → String
  | .none => "NoneType"
  | .bool _ => "bool"
  | .int _ => "int"
  | .str _ => "str"
  | .list _ => "list"
  | .tuple _ => "tuple"
  | .dict _ => "dict"
inductive Cl where | tuple | int | bool | str | list
def Cl.nm : Cl → String
  | .tuple => "tuple"
  | .int => "int"
  | .bool => "bool"
  | .str => "str"
  | .list => "list"
def isD : Cl → D → Bool
  | .tuple, .tuple _ => true
  | .int, .int _ => true
  | .int, .bool _ => true
  | .bool, .bool _ => true
  | .str, .str _ => true
  | .list, .list _ => true
  | _, _ => false
def isiM (c : Cl) : M → T M
  | .pure d => .ret (.pure (.bool (isD c d)))
  | _ => .bad
theorem kit_dict_tuple : kitB "dict" "tuple" = some false := by decide +kernel
theorem kit_dict_int : kitB "dict" "int" = some false := by decide +kernel
theorem kit_dict_bool : kitB "dict" "bool" = some false := by decide +kernel
theorem kit_dict_str : kitB "dict" "str" = some false := by decide +kernel
theorem kit_dict_list : kitB "dict" "list" = some false := by decide +kernel
theorem kit_none_tuple : kitB "NoneType" "tuple" = some false := by decide +kernel
theorem kit_none_int : kitB "NoneType" "int" = some false := by decide +kernel
theorem kit_none_bool : kitB "NoneType" "bool" = some false := by decide +kernel
theorem kit_none_str : kitB "NoneType" "str" = some false := by decide +kernel
theorem kit_none_list : kitB "NoneType" "list" = some false := by decide +kernel
theorem kit_bool_tuple : kitB "bool" "tuple" = some false := by decide +kernel
theorem kit_bool_int : kitB "bool" "int" = some true := by decide +kernel
theorem kit_bool_bool : kitB "bool" "bool" = some true := by decide +kernel
theorem kit_bool_str : kitB "bool" "str" = some false := by decide +kernel
theorem kit_bool_list : kitB "bool" "list" = some false := by decide +kernel
theorem kit_int_tuple : kitB "int" "tuple" = some false := by decide +kernel
theorem kit_int_int : kitB "int" "int" = some true := by decide +kernel
theorem kit_int_bool : kitB "int" "bool" = some false := by decide +kernel
theorem kit_int_str : kitB "int" "str" = some false := by decide +kernel
theorem kit_int_list : kitB "int" "list" = some false := by decide +kernel
theorem kit_str_tuple : kitB "str" "tuple" = some false := by decide +kernel
theorem kit_str_int : kitB "str" "int" = some false := by decide +kernel
theorem kit_str_bool : kitB "str" "bool" = some false := by decide +kernel
theorem kit_str_str : kitB "str" "str" = some true := by decide +kernel
theorem kit_str_list : kitB "str" "list" = some false := by decide +kernel
theorem kit_list_tuple : kitB "list" "tuple" = some false := by decide +kernel
theorem kit_list_int : kitB "list" "int" = some false := by decide +kernel
theorem kit_list_bool : kitB "list" "bool" = some false := by decide +kernel
theorem kit_list_str : kitB "list" "str" = some false := by decide +kernel
theorem kit_list_list : kitB "list" "list" = some true := by decide +kernel
theorem kit_tuple_tuple : kitB "tuple" "tuple" = some true := by decide +kernel
theorem kit_tuple_int : kitB "tuple" "int" = some false := by decide +kernel
theorem kit_tuple_bool : kitB "tuple" "bool" = some false := by decide +kernel
theorem kit_tuple_str : kitB "tuple" "str" = some false := by decide +kernel
theorem kit_tuple_list : kitB "tuple" "list" = some false := by decide +kernel
theorem kit_at (c : Cl) (d : D) : kitB (tyName d) c.nm = some (isD c d) := by
  cases d with
  | dict k => cases c with
    | tuple => exact kit_dict_tuple
    | int => exact kit_dict_int
    | bool => exact kit_dict_bool
    | str => exact kit_dict_str
    | list => exact kit_dict_list
  | none => cases c with
    | tuple => exact kit_none_tuple
    | int => exact kit_none_int
    | bool => exact kit_none_bool
    | str => exact kit_none_str
    | list => exact kit_none_list
  | bool b => cases c with
    | tuple => exact kit_bool_tuple
    | int => exact kit_bool_int
    | bool => exact kit_bool_bool
    | str => exact kit_bool_str
    | list => exact kit_bool_list
  | int b => cases c with
    | tuple => exact kit_int_tuple
    | int => exact kit_int_int
    | bool => exact kit_int_bool
    | str => exact kit_int_str
    | list => exact kit_int_list
  | str b => cases c with
    | tuple => exact kit_str_tuple
    | int => exact kit_str_int
    | bool => exact kit_str_bool
    | str => exact kit_str_str
    | list => exact kit_str_list
  | list b => cases c with
    | tuple => exact kit_list_tuple
    | int => exact kit_list_int
    | bool => exact kit_list_bool
    | str => exact kit_list_str
    | list => exact kit_list_list
  | tuple b => cases c with
    | tuple => exact kit_tuple_tuple
    | int => exact kit_tuple_int
    | bool => exact kit_tuple_bool
    | str => exact kit_tuple_str
    | list => exact kit_tuple_list
theorem tyx_of {K : PySem.W.Frag} {H : Hp} {v : V} {d : D} (f : Fz K H v d) : TyX K H v (.type (tyName d)) := by
  cases f with
  | non => exact .base .non
  | bl b => exact .base (.bl b)
  | int i => exact .base (.int i)
  | str x => exact .base (.str x)
  | lst x _ =>
    rcases x with ⟨o, e⟩ | ⟨its, n, e, _⟩
    · exact .base (.frz e)
    · exact .kList e rfl
  | tup x _ =>
    rcases x with (e | ⟨o, e⟩) | e
    · exact .base (.tup e)
    · exact .fTuple e
    · obtain ⟨o, its, n, e, c, _⟩ := e
      exact .kTuple e c
  | dct e => exact .fDict e
section
variable {X : Cx} {kn : PotKeys} {e : Expr} {pos p p2 : Pos}
theorem dm_isi {c : Cl} {y : Str} {f : DSt → T M} (hg : Gl X "isinstance") (hm : X.mg "isinstance" = none) (hv : bootBuiltins "isinstance" = some (.builtin "isinstance")) (hg2 : Gl X y) (hm2 : X.mg y = none) (hv2 : bootBuiltins y = some (.type c.nm)) (hn2 : y ≠ "__name__") (hd2 : (y == ("__debug__" : Str)) = false)
    (he : PE X e (tPk kn X.K f)) (hs : starEach [e, .Name y p2] X.env = (false, eval e X.env) :: starEach [.Name y p2] X.env := by rfl) (hs2 : starEach [.Name y p2] X.env = (false, eval (.Name y p2) X.env) :: starEach [] X.env := by rfl) (hpl : (backTo pos (starEach [.Name y p2] X.env)).any (·.1) = false := by rfl) :
    PE X (.Call (.Name "isinstance" p) [e, .Name y p2] [] pos) (tM kn X.K (un1 (isiM c) f)) :=
  pe_mono (pe_callB call_isi hg hm hv (pa_cons he (pa_cons (pe_bltn hg2 hm2 hv2 (v := .ty c.nm) rfl hn2 hd2) pa_nil hs2) hs) (by decide) (by decide) hs hpl) fun σ H Q ⟨Z, st, Fp, s, q⟩ => ⟨Z, st, Fp, s, T.all_mono (T.bind_all q) fun m hm v H1 F x1 z1 mv o => by
    have go : ∀ d : D, m = .pure d → (∀ v H' F, Ext Z H H' → Z.Ok kn H' → MV X.K Z H' (.pure (.bool (isD c d))) v F → (∀ a ∈ F, H a = none) → Q v H') → rIsi X.K [v, .ty c.nm] H1 Q := by
      rintro d rfl hq
      exact ⟨v, .ty c.nm, .type (tyName d), .type c.nm, isD c d, rfl, .ty _, tyx_of mv.2, kit_ty (kit_at c d), hq _ H1 [] x1 z1 ⟨rfl, .bl _⟩ fun _ h => nomatch h⟩
    cases m with
    | pure d => exact go _ rfl hm
    | _ => exact hm.elim⟩
end
end L2.Zy
namespace L2.Zy
open PySem PyProof.Rows PySem.Spec
/-! ## a < b < c -/
def chainV (g1 g2 : M → M → T M) (fa fb fc : DSt → T M) : DSt → T M := fun st => fa st >>= fun x => fb st >>= fun y => g1 x y >>= fun r => boolM r >>= fun b => if b = true then fc st >>= fun z => g2 y z else .ret (.pure (.bool false))
section
variable {X : Cx} {kn : PotKeys} {a b c : Expr} {pos : Pos} {op op' : CmpOp} {g1 g2 : M → M → T M} {fa fb fc : DSt → T M}
theorem tChain_of {K : PySem.W.Frag} {σ : St} {H : Hp} {Q : VK} (h : tM kn K (chainV g1 g2 fa fb fc) σ H Q) : tChain (rM2 K g1) (rM2 K g2) (tPk kn K fa) (tPk kn K fb) (tPk kn K fc) σ H Q := by
  obtain ⟨Z, st, Fp, s, q⟩ := h
  refine ⟨Z, st, Fp, s, T.all_mono (T.bind_all q) fun m hm v H1 F x1 z1 mv o1 => ⟨Z, st, Fp, s.ext x1 z1, T.all_mono (T.bind_all hm) fun n hn u H2 F2 x2 z2 mu o2 => ?_⟩⟩
  refine ⟨Z, m, n, F, F2, mv.ext z1 x2 o1, mu, T.all_mono (T.bind_all hn) fun r hr w H3 F3 sm mr fr => ?_⟩
  obtain ⟨k, rfl, hq⟩ := boolM_all hr
  cases mr.2
  refine ⟨k, rfl, ?_⟩
  have x3 : Ext Z H2 H3 := .of_same sm
  have z3 := z2.same sm
  cases k with
  | true =>
    rw [if_pos rfl] at hq ⊢
    exact ⟨Z, st, Fp, ((s.ext x1 z1).ext x2 z2).ext x3 z3, T.all_mono (T.bind_all hq) fun l hl w2 H4 F4 x4 z4 mw o4 => ⟨Z, n, l, F2, F4, (mu.ext z2 x3 o2).ext z3 x4 o2, mw, T.all_mono hl fun r2 hr2 w3 H5 F5 sm5 mr5 fr5 =>
      hr2 w3 H5 F5 (x1.trans (x2.trans (x3.trans (x4.trans (.of_same sm5))))) (z4.same sm5) mr5 fun a ha => (x1.trans (x2.trans (x3.trans x4))).none z4 (fr5 a ha)⟩⟩
  | false =>
    rw [if_neg Bool.false_ne_true] at hq ⊢
    exact hq _ H3 [] (x1.trans (x2.trans x3)) z3 ⟨rfl, .bl _⟩ fun _ h => nomatch h
theorem dm_chain (ho : OpR X (compareOp op) (rM2 X.K g1)) (ho' : OpR X (compareOp op') (rM2 X.K g2)) (ha : PE X a (tPk kn X.K fa)) (hb : PE X b (tPk kn X.K fb)) (hc : PE X c (tPk kn X.K fc)) (hm : lastMarks [op, op'] [b, c] = false := by with_unfolding_all rfl) :
    PE X (.Compare a [op, op'] [b, c] pos) (tM kn X.K (chainV g1 g2 fa fb fc)) := pe_mono (pe_chain ho ho' ha hb hc hm) fun _ _ _ => tChain_of
theorem dt_chain (ho : OpR X (compareOp op) (rM2 X.K g1)) (ho' : OpR X (compareOp op') (rM2 X.K g2)) (ha : PE X a (tPk kn X.K fa)) (hb : PE X b (tPk kn X.K fb)) (hc : PE X c (tPk kn X.K fc)) (hm : lastMarks [op, op'] [b, c] = false := by with_unfolding_all rfl) :
    PT X (.Compare a [op, op'] [b, c] pos) (tT kn X.K fun st => chainV g1 g2 fa fb fc st >>= boolM) :=
  pt_mono (pt_chain ho ho' ha hb hc hm) fun σ H Q h => tTest_of (fun σ H Q q => tChain_of (by
    obtain ⟨Z, st, Fp, s, q⟩ := q
    exact ⟨Z, st, Fp, s, T.all_mono q fun m hm v H' F x z mv fr => hm v H' F x z mv (.of_new s.zok fr)⟩)) h
end
/-! ## the last item taken: x = xs.pop(), or the call alone; x = xs.pop(k) -/
/-- slot i's list loses an item, slot j gets it -/
def popTo (i j : Nat) : Sm := fun st => match st[i]? with
  | some (some (.lst ds)) => match ds[ds.length - 1]? with
    | some d => .ret (.nx, (st.set i (some (.lst ds.dropLast))).set j (some (.pure d)))
    | none => .bad
  | _ => .bad
def popAtTo (i j : Nat) (fk : DSt → T M) : Sm := fun st => match st[i]? with
  | some (some (.lst ds)) => fk st >>= fun n => match n with
    | .pure (.int k) => if -(2 ^ 63) ≤ k ∧ k < 2 ^ 63 then match seqIndex? k ds.length with
      | some l => match ds[l]? with
        | some d => .ret (.nx, (st.set i (some (.lst (ds.eraseIdx l)))).set j (some (.pure d)))
        | none => .bad
      | none => .bad
      else .bad
    | _ => .bad
  | _ => .bad
section
variable {X : Cx} {kn : PotKeys} {H0 : Hp} {pos pos' : Pos} {call : Expr} {i j : Nat} {x : Str}
theorem ds_popTo (hN : X.N.Nodup) (hj : X.N[j]? = some x) (hx : Loc X.env.scope x) (h : PE X call (tBM0 X.K "list" rPop (tVar i))) (hij : i ≠ j) (hs : swapsWith call (some (.Name x pos')) pos.line X.env = pure false := by rfl)
    (hf : X.fn x = true ∨ X.env.scope.names.lookup x = some .local := by first | exact .inl rfl | exact .inr rfl | assumption) : PS X (.Assign [.Name x pos'] call pos) (tS kn X.K H0 (popTo i j)) :=
  ps_mono (ps_set hN hj hx h hs hf) fun E σ H ⟨Z, st, Fp, k, q⟩ => by
    unfold popTo at q
    split at q
    · rename_i ds e0
      split at q
      · rename_i d ed
        obtain ⟨v0, s0, mv0⟩ := k.sr.at_ i _ e0
        obtain ⟨p, vs, rfl, eF, hp, fz⟩ := mv0
        obtain ⟨y, ey, fy⟩ := fz.get' ed
        have el : vs.length = ds.length := fz.length
        obtain ⟨Fp', k'⟩ := k.upd k (xs := vs.dropLast) (m' := .lst ds.dropLast) (F := [p]) e0 s0 (by rw [eF]; simp) hp ⟨p, _, rfl, rfl, upd_same, (fz.dropLast).imm (imm_upd hp)⟩ (fun a ha => .inl (by rw [eF]; exact ha))
        have k2 := k'.put (i := j) (m := .pure d) (v := y) (F := []) .refl k'.sr.zok ⟨rfl, fy.imm (imm_upd hp)⟩ (fun _ h => nomatch h)
        exact ⟨_, s0, .inl ⟨rfl, vs, .of hp⟩, p, vs, y, rfl, rfl, hp, by rw [el]; exact ey, (q : ∀ σ' H' Fp', _ → _ → E.nx σ' H') _ _ _ k2 (imm_upd hp)⟩
      · exact q.elim
    · exact q.elim
theorem ds_popAtTo {fk : DSt → T M} (hN : X.N.Nodup) (hj : X.N[j]? = some x) (hx : Loc X.env.scope x) (h : PE X call (tBM X.K "list" rPopAt (tVar i) (tCons (tPk kn X.K fk) tNil))) (hij : i ≠ j) (hs : swapsWith call (some (.Name x pos')) pos.line X.env = pure false := by rfl)
    (hf : X.fn x = true ∨ X.env.scope.names.lookup x = some .local := by first | exact .inl rfl | exact .inr rfl | assumption) : PS X (.Assign [.Name x pos'] call pos) (tS kn X.K H0 (popAtTo i j fk)) :=
  ps_mono (ps_set hN hj hx h hs hf) fun E σ H ⟨Z, st, Fp, k, q⟩ => by
    unfold popAtTo at q
    split at q
    · rename_i ds e0
      obtain ⟨v0, s0, mv0⟩ := k.sr.at_ i _ e0
      obtain ⟨p, vs, rfl, eF, hp, fz⟩ := mv0
      refine ⟨_, s0, .inl ⟨rfl, vs, .of hp⟩, Z, st, Fp, k.sr, T.all_mono (T.bind_all q) fun n hn u H1 F1 x1 z1 mu o1 => ?_⟩
      have k1 := k.ext x1 z1
      obtain ⟨_, vs', eq, _, hp', fz'⟩ := k1.lst e0 s0
      cases eq
      split at hn
      · rename_i kk
        obtain rfl := fz_int mu.2
        split at hn
        · rename_i hk
          split at hn
          · rename_i l el
            split at hn
            · rename_i d ed
              obtain ⟨y, ey, fy⟩ := fz'.get' ed
              obtain ⟨Fp', k'⟩ := k.upd k1 (xs := vs'.eraseIdx l) (m' := .lst (ds.eraseIdx l)) (F := [p]) e0 s0 (by rw [eF]; simp) hp' ⟨p, _, rfl, rfl, upd_same, (fz'.erase l).imm (imm_upd hp')⟩ (fun a ha => .inl (by rw [eF]; exact ha))
              have k2 := k'.put (i := j) (m := .pure d) (v := y) (F := []) .refl k'.sr.zok ⟨rfl, fy.imm (imm_upd hp')⟩ (fun _ h => nomatch h)
              exact ⟨p, vs', kk, l, y, rfl, rfl, hp', hk.1, hk.2, by rw [fz'.length]; exact el, ey, (hn : ∀ σ' H' Fp', _ → _ → E.nx σ' H') _ _ _ k2 ((k.imm x1).trans (imm_upd hp'))⟩
            · exact hn.elim
          · exact hn.elim
        · exact hn.elim
      · exact hn.elim
    · exact q.elim
end
end L2.Zy
namespace L2.Zy
open PySem PyProof.Rows PySem.Spec
/-! ## a pot that is being made: its list, its numbers -/
structure NKey (KN : PotKeys) (key : Str) (j : Nat) : Prop where
  lst : KN.lst = false
  few : KN.ks.length < 1000
  get : ∀ (g : Addr) (is : List Int), is.length = KN.ks.length → valV (potPairs KN g is) (.inr key) = (is[j]?).map V.int
  put : ∀ (g : Addr) (is : List Int) (v : Int), is.length = KN.ks.length → putK (potPairs KN g is) (.inr key) (.int v) = potPairs KN g (is.set j v)
structure NHead (KN : PotKeys) : Prop where
  lst : KN.lst = false
  few : KN.ks.length < 1000
  get : ∀ (g : Addr) (is : List Int), valV (potPairs KN g is) (.inr KN.k0) = some (.ref g)
  put : ∀ (g g' : Addr) (is : List Int), putK (potPairs KN g is) (.inr KN.k0) (.ref g') = potPairs KN g' is
theorem nHead {k0 : Str} {ks : List Str} (hl : ks.length < 1000) (hk : k0 ∉ ks) : NHead ⟨k0, ks, false⟩ := by
  have key : ∀ (is : List Int), ∀ q ∈ ks.zip is, q.1 ≠ k0 := fun is q hq e => hk (e ▸ (List.of_mem_zip hq).1)
  refine ⟨rfl, hl, fun g is => ?_, fun g g' is => ?_⟩
  · simp [valV, potPairs]
  · have hm : ((ks.zip is).map fun q => ((Sum.inr q.1 : Key), V.int q.2)).map (fun kv => if kv.1 = Sum.inr k0 then (kv.1, V.ref g') else kv) = (ks.zip is).map fun q => ((Sum.inr q.1 : Key), V.int q.2) := by
      rw [List.map_map]
      refine List.map_congr_left fun q hq => ?_
      simp [key is q hq]
    unfold putK potPairs
    rw [if_pos (by simp), List.map_cons, hm]
    simp
def npOf (KN : PotKeys) (i : Nat) (st : DSt) : Option (List Int × List Int) := match st[i]? with
  | some (some (.npot kn gs is)) => if kn = KN ∧ is.length = KN.ks.length then some (gs, is) else none
  | _ => none
def npGet (KN : PotKeys) (i j : Nat) : DSt → T M := fun st => match npOf KN i st with
  | some (_, is) => match is[j]? with
    | some v => .ret (.pure (.int v))
    | none => .bad
  | none => .bad
def npLst (KN : PotKeys) (i : Nat) : DSt → T M := fun st => match npOf KN i st with
  | some (gs, _) => .ret (.lst (gs.map .int))
  | none => .bad
def npPut (KN : PotKeys) (i j : Nat) (f : DSt → T M) : Sm := fun st => f st >>= fun m => match m with
  | .pure (.int v) => match npOf KN i st with
    | some (gs, is) => .ret (.nx, st.set i (some (.npot KN gs (is.set j v))))
    | none => .bad
  | _ => .bad
def npPutL (KN : PotKeys) (i : Nat) (f : DSt → T M) : Sm := fun st => f st >>= asG >>= fun gs' => match npOf KN i st with
    | some (_, is) => .ret (.nx, st.set i (some (.npot KN gs' is)))
    | none => .bad
def npApp (KN : PotKeys) (i : Nat) (f : DSt → T M) : Sm := fun st => match npOf KN i st with
  | some (gs, is) => f st >>= fun m => match m with
    | .pure (.int v) => if gs.length < sizeLine then .ret (.nx, st.set i (some (.npot KN (gs ++ [v]) is))) else .bad
    | _ => .bad
  | none => .bad
theorem npOf_some {KN : PotKeys} {i : Nat} {st : DSt} {gs is : List Int} (h : npOf KN i st = some (gs, is)) : st[i]? = some (some (.npot KN gs is)) ∧ is.length = KN.ks.length := by
  unfold npOf at h
  split at h
  · rename_i e
    split at h
    · rename_i c
      cases h
      obtain ⟨rfl, hl⟩ := c
      exact ⟨e, hl⟩
    · cases h
  · cases h
theorem Sk.npot {kn : PotKeys} {K : PySem.W.Frag} {H0 : Hp} {Z : Zone} {H : Hp} {st : DSt} {σ : St} {Fp : Nat → List Addr} (k : Sk kn K H0 Z st σ H Fp) {KN : PotKeys} {i : Nat} {gs is : List Int} (h : npOf KN i st = some (gs, is)) (hl : KN.lst = false) :
    ∃ p g, σ[i]? = some (some (.ref p)) ∧ Fp i = [p, g] ∧ p ≠ g ∧ H p = some (.dK (potPairs KN g is)) ∧ H g = some (.lst (gs.map V.int)) := by
  obtain ⟨e, _⟩ := npOf_some h
  obtain ⟨v, s0, p, g, rfl, eF, np, hp, hg⟩ := k.sr.at_ i _ e
  rw [potObj_dict hl] at hp
  exact ⟨p, g, s0, eF, np, hp, hg⟩
/-- slot i's object is written, all else stays -/
theorem Sk.updO {kn : PotKeys} {H0 : Hp} {Z : Zone} {K : PySem.W.Frag} {G H : Hp} {st : DSt} {σ : St} {Fp : Nat → List Addr} (k0 : Sk kn K H0 Z st σ G Fp) (k : Sk kn K H0 Z st σ H Fp) {i : Nat} {m m' : M} {v : V} {p : Addr} {o u : HO} {F : List Addr} (e : st[i]? = some (some m)) (hv : σ[i]? = some (some v)) (hp : p ∈ Fp i) (ho : H p = some o) (hi : Imt o = false)
    (mv : MV K Z (L2.upd H p u) m' v F) (fr : ∀ a ∈ F, a ∈ Fp i ∨ G a = none) : (∃ Fp', Sk kn K H0 Z (st.set i (some m')) σ (L2.upd H p u) Fp') ∧ Imm H (L2.upd H p u) := by
  have im : Imm H (L2.upd H p u) := fun c o' ec ic => by
    by_cases q : c = p
    · subst q; rw [ho] at ec; cases ec; rw [hi] at ic; cases ic
    · rw [upd_ne q]; exact ec
  have off := k.sr.off i m e
  have offF : Off Z F := fun a ha => by
    rcases fr a ha with h | h
    · exact off a h
    · exact ⟨k0.sr.zok.isP h, k0.sr.zok.isG h⟩
  refine ⟨⟨_, ⟨k.sr.mut e hv im (fun c hc o ec => ?_) mv offF (fun a ha => (fr a ha).imp id k0.noneOf) (k.sr.zok.upd (off p hp).1 (off p hp).2), fun c o ec h1 h2 => ?_, fun j m2 ej c hc => ?_⟩⟩, im⟩
  · have q : c ≠ p := by
      rintro rfl
      exact hc hp
    rw [upd_ne q]; exact ec
  · have q : c ≠ p := fun q => by rw [q, k.new i m e p hp] at ec; cases ec
    rw [upd_ne q]
    exact k.old c o ec h1 h2
  · by_cases hj : j = i
    · simp only [if_pos hj] at hc
      rcases fr c hc with h | h
      · exact k.new i m e c h
      · exact k0.fresh h
    · simp only [if_neg hj] at hc
      rw [List.getElem?_set_ne (Ne.symm hj)] at ej
      exact k.new j m2 ej c hc
section
variable {X : Cx} {kn KN : PotKeys} {H0 : Hp} {o value call : Expr} {pos pos' pos'' : Pos} {i j : Nat} {key : Str} {jj : Nat}
theorem SR.npot {K : PySem.W.Frag} {Z : Zone} {H : Hp} {st : DSt} {σ : St} {Fp : Nat → List Addr} (s : SR kn K Z H st σ Fp) {gs is : List Int} (h : npOf KN i st = some (gs, is)) (hl : KN.lst = false) :
    ∃ p g, σ[i]? = some (some (.ref p)) ∧ H p = some (.dK (potPairs KN g is)) ∧ H g = some (.lst (gs.map V.int)) ∧ g ∈ Fp i := by
  obtain ⟨e, _⟩ := npOf_some h
  obtain ⟨v, s0, p, g, rfl, eF, np, hp, hg⟩ := s.at_ i _ e
  rw [potObj_dict hl] at hp
  exact ⟨p, g, s0, hp, hg, by rw [eF]; simp⟩
theorem dm_npGet (hk : NKey KN key j) (hu : X.A.units + 1 < cLine) (ho : PE X o (tVar i)) : PE X (.Subscript o (.Constant (.str key) jj pos') pos) (tM kn X.K (npGet KN i j)) :=
  pe_mono (pe_dget hu ho (pe_str (x := key)) (by intro _ _; rfl)) fun σ H Q ⟨Z, st, Fp, s, q⟩ => by
    unfold npGet at q
    split at q
    · rename_i gs is hn
      obtain ⟨p, g, s0, hp, hg, _⟩ := s.npot hn hk.lst
      split at q
      · rename_i v ev
        have e := hk.get g is (npOf_some hn).2
        rw [ev] at e
        exact ⟨_, s0, p, .int v, rfl, by have := DGet.k (k := .inr key) hp; rw [e] at this; exact this, (q : ∀ v H' F, _ → _ → _ → _ → Q v H') _ H [] .refl s.zok ⟨rfl, .int v⟩ fun _ h => nomatch h⟩
      · exact q.elim
    · exact q.elim
theorem pk_npLst (hk : NHead KN) (hu : X.A.units + 1 < cLine) (ho : PE X o (tVar i)) : PE X (.Subscript o (.Constant (.str KN.k0) jj pos') pos) (tPk kn X.K (npLst KN i)) :=
  pe_mono (pe_dget hu ho (pe_str (x := KN.k0)) (by intro _ _; rfl)) fun σ H Q ⟨Z, st, Fp, s, q⟩ => by
    unfold npLst at q
    split at q
    · rename_i gs is hn
      obtain ⟨p, g, s0, hp, hg, hm⟩ := s.npot hn hk.lst
      have e := hk.get g is
      exact ⟨_, s0, p, .ref g, rfl, by have := DGet.k (k := .inr KN.k0) hp; rw [e] at this; exact this, (q : ∀ v H' F, _ → _ → _ → _ → Q v H') _ H [g] .refl s.zok ⟨g, _, rfl, rfl, hg, fz_ints gs⟩ fun a ha => by
        have ea : a = g := by simpa using ha
        rw [ea]
        exact s.off i _ (npOf_some hn).1 g hm⟩
    · exact q.elim
theorem ds_npPut {f : DSt → T M} (hk : NKey KN key j) (hu : X.A.units + 1 < cLine) (ho : PE X o (tVar i)) (hv : PE X value (tM kn X.K f)) (hs : swapsWith value (some (.Subscript o (.Constant (.str key) jj pos') pos'')) pos.line X.env = pure false := by rfl) :
    PS X (.Assign [.Subscript o (.Constant (.str key) jj pos') pos''] value pos) (tS kn X.K H0 (npPut KN i j f)) :=
  ps_mono (ps_dput hu ho (pe_str (x := key)) hv hs) fun D σ H ⟨Z, st, Fp, k, q⟩ => ⟨Z, st, Fp, k.sr, T.all_mono (T.bind_all q) fun m hm u H1 F1 x1 z1 mv1 fr1 => by
    split at hm
    · rename_i v
      obtain rfl := fz_int mv1.2
      split at hm
      · rename_i gs is hn
        have k1 := k.ext x1 z1
        obtain ⟨p, g, s0, eF, np, hp, hg⟩ := k1.npot hn hk.lst
        obtain ⟨e0, hl⟩ := npOf_some hn
        obtain ⟨⟨Fp', k'⟩, im⟩ := k1.updO k1 (p := p) (u := .dK (potPairs KN g (is.set j v))) (m' := .npot KN gs (is.set j v)) (F := [p, g]) e0 s0 (by rw [eF]; simp) hp rfl
          ⟨p, g, rfl, rfl, np, by rw [upd_same, potObj_dict hk.lst], by rw [upd_ne np.symm]; exact hg⟩ (fun a ha => .inl (by rw [eF]; exact ha))
        exact ⟨_, s0, p, _, rfl, by have := DPut.k (k := .inr key) (v := .int v) hp (by unfold potPairs; rw [List.length_cons, List.length_map, List.length_zip, hl, Nat.min_self]; exact Nat.lt_of_lt_of_le (Nat.succ_lt_succ hk.few) (by decide)); rw [hk.put g is v hl] at this; exact this, (hm : ∀ σ' H' Fp', _ → _ → D.nx σ' H') σ _ Fp' k' ((k.imm x1).trans im)⟩
      · exact hm.elim
    · exact hm.elim⟩
theorem ds_npPutL {f : DSt → T M} (hk : NHead KN) (hu : X.A.units + 1 < cLine) (ho : PE X o (tVar i)) (hv : PE X value (tM kn X.K f)) (hs : swapsWith value (some (.Subscript o (.Constant (.str KN.k0) jj pos') pos'')) pos.line X.env = pure false := by rfl) :
    PS X (.Assign [.Subscript o (.Constant (.str KN.k0) jj pos') pos''] value pos) (tS kn X.K H0 (npPutL KN i f)) :=
  ps_mono (ps_dput hu ho (pe_str (x := KN.k0)) hv hs) fun D σ H ⟨Z, st, Fp, k, q⟩ => ⟨Z, st, Fp, k.sr, T.all_mono (T.bind_all (T.bind_all q)) fun m hm u H1 F1 x1 z1 mv1 fr1 => by
    obtain ⟨g', gs', rfl, rfl, hg', hm⟩ := asG_all hm mv1
    split at hm
    · rename_i gs is hn
      have k1 := k.ext x1 z1
      obtain ⟨p, g, s0, eF, np, hp, hg⟩ := k1.npot hn hk.lst
      obtain ⟨e0, hl⟩ := npOf_some hn
      have fresh : H g' = none := fr1 g' (by simp)
      have np' : p ≠ g' := by
        rintro rfl
        exact k.noneOf fresh i _ e0 (by rw [eF]; simp)
      obtain ⟨⟨Fp', k'⟩, im⟩ := k.updO k1 (p := p) (u := .dK (potPairs KN g' is)) (m' := .npot KN gs' is) (F := [p, g']) e0 s0 (by rw [eF]; simp) hp rfl
        ⟨p, g', rfl, rfl, np', by rw [upd_same, potObj_dict hk.lst], by rw [upd_ne np'.symm]; exact hg'⟩ (fun a ha => by
          rcases List.mem_cons.mp ha with rfl | ha
          · exact .inl (by rw [eF]; simp)
          · rw [List.mem_singleton.mp ha]; exact .inr fresh)
      exact ⟨_, s0, p, _, rfl, by have := DPut.k (k := .inr KN.k0) (v := .ref g') hp (by unfold potPairs; rw [List.length_cons, List.length_map, List.length_zip, hl, Nat.min_self]; exact Nat.lt_of_lt_of_le (Nat.succ_lt_succ hk.few) (by decide)); rw [hk.put g g' is] at this; exact this, (hm : ∀ σ' H' Fp', _ → _ → D.nx σ' H') σ _ Fp' k' ((k.imm x1).trans im)⟩
    · exact hm.elim⟩
theorem ds_npApp {f : DSt → T M} (hk : NHead KN) (h : PE X call (tBM X.K "list" rAppend (tDGet (tVar i) (tC (.str KN.k0))) (tCons (tM kn X.K f) tNil))) (hs : swapsWith call none pos.line X.env = pure false := by rfl) :
    PS X (.Expr call pos) (tS kn X.K H0 (npApp KN i f)) :=
  ps_mono (ps_expr h hs) fun D σ H ⟨Z, st, Fp, k, q⟩ => by
    unfold npApp at q
    split at q
    · rename_i gs is hn
      obtain ⟨p, g, s0, eF, np, hp, hg⟩ := k.npot hn hk.lst
      obtain ⟨e0, hl⟩ := npOf_some hn
      refine ⟨_, s0, p, .ref g, rfl, by have := DGet.k (k := .inr KN.k0) hp; rw [hk.get g is] at this; exact this, .inl ⟨rfl, _, .of hg⟩, Z, st, Fp, k.sr, T.all_mono (T.bind_all q) fun m hm w H1 F x1 z1 mw fr => ?_⟩
      split at hm
      · rename_i v
        obtain rfl := fz_int mw.2
        split at hm
        · rename_i hz
          have k1 := k.ext x1 z1
          obtain ⟨p1, g1, s1, eF1, np1, hp1, hg1⟩ := k1.npot hn hk.lst
          rw [s0] at s1
          cases s1
          have eg : g1 = g := by
            rw [eF] at eF1
            simpa using eF1.symm
          subst eg
          obtain ⟨⟨Fp', k'⟩, im⟩ := k1.updO k1 (p := g1) (u := .lst ((gs.map V.int) ++ [V.int v])) (m' := .npot KN (gs ++ [v]) is) (F := [p, g1]) e0 s0 (by rw [eF]; simp) hg1 rfl
            ⟨p, g1, rfl, rfl, np, by rw [upd_ne np, potObj_dict hk.lst]; exact hp1, by rw [upd_same, List.map_append]; rfl⟩ (fun a ha => .inl (by rw [eF]; exact ha))
          exact ⟨g1, _, _, rfl, rfl, hg1, by rw [List.length_map]; exact hz, (hm : ∀ σ' H' Fp', _ → _ → D.nx σ' H') σ _ Fp' k' ((k.imm x1).trans im)⟩
        · exact hm.elim
      · exact hm.elim
    · exact q.elim
end
end L2.Zy
namespace L2.Zy
open PySem PyProof.Rows PySem.Spec
section
variable {X : Cx} {kn : PotKeys} {H0 : Hp}
variable {a b d e : Expr} {pos : Pos}
/-! ## a, b, c = x, y, z: a tuple is made and taken apart -/
def par4 (i j l r : Nat) (fa fb fc fd : DSt → T M) : Sm := fun st => fa st >>= fun m => fb st >>= fun n => fc st >>= fun o => fd st >>= fun p => .ret (.nx, ((((st.set i (some m)).set j (some n)).set l (some o)).set r (some p)))
theorem ds_parT2 {i j : Nat} {x y : Str} {fa fb : DSt → T M} {px py pt : Pos} {kt : Nat} {k2 : Nat} {pt2 : Pos} (hc : X.calm = true) (hN : X.N.Nodup) (hi : X.N[i]? = some x) (hj : X.N[j]? = some y)
    (hx' : Loc X.env.scope x) (hy' : Loc X.env.scope y) (p0 : PE X a (tM kn X.K fa)) (p1 : PE X b (tM kn X.K fb))
    (hw : swappedStores [.Tuple [.Name x px, .Name y py] kt pt] (.Tuple [a, b] k2 pt2) X.env = pure none := by rfl)
    (hs : swapsWithSole [.Tuple [.Name x px, .Name y py] kt pt] (.Tuple [a, b] k2 pt2) pos.line X.env = pure false := by rfl) (s0 : starEach [a, b] X.env = (false, eval a X.env) :: starEach [b] X.env := by rfl) (s1 : starEach [b] X.env = (false, eval b X.env) :: starEach [] X.env := by rfl)
    (f0 : X.fn x = true ∨ X.env.scope.names.lookup x = some .local := by first | exact .inl rfl | exact .inr rfl | assumption) (f1 : X.fn y = true ∨ X.env.scope.names.lookup y = some .local := by first | exact .inl rfl | exact .inr rfl | assumption) :
    PS X (.Assign [.Tuple [.Name x px, .Name y py] kt pt] (.Tuple [a, b] k2 pt2) pos) (tS kn X.K H0 (par2 i j fa fb)) :=
  ps_mono (ps_asg (pe_tup (pa_cons p0 (pa_cons p1 pa_nil s1) s0)) (pg_tup hc (pgs_cons (pg_name hN hi hx' f0) (pgs_cons (pg_name hN hj hy' f1) pgs_nil))) hs hw) fun E σ H ⟨Z, st, Fp, k, q⟩ =>
    ⟨Z, st, Fp, k.sr, T.all_mono (T.bind_all q) fun m hm v H1 F1 x1 z1 mv1 fr1 => ⟨Z, st, Fp, (k.sr.ext x1 z1), T.all_mono (T.bind_all hm) fun n hn w H2 F2 x2 z2 mv2 fr2 => 
      ⟨Nat.le_trans (by simp) (show (2:Nat) ≤ sizeLine by rw [sizeLine_eq]; decide), fun a0 ha0 => ⟨a0, [v, w], rfl, .of upd_same, rfl, v, _, rfl, w, _, rfl, rfl,
        (hn : ∀ σ' H' Fp', _ → _ → E.nx σ' H') _ _ _ ((k.put2 x1 z1 x2 z2 mv1 fr1 mv2 fr2).ext (.of_same (same_new ha0)) (z2.same (same_new ha0))) (((k.imm x1).trans (x2.imm z1)).trans (.of_same (same_new ha0)))⟩⟩⟩⟩
theorem ds_parT3 {i j l : Nat} {x y z : Str} {fa fb fd : DSt → T M} {px py pz pt : Pos} {kt : Nat} {k2 : Nat} {pt2 : Pos} (hc : X.calm = true) (hN : X.N.Nodup) (hi : X.N[i]? = some x) (hj : X.N[j]? = some y) (hl : X.N[l]? = some z)
    (hx' : Loc X.env.scope x) (hy' : Loc X.env.scope y) (hz' : Loc X.env.scope z) (p0 : PE X a (tM kn X.K fa)) (p1 : PE X b (tM kn X.K fb)) (p2 : PE X d (tM kn X.K fd))
    (hw : swappedStores [.Tuple [.Name x px, .Name y py, .Name z pz] kt pt] (.Tuple [a, b, d] k2 pt2) X.env = pure none := by rfl)
    (hs : swapsWithSole [.Tuple [.Name x px, .Name y py, .Name z pz] kt pt] (.Tuple [a, b, d] k2 pt2) pos.line X.env = pure false := by rfl) (s0 : starEach [a, b, d] X.env = (false, eval a X.env) :: starEach [b, d] X.env := by rfl) (s1 : starEach [b, d] X.env = (false, eval b X.env) :: starEach [d] X.env := by rfl) (s2 : starEach [d] X.env = (false, eval d X.env) :: starEach [] X.env := by rfl)
    (f0 : X.fn x = true ∨ X.env.scope.names.lookup x = some .local := by first | exact .inl rfl | exact .inr rfl | assumption) (f1 : X.fn y = true ∨ X.env.scope.names.lookup y = some .local := by first | exact .inl rfl | exact .inr rfl | assumption) (f2 : X.fn z = true ∨ X.env.scope.names.lookup z = some .local := by first | exact .inl rfl | exact .inr rfl | assumption) :
    PS X (.Assign [.Tuple [.Name x px, .Name y py, .Name z pz] kt pt] (.Tuple [a, b, d] k2 pt2) pos) (tS kn X.K H0 (par3 i j l fa fb fd)) :=
  ps_mono (ps_asg (pe_tup (pa_cons p0 (pa_cons p1 (pa_cons p2 pa_nil s2) s1) s0)) (pg_tup hc (pgs_cons (pg_name hN hi hx' f0) (pgs_cons (pg_name hN hj hy' f1) (pgs_cons (pg_name hN hl hz' f2) pgs_nil)))) hs hw) fun E σ H ⟨Z, st, Fp, k, q⟩ =>
    ⟨Z, st, Fp, k.sr, T.all_mono (T.bind_all q) fun m hm v H1 F1 x1 z1 mv1 fr1 => ⟨Z, st, Fp, (k.sr.ext x1 z1), T.all_mono (T.bind_all hm) fun n hn w H2 F2 x2 z2 mv2 fr2 => ⟨Z, st, Fp, ((k.sr.ext x1 z1).ext x2 z2), T.all_mono (T.bind_all hn) fun o ho u3 H3 F3 x3 z3 mv3 fr3 => 
      ⟨Nat.le_trans (by simp) (show (3:Nat) ≤ sizeLine by rw [sizeLine_eq]; decide), fun a0 ha0 => ⟨a0, [v, w, u3], rfl, .of upd_same, rfl, v, _, rfl, w, _, rfl, u3, _, rfl, rfl,
        (ho : ∀ σ' H' Fp', _ → _ → E.nx σ' H') _ _ _ (((k.put2 x1 z1 x2 z2 mv1 fr1 mv2 fr2).put x3 z3 mv3 fr3).ext (.of_same (same_new ha0)) (z3.same (same_new ha0))) ((((k.imm x1).trans (x2.imm z1)).trans (x3.imm z2)).trans (.of_same (same_new ha0)))⟩⟩⟩⟩⟩
theorem ds_parT4 {i j l r : Nat} {x y z u : Str} {fa fb fd fe : DSt → T M} {px py pz pu pt : Pos} {kt : Nat} {k2 : Nat} {pt2 : Pos} (hc : X.calm = true) (hN : X.N.Nodup) (hi : X.N[i]? = some x) (hj : X.N[j]? = some y) (hl : X.N[l]? = some z) (hr : X.N[r]? = some u)
    (hx' : Loc X.env.scope x) (hy' : Loc X.env.scope y) (hz' : Loc X.env.scope z) (hu' : Loc X.env.scope u) (p0 : PE X a (tM kn X.K fa)) (p1 : PE X b (tM kn X.K fb)) (p2 : PE X d (tM kn X.K fd)) (p3 : PE X e (tM kn X.K fe))
    (hw : swappedStores [.Tuple [.Name x px, .Name y py, .Name z pz, .Name u pu] kt pt] (.Tuple [a, b, d, e] k2 pt2) X.env = pure none := by rfl)
    (hs : swapsWithSole [.Tuple [.Name x px, .Name y py, .Name z pz, .Name u pu] kt pt] (.Tuple [a, b, d, e] k2 pt2) pos.line X.env = pure false := by rfl) (s0 : starEach [a, b, d, e] X.env = (false, eval a X.env) :: starEach [b, d, e] X.env := by rfl) (s1 : starEach [b, d, e] X.env = (false, eval b X.env) :: starEach [d, e] X.env := by rfl) (s2 : starEach [d, e] X.env = (false, eval d X.env) :: starEach [e] X.env := by rfl) (s3 : starEach [e] X.env = (false, eval e X.env) :: starEach [] X.env := by rfl)
    (f0 : X.fn x = true ∨ X.env.scope.names.lookup x = some .local := by first | exact .inl rfl | exact .inr rfl | assumption) (f1 : X.fn y = true ∨ X.env.scope.names.lookup y = some .local := by first | exact .inl rfl | exact .inr rfl | assumption) (f2 : X.fn z = true ∨ X.env.scope.names.lookup z = some .local := by first | exact .inl rfl | exact .inr rfl | assumption) (f3 : X.fn u = true ∨ X.env.scope.names.lookup u = some .local := by first | exact .inl rfl | exact .inr rfl | assumption) :
    PS X (.Assign [.Tuple [.Name x px, .Name y py, .Name z pz, .Name u pu] kt pt] (.Tuple [a, b, d, e] k2 pt2) pos) (tS kn X.K H0 (par4 i j l r fa fb fd fe)) :=
  ps_mono (ps_asg (pe_tup (pa_cons p0 (pa_cons p1 (pa_cons p2 (pa_cons p3 pa_nil s3) s2) s1) s0)) (pg_tup hc (pgs_cons (pg_name hN hi hx' f0) (pgs_cons (pg_name hN hj hy' f1) (pgs_cons (pg_name hN hl hz' f2) (pgs_cons (pg_name hN hr hu' f3) pgs_nil))))) hs hw) fun E σ H ⟨Z, st, Fp, k, q⟩ =>
    ⟨Z, st, Fp, k.sr, T.all_mono (T.bind_all q) fun m hm v H1 F1 x1 z1 mv1 fr1 => ⟨Z, st, Fp, (k.sr.ext x1 z1), T.all_mono (T.bind_all hm) fun n hn w H2 F2 x2 z2 mv2 fr2 => ⟨Z, st, Fp, ((k.sr.ext x1 z1).ext x2 z2), T.all_mono (T.bind_all hn) fun o ho u3 H3 F3 x3 z3 mv3 fr3 => ⟨Z, st, Fp, (((k.sr.ext x1 z1).ext x2 z2).ext x3 z3), T.all_mono (T.bind_all ho) fun p hp u4 H4 F4 x4 z4 mv4 fr4 => 
      ⟨Nat.le_trans (by simp) (show (4:Nat) ≤ sizeLine by rw [sizeLine_eq]; decide), fun a0 ha0 => ⟨a0, [v, w, u3, u4], rfl, .of upd_same, rfl, v, _, rfl, w, _, rfl, u3, _, rfl, u4, _, rfl, rfl,
        (hp : ∀ σ' H' Fp', _ → _ → E.nx σ' H') _ _ _ ((((k.put2 x1 z1 x2 z2 mv1 fr1 mv2 fr2).put x3 z3 mv3 fr3).put x4 z4 mv4 fr4).ext (.of_same (same_new ha0)) (z4.same (same_new ha0))) (((((k.imm x1).trans (x2.imm z1)).trans (x3.imm z2)).trans (x4.imm z3)).trans (.of_same (same_new ha0)))⟩⟩⟩⟩⟩⟩
end
end L2.Zy
namespace L2.Zy
open PySem PyProof.Rows PySem.Spec HT
/-! ## a tuple backwards -/
section
variable {prog : Program} {w : World} {A : Around} {E : Value → Shared → Prop} {s : Shared}
theorem places_rev (n : Nat) : Builtin.Slice.slicePlaces ((n : Int) - 1) (-1) (-1) = n := by
  unfold Builtin.Slice.slicePlaces
  have h1 : ¬ ((-1 : Int) > 0) := by omega
  simp only [h1, if_false]
  split
  · simp
  · omega
theorem sliceApplied_rev {sl : Addr} {vl vu vs : Value} {n : Nat} {Q : Int × Int × Nat → Shared → Prop} (hs : s.heap.IsSliceOf sl vl vu vs) (pl : IsPart vl none) (pu : IsPart vu none) (ps : IsPart vs (some (-1)))
    (h : Q ((n : Int) - 1, -1, n) s) : wpAny (model prog w) A (Builtin.Slice.sliceApplied (.ref sl) (pure (n : Int))) Q E s := by
  obtain ⟨os, hos, hcs, hds⟩ := id hs
  unfold Builtin.Slice.sliceApplied Builtin.Slice.sliceFields
  refine wpAny_bind (wpAny_bind (wpAny_field hos hds (x := vl) rfl (wpAny_bind (wpAny_field hos hds (x := vu) rfl (wpAny_bind (wpAny_field hos hds (x := vs) rfl (wpAny_pure ?_)))))))
  refine wpAny_bind (slicePart_ ps ?_)
  show wpAny _ _ (if ((-1 : Int) == 0) = true then _ else _) _ _ s
  rw [if_neg (by decide)]
  refine wpAny_bind (slicePart_ pl (wpAny_bind (slicePart_ pu (wpAny_bind (wpAny_pure ?_)))))
  show wpAny _ _ (match Builtin.Slice.sliceAdjust none none (-1) (n : Int) with | (lo, hi) => pure (lo, (-1 : Int), Builtin.Slice.slicePlaces lo hi (-1))) _ _ s
  have e : Builtin.Slice.sliceAdjust none none (-1) (n : Int) = ((n : Int) - 1, -1) := by
    simp [Builtin.Slice.sliceAdjust]
  rw [e]
  show wpAny _ _ (pure ((n : Int) - 1, (-1 : Int), Builtin.Slice.slicePlaces ((n : Int) - 1) (-1) (-1))) _ _ s
  rw [places_rev]
  exact wpAny_pure h
theorem pick_rev (xs : Array Value) : ((List.range xs.size).filterMap fun (m : Nat) => xs[(((xs.size : Int) - 1) + (m : Int) * -1).toNat]?).toArray = xs.toList.reverse.toArray := by
  have e : ∀ l : List Nat, (∀ m ∈ l, m < xs.size) → l.filterMap (fun (m : Nat) => xs[(((xs.size : Int) - 1) + (m : Int) * -1).toNat]?) = (l.map fun m => xs.size - 1 - m).filterMap fun m => xs[m]? := by
    intro l hl
    induction l with
    | nil => rfl
    | cons m l ih =>
      have hm := hl m List.mem_cons_self
      have : (((xs.size : Int) - 1) + (m : Int) * -1).toNat = xs.size - 1 - m := by omega
      rw [List.map_cons, List.filterMap_cons, List.filterMap_cons, this, ih fun k hk => hl k (List.mem_cons_of_mem _ hk)]
  rw [e _ fun m hm => List.mem_range.mp hm, PySem.W.krv_range, List.filterMap_reverse, PySem.W.krv_all]
theorem getItem_tuple_rev {t sl : Addr} {items : Array Value} {vl vu vs : Value} {Q : Value → Shared → Prop} (ht : IsTup s.heap t items) (hs : s.heap.IsSliceOf sl vl vu vs) (pl : IsPart vl none) (pu : IsPart vu none) (ps : IsPart vs (some (-1)))
    (h : Q (.ref s.heap.objs.size) { s with heap := s.heap.push { cls := .type "tuple", data := .seq items.toList.reverse.toArray } })
    (hsz : items.size ≤ sizeLine) : wpAny (model prog w) A (getItem (.ref t) (.ref sl)) Q E s := by
  have htake : sizeOk (.seq items.toList.reverse.toArray) := by
    show items.toList.reverse.toArray.size ≤ sizeLine
    simpa using hsz
  obtain ⟨os, hos, hcs, hds⟩ := id hs
  have hTs : s.TypeIs (.ref sl) "slice" := ⟨os, hos, hcs⟩
  unfold getItem
  try with_reducible refine wpAny_holding ?_
  first | refine wpAny_bind (wpAny_pure ?_) | skip
  refine wpAny_bind (wpAny_sequenceKey ht.typeIs (by decide) ?_)
  refine wpAny_bind (wpAny_callSpecial?_slot (name := Str.ofString "__getitem__") ht.typeIs PyProof.Rows.slot_tuple_getitem
    (wpAny_call_entry PyProof.Rows.slot_tuple_getitem ht.typeIs entry_tuple_getitem ?_ (args_tuple_getitem _ _)))
  show wpAny _ _ (Builtin.Tuple.tupleItemsOf (.ref t) >>= _) _ _ s
  refine wpAny_bind (tupleItemsOf_ ht ?_)
  refine wpAny_bind (wpAny_typeOf hTs ?_)
  rw [if_pos (by decide)]
  refine wpAny_bind (sliceApplied_rev hs pl pu ps ?_)
  have hno : ¬ ((((items.size : Int) - 1) == 0 && (-1 : Int) == 1 && items.size == items.size) = true) := by
    intro q
    rw [Bool.and_eq_true, Bool.and_eq_true] at q
    exact absurd q.1.2 (by decide)
  show wpAny _ _ (if (((items.size : Int) - 1) == 0 && (-1 : Int) == 1 && items.size == items.size) = true then _ else _) _ _ s
  rw [if_neg hno, pick_rev]
  first
    | exact wpAny_bind (m := Builtin.Tuple.tupleExact _) (wpAny_newObj_type (wpAny_pure ⟨_, rfl, wpAny_pure h⟩) htake)
    | exact wpAny_bind (m := Builtin.Tuple.tupleExact _) (wpAny_newObj_type (wpAny_bind (wpAny_pure (wpAny_pure ⟨_, rfl, wpAny_pure h⟩))) htake)
    | exact wpAny_bind (wpAny_bind (m := Builtin.Tuple.tupleExact _) (wpAny_newObj_type (wpAny_pure (wpAny_pure ⟨_, rfl, wpAny_pure h⟩)) htake))
    | exact wpAny_bind (wpAny_bind (m := Builtin.Tuple.tupleExact _) (wpAny_newObj_type (wpAny_pure ⟨_, rfl, wpAny_pure h⟩) htake))
end
section
variable {X : Cx} {kn : PotKeys} {e : Expr} {pos : Pos}
def tRevA (K : PySem.W.Frag) (te : TE) : TE := fun σ H Q => te σ H fun x H1 => (∃ a xs, x = .ref a ∧ SqL K H1 a xs ∧ ∀ p, H1 p = none → Q (.ref p) (upd H1 p (.lst xs.reverse))) ∨ ∃ a xs, x = .ref a ∧ SqT K H1 a xs ∧ ∀ p, H1 p = none → Q (.ref p) (upd H1 p (.tup xs.reverse))
theorem pe_revA {te : TE} {k : Nat} {p1 p2 p3 pos : Pos} (he : PE X e te) : PE X (.Subscript e (.Slice none none (some (.UnaryOp .USub (.Constant (.int 1) k p1) p2)) p3) pos) (tRevA X.K te) := by
  refine ⟨fun pins s σ H Q I h => ?_⟩
  refine Subscript_ (thn (he.run pins s σ H _ I h) fun v s1 ⟨x, H1, I1, r1, q1⟩ => ?_)
  have hst : PO X (some (.UnaryOp .USub (.Constant (.int 1) k p1) p2)) (tPart (tUn (rU fun i => .int (-i)) (tC (.int 1)))) := po_some (pe_un un_neg pe_int)
  refine wpAny_Slice (thn (po_none.run pins s1 σ H1 (fun o H2 => o = none ∧ H2 = H1) I1 ⟨rfl, rfl⟩) fun vl s2 ⟨l, H2, I2, pl, el, e2⟩ => ?_)
  subst el e2
  refine thn (po_none.run pins s2 σ H2 (fun o H3 => o = none ∧ H3 = H2) I2 ⟨rfl, rfl⟩) fun vu s3 ⟨u, H3, I3, pu, eu, e3⟩ => ?_
  subst eu e3
  refine thn (hst.run pins s3 σ H3 (fun o H4 => o = some (-1) ∧ H4 = H3) I3 ⟨1, rfl, -1, rfl, rfl, rfl⟩) fun vs s4 ⟨o, H4, I4, ps, eo, e4⟩ => ?_
  subst eo e4
  have I5 : Inv X pins σ H4 { s4 with heap := s4.heap.push { cls := .type "slice", data := .fields #[vl, vu, vs] } } := I4.kept (t' := s4.toks) fun b ob q => Heap.get?_push_of_some _ q
  rcases q1 with ⟨a, xs, ex, hx, q⟩ | ⟨a, xs, ex, hx, q⟩
  · subst ex
    cases r1
    obtain ⟨its, r, ht, hz⟩ := I5.list hx
    have hlen := r.length
    show wpAny (model X.prog X.w) X.A (subscriptTail e (.Slice none none (some (.UnaryOp .USub (.Constant (.int 1) k p1) p2)) p3) (.ref a) (.ref s4.heap.objs.size)) (EP X pins σ Q) X.xe { s4 with heap := s4.heap.push { cls := .type "slice", data := .fields #[vl, vu, vs] } }
    refine tail_any (ops := [.ref a, .ref s4.heap.objs.size]) ht.isList.typeIs (PySem.slot_list_getitem.lookup) ?_ (by with_unfolding_all rfl)
    refine wpAny_getItem_list_slice ht.isList (Heap.IsSliceOf.new _ vl vu vs) pl pu ps (by decide) ?_ (by rw [List.size_toArray]; omega)
    rw [PySem.W.krv_pick]
    refine ⟨.ref _, _, I5.laid (t' := s4.toks) (o := .lst xs.reverse) (fun b ob q => Heap.get?_push_of_some _ q) (Nat.le_refl _) ?_, rfl, q _ (I5.hok.fresh (Nat.le_refl _))⟩
    exact ⟨by rw [List.length_reverse]; exact hz, _, 0, r.reverse, Heap.get?_push_size _ rfl⟩
  · subst ex
    cases r1
    obtain ⟨its, r, ht, hz⟩ := I5.tuple hx
    have hlen := r.length
    show wpAny (model X.prog X.w) X.A (subscriptTail e (.Slice none none (some (.UnaryOp .USub (.Constant (.int 1) k p1) p2)) p3) (.ref a) (.ref s4.heap.objs.size)) (EP X pins σ Q) X.xe { s4 with heap := s4.heap.push { cls := .type "slice", data := .fields #[vl, vu, vs] } }
    refine tail_any (ops := [.ref a, .ref s4.heap.objs.size]) ht.typeIs (PyProof.Rows.slot_tuple_getitem.lookup) ?_ (by with_unfolding_all rfl)
    refine getItem_tuple_rev ht (Heap.IsSliceOf.new _ vl vu vs) pl pu ps ?_ (by rw [List.size_toArray]; omega)
    refine ⟨.ref _, _, I5.laid (t' := s4.toks) (o := .tup xs.reverse) (fun b ob q => Heap.get?_push_of_some _ q) (Nat.le_refl _) ?_, rfl, q _ (I5.hok.fresh (Nat.le_refl _))⟩
    exact ⟨by rw [List.length_reverse]; exact hz, _, r.reverse, ⟨_, Heap.get?_push_size _ rfl, rfl, _, rfl⟩⟩
def revA (m : M) : T M := match m with
  | .pure (.tuple ds) => .ret (.pure (.tuple ds.reverse))
  | m => match m.listD with
    | some ds => .ret (.lst ds.reverse)
    | none => .bad
theorem dm_revA {k : Nat} {p1 p2 p3 : Pos} {f : DSt → T M} (he : PE X e (tPk kn X.K f)) : PE X (.Subscript e (.Slice none none (some (.UnaryOp .USub (.Constant (.int 1) k p1) p2)) p3) pos) (tM kn X.K (un1 revA f)) :=
  pe_mono (pe_revA he) fun σ H Q ⟨Z, st, Fp, s, q⟩ => ⟨Z, st, Fp, s, T.all_mono (T.bind_all q) fun m hm v H1 F x1 z1 mv o => by
    unfold revA at hm
    split at hm
    · rename_i ds
      obtain ⟨_, f1⟩ := mv
      cases f1 with
      | tup s1 g1 =>
        refine .inr ⟨_, _, rfl, s1, fun p hp => ?_⟩
        exact hm (.ref p) _ [] (x1.trans (.of_same (same_new hp))) (z1.same (same_new hp)) (mv_tup hp g1.reverse) fun _ h => nomatch h
    · split at hm
      · rename_i ds e
        obtain ⟨a, vs, rfl, l, f⟩ := mv_list e mv
        refine .inl ⟨a, vs, rfl, l.sq, fun p hp => ?_⟩
        exact hm (.ref p) _ [p] (x1.trans (.of_same (same_new hp))) (z1.same (same_new hp)) (mv_lst hp f.reverse) fun b hb => by
          rw [List.mem_singleton.mp hb]
          exact x1.none z1 hp
      · exact hm.elim⟩
end
end L2.Zy
namespace L2.Zy
open PySem PyProof.Rows PySem.Spec
/-! ## a <= b <= c < d -/
section
variable {X : Cx} {a b c d : Expr} {ta tb tc td : TE} {pos : Pos}
theorem pe_chain3 {op op' op2 : CmpOp} {r r' r2 : R2} (ho : OpR X (compareOp op) r) (ho' : OpR X (compareOp op') r') (ho2 : OpR X (compareOp op2) r2) (ha : PE X a ta) (hb : PE X b tb) (hc : PE X c tc) (hd : PE X d td)
    (hm : lastMarks [op, op', op2] [b, c, d] = false := by with_unfolding_all rfl) : PE X (.Compare a [op, op', op2] [b, c, d] pos) (fun σ H Q => ta σ H fun x H1 => tb σ H1 fun y H2 => r x y H2 fun z H3 => ∃ k, z = .bl k ∧ if k = true then tc σ H3 fun w H4 => r' y w H4 fun z2 H5 => ∃ k2, z2 = .bl k2 ∧ if k2 = true then td σ H5 fun u H6 => r2 w u H6 Q else Q (.bl false) H5 else Q (.bl false) H3) := by
  refine ⟨fun pins s σ H Q I h => ?_⟩
  refine Compare_chain (thn (ha.run pins s σ H _ I h) fun v s1 ⟨x, H1, I1, r1, q1⟩ => chain_link (thn (hb.run pins s1 σ H1 _ I1 q1) fun u s2 ⟨y, H2, I2, r2, q2⟩ =>
    thn (ho pins s2 σ H2 x y v u _ I2 r1 r2 q2) fun d s3 ⟨z, H3, I3, r3, k, e, q3⟩ => ?_)) hm
  subst e
  cases r3
  refine wpAny_truthy_bool ?_
  cases k with
  | false => exact ite_ff ⟨.bl false, H3, I3, rfl, q3⟩
  | true =>
    refine ite_tt (chain_link (thn (hc.run pins s3 σ H3 _ I3 q3) fun w' s4 ⟨z', H4, I4, r4, q4⟩ => thn (ho' pins s4 σ H4 y z' u w' _ I4 r2 r4 q4) fun d s5 ⟨z2, H5, I5, r5, k2, e2, q5⟩ => ?_))
    subst e2
    cases r5
    refine wpAny_truthy_bool ?_
    cases k2 with
    | false => exact ite_ff ⟨.bl false, H5, I5, rfl, q5⟩
    | true => exact ite_tt (chain_last (thn (hd.run pins s5 σ H5 _ I5 q5) fun w2 s6 ⟨z6, H6, I6, r6, q6⟩ => ho2 pins s6 σ H6 z' z6 w' w2 Q I6 r4 r6 q6))
def tChain3 (r r' r2 : R2) (ta tb tc td : TE) : TE := fun σ H Q => ta σ H fun x H1 => tb σ H1 fun y H2 => r x y H2 fun z H3 => ∃ k, z = .bl k ∧ if k = true then tc σ H3 fun w H4 => r' y w H4 fun z2 H5 => ∃ k2, z2 = .bl k2 ∧ if k2 = true then td σ H5 fun u H6 => r2 w u H6 Q else Q (.bl false) H5 else Q (.bl false) H3
theorem pt_chain3 {op op' op2 : CmpOp} {r r' r2 : R2} (ho : OpR X (compareOp op) r) (ho' : OpR X (compareOp op') r') (ho2 : OpR X (compareOp op2) r2) (ha : PE X a ta) (hb : PE X b tb) (hc : PE X c tc) (hd : PE X d td)
    (hm : lastMarks [op, op', op2] [b, c, d] = false := by with_unfolding_all rfl) : PT X (.Compare a [op, op', op2] [b, c, d] pos) (tTest (tChain3 r r' r2 ta tb tc td)) := by
  refine ⟨fun pins s σ H Q I h => ?_⟩
  refine isTrue_chain (thn (ha.run pins s σ H _ I h) fun v s1 ⟨x, H1, I1, r1, q1⟩ => test_link (thn (hb.run pins s1 σ H1 _ I1 q1) fun u s2 ⟨y, H2, I2, r2, q2⟩ =>
    thn (ho pins s2 σ H2 x y v u _ I2 r1 r2 q2) fun d s3 ⟨z, H3, I3, r3, k, e, q3⟩ => ?_)) hm
  subst e
  cases r3
  refine wpAny_truthy_bool ?_
  cases k with
  | false =>
    obtain ⟨k', e', q'⟩ := q3
    cases e'
    exact ite_ff ⟨H3, I3, q'⟩
  | true =>
    refine ite_tt (test_link (thn (hc.run pins s3 σ H3 _ I3 q3) fun w' s4 ⟨z', H4, I4, r4, q4⟩ => thn (ho' pins s4 σ H4 y z' u w' _ I4 r2 r4 q4) fun d s5 ⟨z2, H5, I5, r5, k2, e2, q5⟩ => ?_))
    subst e2
    cases r5
    refine wpAny_truthy_bool ?_
    cases k2 with
    | false =>
      obtain ⟨k', e', q'⟩ := q5
      cases e'
      exact ite_ff ⟨H5, I5, q'⟩
    | true =>
      refine ite_tt (test_last (thn (hd.run pins s5 σ H5 _ I5 q5) fun w2 s6 ⟨z6, H6, I6, r6, q6⟩ => thn (ho2 pins s6 σ H6 z' z6 w' w2 _ I6 r4 r6 q6) fun d s7 ⟨z7, H7, I7, r7, k3, e3, q7⟩ => ?_))
      subst e3
      cases r7
      exact wpAny_truthy_bool ⟨H7, I7, q7⟩
end
def chainV3 (g1 g2 g3 : M → M → T M) (fa fb fc fd : DSt → T M) : DSt → T M := fun st => fa st >>= fun x => fb st >>= fun y => g1 x y >>= fun r => boolM r >>= fun k => if k = true then fc st >>= fun z => g2 y z >>= fun r => boolM r >>= fun k => if k = true then fd st >>= fun u => g3 z u else .ret (.pure (.bool false)) else .ret (.pure (.bool false))
section
variable {X : Cx} {kn : PotKeys} {a b c d : Expr} {pos : Pos} {op op' op2 : CmpOp} {g1 g2 g3 : M → M → T M} {fa fb fc fd : DSt → T M}
theorem tChain3_of {K : PySem.W.Frag} {σ : St} {H : Hp} {Q : VK} (h : tM kn K (chainV3 g1 g2 g3 fa fb fc fd) σ H Q) : tChain3 (rM2 K g1) (rM2 K g2) (rM2 K g3) (tPk kn K fa) (tPk kn K fb) (tPk kn K fc) (tPk kn K fd) σ H Q := by
  obtain ⟨Z, st, Fp, s, q⟩ := h
  refine ⟨Z, st, Fp, s, T.all_mono (T.bind_all q) fun m hm v H1 F x1 z1 mv o1 => ⟨Z, st, Fp, s.ext x1 z1, T.all_mono (T.bind_all hm) fun n hn u H2 F2 x2 z2 mu o2 => ?_⟩⟩
  refine ⟨Z, m, n, F, F2, mv.ext z1 x2 o1, mu, T.all_mono (T.bind_all hn) fun r hr w H3 F3 sm mr fr => ?_⟩
  obtain ⟨k, rfl, hq⟩ := boolM_all hr
  cases mr.2
  refine ⟨k, rfl, ?_⟩
  have x3 : Ext Z H2 H3 := .of_same sm
  have z3 := z2.same sm
  cases k with
  | true =>
    rw [if_pos rfl] at hq ⊢
    refine ⟨Z, st, Fp, ((s.ext x1 z1).ext x2 z2).ext x3 z3, T.all_mono (T.bind_all hq) fun l hl w2 H4 F4 x4 z4 mw o4 => ⟨Z, n, l, F2, F4, (mu.ext z2 x3 o2).ext z3 x4 o2, mw, T.all_mono (T.bind_all hl) fun r2 hr2 w3 H5 F5 sm5 mr5 fr5 => ?_⟩⟩
    obtain ⟨k2, rfl, hq2⟩ := boolM_all hr2
    cases mr5.2
    refine ⟨k2, rfl, ?_⟩
    have x5 : Ext Z H4 H5 := .of_same sm5
    have z5 := z4.same sm5
    cases k2 with
    | true =>
      rw [if_pos rfl] at hq2 ⊢
      exact ⟨Z, st, Fp, ((((s.ext x1 z1).ext x2 z2).ext x3 z3).ext x4 z4).ext x5 z5, T.all_mono (T.bind_all hq2) fun l6 hl6 w6 H6 F6 x6 z6 mw6 o6 => ⟨Z, l, l6, F4, F6, (mw.ext z4 x5 o4).ext z5 x6 o4, mw6, T.all_mono hl6 fun r7 hr7 w7 H7 F7 sm7 mr7 fr7 =>
        hr7 w7 H7 F7 (x1.trans (x2.trans (x3.trans (x4.trans (x5.trans (x6.trans (.of_same sm7))))))) (z6.same sm7) mr7 fun a ha => (x1.trans (x2.trans (x3.trans (x4.trans (x5.trans x6))))).none z6 (fr7 a ha)⟩⟩
    | false =>
      rw [if_neg Bool.false_ne_true] at hq2 ⊢
      exact hq2 _ H5 [] (x1.trans (x2.trans (x3.trans (x4.trans x5)))) z5 ⟨rfl, .bl _⟩ fun _ h => nomatch h
  | false =>
    rw [if_neg Bool.false_ne_true] at hq ⊢
    exact hq _ H3 [] (x1.trans (x2.trans x3)) z3 ⟨rfl, .bl _⟩ fun _ h => nomatch h
theorem dm_chain3 (ho : OpR X (compareOp op) (rM2 X.K g1)) (ho' : OpR X (compareOp op') (rM2 X.K g2)) (ho2 : OpR X (compareOp op2) (rM2 X.K g3)) (ha : PE X a (tPk kn X.K fa)) (hb : PE X b (tPk kn X.K fb)) (hc : PE X c (tPk kn X.K fc)) (hd : PE X d (tPk kn X.K fd)) (hm : lastMarks [op, op', op2] [b, c, d] = false := by with_unfolding_all rfl) :
    PE X (.Compare a [op, op', op2] [b, c, d] pos) (tM kn X.K (chainV3 g1 g2 g3 fa fb fc fd)) := pe_mono (pe_chain3 ho ho' ho2 ha hb hc hd hm) fun _ _ _ => tChain3_of
theorem dt_chain3 (ho : OpR X (compareOp op) (rM2 X.K g1)) (ho' : OpR X (compareOp op') (rM2 X.K g2)) (ho2 : OpR X (compareOp op2) (rM2 X.K g3)) (ha : PE X a (tPk kn X.K fa)) (hb : PE X b (tPk kn X.K fb)) (hc : PE X c (tPk kn X.K fc)) (hd : PE X d (tPk kn X.K fd)) (hm : lastMarks [op, op', op2] [b, c, d] = false := by with_unfolding_all rfl) :
    PT X (.Compare a [op, op', op2] [b, c, d] pos) (tT kn X.K fun st => chainV3 g1 g2 g3 fa fb fc fd st >>= boolM) :=
  pt_mono (pt_chain3 ho ho' ho2 ha hb hc hd hm) fun σ H Q h => tTest_of (fun σ H Q q => tChain3_of (by
    obtain ⟨Z, st, Fp, s, q⟩ := q
    exact ⟨Z, st, Fp, s, T.all_mono q fun m hm v H' F x z mv fr => hm v H' F x z mv (.of_new s.zok fr)⟩)) h
end
/-! ## tuples of numbers in order; str(i) -/
def lexN (xs ys : List Int) : Bool := Ob.lexAt (fun j => decide (xs.getD j 0 = ys.getD j 0)) (fun j => decide (xs.getD j 0 ≤ ys.getD j 0)) (decide (xs.length ≤ ys.length)) 0 (min xs.length ys.length)
def leA (m n : M) : T M := match m, n with
  | .pure (.int i), .pure (.int j) => .ret (.pure (.bool (decide (i ≤ j))))
  | .pure (.tuple xs), .pure (.tuple ys) => match intsOf xs, intsOf ys with
    | some a, some b => .ret (.pure (.bool (lexN a b)))
    | _, _ => .bad
  | _, _ => .bad
section
variable {X : Cx}
theorem o_leA (hu : X.A.units < cLine) : OpR X (compareOp .LtE) (rM2 X.K leA) := by
  intro pins s σ H x y v u Q I rx ry ⟨Z, m, n, F, F', hm, hn, h⟩
  unfold leA at h
  split at h
  · obtain rfl := fz_int hm.2
    obtain rfl := fz_int hn.2
    exact op_le pins s σ H _ _ v u Q I rx ry ⟨_, _, rfl, rfl, kon_d h (.bl _)⟩
  · split at h
    · rename_i xs ys a b e1 e2
      cases hm.2 with
      | tup s1 g1 =>
        cases hn.2 with
        | tup s2 g2 =>
          obtain ⟨q1, _⟩ := intsOf_some e1 g1
          obtain ⟨q2, _⟩ := intsOf_some e2 g2
          subst q1 q2
          exact op_leT hu pins s σ H _ _ v u Q I rx ry ⟨_, _, a, b, rfl, rfl, s1, s2, kon_d h (.bl _)⟩
    · exact h.elim
  · exact h.elim
def strM : M → T M
  | .pure (.int i) => if i.natAbs.log2 < 1920 then .ret (.pure (.str (toString i))) else .bad
  | _ => .bad
theorem c_str : CallR1 X (.type "str") strM := by
  intro pins s σ H v u Q Z m F I ru mv h
  unfold strM at h
  split at h
  · split at h
    · rename_i hi
      obtain rfl := fz_int mv.2
      exact call_str_int pins s σ H _ [u] Q I (.cons ru .nil) ⟨_, rfl, hi, kon_d h (.str _)⟩
    · exact h.elim
  · exact h.elim
end
end L2.Zy
namespace L2.Zy
open PySem PyProof.Rows PySem.Spec
/-! ## range downwards; list(range(..)), tuple(range(..)) -/
def rangeDn (hi : Int) (n : Nat) : List D := (List.range n).map fun i => .int (hi + ((i : Nat) : Int) * (-1))
theorem rangeDn_len (hi : Int) (n : Nat) : (rangeDn hi n).length = n := by simp [rangeDn]
def range3 : List M → T (List D)
  | [.pure (.int i), .pure (.int j), .pure (.int c)] => if c = -1 ∧ -16777216 ≤ i ∧ i ≤ 16777216 ∧ -16777216 ≤ j ∧ j ≤ 16777216 ∧ i - j ≤ 16777216 then .ret (rangeDn i (i - j).toNat) else .bad
  | _ => .bad
theorem itOk_rangeDn {K : PySem.W.Frag} {R : Hp → Prop} (hi : Int) (n : Nat) : ItOk K R (Itc hi (-1) n) (rangeDn hi n) := by
  refine ⟨fun H i r h => ?_, fun H r => ?_, fun H i x H' r h y => ?_⟩
  · rw [rangeDn_len] at h; exact h
  · show n ≤ _
    rw [rangeDn_len]; exact Nat.le_refl _
  · obtain ⟨rfl, rfl⟩ := y
    rw [rangeDn_len] at h
    exact ⟨.refl _, _, by simp [rangeDn, h], .int _⟩
def rgM : List M → T (Int × Int)
  | [.pure (.int j)] => if -16777216 ≤ j ∧ j ≤ 16777216 then .ret (0, j) else .bad
  | [.pure (.int i), .pure (.int j)] => if -16777216 ≤ i ∧ i ≤ 16777216 ∧ -16777216 ≤ j ∧ j ≤ 16777216 ∧ j - i ≤ 16777216 then .ret (i, j) else .bad
  | _ => .bad
def rgL (fs : DSt → T (List M)) : DSt → T M := fun st => fs st >>= fun ms => rgM ms >>= fun p => .ret (.lst (rangeL p.1 (p.2 - p.1).toNat))
def rgT (fs : DSt → T (List M)) : DSt → T M := fun st => fs st >>= fun ms => rgM ms >>= fun p => .ret (.pure (.tuple (rangeL p.1 (p.2 - p.1).toNat)))
section
variable {X : Cx} {kn : PotKeys} {e e2 e3 tg : Expr} {p p2 pos pos2 : Pos}
theorem di_range3 {fs : DSt → T (List M)} (hg : Gl X "range") (hm : X.mg "range" = none) (ha : PA X [e, e2, e3] (tL kn X.K fs)) (hs : starEach [e, e2, e3] X.env = (false, eval e X.env) :: starEach [e2, e3] X.env := by rfl)
    (hpl : (backTo pos (starEach [e2, e3] X.env)).any (·.1) = false := by rfl) : PI X tg (.Call (.Name "range" p) [e, e2, e3] [] pos) (tIS kn X.K fun st => fs st >>= range3) :=
  pi_mono (pi_range3 hg hm ha hs hpl) fun σ H R ⟨Z, st, Fp, s, q⟩ => ⟨Z, st, Fp, s, T.all_mono (T.bind_all q) fun ms hm vs H1 x1 z1 mvs => by
    unfold range3 at hm
    split at hm
    · split at hm
      · rename_i i j c hj
        cases mvs with
        | cons mv o t =>
          cases t with
          | cons mv2 o2 t =>
            cases t with
            | cons mv3 o3 t =>
              cases t
              obtain rfl := fz_int mv.2
              obtain rfl := fz_int mv2.2
              obtain rfl := fz_int mv3.2
              obtain ⟨rfl, h1, h2, h3, h4, h5⟩ := hj
              exact ⟨i, j, -1, _, rfl, RgC.neg (by omega) (by omega) (by omega) (by omega), hm _ H1 x1 z1 (itOk_rangeDn i _) (by rw [rangeDn_len, size_eq]; omega)⟩
      · exact hm.elim
    · exact hm.elim⟩
theorem fz_rg {K : PySem.W.Frag} {H : Hp} (a b : Int) : FzAll K H (rgV a b) (rangeL a (b - a).toNat) := by
  have e1 : rgV a b = ((List.range (b - a).toNat).map fun i => a + (i : Nat)).map V.int := by unfold rgV; rw [List.map_map]; rfl
  have e2 : rangeL a (b - a).toNat = ((List.range (b - a).toNat).map fun i => a + (i : Nat)).map PyData.int := by unfold rangeL; rw [List.map_map]; rfl
  rw [e1, e2]
  exact fz_ints _
/-- the source of a range of numbers -/
def tRgM (K : PySem.W.Frag) (kn : PotKeys) (fs : DSt → T (List M)) : St → Hp → (Int → Int → Hp → Prop) → Prop := fun σ H Q => ∃ Z st Fp, SR kn K Z H st σ Fp ∧ ((fs st) >>= rgM).all fun p => ∀ H', Ext Z H H' → Z.Ok kn H' → Q p.1 p.2 H'
theorem prg_mono {t t' : St → Hp → (Int → Int → Hp → Prop) → Prop} (h : PRg X e t) (w : ∀ σ H Q, t' σ H Q → t σ H Q) : PRg X e t' := fun pins s σ H Q I q => h pins s σ H Q I (w σ H Q q)
theorem rgM_ok {K : PySem.W.Frag} {Z : Zone} {H : Hp} {ms : List M} {vs : List V} {P : Int × Int → Prop} (h : (rgM ms).all P) (mvs : MVs K Z H ms vs) :
    (∃ j : Int, vs = [.int j] ∧ P (0, j) ∧ RgOk 0 j) ∨ ∃ i j : Int, vs = [.int i, .int j] ∧ P (i, j) ∧ RgOk i j := by
  unfold rgM at h
  split at h
  · split at h
    · rename_i j hj
      cases mvs with
      | cons mv o t =>
        cases t
        obtain rfl := fz_int mv.2
        exact .inl ⟨j, rfl, h, by unfold RgOk; omega⟩
    · exact h.elim
  · split at h
    · rename_i i j hj
      cases mvs with
      | cons mv o t =>
        cases t with
        | cons mv2 o2 t =>
          cases t
          obtain rfl := fz_int mv.2
          obtain rfl := fz_int mv2.2
          exact .inr ⟨i, j, rfl, h, by unfold RgOk; omega⟩
    · exact h.elim
  · exact h.elim
def Rg1 (f : DSt → T M) : DSt → T (List M) := consL f nilL
theorem int_all {K : PySem.W.Frag} {Z : Zone} {H : Hp} {m : M} {v : V} {F : List Addr} {P : Int × Int → Prop} (mv : MV K Z H m v F) (h : (rgM [m]).all P) : ∃ j : Int, v = .int j ∧ P (0, j) ∧ RgOk 0 j := by
  rcases rgM_ok h (.cons (Z := Z) mv (fun a ha => by
    cases m with
    | pure d => rw [mv.1] at ha; cases ha
    | _ => exact h.elim) .nil) with ⟨j, e, p, r⟩ | ⟨i, j, e, _⟩
  · exact ⟨j, by simpa using e, p, r⟩
  · cases e
theorem dm_listRg1 {f : DSt → T M} (hc : X.calm = true) (hg0 : Gl X "list") (hm0 : X.mg "list" = none) (hg : Gl X "range") (hm : X.mg "range" = none) (ha : PE X e (tPk kn X.K f)) (na : starEach [e] X.env = (false, eval e X.env) :: starEach [] X.env := by rfl)
    (na2 : starEach [.Call (.Name "range" p2) [e] [] pos2] X.env = (false, eval (.Call (.Name "range" p2) [e] [] pos2) X.env) :: starEach [] X.env := by rfl) :
    PE X (.Call (.Name "list" p) [.Call (.Name "range" p2) [e] [] pos2] [] pos) (tM kn X.K (rgL (consL f nilL))) :=
  pe_mono (pe_listRg hc hg0 hm0 (prg_1 hg hm ha na) na2) fun σ H Q ⟨Z, st, Fp, s, q⟩ => ⟨Z, st, Fp, s, by
    refine T.all_mono (T.bind_all (T.bind_all q)) fun m hm v H1 F x1 z1 mv o => ?_
    obtain ⟨j, rfl, h, r⟩ := int_all mv (T.bind_all hm)
    exact ⟨j, rfl, r, fun a ha => h (.ref a) _ [a] (x1.trans (.of_same (same_new ha))) (z1.same (same_new ha)) (mv_lst ha (fz_rg 0 j)) fun b hb => by
      have e : b = a := by simpa using hb
      rw [e]
      exact x1.none z1 ha⟩⟩
theorem dm_tupRg1 {f : DSt → T M} (hc : X.calm = true) (hg0 : Gl X "tuple") (hm0 : X.mg "tuple" = none) (hg : Gl X "range") (hm : X.mg "range" = none) (ha : PE X e (tPk kn X.K f)) (na : starEach [e] X.env = (false, eval e X.env) :: starEach [] X.env := by rfl)
    (na2 : starEach [.Call (.Name "range" p2) [e] [] pos2] X.env = (false, eval (.Call (.Name "range" p2) [e] [] pos2) X.env) :: starEach [] X.env := by rfl) :
    PE X (.Call (.Name "tuple" p) [.Call (.Name "range" p2) [e] [] pos2] [] pos) (tM kn X.K (rgT (consL f nilL))) :=
  pe_mono (pe_tupRg hc hg0 hm0 (prg_1 hg hm ha na) na2) fun σ H Q ⟨Z, st, Fp, s, q⟩ => ⟨Z, st, Fp, s, by
    refine T.all_mono (T.bind_all (T.bind_all q)) fun m hm v H1 F x1 z1 mv o => ?_
    obtain ⟨j, rfl, h, r⟩ := int_all mv (T.bind_all hm)
    exact ⟨j, rfl, r, fun a ha => h (.ref a) _ [] (x1.trans (.of_same (same_new ha))) (z1.same (same_new ha)) (mv_tup ha (fz_rg 0 j)) fun _ h => nomatch h⟩⟩
theorem int_all2 {K : PySem.W.Frag} {Z : Zone} {H H' : Hp} {m n : M} {v w : V} {F F' : List Addr} {P : Int × Int → Prop} (mv : MV K Z H m v F) (mw : MV K Z H' n w F') (h : (rgM [m, n]).all P) : ∃ i j : Int, v = .int i ∧ w = .int j ∧ P (i, j) ∧ RgOk i j := by
  unfold rgM at h
  split at h
  · rename_i e
    cases e
  · split at h
    · rename_i i j e hj
      cases e
      obtain rfl := fz_int mv.2
      obtain rfl := fz_int mw.2
      exact ⟨i, j, rfl, rfl, h, by unfold RgOk; omega⟩
    · exact h.elim
  · exact h.elim
theorem dm_listRg2 {f g : DSt → T M} (hc : X.calm = true) (hg0 : Gl X "list") (hm0 : X.mg "list" = none) (hg : Gl X "range") (hm : X.mg "range" = none) (ha : PE X e (tPk kn X.K f)) (hb : PE X e2 (tPk kn X.K g)) (na : starEach [e, e2] X.env = (false, eval e X.env) :: starEach [e2] X.env := by rfl)
    (nb : starEach [e2] X.env = (false, eval e2 X.env) :: starEach [] X.env := by rfl) (hp : (backTo pos2 (starEach [e2] X.env)).any (·.1) = false := by rfl)
    (na2 : starEach [.Call (.Name "range" p2) [e, e2] [] pos2] X.env = (false, eval (.Call (.Name "range" p2) [e, e2] [] pos2) X.env) :: starEach [] X.env := by rfl) :
    PE X (.Call (.Name "list" p) [.Call (.Name "range" p2) [e, e2] [] pos2] [] pos) (tM kn X.K (rgL (consL f (consL g nilL)))) :=
  pe_mono (pe_listRg hc hg0 hm0 (prg_2 hg hm ha hb na nb hp) na2) fun σ H Q ⟨Z, st, Fp, s, q⟩ => ⟨Z, st, Fp, s, by
    refine T.all_mono (T.bind_all (T.bind_all q)) fun m hm v H1 F x1 z1 mv o => ⟨Z, st, Fp, s.ext x1 z1, ?_⟩
    refine T.all_mono (T.bind_all (T.bind_all hm)) fun n hn w H2 F2 x2 z2 mw o2 => ?_
    obtain ⟨i, j, rfl, rfl, h, r⟩ := int_all2 mv mw (T.bind_all hn)
    exact ⟨i, j, rfl, rfl, r, fun a ha => h (.ref a) _ [a] ((x1.trans x2).trans (.of_same (same_new ha))) (z2.same (same_new ha)) (mv_lst ha (fz_rg i j)) fun b hb => by
      have e : b = a := by simpa using hb
      rw [e]
      exact (x1.trans x2).none z2 ha⟩⟩
theorem dm_tupRg2 {f g : DSt → T M} (hc : X.calm = true) (hg0 : Gl X "tuple") (hm0 : X.mg "tuple" = none) (hg : Gl X "range") (hm : X.mg "range" = none) (ha : PE X e (tPk kn X.K f)) (hb : PE X e2 (tPk kn X.K g)) (na : starEach [e, e2] X.env = (false, eval e X.env) :: starEach [e2] X.env := by rfl)
    (nb : starEach [e2] X.env = (false, eval e2 X.env) :: starEach [] X.env := by rfl) (hp : (backTo pos2 (starEach [e2] X.env)).any (·.1) = false := by rfl)
    (na2 : starEach [.Call (.Name "range" p2) [e, e2] [] pos2] X.env = (false, eval (.Call (.Name "range" p2) [e, e2] [] pos2) X.env) :: starEach [] X.env := by rfl) :
    PE X (.Call (.Name "tuple" p) [.Call (.Name "range" p2) [e, e2] [] pos2] [] pos) (tM kn X.K (rgT (consL f (consL g nilL)))) :=
  pe_mono (pe_tupRg hc hg0 hm0 (prg_2 hg hm ha hb na nb hp) na2) fun σ H Q ⟨Z, st, Fp, s, q⟩ => ⟨Z, st, Fp, s, by
    refine T.all_mono (T.bind_all (T.bind_all q)) fun m hm v H1 F x1 z1 mv o => ⟨Z, st, Fp, s.ext x1 z1, ?_⟩
    refine T.all_mono (T.bind_all (T.bind_all hm)) fun n hn w H2 F2 x2 z2 mw o2 => ?_
    obtain ⟨i, j, rfl, rfl, h, r⟩ := int_all2 mv mw (T.bind_all hn)
    exact ⟨i, j, rfl, rfl, r, fun a ha => h (.ref a) _ [] ((x1.trans x2).trans (.of_same (same_new ha))) (z2.same (same_new ha)) (mv_tup ha (fz_rg i j)) fun _ h => nomatch h⟩⟩
end
/-! ## found.append(rest.pop(k)); a, b = rest.pop() -/
def appPop (i j : Nat) (fk : DSt → T M) : Sm := fun st => match st[i]?, st[j]? with
  | some (some (.lst es)), some (some (.lst ds)) => fk st >>= fun n => match n with
    | .pure (.int k) => if -(2 ^ 63) ≤ k ∧ k < 2 ^ 63 ∧ es.length < sizeLine then match seqIndex? k ds.length with
      | some l => match ds[l]? with
        | some d => .ret (.nx, (st.set j (some (.lst (ds.eraseIdx l)))).set i (some (.lst (es ++ [d]))))
        | none => .bad
      | none => .bad
      else .bad
    | _ => .bad
  | _, _ => .bad
def popG (i : Nat) (g : D → DSt → T DSt) : Sm := fun st => match st[i]? with
  | some (some (.lst ds)) => match ds[ds.length - 1]? with
    | some d => g d (st.set i (some (.lst ds.dropLast))) >>= fun st' => .ret (.nx, st')
    | none => .bad
  | _ => .bad
section
variable {X : Cx} {kn : PotKeys} {H0 : Hp} {pos pos' : Pos} {call tg : Expr} {i j : Nat}
theorem ds_appPop {fk : DSt → T M} (h : PE X call (tBM X.K "list" rAppend (tVar i) (tCons (tBM X.K "list" rPopAt (tVar j) (tCons (tPk kn X.K fk) tNil)) tNil))) (hij : i ≠ j) (hs : swapsWith call none pos.line X.env = pure false := by rfl) : PS X (.Expr call pos) (tS kn X.K H0 (appPop i j fk)) :=
  ps_mono (ps_expr h hs) fun E σ H ⟨Z, st, Fp, k, q⟩ => by
    unfold appPop at q
    split at q
    · rename_i es ds ei ej
      obtain ⟨vi, si, mvi⟩ := k.sr.at_ i _ ei
      obtain ⟨pi, ws, rfl, eFi, hpi, fzi⟩ := mvi
      obtain ⟨vj, sj, mvj⟩ := k.sr.at_ j _ ej
      obtain ⟨pj, vs, rfl, eFj, hpj, fzj⟩ := mvj
      refine ⟨_, si, .inl ⟨rfl, ws, .of hpi⟩, _, sj, .inl ⟨rfl, vs, .of hpj⟩, Z, st, Fp, k.sr, T.all_mono (T.bind_all q) fun n hn u H1 F1 x1 z1 mu o1 => ?_⟩
      have k1 := k.ext x1 z1
      obtain ⟨_, vs', eq, _, hp', fz'⟩ := k1.lst ej sj
      cases eq
      split at hn
      · rename_i kk
        obtain rfl := fz_int mu.2
        split at hn
        · rename_i hk
          split at hn
          · rename_i l el
            split at hn
            · rename_i d ed
              obtain ⟨y, ey, fy⟩ := fz'.get' ed
              obtain ⟨Fp', k'⟩ := k.upd k1 (xs := vs'.eraseIdx l) (m' := .lst (ds.eraseIdx l)) (F := [pj]) ej sj (by rw [eFj]; simp) hp' ⟨pj, _, rfl, rfl, upd_same, (fz'.erase l).imm (imm_upd hp')⟩ (fun a ha => .inl (by rw [eFj]; exact ha))
              have ei' : (st.set j (some (.lst (ds.eraseIdx l))))[i]? = some (some (.lst es)) := by rw [List.getElem?_set_ne (Ne.symm hij)]; exact ei
              obtain ⟨_, ws', eq, _, hpi', fzi'⟩ := k'.lst ei' si
              cases eq
              have fy' : Fz X.K (L2.upd H1 pj (.lst (vs'.eraseIdx l))) y d := fy.imm (imm_upd hp')
              obtain ⟨Fp2, k2⟩ := k'.upd k' (xs := ws' ++ [y]) (m' := .lst (es ++ [d])) (F := [pi]) ei' si (by
                obtain ⟨_, h1, mv⟩ := k'.sr.at_ i _ ei'
                rw [si] at h1
                cases h1
                obtain ⟨_, _, e1, e2, _⟩ := mv
                cases e1
                rw [e2]; simp) hpi' ⟨pi, _, rfl, rfl, upd_same, (fzi'.append (.cons fy' .nil)).imm (imm_upd hpi')⟩ (fun a ha => .inl (by
                obtain ⟨_, h1, mv⟩ := k'.sr.at_ i _ ei'
                rw [si] at h1
                cases h1
                obtain ⟨_, _, e1, e2, _⟩ := mv
                cases e1
                rw [e2]; exact ha))
              refine ⟨pj, vs', kk, l, y, rfl, rfl, hp', hk.1, hk.2.1, by rw [fz'.length]; exact el, ey, ?_⟩
              exact ⟨pi, ws', y, rfl, rfl, hpi', by rw [fzi'.length]; exact hk.2.2, (hn : ∀ σ' H' Fp', _ → _ → E.nx σ' H') σ _ Fp2 k2 (((k.imm x1).trans (imm_upd hp')).trans (imm_upd hpi'))⟩
            · exact hn.elim
          · exact hn.elim
        · exact hn.elim
      · exact hn.elim
    · exact q.elim
theorem ds_popG {g : D → DSt → T DSt} (he : PE X call (tBM0 X.K "list" rPop (tVar i))) (hg : PG X tg (tGD kn X.K g)) (hs : swapsWithSole [tg] call pos.line X.env = pure false := by rfl) (hw : swappedStores [tg] call X.env = pure none := by rfl)
    (h1 : (assignEach [tg] X.env).map (·.2) = [assign tg X.env] := by rfl) : PS X (.Assign [tg] call pos) (tS kn X.K H0 (popG i g)) :=
  ps_mono (ps_asg he hg hs hw h1) fun E σ H ⟨Z, st, Fp, k, q⟩ => by
    unfold popG at q
    split at q
    · rename_i ds e0
      split at q
      · rename_i d ed
        obtain ⟨v0, s0, mv0⟩ := k.sr.at_ i _ e0
        obtain ⟨p, vs, rfl, eF, hp, fz⟩ := mv0
        obtain ⟨y, ey, fy⟩ := fz.get' ed
        have el : vs.length = ds.length := fz.length
        obtain ⟨Fp', k'⟩ := k.upd k (xs := vs.dropLast) (m' := .lst ds.dropLast) (F := [p]) e0 s0 (by rw [eF]; simp) hp ⟨p, _, rfl, rfl, upd_same, (fz.dropLast).imm (imm_upd hp)⟩ (fun a ha => .inl (by rw [eF]; exact ha))
        refine ⟨_, s0, .inl ⟨rfl, vs, .of hp⟩, p, vs, y, rfl, rfl, hp, by rw [el]; exact ey, ?_⟩
        refine ⟨Z, _, Fp', d, k'.sr, fy.imm (imm_upd hp), T.all_mono (T.bind_all q) fun st' h σ' Fp2 s' sub => ?_⟩
        refine (h : ∀ σ' H' Fp', _ → _ → E.nx σ' H') σ' _ Fp2 ⟨s', k'.old, fun l m' e a ha => ?_⟩ (imm_upd hp)
        obtain ⟨m0, e0, h0⟩ := sub l m' a e ha
        exact k'.new l m0 e0 a h0
      · exact q.elim
    · exact q.elim
end
/-! ## bool(n) -/
def boolC : M → T M
  | .pure (.int i) => .ret (.pure (.bool (i != 0)))
  | .pure (.bool b) => .ret (.pure (.bool b))
  | _ => .bad
theorem c_bool {X : Cx} : CallR1 X (.type "bool") boolC := by
  intro pins s σ H v u Q Z m F I ru mv h
  unfold boolC at h
  split at h
  · obtain rfl := fz_int mv.2
    exact call_bool1 pins s σ H _ [u] Q I (.cons ru .nil) (.inl ⟨_, rfl, kon_d h (.bl _)⟩)
  · obtain rfl := fz_bl mv.2
    exact call_bool1 pins s σ H _ [u] Q I (.cons ru .nil) (.inr ⟨_, rfl, kon_d h (.bl _)⟩)
  · exact h.elim
end L2.Zy
namespace L2.Zy
open PySem PyProof.Rows PySem.Spec
/-! ## typed values -/
abbrev eI : Int → D := PyData.int
abbrev eB : Bool → D := PyData.bool
abbrev eS : Str → D := PyData.str
abbrev eD : D → D := fun d => d
def eN : Unit → D := fun _ => .none
def eL {α : Type} (e : α → D) : List α → D := fun xs => .list (xs.map e)
def eV {α : Type} (e : α → D) : List α → D := fun xs => .tuple (xs.map e)
def e2 {α β : Type} (a : α → D) (b : β → D) : α × β → D := fun p => .tuple [a p.1, b p.2]
def e3 {α β γ : Type} (a : α → D) (b : β → D) (c : γ → D) : α × β × γ → D := fun p => .tuple [a p.1, b p.2.1, c p.2.2]
def e4 {α β γ δ : Type} (a : α → D) (b : β → D) (c : γ → D) (d : δ → D) : α × β × γ × δ → D := fun p => .tuple [a p.1, b p.2.1, c p.2.2.1, d p.2.2.2]
def eO {α : Type} (e : α → D) : Option α → D
  | none => .none
  | some a => e a
abbrev pu {α : Type} (e : α → D) : α → M := fun a => .pure (e a)
abbrev ls {α : Type} (e : α → D) : List α → M := fun xs => .lst (xs.map e)
abbrev l2 {α : Type} (e : α → D) : List (List α) → M := fun xs => .lst2 (xs.map (List.map e))
/-! ## what a typed program promises, its untyped one keeps -/
structure RR {A α : Type} (x : T A) (t : T α) (R : A → α → Prop) : Prop where
  out : ∀ Q : α → Prop, t.all Q → x.all fun a => ∃ b, R a b ∧ Q b
abbrev RE {A α : Type} (x : T A) (t : T α) (e : α → A) : Prop := RR x t fun a b => a = e b
section
variable {A B α β γ σ τ ρ : Type} {R : B → γ → Prop} {t : T γ}
theorem RR.ret {R : A → α → Prop} {x : T A} {a : A} {b : α} (h : x = .ret a) (r : R a b) : RR x (.ret b) R := by
  subst h
  exact ⟨fun Q q => ⟨b, r, q⟩⟩
theorem RR.of {x : T A} {e : α → A} {b : α} (h : x = .ret (e b)) : RE x (.ret b) e := .ret h rfl
theorem RR.bP {k : A → T B} {x : T A} {a : A} (h : x = .ret a) (h2 : RR (k a) t R) : RR (x >>= k) t R := by
  subst h
  exact h2
theorem RR.bM {k : A → T B} {x : T A} {e : α → A} {t : T α} {t' : α → T γ} (h : RE x t e) (h2 : ∀ b, RR (k (e b)) (t' b) R) : RR (x >>= k) (t >>= t') R := ⟨fun Q q =>
  T.all_bind.mpr (T.all_mono (h.out _ (T.all_bind.mp q)) fun a ⟨b, e, q⟩ => by
    subst e
    exact (h2 b).out Q q)⟩
theorem RR.bR {k : A → T B} {x : T A} {S : A → α → Prop} {t : T α} {t' : α → T γ} (h : RR x t S) (h2 : ∀ a b, S a b → RR (k a) (t' b) R) : RR (x >>= k) (t >>= t') R := ⟨fun Q q =>
  T.all_bind.mpr (T.all_mono (h.out _ (T.all_bind.mp q)) fun a ⟨b, e, q⟩ => (h2 a b e).out Q q)⟩
theorem RR.mono {R R' : A → α → Prop} {x : T A} {t : T α} (h : RR x t R) (w : ∀ a b, R a b → R' a b) : RR x t R' := ⟨fun Q q => T.all_mono (h.out Q q) fun a ⟨b, r, q⟩ => ⟨b, w a b r, q⟩⟩
theorem RR.bad {R : A → α → Prop} {x : T A} : RR x .bad R := ⟨fun _ q => q.elim⟩
theorem bE {k : A → T B} {x : T A} {a : A} {b : B} (h : x = .ret a) (h2 : k a = .ret b) : (x >>= k) = .ret b := by
  subst h
  exact h2
theorem RR.ite {R : A → α → Prop} {x y : T A} {t u : T α} {c : Bool} (h1 : c = true → RR x t R) (h2 : c = false → RR y u R) : RR (if c = true then x else y) (if c = true then t else u) R := by
  cases c with
  | true => exact h1 rfl
  | false => exact h2 rfl
end
/-! ## expressions -/
section
variable {α β γ : Type} {R : M → γ → Prop} {t : T γ} {st : DSt} {f fa fb : DSt → T M} {fs : DSt → T (List M)} {g : M → M → T M} {m : M} {n i : Nat}
theorem nmE (h : st[i]? = some (some m)) : nm i st = .ret m := by unfold nm; rw [h]
theorem nmPE (h : st[i]? = some (some m)) (hp : m.isPP = true) : nmP i st = .ret m := by unfold nmP; rw [h]; simp only; rw [if_pos hp]
theorem kME (d : D) : kM d st = .ret (.pure d) := rfl
theorem uBin {R : M → γ → Prop} (h : RR (fa st >>= fun x => fb st >>= fun y => g x y) t R) : RR (bin g fa fb st) t R := h
theorem vBin (h : (fa st >>= fun x => fb st >>= fun y => g x y) = .ret m) : bin g fa fb st = .ret m := h
theorem uUn {h1 : M → T M} (h : RR (fa st >>= h1) t R) : RR (un1 h1 fa st) t R := h
theorem vUn {h1 : M → T M} (h : (fa st >>= h1) = .ret m) : un1 h1 fa st = .ret m := h
theorem uCall {h1 : List M → T M} (h : RR (fs st >>= h1) t R) : RR (callG h1 fs st) t R := h
theorem vCall {h1 : List M → T M} (h : (fs st >>= h1) = .ret m) : callG h1 fs st = .ret m := h
theorem uCallD {df : List M → T M} (h : RR (fs st >>= fun ms => if ms.length = n ∧ allPP ms = true then df ms else .bad) t R) : RR (callD n df fs st) t R := h
theorem uCallK {df : List M → T M} {pi : List Nat} (h : RR (fs st >>= fun ms => if ms.length = n ∧ allPP ms = true then df (gP pi ms) else .bad) t R) : RR (callK n pi df fs st) t R := h
theorem cIf {A : Type} {R : A → γ → Prop} {x y : T A} {c : Prop} [Decidable c] (hc : c) (h : RR x t R) : RR (if c then x else y) t R := by rw [if_pos hc]; exact h
theorem eIf {A : Type} {x y : T A} {a : A} {c : Prop} [Decidable c] (hc : c) (h : x = .ret a) : (if c then x else y) = .ret a := by rw [if_pos hc]; exact h
/-- lists of arguments -/
theorem cP {A : Type} {R : A → γ → Prop} {k : List M → T A} (h : f st = .ret m) (h2 : RR (fs st >>= fun ms => k (m :: ms)) t R) : RR (consL f fs st >>= k) t R := by
  unfold consL
  rw [h, T.ret_bind, T.bind_assoc]
  exact h2
theorem cM {A : Type} {R : A → γ → Prop} {k : List M → T A} {e : α → M} {t : T α} {t' : α → T γ} (h : RE (f st) t e) (h2 : ∀ a, RR (fs st >>= fun ms => k (e a :: ms)) (t' a) R) : RR (consL f fs st >>= k) (t >>= t') R := by
  unfold consL
  rw [T.bind_assoc]
  refine RR.bM h fun a => ?_
  rw [T.bind_assoc]
  exact h2 a
theorem cN {A : Type} {R : A → γ → Prop} {k : List M → T A} (h : RR (k []) t R) : RR (nilL st >>= k) t R := h
theorem cE {A : Type} {b : A} {k : List M → T A} (h : f st = .ret m) (h2 : (fs st >>= fun ms => k (m :: ms)) = .ret b) : (consL f fs st >>= k) = .ret b := by
  unfold consL
  rw [h, T.ret_bind, T.bind_assoc]
  exact h2
theorem cNE {A : Type} {b : A} {k : List M → T A} (h : k [] = .ret b) : (nilL st >>= k) = .ret b := h
/-- displays -/
theorem uTup (h : RR (fs st >>= fun ms => pureL ms >>= fun ds => if ds.length ≤ sizeLine then .ret (.pure (.tuple ds)) else .bad) t R) : RR (tupD fs st) t R := h
theorem vTup (h : (fs st >>= fun ms => pureL ms >>= fun ds => if ds.length ≤ sizeLine then .ret (.pure (.tuple ds)) else .bad) = .ret m) : tupD fs st = .ret m := h
theorem uLst (h : RR (fs st >>= fun ms => pureL ms >>= fun ds => if ds.length ≤ sizeLine then .ret (.lst ds) else .bad) t R) : RR (lstD fs st) t R := h
theorem vLst (h : (fs st >>= fun ms => pureL ms >>= fun ds => if ds.length ≤ sizeLine then .ret (.lst ds) else .bad) = .ret m) : lstD fs st = .ret m := h
theorem size_big : (100000 : Nat) ≤ sizeLine := by rw [sizeLine_eq]; decide
theorem dispE {A : Type} {ms : List M} {ds : List D} {h : List D → A} (e : pureL ms = .ret ds) (z : ds.length ≤ 1000) : (pureL ms >>= fun ds => if ds.length ≤ sizeLine then T.ret (h ds) else .bad) = .ret (h ds) := by
  rw [e, T.ret_bind, if_pos (Nat.le_trans z (Nat.le_trans (by decide) size_big))]
/-- tests -/
theorem cBM {c : DSt → T M} {b : Bool} (h : c st = .ret (.pure (.bool b))) : (c st >>= boolM) = .ret b := by rw [h]; rfl
theorem cBMm {c : DSt → T M} {t : T Bool} (h : RE (c st) t (pu eB)) : RE (c st >>= boolM) t id := ⟨fun Q q => T.all_bind.mpr (T.all_mono (h.out Q q) fun a ⟨b, e, q⟩ => by
  subst e
  exact ⟨b, rfl, q⟩)⟩
theorem cTM {c : DSt → T M} {b : Bool} (h : c st = .ret (.pure (.bool b))) : (c st >>= truM) = .ret b := by rw [h]; rfl
theorem cTMm {c : DSt → T M} {t : T Bool} (h : RE (c st) t (pu eB)) : RE (c st >>= truM) t id := ⟨fun Q q => T.all_bind.mpr (T.all_mono (h.out Q q) fun a ⟨b, e, q⟩ => by
  subst e
  exact ⟨b, rfl, q⟩)⟩
variable {c c2 : DSt → T Bool} {a b : Bool} {tb tc : T Bool}
def andK (a : Bool) (t : T Bool) : T Bool := if a = true then t else .ret false
def orK (a : Bool) (t : T Bool) : T Bool := if a = true then .ret true else t
theorem andE (h : c st = .ret a) (h2 : c2 st = .ret b) : andT c c2 st = .ret (a && b) := by
  unfold andT
  rw [h, T.ret_bind]
  cases a
  · rfl
  · exact h2
theorem orE (h : c st = .ret a) (h2 : c2 st = .ret b) : orT c c2 st = .ret (a || b) := by
  unfold orT
  rw [h, T.ret_bind]
  cases a
  · exact h2
  · rfl
theorem notE (h : c st = .ret a) : notT c st = .ret (!a) := by unfold notT; rw [h]; rfl
theorem andP (h : c st = .ret a) (h2 : RE (c2 st) tb id) : RE (andT c c2 st) (andK a tb) id := by
  unfold andT andK
  rw [h, T.ret_bind]
  cases a
  · exact RR.of rfl
  · exact h2
theorem orP (h : c st = .ret a) (h2 : RE (c2 st) tb id) : RE (orT c c2 st) (orK a tb) id := by
  unfold orT orK
  rw [h, T.ret_bind]
  cases a
  · exact h2
  · exact RR.of rfl
theorem andM' (h : RE (c st) tc id) (h2 : RE (c2 st) tb id) : RE (andT c c2 st) (tc >>= fun a => andK a tb) id :=
  RR.bM (k := fun b => if b = true then c2 st else .ret false) h fun a => by
    unfold andK
    exact RR.ite (fun _ => h2) fun _ => RR.of rfl
theorem orM' (h : RE (c st) tc id) (h2 : RE (c2 st) tb id) : RE (orT c c2 st) (tc >>= fun a => orK a tb) id :=
  RR.bM (k := fun b => if b = true then .ret true else c2 st) h fun a => by
    unfold orK
    exact RR.ite (fun _ => RR.of rfl) fun _ => h2
theorem notM (h : RE (c st) tc id) : RE (notT c st) (tc >>= fun a => .ret (!a)) id :=
  RR.bM (k := fun b => .ret (!b)) h fun a => RR.of rfl
theorem iteE {m n : M} (h : c st = .ret a) (h1 : fa st = .ret m) (h2 : fb st = .ret n) : iteM c fa fb st = .ret (if a = true then m else n) := by
  unfold iteM
  rw [h, T.ret_bind]
  cases a
  · exact h2
  · exact h1
theorem iteP {t1 t2 : T γ} (h : c st = .ret a) (h1 : RR (fa st) t1 R) (h2 : RR (fb st) t2 R) : RR (iteM c fa fb st) (if a = true then t1 else t2) R := by
  unfold iteM
  rw [h, T.ret_bind]
  exact RR.ite (fun _ => h1) fun _ => h2
theorem iteMm {t1 t2 : T γ} (h : RE (c st) tc id) (h1 : RR (fa st) t1 R) (h2 : RR (fb st) t2 R) : RR (iteM c fa fb st) (tc >>= fun a => if a = true then t1 else t2) R :=
  RR.bM (k := fun b => if b = true then fa st else fb st) h fun a => RR.ite (fun _ => h1) fun _ => h2
end
/-- slots wiped, read item by item -/
def maskN (ks : List Nat) : Nat → DSt → DSt
  | _, [] => []
  | i, x :: xs => (bif ks.elem i then none else x) :: maskN ks (i + 1) xs
theorem maskN_at (ks : List Nat) : ∀ (st : DSt) (i j : Nat), (maskN ks i st)[j]? = if (i + j) ∈ ks then (st[j]?).map (fun _ => none) else st[j]?
  | [], i, j => by simp [maskN]
  | x :: xs, i, 0 => by
    by_cases h : i ∈ ks
    · simp [maskN, h]
    · simp [maskN, h]
  | x :: xs, i, j + 1 => by
    have := maskN_at ks xs (i + 1) j
    simp only [maskN, List.getElem?_cons_succ]
    rw [this]
    have e : i + 1 + j = i + (j + 1) := by omega
    rw [e]
theorem wipe_at (st : DSt) (j : Nat) : ∀ ks : List Nat, (wipeD st ks)[j]? = if j ∈ ks then (st[j]?).map (fun _ => none) else st[j]?
  | [] => by simp [wipeD]
  | k :: ks => by
    show ((wipeD st ks).set k none)[j]? = _
    have ih := wipe_at st j ks
    by_cases e : k = j
    · subst e
      by_cases hl : k < st.length
      · rw [List.getElem?_set_self (by rw [wipeD_len]; exact hl)]
        simp [hl]
      · rw [List.getElem?_eq_none (by rw [List.length_set, wipeD_len]; omega), List.getElem?_eq_none (show st.length ≤ k by omega)]
        simp
    · rw [List.getElem?_set_ne e, ih]
      have e2 : ¬ j = k := fun q => e q.symm
      simp [e2]
theorem wipeE {ks : List Nat} {st st' : DSt} (h : maskN ks 0 st = st') : wipeD st ks = st' := by
  subst h
  apply List.ext_getElem?
  intro j
  rw [wipe_at, maskN_at, Nat.zero_add]
/-! ## statements -/
section
variable {α γ σ : Type} {R : Fw × DSt → γ → Prop} {t t1 t2 : T γ} {st st' : DSt} {f : DSt → T M} {s s1 s2 s3 : Sm} {m : M} {i : Nat} {is ks : List Nat} {c : DSt → T Bool} {b : Bool}
theorem sAsgP (h : f st = .ret m) (hs : st.set i (some m) = st') (h2 : RR (s2 st') t R) : RR (seqS (asgS i f) s2 st) t R := by
  unfold seqS asgS
  rw [h, T.ret_bind, T.ret_bind, hs]
  exact h2
theorem sAsgM {e : α → M} {t : T α} {t' : α → T γ} {st' : α → DSt} (h : RE (f st) t e) (hs : ∀ a, st.set i (some (e a)) = st' a) (h2 : ∀ a, RR (s2 (st' a)) (t' a) R) : RR (seqS (asgS i f) s2 st) (t >>= t') R := by
  unfold seqS asgS
  rw [T.bind_assoc]
  refine RR.bM h fun a => ?_
  rw [T.ret_bind, hs]
  exact h2 a
theorem sDrpM {e : α → M} {t : T α} {t' : T γ} (h : RE (f st) t e) (h2 : RR (s2 st) t' R) : RR (seqS (drpS f) s2 st) (t >>= fun _ => t') R := by
  unfold seqS drpS
  rw [T.bind_assoc]
  exact RR.bM h fun a => h2
/-- any one step to a state -/
theorem sStM {e : α → DSt} {t : T α} {t' : α → T γ} (h : RE (s1 st) t fun a => (Fw.nx, e a)) (h2 : ∀ a, RR (s2 (e a)) (t' a) R) : RR (seqS s1 s2 st) (t >>= t') R := by
  unfold seqS
  exact RR.bM h h2
theorem sStP (h : s1 st = .ret (Fw.nx, st')) (h2 : RR (s2 st') t R) : RR (seqS s1 s2 st) t R := by
  unfold seqS
  rw [h, T.ret_bind]
  exact h2
theorem sRetP {a : γ} (h : f st = .ret m) (r : R (.rt m, st) a) : RR (retS f st) (.ret a) R := by
  unfold retS
  rw [h, T.ret_bind]
  exact RR.ret rfl r
theorem sRetM {e : α → M} {t : T α} {g : α → γ} (h : RE (f st) t e) (r : ∀ a, R (.rt (e a), st) (g a)) : RR (retS f st) (t >>= fun a => .ret (g a)) R := by
  unfold retS
  exact RR.bM h fun a => RR.ret rfl (r a)
theorem sRetM0 {e : γ → M} {t : T γ} (h : RE (f st) t e) (r : ∀ a, R (.rt (e a), st) a) : RR (retS f st) t R := by
  have q := RR.bM (k := fun m => T.ret (Fw.rt m, st)) (t' := T.ret) h fun a => RR.ret rfl (r a)
  rw [T.bind_ret] at q
  exact q
theorem sDead (h : RR (retS f st) t R) : RR (seqS (retS f) s2 st) t R := by
  have e : seqS (retS f) s2 st = retS f st := by
    unfold seqS retS
    rw [T.bind_assoc]
    rfl
  rw [e]
  exact h
theorem sAssoc (h : RR (seqS s1 (seqS s2 s3) st) t R) : RR (seqS (seqS s1 s2) s3 st) t R := by
  have e : seqS (seqS s1 s2) s3 st = seqS s1 (seqS s2 s3) st := by
    unfold seqS
    rw [T.bind_assoc]
    congr 1
    funext x
    obtain ⟨f, st'⟩ := x
    cases f <;> rfl
  rw [e]
  exact h
theorem sSk (h : RR (s2 st) t R) : RR (seqS skS s2 st) t R := h
theorem sKill (hs : wipeD st is = st') (h : RR (s st') t R) : RR (killS is s st) t R := by
  subst hs
  exact h
theorem sSeqKill (h : RR (killS is (seqS s s2) st) t R) : RR (seqS (killS is s) s2 st) t R := h
theorem sFrz (hs : frzI i st = .ret st') (h : RR (s st') t R) : RR (frzS i s st) t R := by
  unfold frzS
  rw [hs]
  exact h
theorem sSeqFrz (h : RR (frzS i (seqS s s2) st) t R) : RR (seqS (frzS i s) s2 st) t R := by
  have e : seqS (frzS i s) s2 st = frzS i (seqS s s2) st := by
    unfold seqS frzS
    rw [T.bind_assoc]
  rw [e]
  exact h
theorem frzE {m' : M} (h : st[i]? = some (some m)) (h2 : frz m = .ret m') (h3 : st.set i (some m') = st') : frzI i st = .ret st' := by
  unfold frzI
  rw [h]
  simp only
  rw [h2, T.ret_bind, h3]
theorem sIteP (h : c st = .ret b) (h1 : b = true → RR (seqS s1 s3 st) t1 R) (h2 : b = false → RR (seqS s2 s3 st) t2 R) : RR (seqS (iteS c s1 s2) s3 st) (if b = true then t1 else t2) R := by
  unfold seqS iteS
  rw [h, T.ret_bind]
  cases b with
  | true => exact h1 rfl
  | false => exact h2 rfl
theorem sIteM {tc : T Bool} (h : RE (c st) tc id) (h1 : RR (seqS s1 s3 st) t1 R) (h2 : RR (seqS s2 s3 st) t2 R) : RR (seqS (iteS c s1 s2) s3 st) (tc >>= fun b => if b = true then t1 else t2) R := by
  unfold seqS iteS
  rw [T.bind_assoc]
  refine RR.bM h fun b => ?_
  cases b with
  | true => exact h1
  | false => exact h2
theorem sIteP1 (h : c st = .ret b) (h1 : b = true → RR (s1 st) t1 R) (h2 : b = false → RR (s2 st) t2 R) : RR (iteS c s1 s2 st) (if b = true then t1 else t2) R := by
  unfold iteS
  rw [h, T.ret_bind]
  cases b with
  | true => exact h1 rfl
  | false => exact h2 rfl
theorem sIteM1 {tc : T Bool} (h : RE (c st) tc id) (h1 : RR (s1 st) t1 R) (h2 : RR (s2 st) t2 R) : RR (iteS c s1 s2 st) (tc >>= fun b => if b = true then t1 else t2) R := by
  unfold iteS
  refine RR.bM h fun b => ?_
  cases b with
  | true => exact h1
  | false => exact h2
theorem sLeaf {a : γ} (r : R (.nx, st) a) : RR (skS st) (.ret a) R := RR.ret rfl r
theorem sBk {a : γ} (r : R (.bk, st) a) : RR ((fun st => .ret (.bk, st) : Sm) st) (.ret a) R := RR.ret rfl r
/-- behind a statement that goes on -/
theorem sJoin {P : DSt → σ → Prop} {t : T σ} {t' : σ → T γ} (h : RR (s1 st) t fun y u => y.1 = .nx ∧ P y.2 u) (h2 : ∀ st u, P st u → RR (s2 st) (t' u) R) : RR (seqS s1 s2 st) (t >>= t') R := by
  unfold seqS
  refine RR.bR h fun y u ⟨e, p⟩ => ?_
  obtain ⟨f, st'⟩ := y
  simp only at e
  subst e
  exact h2 st' u p
end
/-! ## loops -/
section
variable {α β γ σ τ ρ : Type} {R : Fw × DSt → γ → Prop} {st : DSt} {s2 b : Sm} {fi : DSt → T (List D)} {ks : List Nat} {g : D → DSt → T DSt}
def forT : List β → σ → (σ → β → T σ) → T σ
  | [], s, _ => .ret s
  | x :: xs, s, f => f s x >>= fun s' => forT xs s' f
theorem loop_R {bb : D → Sm} (ι : β → D) {S : σ → DSt} {body : σ → β → T σ} (hb : ∀ x s, RR (bb (ι x) (S s)) (body s x) fun y s' => (y.1 = .nx ∨ y.1 = .ct) ∧ y.2 = S s') :
    ∀ (xs : List β) (s : σ), RR (loopS bb (xs.map ι) (S s)) (forT xs s body) fun y s' => y.1 = .nx ∧ y.2 = S s'
  | [], s => RR.ret rfl ⟨rfl, rfl⟩
  | x :: xs, s => RR.bR (hb x s) fun y s' ⟨h, e⟩ => by
    obtain ⟨f, st'⟩ := y
    simp only at e
    subst e
    rcases h with h | h <;> (simp only at h; subst h; exact loop_R ι hb xs s')
theorem sForP {xs : List β} (ι : β → D) {S : σ → DSt} {body : σ → β → T σ} {s0 : σ} {t' : σ → T γ} (hfi : fi st = .ret (xs.map ι)) (hw : wipeD st ks = S s0)
    (hb : ∀ x s, RR (g (ι x) (S s) >>= b) (body s x) fun y s' => (y.1 = .nx ∨ y.1 = .ct) ∧ y.2 = S s') (h2 : ∀ s, RR (s2 (S s)) (t' s) R) : RR (seqS (forS fi ks g b) s2 st) (forT xs s0 body >>= t') R := by
  refine sJoin (P := fun st s => st = S s) ?_ fun st s e => by subst e; exact h2 s
  unfold forS
  rw [hfi, T.ret_bind, hw]
  exact loop_R ι hb xs s0
theorem sForM {tx : T (List β)} (ι : β → D) {S : σ → DSt} {body : σ → β → T σ} {s0 : σ} {t' : σ → T γ} (hfi : RE (fi st) tx (List.map ι)) (hw : wipeD st ks = S s0)
    (hb : ∀ x s, RR (g (ι x) (S s) >>= b) (body s x) fun y s' => (y.1 = .nx ∨ y.1 = .ct) ∧ y.2 = S s') (h2 : ∀ s, RR (s2 (S s)) (t' s) R) : RR (seqS (forS fi ks g b) s2 st) (tx >>= fun xs => forT xs s0 body >>= t') R := by
  have e : seqS (forS fi ks g b) s2 st = fi st >>= fun ds => seqS (forS (fun _ => .ret ds) ks g b) s2 st := by
    unfold seqS forS
    rw [T.bind_assoc]
    rfl
  rw [e]
  exact RR.bM hfi fun xs => sForP ι rfl hw hb h2
def sumK (f : ρ → T γ) (g : τ → T γ) : ρ ⊕ τ → T γ
  | .inl r => f r
  | .inr u => g u
inductive Stp (ρ σ τ : Type) where
  | nx (s : σ) | bk (u : τ) | rt (r : ρ)
def forX : List β → σ → (σ → β → T (Stp ρ σ τ)) → (σ → τ) → T (ρ ⊕ τ)
  | [], s, _, fin => .ret (.inr (fin s))
  | x :: xs, s, f, fin => f s x >>= fun z => match z with
    | .nx s' => forX xs s' f fin
    | .bk u => .ret (.inr u)
    | .rt r => .ret (.inl r)
/-- where a turn of the loop leads -/
def StpR (S : σ → DSt) (P : DSt → τ → Prop) (Rr : Fw × DSt → ρ → Prop) (y : Fw × DSt) : Stp ρ σ τ → Prop
  | .nx s' => (y.1 = .nx ∨ y.1 = .ct) ∧ y.2 = S s'
  | .bk u => y.1 = .bk ∧ P y.2 u
  | .rt r => (∃ m, y.1 = .rt m) ∧ Rr y r
theorem loop_X {bb : D → Sm} (ι : β → D) {S : σ → DSt} {P : DSt → τ → Prop} {Rr : Fw × DSt → ρ → Prop} {body : σ → β → T (Stp ρ σ τ)} {fin : σ → τ} (hfin : ∀ s, P (S s) (fin s)) (hb : ∀ x s, RR (bb (ι x) (S s)) (body s x) (StpR S P Rr)) :
    ∀ (xs : List β) (s : σ), RR (loopS bb (xs.map ι) (S s)) (forX xs s body fin) fun y z => match z with
      | .inl r => (∃ m, y.1 = .rt m) ∧ ∃ st, Rr (y.1, st) r
      | .inr u => y.1 = .nx ∧ P y.2 u
  | [], s => RR.ret rfl ⟨rfl, hfin s⟩
  | x :: xs, s => RR.bR (hb x s) fun y z h => by
    obtain ⟨f, st'⟩ := y
    cases z with
    | nx s' =>
      obtain ⟨h, e⟩ := h
      simp only at e
      subst e
      rcases h with h | h <;> (simp only at h; subst h; exact loop_X ι hfin hb xs s')
    | bk u =>
      obtain ⟨h, e⟩ := h
      simp only at h
      subst h
      exact RR.ret rfl ⟨rfl, e⟩
    | rt r =>
      obtain ⟨⟨m, h⟩, e⟩ := h
      simp only at h
      subst h
      exact RR.ret rfl ⟨⟨m, rfl⟩, st', e⟩
theorem sForXP {xs : List β} (ι : β → D) {S : σ → DSt} {P : DSt → τ → Prop} {Rr : Fw × DSt → ρ → Prop} {body : σ → β → T (Stp ρ σ τ)} {fin : σ → τ} {s0 : σ} {t' : τ → T γ} {inj : ρ → γ} (hfi : fi st = .ret (xs.map ι)) (hw : wipeD st ks = S s0)
    (hfin : ∀ s, P (S s) (fin s)) (hb : ∀ x s, RR (g (ι x) (S s) >>= b) (body s x) (StpR S P Rr)) (hr : ∀ m st st' r, Rr (.rt m, st) r → R (.rt m, st') (inj r)) (h2 : ∀ st u, P st u → RR (s2 st) (t' u) R) :
    RR (seqS (forS fi ks g b) s2 st) (forX xs s0 body fin >>= sumK (fun r => .ret (inj r)) t') R := by
  have q : RR (forS fi ks g b st) (forX xs s0 body fin) fun y z => match z with
      | .inl r => (∃ m, y.1 = .rt m) ∧ ∃ st, Rr (y.1, st) r
      | .inr u => y.1 = .nx ∧ P y.2 u := by
    unfold forS
    rw [hfi, T.ret_bind, hw]
    exact loop_X ι hfin hb xs s0
  refine RR.bR q fun y z h => ?_
  obtain ⟨f, st'⟩ := y
  cases z with
  | inl r =>
    obtain ⟨⟨m, h⟩, st2, e⟩ := h
    simp only at h e
    subst h
    exact RR.ret rfl (hr m st2 st' r e)
  | inr u =>
    obtain ⟨h, e⟩ := h
    simp only at h
    subst h
    exact h2 st' u e
theorem sForXM {tx : T (List β)} (ι : β → D) {S : σ → DSt} {P : DSt → τ → Prop} {Rr : Fw × DSt → ρ → Prop} {body : σ → β → T (Stp ρ σ τ)} {fin : σ → τ} {s0 : σ} {t' : τ → T γ} {inj : ρ → γ} (hfi : RE (fi st) tx (List.map ι)) (hw : wipeD st ks = S s0)
    (hfin : ∀ s, P (S s) (fin s)) (hb : ∀ x s, RR (g (ι x) (S s) >>= b) (body s x) (StpR S P Rr)) (hr : ∀ m st st' r, Rr (.rt m, st) r → R (.rt m, st') (inj r)) (h2 : ∀ st u, P st u → RR (s2 st) (t' u) R) :
    RR (seqS (forS fi ks g b) s2 st) (tx >>= fun xs => forX xs s0 body fin >>= sumK (fun r => .ret (inj r)) t') R := by
  have e : seqS (forS fi ks g b) s2 st = fi st >>= fun ds => seqS (forS (fun _ => .ret ds) ks g b) s2 st := by
    unfold seqS forS
    rw [T.bind_assoc]
    rfl
  rw [e]
  exact RR.bM hfi fun xs => sForXP ι rfl hw hfin hb hr h2
/-- behind an if with ways out -/
def SumR (P : DSt → σ → Prop) (Rr : Fw × DSt → ρ → Prop) (y : Fw × DSt) : ρ ⊕ σ → Prop
  | .inl r => (∃ m, y.1 = .rt m) ∧ Rr y r
  | .inr u => y.1 = .nx ∧ P y.2 u
theorem sJoinX {s1 : Sm} {P : DSt → σ → Prop} {Rr : Fw × DSt → ρ → Prop} {t : T (ρ ⊕ σ)} {t' : σ → T γ} {inj : ρ → γ} (h : RR (s1 st) t (SumR P Rr)) (hr : ∀ m st st' r, Rr (.rt m, st) r → R (.rt m, st') (inj r)) (h2 : ∀ st u, P st u → RR (s2 st) (t' u) R) :
    RR (seqS s1 s2 st) (t >>= sumK (fun r => .ret (inj r)) t') R := by
  unfold seqS
  refine RR.bR h fun y z q => ?_
  obtain ⟨f, st'⟩ := y
  cases z with
  | inl r =>
    obtain ⟨⟨m, h⟩, e⟩ := q
    simp only at h
    subst h
    exact RR.ret rfl (hr m _ _ r e)
  | inr u =>
    obtain ⟨h, e⟩ := q
    simp only at h
    subst h
    exact h2 st' u e
/-! comprehensions -/
def lcT : List β → (β → T Bool) → (β → T α) → T (List α)
  | [], _, _ => .ret []
  | x :: xs, c, f => c x >>= fun b => if b = true then f x >>= fun a => lcT xs c f >>= fun r => .ret (a :: r) else lcT xs c f
end
section
variable {α β γ : Type} {st : DSt} {vs : List Nat} {fi : DSt → T (List D)} {g : D → DSt → T DSt} {c : DSt → T Bool} {e : DSt → T M}
theorem lcE {xs : List β} (ι : β → D) {S : β → DSt} {cb : β → Bool} {v : β → α} {ev : α → D} (hfi : fi st = .ret (xs.map ι)) (hg : ∀ x, g (ι x) (wipeD st vs) = .ret (S x)) (hc : ∀ x, c (S x) = .ret (cb x)) (he : ∀ x, e (S x) = .ret (.pure (ev (v x)))) :
    lcD vs fi g c e st = .ret (ls ev ((xs.filter cb).map v)) := by
  unfold lcD
  rw [hfi, T.ret_bind, lcLoop_ret ι cb (fun x => ev (v x)) xs fun x _ => ⟨S x, hg x, hc x, fun _ => by rw [he x]; rfl⟩, T.ret_bind]
  simp [ls, Function.comp_def]
theorem lcE1 {xs : List β} (ι : β → D) {S : β → DSt} {v : β → α} {ev : α → D} (hfi : fi st = .ret (xs.map ι)) (hg : ∀ x, g (ι x) (wipeD st vs) = .ret (S x)) (he : ∀ x, e (S x) = .ret (.pure (ev (v x)))) :
    lcD vs fi g yesT e st = .ret (ls ev (xs.map v)) := by
  unfold lcD
  rw [hfi, T.ret_bind, lcLoop_all ι (fun x => ev (v x)) xs fun x _ => ⟨S x, hg x, by rw [he x]; rfl⟩, T.ret_bind]
  simp [ls, Function.comp_def]
theorem lcLoop_R {A : Type} {st : DSt} {g : D → DSt → T DSt} {c : DSt → T Bool} {e : DSt → T A} (ι : β → D) {S : β → DSt} {tc : β → T Bool} {tv : β → T α} {ev : α → A} (hg : ∀ x, g (ι x) st = .ret (S x)) (hc : ∀ x, RE (c (S x)) (tc x) id) (he : ∀ x, RE (e (S x)) (tv x) ev) :
    ∀ xs : List β, RE (lcLoop st g c e (xs.map ι)) (lcT xs tc tv) (List.map ev)
  | [] => RR.of rfl
  | x :: xs => by
    have ih := lcLoop_R ι hg hc he xs
    show RE (g (ι x) st >>= fun st' => c st' >>= fun b => if b = true then e st' >>= fun a => lcLoop st g c e (xs.map ι) >>= fun r => .ret (a :: r) else lcLoop st g c e (xs.map ι)) (tc x >>= fun b => if b = true then tv x >>= fun a => lcT xs tc tv >>= fun r => .ret (a :: r) else lcT xs tc tv) _
    refine RR.bP (hg x) (RR.bM (hc x) fun b => RR.ite (fun _ => RR.bM (he x) fun a => RR.bM ih fun r => RR.of rfl) fun _ => ih)
theorem asD_R {x : T M} {t : T α} {ev : α → D} (h : RE x t (pu ev)) : RE (x >>= asD) t ev := ⟨fun Q q => T.all_bind.mpr (T.all_mono (h.out Q q) fun a ⟨b, e, q⟩ => by
  subst e
  exact ⟨b, rfl, q⟩)⟩
theorem asL_R {x : T M} {t : T (List α)} {ev : α → D} (h : RE x t (ls ev)) : RE (x >>= asL) t (List.map ev) := ⟨fun Q q => T.all_bind.mpr (T.all_mono (h.out Q q) fun a ⟨b, e, q⟩ => by
  subst e
  exact ⟨b, rfl, q⟩)⟩
theorem lcM {tx : T (List β)} (ι : β → D) {S : β → DSt} {tc : β → T Bool} {tv : β → T α} {ev : α → D} (hfi : RE (fi st) tx (List.map ι)) (hg : ∀ x, g (ι x) (wipeD st vs) = .ret (S x)) (hc : ∀ x, RE (c (S x)) (tc x) id) (he : ∀ x, RE (e (S x)) (tv x) (pu ev)) :
    RE (lcD vs fi g c e st) (tx >>= fun xs => lcT xs tc tv) (ls ev) := by
  unfold lcD
  refine RR.bM hfi fun xs => ?_
  have q := RR.bM (k := fun r => T.ret (M.lst r)) (t' := T.ret) (lcLoop_R (e := fun s => e s >>= asD) ι hg hc (fun x => asD_R (he x)) xs) fun b => RR.of (e := ls ev) rfl
  rw [T.bind_ret] at q
  exact q
theorem lcMP {xs : List β} (ι : β → D) {S : β → DSt} {tc : β → T Bool} {tv : β → T α} {ev : α → D} (hfi : fi st = .ret (xs.map ι)) (hg : ∀ x, g (ι x) (wipeD st vs) = .ret (S x)) (hc : ∀ x, RE (c (S x)) (tc x) id) (he : ∀ x, RE (e (S x)) (tv x) (pu ev)) :
    RE (lcD vs fi g c e st) (lcT xs tc tv) (ls ev) := by
  unfold lcD
  refine RR.bP hfi ?_
  have q := RR.bM (k := fun r => T.ret (M.lst r)) (t' := T.ret) (lcLoop_R (e := fun s => e s >>= asD) ι hg hc (fun x => asD_R (he x)) xs) fun b => RR.of (e := ls ev) rfl
  rw [T.bind_ret] at q
  exact q
theorem lcLM {tx : T (List β)} (ι : β → D) {S : β → DSt} {tc : β → T Bool} {tv : β → T (List α)} {ev : α → D} (hfi : RE (fi st) tx (List.map ι)) (hg : ∀ x, g (ι x) (wipeD st vs) = .ret (S x)) (hc : ∀ x, RE (c (S x)) (tc x) id) (he : ∀ x, RE (e (S x)) (tv x) (ls ev)) :
    RE (lcL vs fi g c e st) (tx >>= fun xs => lcT xs tc tv) (l2 ev) := by
  unfold lcL
  refine RR.bM hfi fun xs => ?_
  have q := RR.bM (k := fun r => T.ret (M.lst2 r)) (t' := T.ret) (lcLoop_R (e := fun s => e s >>= asL) ι hg hc (fun x => asL_R (he x)) xs) fun b => RR.of (e := l2 ev) rfl
  rw [T.bind_ret] at q
  exact q
theorem yesE (st : DSt) : yesT st = .ret true := rfl
/-- items -/
theorem itE {f : DSt → T M} {m : M} {ds : List D} (h : f st = .ret m) (h2 : m.seqD = some ds) : itemsE f st = .ret ds := by unfold itemsE; rw [h, T.ret_bind, h2]; rfl
theorem itP {f : DSt → T M} {m : M} {ds : List D} (h : f st = .ret m) (h2 : m.seqP = some ds) : itemsP f st = .ret ds := by unfold itemsP; rw [h, T.ret_bind, h2]; rfl
theorem itEM {f : DSt → T M} {t : T (List α)} {ι : α → D} {em : List α → M} (h : RE (f st) t em) (h2 : ∀ xs, (em xs).seqD = some (xs.map ι)) : RE (itemsE f st) t (List.map ι) := by
  unfold itemsE
  have q := RR.bM (k := fun m : M => T.ofO m.seqD) (t' := T.ret) (R := fun a b => a = b.map ι) h fun xs => by
    rw [h2]
    exact RR.of (e := List.map ι) rfl
  rw [T.bind_ret] at q
  exact q
theorem itPM {f : DSt → T M} {t : T (List α)} {ι : α → D} {em : List α → M} (h : RE (f st) t em) (h2 : ∀ xs, (em xs).seqP = some (xs.map ι)) : RE (itemsP f st) t (List.map ι) := by
  unfold itemsP
  have q := RR.bM (k := fun m : M => T.ofO m.seqP) (t' := T.ret) (R := fun a b => a = b.map ι) h fun xs => by
    rw [h2]
    exact RR.of (e := List.map ι) rfl
  rw [T.bind_ret] at q
  exact q
end
/-! ## defs -/
/-- what a def hands back -/
def TopR {γ : Type} (e : γ → M) : Fw × DSt → γ → Prop := fun y r => y.1 = .rt (e r) ∨ (y.1 = .nx ∧ e r = .pure .none)
theorem bodyR {γ : Type} {n : Nat} {b : Sm} {ms : List M} {t : T γ} {e : γ → M} (h : RR (b (ms.map some ++ List.replicate (n - ms.length) none)) t (TopR e)) : RE (bodyD n b ms) t e := by
  unfold bodyD
  have q := RR.bR (k := fun x : Fw × DSt => (match x.1 with
    | .rt m => T.ret m
    | .nx => .ret (.pure .none)
    | _ => .bad : T M)) (t' := T.ret) (R := fun a b => a = e b) h fun y r w => by
      obtain ⟨f, st⟩ := y
      rcases w with w | ⟨w, w2⟩
      · simp only at w
        subst w
        exact RR.of rfl
      · simp only at w
        subst w
        show RE (T.ret (M.pure .none)) _ e
        rw [← w2]
        exact RR.of rfl
  rw [T.bind_ret] at q
  exact q
end L2.Zy
namespace L2.Zy
open PySem PyProof.Rows PySem.Spec
/-! ## what stays equal -/
structure EqE {α : Type} [DecidableEq α] (e : α → D) (k : Nat) : Prop where
  lay : ∀ a, PyData.canLay0 (e a) = true
  dep : ∀ a, PyData.depth (e a) ≤ k
  eqv : ∀ a b, PyData.eqv (e a) (e b) = decide (a = b)
section
variable {α β γ δ : Type} [DecidableEq α] [DecidableEq β] [DecidableEq γ] [DecidableEq δ] {e : α → D} {f : β → D} {g : γ → D} {k l : Nat}
theorem qI : EqE eI 0 := ⟨fun _ => by simp [PyData.canLay0], fun _ => by simp [PyData.depth], fun a b => by simp only [PyData.eqv]; rfl⟩
theorem qB : EqE eB 0 := ⟨fun _ => by simp [PyData.canLay0], fun _ => by simp [PyData.depth], fun a b => by simp only [PyData.eqv]; rfl⟩
theorem qN : EqE eN 0 := ⟨fun _ => by simp [eN, PyData.canLay0], fun _ => by simp [eN, PyData.depth], fun a b => by simp [eN, PyData.eqv]⟩
theorem q_lays (h : EqE e k) : ∀ xs : List α, PyData.canLayAll0 (xs.map e) = true
  | [] => by simp [PyData.canLayAll0]
  | x :: xs => by simp [PyData.canLayAll0, h.lay x, q_lays h xs]
theorem q_deps (h : EqE e k) : ∀ xs : List α, PyData.depthAll (xs.map e) ≤ k
  | [] => by simp [PyData.depthAll]
  | x :: xs => by
    have h1 := q_deps h xs
    have h2 := h.dep x
    simp only [List.map_cons, PyData.depthAll]
    omega
theorem q_eqvs (h : EqE e k) : ∀ xs ys : List α, PyData.eqvAll (xs.map e) (ys.map e) = decide (xs = ys)
  | [], [] => by simp [PyData.eqvAll]
  | [], y :: ys => by simp [PyData.eqvAll]
  | x :: xs, [] => by simp [PyData.eqvAll]
  | x :: xs, y :: ys => by
    simp only [List.map_cons, PyData.eqvAll, h.eqv, q_eqvs h xs ys]
    rw [Bool.eq_iff_iff]
    simp
theorem qL (h : EqE e k) : EqE (eL e) (k + 1) := ⟨fun a => by simp only [eL, PyData.canLay0]; exact q_lays h a, fun a => by have := q_deps h a; simp only [eL, PyData.depth]; omega, fun a b => by simp only [eL, PyData.eqv]; exact q_eqvs h a b⟩
theorem qV (h : EqE e k) : EqE (eV e) (k + 1) := ⟨fun a => by simp only [eV, PyData.canLay0]; exact q_lays h a, fun a => by have := q_deps h a; simp only [eV, PyData.depth]; omega, fun a b => by simp only [eV, PyData.eqv]; exact q_eqvs h a b⟩
theorem q2 (h : EqE e k) (h2 : EqE f l) : EqE (e2 e f) (max k l + 1) := ⟨fun a => by simp [e2, PyData.canLay0, PyData.canLayAll0, h.lay, h2.lay], fun a => by
    have h1 := h.dep a.1
    have h2 := h2.dep a.2
    simp only [e2, PyData.depth, PyData.depthAll]
    omega, fun a b => by
    simp only [e2, PyData.eqv, PyData.eqvAll, h.eqv, h2.eqv]
    rw [Bool.eq_iff_iff]
    simp [Prod.ext_iff]⟩
theorem q3 {m : Nat} (h : EqE e k) (h2 : EqE f l) (h3 : EqE g m) : EqE (e3 e f g) (max k (max l m) + 1) := ⟨fun a => by simp [e3, PyData.canLay0, PyData.canLayAll0, h.lay, h2.lay, h3.lay], fun a => by
    have h1 := h.dep a.1
    have h2 := h2.dep a.2.1
    have h3 := h3.dep a.2.2
    simp only [e3, PyData.depth, PyData.depthAll]
    omega, fun a b => by
    simp only [e3, PyData.eqv, PyData.eqvAll, h.eqv, h2.eqv, h3.eqv]
    rw [Bool.eq_iff_iff]
    simp [Prod.ext_iff]⟩
theorem q_ok (h : EqE e k) (hk : k ≤ 64) (a : α) : okD (e a) = true := okD_of (h.lay a) (Nat.le_trans (h.dep a) hk)
end
/-! ## operations -/
theorem bool_ite (b : Bool) (x y : M) : (if b = true then x else y) = (if b = true then x else y) := rfl
section
variable {α β γ : Type} {e : α → D} {f : β → D} {m n : M}
theorem addII (a b : Int) : addM (pu eI a) (pu eI b) = .ret (pu eI (a + b)) := rfl
theorem addIB (a : Int) (b : Bool) : addM (pu eI a) (pu eB b) = .ret (pu eI (a + b2i b)) := rfl
theorem subII (a b : Int) : subM (pu eI a) (pu eI b) = .ret (pu eI (a - b)) := rfl
theorem negI (a : Int) : negM (pu eI a) = .ret (pu eI (-a)) := rfl
theorem absI (a : Int) : absM (pu eI a) = .ret (pu eI (if a < 0 then -a else a)) := rfl
theorem intI (a : Int) : intM (pu eI a) = .ret (pu eI a) := rfl
theorem intB (b : Bool) : intM (pu eB b) = .ret (pu eI (b2i b)) := by cases b <;> rfl
theorem ltII (a b : Int) : ltM (pu eI a) (pu eI b) = .ret (pu eB (decide (a < b))) := rfl
theorem gtII (a b : Int) : gtM (pu eI a) (pu eI b) = .ret (pu eB (decide (b < a))) := rfl
theorem leII (a b : Int) : leM (pu eI a) (pu eI b) = .ret (pu eB (decide (a ≤ b))) := rfl
theorem geII (a b : Int) : geM (pu eI a) (pu eI b) = .ret (pu eB (decide (b ≤ a))) := rfl
theorem max2I (a b : Int) : max2M (pu eI a) (pu eI b) = .ret (pu eI (max a b)) := by
  show T.ret (M.pure (.int (if b > a then b else a))) = T.ret (M.pure (.int (max a b)))
  have : (if b > a then b else a) = max a b := by
    by_cases h : b > a
    · rw [if_pos h]; omega
    · rw [if_neg h]; omega
  rw [this]
theorem min2I (a b : Int) : min2M (pu eI a) (pu eI b) = .ret (pu eI (min a b)) := by
  show T.ret (M.pure (.int (if b < a then b else a))) = T.ret (M.pure (.int (min a b)))
  have : (if b < a then b else a) = min a b := by
    by_cases h : b < a
    · rw [if_pos h]; omega
    · rw [if_neg h]; omega
  rw [this]
def mulT (i j : Int) : T Int := if mulOk i j = true then .ret (i * j) else .bad
theorem mulII (i j : Int) : RE (mulM (pu eI i) (pu eI j)) (mulT i j) (pu eI) := by
  unfold mulT
  show RE (if mulOk i j = true then T.ret (M.pure (.int (i * j))) else .bad) _ _
  split
  · exact RR.of rfl
  · exact RR.bad
theorem mulKr {i j : Int} (h : j.natAbs < 2 ^ 32) : mulM (pu eI i) (pu eI j) = .ret (pu eI (i * j)) := mulM_ir (by omega)
theorem mulKl {i j : Int} (h : i.natAbs < 2 ^ 32) : mulM (pu eI i) (pu eI j) = .ret (pu eI (i * j)) := mulM_il (by omega)
def divT (i j : Int) : T Int := if 0 < j ∧ j.natAbs.log2 < 9000 then .ret (i / j) else .bad
def modT (i j : Int) : T Int := if 0 < j then .ret (i % j) else .bad
theorem divII (i j : Int) : RE (fdivM (pu eI i) (pu eI j)) (divT i j) (pu eI) := by
  unfold divT
  show RE (if 0 < j ∧ j.natAbs.log2 < 9000 then T.ret (M.pure (.int (i / j))) else .bad) _ _
  split
  · exact RR.of rfl
  · exact RR.bad
theorem modII (i j : Int) : RE (modM (pu eI i) (pu eI j)) (modT i j) (pu eI) := by
  unfold modT
  show RE (if 0 < j then T.ret (M.pure (.int (i % j))) else .bad) _ _
  split
  · exact RR.of rfl
  · exact RR.bad
theorem divK {i j : Int} (h : 0 < j ∧ j.natAbs.log2 < 9000) : fdivM (pu eI i) (pu eI j) = .ret (pu eI (i / j)) := by
  show (if 0 < j ∧ j.natAbs.log2 < 9000 then T.ret (M.pure (.int (i / j))) else .bad) = _
  rw [if_pos h]
theorem modK {i j : Int} (h : 0 < j) : modM (pu eI i) (pu eI j) = .ret (pu eI (i % j)) := by
  show (if 0 < j then T.ret (M.pure (.int (i % j))) else .bad) = _
  rw [if_pos h]
def powT (i j : Int) : T Int := if 0 ≤ j ∧ j ≤ 1000000 ∧ i.natAbs < 2 ^ 64 then .ret (i ^ j.toNat) else .bad
theorem powII (i j : Int) : RE (powM (pu eI i) (pu eI j)) (powT i j) (pu eI) := by
  unfold powT
  show RE (if 0 ≤ j ∧ j ≤ 1000000 ∧ i.natAbs < 2 ^ 64 then T.ret (M.pure (.int (i ^ j.toNat))) else .bad) _ _
  split
  · exact RR.of rfl
  · exact RR.bad
/-! comparisons -/
theorem eqSS (a b : Str) : eqM (pu eS a) (pu eS b) = .ret (pu eB (decide (a = b))) := by
  show T.ret (M.pure (.bool (a == b))) = _
  rfl
theorem neSS (a b : Str) : neM (pu eS a) (pu eS b) = .ret (pu eB (!decide (a = b))) := by
  show T.ret (M.pure (.bool (!(a == b)))) = _
  rfl
theorem eqG [DecidableEq α] {k : Nat} (h : EqE e k) {a b : α} (hm : m.toD = some (e a)) (hn : n.toD = some (e b)) (hk : k ≤ 64) : eqM m n = .ret (pu eB (decide (a = b))) := by
  unfold eqM
  split
  · rename_i x y
    have hm' : PyData.str x = e a := Option.some.inj hm
    have hn' : PyData.str y = e b := Option.some.inj hn
    have := h.eqv a b
    rw [← hm', ← hn'] at this
    simp only [PyData.eqv] at this
    rw [this]
  · rw [hm, hn]
    simp only
    rw [if_pos ⟨q_ok h hk a, q_ok h hk b⟩, h.eqv]
theorem neG [DecidableEq α] {k : Nat} (h : EqE e k) {a b : α} (hm : m.toD = some (e a)) (hn : n.toD = some (e b)) (hk : k ≤ 64) : neM m n = .ret (pu eB (!decide (a = b))) := by
  unfold neM
  split
  · rename_i x y
    have hm' : PyData.str x = e a := Option.some.inj hm
    have hn' : PyData.str y = e b := Option.some.inj hn
    have := h.eqv a b
    rw [← hm', ← hn'] at this
    simp only [PyData.eqv] at this
    rw [this]
  · rw [hm, hn]
    simp only
    rw [if_pos ⟨q_ok h hk a, q_ok h hk b⟩, h.eqv]
theorem any_q' [DecidableEq α] {k : Nat} (h : EqE e k) (a : α) : ∀ xs : List α, ((xs.map e).any fun z => PyData.eqv z (e a)) = decide (a ∈ xs)
  | [] => by simp
  | x :: xs => by
    simp only [List.map_cons, List.any_cons, h.eqv, any_q' h a xs]
    rw [Bool.eq_iff_iff]
    simp only [Bool.or_eq_true, decide_eq_true_eq, List.mem_cons]
    exact or_congr eq_comm Iff.rfl
theorem any_q [DecidableEq α] {k : Nat} (h : EqE e k) (a : α) (xs : List α) [Decidable (a ∈ xs)] : ((xs.map e).any fun z => PyData.eqv z (e a)) = decide (a ∈ xs) := by
  rw [any_q' h]
  congr
theorem inG [DecidableEq α] {k : Nat} (h : EqE e k) {a : α} {xs : List α} [Decidable (a ∈ xs)] (hm : m.toD = some (e a)) (hn : n.seqD = some (xs.map e)) (hk : k + 1 ≤ 64) : inM m n = .ret (pu eB (decide (a ∈ xs))) := by
  unfold inM
  rw [hm, hn]
  simp only
  rw [if_pos ⟨q_ok h (by omega) a, q_ok (qL h) hk xs⟩, any_q h]
theorem ninG [DecidableEq α] {k : Nat} (h : EqE e k) {a : α} {xs : List α} [Decidable (a ∈ xs)] (hm : m.toD = some (e a)) (hn : n.seqD = some (xs.map e)) (hk : k + 1 ≤ 64) : ninM m n = .ret (pu eB (!decide (a ∈ xs))) := by
  unfold ninM
  rw [hm, hn]
  simp only
  rw [if_pos ⟨q_ok h (by omega) a, q_ok (qL h) hk xs⟩, any_q h]
theorem isO (a : Option α) (h : ∀ x, isNonD (e x) = false) : isM (pu (eO e) a) (.pure .none) = .ret (pu eB a.isNone) := by
  cases a with
  | none => rfl
  | some a =>
    show T.ret (M.pure (.bool (isNonD (e a)))) = _
    rw [h]
    rfl
theorem isnO (a : Option α) (h : ∀ x, isNonD (e x) = false) : isnM (pu (eO e) a) (.pure .none) = .ret (pu eB a.isSome) := by
  cases a with
  | none => rfl
  | some a =>
    show T.ret (M.pure (.bool (!isNonD (e a)))) = _
    rw [h]
    rfl
/-! sequences -/
theorem lenG {ds : List D} (h : m.seqD = some ds) (h2 : ∀ x, m ≠ .pure (.str x)) : lenM m = .ret (.pure (.int ds.length)) := by
  unfold lenM
  split
  · exact absurd rfl (h2 _)
  · cases h
  · unfold lenS
    rw [h]
theorem lenL (xs : List α) : lenM (pu (eL e) xs) = .ret (pu eI (xs.length : Int)) := by
  rw [lenG (ds := xs.map e) rfl (fun x h => by have h : M.pure (.list (xs.map e)) = .pure (.str x) := h; cases h), List.length_map]
theorem lenV (xs : List α) : lenM (pu (eV e) xs) = .ret (pu eI (xs.length : Int)) := by
  rw [lenG (ds := xs.map e) rfl (fun x h => by have h : M.pure (.tuple (xs.map e)) = .pure (.str x) := h; cases h), List.length_map]
theorem lenO (xs : List α) : lenM (ls e xs) = .ret (pu eI (xs.length : Int)) := by
  rw [lenG (ds := xs.map e) rfl (fun x h => by have h : M.lst (xs.map e) = .pure (.str x) := h; cases h), List.length_map]
theorem lenOO (xs : List (List α)) : lenM (l2 e xs) = .ret (pu eI (xs.length : Int)) := by
  show T.ret (M.pure (.int ((xs.map (List.map e)).length : Nat))) = _
  rw [List.length_map]
theorem intsD_e : ∀ xs : List Int, intsD (xs.map eI) = some xs := intsD_map
theorem sumG {xs : List Int} (h : m.seqD = some (xs.map eI)) : sumM m = .ret (pu eI xs.sum) := by
  unfold sumM
  rw [h]
  simp only
  rw [intsD_e]
theorem allG {xs : List Bool} (h : m.listD = some (xs.map eB)) : allM m = .ret (pu eB (xs.all id)) := by
  unfold allM
  rw [h]
  simp only
  rw [boolsD_map]
theorem anyG {xs : List Bool} (h : m.listD = some (xs.map eB)) : anyM m = .ret (pu eB (xs.any id)) := by
  unfold anyM
  rw [h]
  simp only
  rw [boolsD_map]
theorem tupG {xs : List α} (h : m.seqD = some (xs.map e)) : tupM m = .ret (pu (eV e) xs) := by unfold tupM; rw [h]; rfl
theorem listG {xs : List α} (h : m.seqD = some (xs.map e)) : listM m = .ret (ls e xs) := by unfold listM; rw [h]
def getI (xs : List α) (i : Int) : T α := T.ofO (atI xs i)
theorem atI_map (xs : List α) (i : Int) : atI (xs.map e) i = (atI xs i).map e := by
  unfold atI
  rw [List.length_map]
  cases ixN xs.length i with
  | none => rfl
  | some j => simp
theorem getG {xs : List α} {i : Int} (h : m.seqD = some (xs.map e)) : RE (ixM m (pu eI i)) (getI xs i) (pu e) := by
  have q : ixM m (pu eI i) = (match atI (xs.map e) i with
    | some d => T.ret (M.pure d)
    | none => .bad) := by
    show (match m.seqD with
      | some ds => match atI ds i with
        | some d => T.ret (M.pure d)
        | none => .bad
      | none => .bad) = _
    rw [h]
  rw [q, atI_map]
  unfold getI
  cases atI xs i with
  | none => exact RR.bad
  | some a => exact RR.of rfl
theorem ix20 (p : α × β) : ixM (pu (e2 e f) p) (pu eI 0) = .ret (pu e p.1) := rfl
theorem ix21 (p : α × β) : ixM (pu (e2 e f) p) (pu eI 1) = .ret (pu f p.2) := rfl
theorem ix30 {g : γ → D} (p : α × β × γ) : ixM (pu (e3 e f g) p) (pu eI 0) = .ret (pu e p.1) := rfl
theorem ix31 {g : γ → D} (p : α × β × γ) : ixM (pu (e3 e f g) p) (pu eI 1) = .ret (pu f p.2.1) := rfl
theorem ix32 {g : γ → D} (p : α × β × γ) : ixM (pu (e3 e f g) p) (pu eI 2) = .ret (pu g p.2.2) := rfl
def catT (xs ys : List α) : T (List α) := if xs.length + ys.length ≤ sizeLine then .ret (xs ++ ys) else .bad
theorem catV (xs ys : List α) : RE (addM (pu (eV e) xs) (pu (eV e) ys)) (catT xs ys) (pu (eV e)) := by
  have q : addM (pu (eV e) xs) (pu (eV e) ys) = if xs.length + ys.length ≤ sizeLine then T.ret (pu (eV e) (xs ++ ys)) else .bad := by
    show (if (xs.map e).length + (ys.map e).length ≤ sizeLine then T.ret (M.pure (.tuple (xs.map e ++ ys.map e))) else .bad) = _
    rw [List.length_map, List.length_map, ← List.map_append]
    rfl
  rw [q]
  unfold catT
  split
  · exact RR.of rfl
  · exact RR.bad
theorem catLL {xs ys : List α} (hm : m.listD = some (xs.map e)) (hn : n.listD = some (ys.map e)) : RE (addM m n) (catT xs ys) (ls e) := by
  have q : addM m n = if xs.length + ys.length ≤ sizeLine then T.ret (ls e (xs ++ ys)) else .bad := by
    have q2 : addM m n = catL m n := by
      unfold addM
      split
      · cases hm
      · cases hm
      · cases hm
      · cases hm
      · rfl
    rw [q2]
    unfold catL
    rw [hm, hn]
    simp only
    rw [List.length_map, List.length_map, ← List.map_append]
  rw [q]
  unfold catT
  split
  · exact RR.of rfl
  · exact RR.bad
def catS (a b : Str) : T Str := if a.length + b.length ≤ sizeLine then .ret (a ++ b) else .bad
theorem catSS (a b : Str) : RE (addM (pu eS a) (pu eS b)) (catS a b) (pu eS) := by
  unfold catS
  show RE (if a.length + b.length ≤ sizeLine then T.ret (M.pure (.str (a ++ b))) else .bad) _ _
  split
  · exact RR.of rfl
  · exact RR.bad
theorem listD_cases {ds : List D} (h : m.listD = some ds) : m = .pure (.list ds) ∨ m = .lst ds := by
  unfold M.listD at h
  split at h
  · cases h; exact .inl rfl
  · cases h; exact .inr rfl
  · cases h
def repT (xs : List α) (k : Int) : T (List α) := if -(2 ^ 63) ≤ k ∧ k < 2 ^ 63 ∧ xs.length * k.toNat ≤ sizeLine then .ret (List.replicate k.toNat xs).flatten else .bad
theorem rep_map (xs : List α) (k : Nat) : (List.replicate k (xs.map e)).flatten = (List.replicate k xs).flatten.map e := by
  induction k with
  | zero => rfl
  | succ k ih => rw [List.replicate_succ, List.flatten_cons, ih, List.replicate_succ, List.flatten_cons, List.map_append]
theorem repG {xs : List α} {k : Int} (h : m.listD = some (xs.map e)) : RE (mulM m (pu eI k)) (repT xs k) (ls e) := by
  have q2 : mulM m (pu eI k) = repL m k := by
    rcases listD_cases h with rfl | rfl <;> rfl
  rw [q2]
  unfold repL repT
  rw [h]
  simp only
  rw [List.length_map]
  split
  · rw [rep_map]; exact RR.of rfl
  · exact RR.bad
theorem revG {xs : List α} (h : m.listD = some (xs.map e)) : revM m = .ret (ls e xs.reverse) := by
  unfold revM
  rw [h]
  simp [ls]
def cutI (xs : List α) (lo hi : Option Int) : List α := (xs.drop (HT.sIx xs.length 0 lo)).take (HT.sIx xs.length xs.length hi - HT.sIx xs.length 0 lo)
theorem cut_map (xs : List α) (lo hi : Option Int) : cutD (xs.map e) lo hi = (cutI xs lo hi).map e := by
  unfold cutD cutI
  rw [List.length_map, List.map_take, List.map_drop]
theorem cutV' (xs : List α) (lo hi : Option Int) : cutM (pu (eV e) xs) lo hi = .ret (pu (eV e) (cutI xs lo hi)) := by
  show T.ret (M.pure (.tuple (cutD (xs.map e) lo hi))) = _
  rw [cut_map]
  rfl
theorem cutL {xs : List α} (h : m.listD = some (xs.map e)) (lo hi : Option Int) : cutM m lo hi = .ret (ls e (cutI xs lo hi)) := by
  unfold cutM
  split
  · cases h
  · rw [h]
    simp only
    rw [cut_map]
def reprT (e : α → D) (a : α) : T Str := if showOk (e a) then .ret (e a).shown else .bad
theorem reprG {a : α} (h : m.toD = some (e a)) : RE (reprM m) (reprT e a) (pu eS) := by
  unfold reprM reprT
  rw [h]
  simp only
  split
  · exact RR.of rfl
  · exact RR.bad
/-! loops' sources -/
def rangeI (n : Int) : List Int := (List.range n.toNat).map fun (i : Nat) => (i : Int)
def rangeT (n : Int) : T (List Int) := if -16777216 ≤ n ∧ n ≤ 16777216 then .ret (rangeI n) else .bad
theorem range1G (n : Int) : RE (range1 [pu eI n]) (rangeT n) (List.map eI) := by
  unfold rangeT
  show RE (if -16777216 ≤ n ∧ n ≤ 16777216 then T.ret (rangeL 0 n.toNat) else .bad) _ _
  split
  · refine RR.of ?_
    simp [rangeL, rangeI, Function.comp_def]
  · exact RR.bad
def rangeI2 (a b : Int) : List Int := (List.range (b - a).toNat).map fun (i : Nat) => a + (i : Int)
def rangeT2 (a b : Int) : T (List Int) := if -16777216 ≤ a ∧ a ≤ 16777216 ∧ -16777216 ≤ b ∧ b ≤ 16777216 ∧ b - a ≤ 16777216 then .ret (rangeI2 a b) else .bad
theorem range2G (a b : Int) : RE (range2 [pu eI a, pu eI b]) (rangeT2 a b) (List.map eI) := by
  unfold rangeT2
  show RE (if -16777216 ≤ a ∧ a ≤ 16777216 ∧ -16777216 ≤ b ∧ b ≤ 16777216 ∧ b - a ≤ 16777216 then T.ret (rangeL a (b - a).toNat) else .bad) _ _
  split
  · refine RR.of ?_
    simp [rangeL, rangeI2, Function.comp_def]
  · exact RR.bad
def enumI (xs : List α) : List (Int × α) := xs.zipIdx.map fun p => ((p.2 : Int), p.1)
theorem enumG (xs : List α) : enumL (xs.map e) = (enumI xs).map (e2 eI e) := by
  unfold enumL enumI
  rw [List.zipIdx_map]
  simp [e2, Function.comp_def]
theorem zipG (xs : List α) (ys : List β) : zipL (xs.map e) (ys.map f) = (xs.zip ys).map (e2 e f) := by
  unfold zipL
  induction xs generalizing ys with
  | nil => rfl
  | cons x xs ih => cases ys with
    | nil => rfl
    | cons y ys => simp [ih]; rfl
/-! drawing -/
def drawT (n : Int) : T Int := if n < 16777216 then .draw n .ret else .bad
theorem drawG (n : Int) : RE (drawP [.pot, pu eI n]) (drawT n) (pu eI) := by
  unfold drawT
  refine ⟨fun Q q => ?_⟩
  split at q
  · rename_i hn
    rw [drawP_def]
    unfold drawPc
    simp only
    rw [if_pos (by omega)]
    exact ⟨q.1, fun i h1 h2 => ⟨i, rfl, q.2 i h1 h2⟩⟩
  · exact q.elim
def drawTJ (n : Int) : T Int := if n < 2 then .ret 0 else if n < 16777216 then .draw n .ret else .bad
theorem drawGJ (n : Int) : RE (drawJ [.pot, pu eI n]) (drawTJ n) (pu eI) := by
  unfold drawTJ
  rw [drawJ_def]
  unfold drawJc
  simp only
  split
  · exact RR.of rfl
  · refine ⟨fun Q q => ?_⟩
    split at q
    · rename_i hn
      rw [if_pos (by omega)]
      exact ⟨q.1, fun i h1 h2 => ⟨i, rfl, q.2 i h1 h2⟩⟩
    · exact q.elim
end
/-! ## lists that grow -/
section
variable {α γ : Type} {R : Fw × DSt → γ → Prop} {st : DSt} {f fj : DSt → T M} {s2 : Sm} {i j : Nat} {e : α → D}
def appT (xs : List α) (x : α) : T (List α) := if xs.length < sizeLine then .ret (xs ++ [x]) else .bad
theorem sAppP {xs : List α} {a : α} {st' : List α → DSt} {t' : List α → T γ} (hx : st[i]? = some (some (ls e xs))) (h : f st = .ret (pu e a)) (hs : ∀ ys, st.set i (some (ls e ys)) = st' ys) (h2 : ∀ ys, RR (s2 (st' ys)) (t' ys) R) :
    RR (seqS (appS i f) s2 st) (appT xs a >>= t') R := by
  refine sStM (e := st') ?_ h2
  unfold appS
  rw [hx]
  simp only
  rw [h, T.ret_bind, asD_pure, T.ret_bind, List.length_map]
  unfold appT
  split
  · refine RR.of ?_
    rw [← hs]
    simp [ls]
  · exact RR.bad
theorem sAppM {xs : List α} {t : T α} {st' : List α → DSt} {t' : List α → T γ} (hx : st[i]? = some (some (ls e xs))) (h : RE (f st) t (pu e)) (hs : ∀ ys, st.set i (some (ls e ys)) = st' ys) (h2 : ∀ ys, RR (s2 (st' ys)) (t' ys) R) :
    RR (seqS (appS i f) s2 st) (t >>= fun a => appT xs a >>= t') R := by
  have q : seqS (appS i f) s2 st = f st >>= fun m => seqS (appS i fun _ => .ret m) s2 st := by
    unfold seqS appS
    rw [hx]
    simp only
    rw [T.bind_assoc]
    rfl
  rw [q]
  exact RR.bM h fun a => sAppP hx rfl hs h2
theorem sApp2P {xs : List (List α)} {a : List α} {st' : List (List α) → DSt} {t' : List (List α) → T γ} (hx : st[i]? = some (some (l2 e xs))) (h : f st = .ret (ls e a)) (hs : ∀ ys, st.set i (some (l2 e ys)) = st' ys) (h2 : ∀ ys, RR (s2 (st' ys)) (t' ys) R) :
    RR (seqS (appS i f) s2 st) (appT xs a >>= t') R := by
  refine sStM (e := st') ?_ h2
  unfold appS
  rw [hx]
  simp only
  rw [h, T.ret_bind, asL_lst, T.ret_bind, List.length_map]
  unfold appT
  split
  · refine RR.of ?_
    rw [← hs]
    simp [l2]
  · exact RR.bad
theorem sApp2M {xs : List (List α)} {t : T (List α)} {st' : List (List α) → DSt} {t' : List (List α) → T γ} (hx : st[i]? = some (some (l2 e xs))) (h : RE (f st) t (ls e)) (hs : ∀ ys, st.set i (some (l2 e ys)) = st' ys) (h2 : ∀ ys, RR (s2 (st' ys)) (t' ys) R) :
    RR (seqS (appS i f) s2 st) (t >>= fun a => appT xs a >>= t') R := by
  have q : seqS (appS i f) s2 st = f st >>= fun m => seqS (appS i fun _ => .ret m) s2 st := by
    unfold seqS appS
    rw [hx]
    simp only
    rw [T.bind_assoc]
    rfl
  rw [q]
  exact RR.bM h fun a => sApp2P hx rfl hs h2
theorem sExtP {xs ys : List α} {m : M} {st' : List α → DSt} {t' : List α → T γ} (hx : st[i]? = some (some (ls e xs))) (h : f st = .ret m) (hm : m.listD = some (ys.map e)) (hs : ∀ ys, st.set i (some (ls e ys)) = st' ys) (h2 : ∀ ys, RR (s2 (st' ys)) (t' ys) R) :
    RR (seqS (extS i f) s2 st) (catT xs ys >>= t') R := by
  refine sStM (e := st') ?_ h2
  unfold extS
  rw [hx]
  simp only
  rw [h, T.ret_bind, hm]
  simp only
  rw [List.length_map, List.length_map]
  unfold catT
  split
  · refine RR.of ?_
    rw [← hs]
    simp [ls]
  · exact RR.bad
theorem sExtM {xs : List α} {t : T (List α)} {em : List α → M} {st' : List α → DSt} {t' : List α → T γ} (hx : st[i]? = some (some (ls e xs))) (h : RE (f st) t em) (hm : ∀ ys, (em ys).listD = some (ys.map e)) (hs : ∀ ys, st.set i (some (ls e ys)) = st' ys) (h2 : ∀ ys, RR (s2 (st' ys)) (t' ys) R) :
    RR (seqS (extS i f) s2 st) (t >>= fun ys => catT xs ys >>= t') R := by
  have q : seqS (extS i f) s2 st = f st >>= fun m => seqS (extS i fun _ => .ret m) s2 st := by
    unfold seqS extS
    rw [hx]
    simp only
    rw [T.bind_assoc]
    rfl
  rw [q]
  exact RR.bM h fun ys => sExtP hx rfl (hm ys) hs h2
/-- a row of a list of rows grows -/
def appRT (xss : List (List α)) (j : Int) (a : α) : T (List (List α)) := match ixN xss.length j with
  | some k => match xss[k]? with
    | some r => if r.length < sizeLine then .ret (xss.set k (r ++ [a])) else .bad
    | none => .bad
  | none => .bad
theorem sAppRP {xss : List (List α)} {jv : Int} {a : α} {st' : List (List α) → DSt} {t' : List (List α) → T γ} (hx : st[i]? = some (some (l2 e xss))) (hj : fj st = .ret (pu eI jv)) (h : f st = .ret (pu e a)) (hs : ∀ ys, st.set i (some (l2 e ys)) = st' ys) (h2 : ∀ ys, RR (s2 (st' ys)) (t' ys) R) :
    RR (seqS (appR i fj f) s2 st) (appRT xss jv a >>= t') R := by
  refine sStM (e := st') ?_ h2
  unfold appR appRT
  rw [hx]
  simp only
  rw [hj, T.ret_bind]
  simp only
  rw [List.length_map]
  cases ixN xss.length jv with
  | none => exact RR.bad
  | some k =>
    simp only
    rw [List.getElem?_map]
    cases xss[k]? with
    | none => exact RR.bad
    | some r =>
      simp only [Option.map_some]
      rw [h, T.ret_bind, asD_pure, T.ret_bind, List.length_map]
      split
      · refine RR.of ?_
        rw [← hs]
        simp [l2, List.map_set]
      · exact RR.bad
theorem par2E {fa fb : DSt → T M} {m n : M} {st' : DSt} (h1 : fa st = .ret m) (h2 : fb st = .ret n) (hs : (st.set i (some m)).set j (some n) = st') : par2 i j fa fb st = .ret (.nx, st') := by
  unfold par2
  rw [h1, T.ret_bind, h2, T.ret_bind, hs]
theorem par3E {l : Nat} {fa fb fc : DSt → T M} {m n o : M} {st' : DSt} (h1 : fa st = .ret m) (h2 : fb st = .ret n) (h3 : fc st = .ret o) (hs : ((st.set i (some m)).set j (some n)).set l (some o) = st') : par3 i j l fa fb fc st = .ret (.nx, st') := by
  unfold par3
  rw [h1, T.ret_bind, h2, T.ret_bind, h3, T.ret_bind, hs]
theorem uPar2 {γ : Type} {R : Fw × DSt → γ → Prop} {t : T γ} {fa fb : DSt → T M} (h : RR (fa st >>= fun m => fb st >>= fun n => s2 ((st.set i (some m)).set j (some n))) t R) : RR (seqS (par2 i j fa fb) s2 st) t R := by
  have e : seqS (par2 i j fa fb) s2 st = fa st >>= fun m => fb st >>= fun n => s2 ((st.set i (some m)).set j (some n)) := by
    unfold seqS par2
    rw [T.bind_assoc]
    congr 1
    funext m
    rw [T.bind_assoc]
    rfl
  rw [e]
  exact h
theorem uPar3 {γ : Type} {R : Fw × DSt → γ → Prop} {t : T γ} {l : Nat} {fa fb fc : DSt → T M} (h : RR (fa st >>= fun m => fb st >>= fun n => fc st >>= fun o => s2 (((st.set i (some m)).set j (some n)).set l (some o))) t R) : RR (seqS (par3 i j l fa fb fc) s2 st) t R := by
  have e : seqS (par3 i j l fa fb fc) s2 st = fa st >>= fun m => fb st >>= fun n => fc st >>= fun o => s2 (((st.set i (some m)).set j (some n)).set l (some o)) := by
    unfold seqS par3
    rw [T.bind_assoc]
    congr 1
    funext m
    rw [T.bind_assoc]
    congr 1
    funext n
    rw [T.bind_assoc]
    rfl
  rw [e]
  exact h
theorem sEq {γ : Type} {R : Fw × DSt → γ → Prop} {t : T γ} {s : Sm} {st' : DSt} (hs : st = st') (h : RR (s st') t R) : RR (s st) t R := by subst hs; exact h
/-- a, b = f(..) -/
theorem uUnp {γ : Type} {R : Fw × DSt → γ → Prop} {t : T γ} {g : D → DSt → T DSt} (h : RR (f st >>= fun m => asD m >>= fun d => g d st >>= fun st' => s2 st') t R) : RR (seqS (fun st => f st >>= fun m => asD m >>= fun d => g d st >>= fun st' => .ret (.nx, st')) s2 st) t R := by
  have e : seqS (fun st => f st >>= fun m => asD m >>= fun d => g d st >>= fun st' => .ret (.nx, st')) s2 st = f st >>= fun m => asD m >>= fun d => g d st >>= fun st' => s2 st' := by
    unfold seqS
    rw [T.bind_assoc]
    congr 1
    funext m
    rw [T.bind_assoc]
    congr 1
    funext d
    rw [T.bind_assoc]
    rfl
  rw [e]
  exact h
end
end L2.Zy
namespace L2.Zy
open PySem PyProof.Rows PySem.Spec
/-! ## sorting -/
/-- a strict total order -/
structure TotO {α : Type} (lt : α → α → Bool) : Prop where
  irr : ∀ a, lt a a = false
  trans : ∀ a b c, lt a b = true → lt b c = true → lt a c = true
  con : ∀ a b, lt a b = false → lt b a = false → a = b
def insS {α : Type} (lt : α → α → Bool) (a : α) : List α → List α
  | [] => [a]
  | b :: l => if lt b a = true then b :: insS lt a l else a :: b :: l
def isort {α : Type} (lt : α → α → Bool) (xs : List α) : List α := xs.foldr (insS lt) []
/-- each once -/
def insU {α : Type} (lt : α → α → Bool) (a : α) : List α → List α
  | [] => [a]
  | b :: l => if lt b a = true then b :: insU lt a l else if lt a b = true then a :: b :: l else b :: l
def usort {α : Type} (lt : α → α → Bool) (xs : List α) : List α := xs.foldr (insU lt) []
section
variable {α : Type} {lt : α → α → Bool}
theorem TotO.asym (h : TotO lt) {a b : α} (q : lt a b = true) : lt b a = false := by
  cases e : lt b a with
  | false => rfl
  | true =>
    have := h.trans a b a q e
    rw [h.irr] at this
    cases this
theorem insS_perm (a : α) : ∀ l : List α, (insS lt a l).Perm (a :: l)
  | [] => List.Perm.refl _
  | b :: l => by
    unfold insS
    split
    · exact ((insS_perm a l).cons b).trans (List.Perm.swap a b l)
    · exact List.Perm.refl _
theorem isort_perm : ∀ xs : List α, (isort lt xs).Perm xs
  | [] => List.Perm.refl _
  | x :: xs => (insS_perm x _).trans ((isort_perm xs).cons x)
theorem insS_sorted (h : TotO lt) (a : α) : ∀ {l : List α}, l.Pairwise (fun x y => lt y x = false) → (insS lt a l).Pairwise (fun x y => lt y x = false)
  | [], _ => List.pairwise_singleton _ _
  | b :: l, hp => by
    obtain ⟨h1, h2⟩ := List.pairwise_cons.mp hp
    unfold insS
    split
    · rename_i q
      refine List.pairwise_cons.mpr ⟨fun c hc => ?_, insS_sorted h a h2⟩
      rcases List.mem_cons.mp ((insS_perm a l).mem_iff.mp hc) with rfl | hc
      · exact h.asym q
      · exact h1 c hc
    · rename_i q
      have q' : lt b a = false := by simpa using q
      refine List.pairwise_cons.mpr ⟨fun c hc => ?_, hp⟩
      rcases List.mem_cons.mp hc with rfl | hc2
      · exact q'
      · cases e : lt c a with
        | false => rfl
        | true =>
          cases e2 : lt a b with
          | true =>
            have := h.trans c a b e e2
            rw [h1 c hc2] at this
            cases this
          | false =>
            have := h.con a b e2 q'
            subst this
            rw [h1 c hc2] at e
            cases e
theorem isort_sorted (h : TotO lt) : ∀ xs : List α, (isort lt xs).Pairwise (fun x y => lt y x = false)
  | [] => List.Pairwise.nil
  | x :: xs => insS_sorted h x (isort_sorted h xs)
theorem sorted_eq (h : TotO lt) {xs ys : List α} (p : xs.Perm ys) (h1 : xs.Pairwise fun x y => lt y x = false) (h2 : ys.Pairwise fun x y => lt y x = false) : xs = ys :=
  List.Perm.eq_of_pairwise (le := fun x y => lt y x = false) (fun a b _ _ q1 q2 => h.con a b q2 q1) h1 h2 p
theorem isort_eq (h : TotO lt) {xs ys : List α} (p : ys.Perm xs) (h2 : ys.Pairwise fun x y => lt y x = false) : isort lt xs = ys := sorted_eq h ((isort_perm xs).trans p.symm) (isort_sorted h xs) h2
theorem isort_len (xs : List α) : (isort lt xs).length = xs.length := (isort_perm xs).length_eq
theorem mem_isort {a : α} {xs : List α} : a ∈ isort lt xs ↔ a ∈ xs := (isort_perm xs).mem_iff
theorem merge_isort (h : TotO lt) (xs : List α) : xs.mergeSort (fun a b => !lt b a) = isort lt xs := by
  symm
  refine isort_eq h (List.mergeSort_perm _ _) ?_
  have := List.pairwise_mergeSort (le := fun a b : α => !lt b a) (fun a b c h1 h2 => ?_) (fun a b => ?_) xs
  · exact this.imp fun q => by simpa using q
  · have h1 : lt b a = false := by simpa using h1
    have h2 : lt c b = false := by simpa using h2
    cases e : lt c a with
    | false => rfl
    | true =>
      cases e2 : lt a b with
      | true =>
        have := h.trans c a b e e2
        rw [h2] at this
        cases this
      | false =>
        have := h.con a b e2 h1
        subst this
        rw [h2] at e
        cases e
  · cases e : lt b a with
    | false => rfl
    | true => simp [h.asym e]
theorem mem_insU (h : TotO lt) {a c : α} : ∀ {l : List α}, c ∈ insU lt a l ↔ c = a ∨ c ∈ l
  | [] => by simp [insU]
  | b :: l => by
    unfold insU
    split
    · rw [List.mem_cons, mem_insU h (l := l), List.mem_cons]
      exact or_left_comm
    · split
      · exact List.mem_cons
      · rename_i q1 q2
        have e : a = b := h.con a b (by simpa using q2) (by simpa using q1)
        subst e
        rw [List.mem_cons]
        constructor
        · exact .inr
        · rintro (e | e)
          · exact .inl e
          · exact e
theorem mem_usort (h : TotO lt) {c : α} : ∀ {xs : List α}, c ∈ usort lt xs ↔ c ∈ xs
  | [] => Iff.rfl
  | x :: xs => by
    show c ∈ insU lt x (usort lt xs) ↔ _
    rw [mem_insU h, mem_usort h, List.mem_cons]
theorem insU_sorted (h : TotO lt) {a : α} : ∀ {l : List α}, l.Pairwise (fun x y => lt x y = true) → (insU lt a l).Pairwise (fun x y => lt x y = true)
  | [], _ => List.pairwise_singleton _ _
  | b :: l, hp => by
    obtain ⟨h1, h2⟩ := List.pairwise_cons.mp hp
    unfold insU
    split
    · rename_i q
      refine List.pairwise_cons.mpr ⟨fun c hc => ?_, insU_sorted h h2⟩
      rcases (mem_insU h).mp hc with rfl | hc
      · exact q
      · exact h1 c hc
    · split
      · rename_i q
        refine List.pairwise_cons.mpr ⟨fun c hc => ?_, hp⟩
        rcases List.mem_cons.mp hc with rfl | hc
        · exact q
        · exact h.trans a b c q (h1 c hc)
      · exact hp
theorem usort_sorted (h : TotO lt) : ∀ xs : List α, (usort lt xs).Pairwise (fun x y => lt x y = true)
  | [] => List.Pairwise.nil
  | x :: xs => insU_sorted h (usort_sorted h xs)
theorem usort_nodup (h : TotO lt) (xs : List α) : (usort lt xs).Nodup := (usort_sorted h xs).imp fun {a b} q e => by
  subst e
  rw [h.irr] at q
  cases q
theorem usort_eq (h : TotO lt) {xs ys : List α} (m : ∀ c, c ∈ ys ↔ c ∈ xs) (h2 : ys.Pairwise fun x y => lt x y = true) : usort lt xs = ys := by
  have nd : ys.Nodup := h2.imp fun {a b} q e => by
    subst e
    rw [h.irr] at q
    cases q
  refine sorted_eq h ((List.perm_ext_iff_of_nodup (usort_nodup h xs) nd).mpr fun c => (mem_usort h).trans (m c).symm) ((usort_sorted h xs).imp fun q => h.asym q) (h2.imp fun q => h.asym q)
end
/-! orders of values -/
def ltI (a b : Int) : Bool := decide (a < b)
def lt2 {α β : Type} [DecidableEq α] (l1 : α → α → Bool) (l2 : β → β → Bool) (a b : α × β) : Bool := if a.1 = b.1 then l2 a.2 b.2 else l1 a.1 b.1
def ltL {α : Type} [DecidableEq α] (l : α → α → Bool) : List α → List α → Bool
  | [], [] => false
  | [], _ :: _ => true
  | _ :: _, [] => false
  | x :: xs, y :: ys => if x = y then ltL l xs ys else l x y
theorem ltL_cons {α : Type} [DecidableEq α] (l : α → α → Bool) (x y : α) (xs ys : List α) : ltL l (x :: xs) (y :: ys) = if x = y then ltL l xs ys else l x y := by rw [ltL]
theorem totI : TotO ltI := ⟨fun a => by simp [ltI], fun a b c h1 h2 => by simp [ltI] at *; omega, fun a b h1 h2 => by simp [ltI] at *; omega⟩
theorem tot2 {α β : Type} [DecidableEq α] {l1 : α → α → Bool} {l2 : β → β → Bool} (h1 : TotO l1) (h2 : TotO l2) : TotO (lt2 l1 l2) where
  irr := fun a => by unfold lt2; rw [if_pos rfl]; exact h2.irr _
  trans := fun a b c q1 q2 => by
    unfold lt2 at *
    by_cases e1 : a.1 = b.1
    · rw [if_pos e1] at q1
      by_cases e2 : b.1 = c.1
      · rw [if_pos e2] at q2
        rw [if_pos (e1.trans e2)]
        exact h2.trans _ _ _ q1 q2
      · rw [if_neg e2] at q2
        rw [if_neg (by rw [e1]; exact e2), e1]
        exact q2
    · rw [if_neg e1] at q1
      by_cases e2 : b.1 = c.1
      · rw [if_neg (by rw [← e2]; exact e1), ← e2]
        exact q1
      · rw [if_neg e2] at q2
        have q := h1.trans _ _ _ q1 q2
        rw [if_neg]
        · exact q
        · intro e
          rw [e, h1.irr] at q
          cases q
  con := fun a b q1 q2 => by
    unfold lt2 at *
    by_cases e1 : a.1 = b.1
    · rw [if_pos e1] at q1
      rw [if_pos e1.symm] at q2
      exact Prod.ext e1 (h2.con _ _ q1 q2)
    · rw [if_neg e1] at q1
      rw [if_neg (Ne.symm e1)] at q2
      exact absurd (h1.con _ _ q1 q2) e1
theorem totL {α : Type} [DecidableEq α] {l : α → α → Bool} (h : TotO l) : TotO (ltL l) where
  irr := fun a => by
    induction a with
    | nil => rfl
    | cons x xs ih => unfold ltL; rw [if_pos rfl]; exact ih
  trans := fun a => by
    induction a with
    | nil =>
      intro b c q1 q2
      cases b with
      | nil => cases q1
      | cons y ys => cases c with
        | nil => cases q2
        | cons z zs => rfl
    | cons x xs ih =>
      intro b c q1 q2
      cases b with
      | nil => cases q1
      | cons y ys => cases c with
        | nil => cases q2
        | cons z zs =>
          rw [ltL_cons] at *
          by_cases e1 : x = y
          · rw [if_pos e1] at q1
            by_cases e2 : y = z
            · rw [if_pos e2] at q2
              rw [if_pos (e1.trans e2)]
              exact ih ys zs q1 q2
            · rw [if_neg e2] at q2
              rw [if_neg (by rw [e1]; exact e2), e1]
              exact q2
          · rw [if_neg e1] at q1
            by_cases e2 : y = z
            · rw [if_neg (by rw [← e2]; exact e1), ← e2]
              exact q1
            · rw [if_neg e2] at q2
              have q := h.trans _ _ _ q1 q2
              rw [if_neg]
              · exact q
              · intro e
                rw [e, h.irr] at q
                cases q
  con := fun a => by
    induction a with
    | nil =>
      intro b q1 q2
      cases b with
      | nil => rfl
      | cons y ys => cases q1
    | cons x xs ih =>
      intro b q1 q2
      cases b with
      | nil => cases q2
      | cons y ys =>
        rw [ltL_cons] at *
        by_cases e1 : x = y
        · rw [if_pos e1] at q1
          rw [if_pos e1.symm] at q2
          rw [e1, ih ys q1 q2]
        · rw [if_neg e1] at q1
          rw [if_neg (Ne.symm e1)] at q2
          exact absurd (h.con _ _ q1 q2) e1
open PySem.W in
structure OrdE {α : Type} [DecidableEq α] (e : α → D) (lt : α → α → Bool) (k : Nat) : Prop extends EqE e k where
  alk : ∀ a b, alike (e a) (e b) = true
  les : ∀ a b, dataLt (e a) (e b) = lt a b
  tot : TotO lt
section
open PySem.W
variable {α β : Type} [DecidableEq α] [DecidableEq β] {e : α → D} {f : β → D} {l1 : α → α → Bool} {l2 : β → β → Bool} {k l : Nat}
theorem oI : OrdE eI ltI 0 := ⟨qI, fun _ _ => by simp [alike], fun a b => dataLt_int a b, totI⟩
theorem o2 (h : OrdE e l1 k) (h2 : OrdE f l2 l) : OrdE (e2 e f) (lt2 l1 l2) (max k l + 1) := ⟨q2 h.toEqE h2.toEqE, fun a b => by simp [e2, alike, alikeAll, h.alk, h2.alk], fun a b => by
    show dataLt (.tuple [e a.1, f a.2]) (.tuple [e b.1, f b.2]) = _
    rw [dataLt_pair (h.alk _ _) (h2.alk _ _), h.eqv, h2.eqv, h.les, h2.les]
    unfold lt2
    by_cases e1 : a.1 = b.1
    · rw [if_pos (by simpa using e1), if_pos e1]
      by_cases e2 : a.2 = b.2
      · rw [if_pos (by simpa using e2), e2, h2.tot.irr]
      · rw [if_neg (by simpa using e2)]
    · rw [if_neg (by simpa using e1), if_neg e1], tot2 h.tot h2.tot⟩
theorem alk_all (h : OrdE e l1 k) : ∀ xs ys : List α, alikeAll (xs.map e) (ys.map e) = true
  | [], _ => by simp [alikeAll]
  | _ :: _, [] => by simp [alikeAll]
  | x :: xs, y :: ys => by
    show alikeAll (e x :: xs.map e) (e y :: ys.map e) = true
    rw [alikeAll, alk_all h xs ys, h.alk]
    rfl
theorem row_lt (h : OrdE e l1 k) : ∀ xs ys : List α, PyProof.Rows.lexLt itemOrd (keyToksAll (xs.map e)) (keyToksAll (ys.map e)) = ltL l1 xs ys
  | [], [] => lex_irrefl _
  | [], y :: ys => by
    show PyProof.Rows.lexLt itemOrd (keyToksAll []) (keyToksAll (e y :: ys.map e)) = true
    simp only [keyToksAll]
    rw [lex_atom (by simp)]
    decide
  | x :: xs, [] => by
    show PyProof.Rows.lexLt itemOrd (keyToksAll (e x :: xs.map e)) (keyToksAll []) = false
    simp only [keyToksAll]
    rw [lex_atom (by simp)]
    decide
  | x :: xs, y :: ys => by
    show PyProof.Rows.lexLt itemOrd (keyToksAll (e x :: xs.map e)) (keyToksAll (e y :: ys.map e)) = _
    rw [dataLt_cons (h.alk _ _), h.eqv, h.les, row_lt h xs ys, ltL_cons]
    by_cases q : x = y
    · rw [if_pos (by simpa using q), if_pos q]
    · rw [if_neg (by simpa using q), if_neg q]
theorem oV (h : OrdE e l1 k) : OrdE (eV e) (ltL l1) (k + 1) := ⟨qV h.toEqE, fun a b => by simp only [eV, alike]; exact alk_all h a b, fun a b => by
    show dataLt (.tuple (a.map e)) (.tuple (b.map e)) = _
    rw [dataLt_tuple]
    exact row_lt h a b, totL h.tot⟩
theorem oL (h : OrdE e l1 k) : OrdE (eL e) (ltL l1) (k + 1) := ⟨qL h.toEqE, fun a b => by simp only [eL, alike]; exact alk_all h a b, fun a b => by
    show dataLt (.list (a.map e)) (.list (b.map e)) = _
    exact row_lt h a b, totL h.tot⟩
theorem sort_map (h : OrdE e l1 k) (xs : List α) : (xs.map e).mergeSort (PySem.W.dataLe false id) = (isort l1 xs).map e := by
  rw [← merge_isort h.tot]
  symm
  exact List.map_mergeSort fun a _ b _ => by
    show (!l1 b a) = (!dataLt (id (e b)) (id (e a)))
    rw [id, id, h.les]
/-- sorted of what no tuple is, or of tuples that have items -/
theorem sortG (h : OrdE e l1 k) {m : M} {xs : List α} (hm : m.listD = some (xs.map e)) (hk : k ≤ 60) (hs : Sortable (xs.map e)) : sortM m = .ret (ls e (isort l1 xs)) := by
  unfold sortM
  rw [hm]
  simp only
  rw [if_pos, sort_map h]
  refine ⟨AllAlike.of fun b b' => h.alk b b', hs, fun d hd => ?_⟩
  obtain ⟨b, _, rfl⟩ := List.mem_map.mp hd
  exact Nat.le_trans (h.dep b) hk
theorem sort_ints (xs : List Int) : Sortable (xs.map eI) := Sortable.others fun b => ⟨(fun h => nomatch h), (fun xs h => nomatch h)⟩
theorem sort_pairs {f : β → D} (xs : List (α × β)) : Sortable (xs.map (e2 e f)) := Sortable.tuples fun b => ⟨_, _, rfl⟩
end
/-! sorted(set(..)) of pairs of small numbers -/
def smallP (xs : List (Int × Int)) : Prop := xs.length < 64 ∧ ∀ p ∈ xs, 0 ≤ p.1 ∧ p.1 < 64 ∧ 0 ≤ p.2 ∧ p.2 < 64
instance (xs : List (Int × Int)) : Decidable (smallP xs) := by unfold smallP; infer_instance
def sortSetT (xs : List (Int × Int)) : T (List (Int × Int)) := if smallP xs then .ret (usort (lt2 ltI ltI) xs) else .bad
theorem lexI_iff {a b c d : Int} : lexI [a, b] [c, d] = true ↔ a < c ∨ (a = c ∧ b ≤ d) := by
  simp only [lexI]
  by_cases h : a = c
  · subst h
    by_cases h2 : b = d
    · subst h2
      simp
    · simp [h2]
      try omega
  · simp [h]
    try omega
theorem uniq_pairs (xs : List (Int × Int)) : uniqI (xs.map fun p => [p.1, p.2]) = (usort (lt2 ltI ltI) xs).map fun p => [p.1, p.2] := by
  have ht := tot2 totI totI
  symm
  refine uniqI_eq ?_ ?_ ?_
  · rw [List.nodup_iff_pairwise_ne, List.pairwise_map]
    exact (List.nodup_iff_pairwise_ne.mp (usort_nodup ht xs)).imp fun {a b} h e => h (by
      simp at e
      exact Prod.ext e.1 e.2)
  · intro c
    rw [List.mem_map, List.mem_map]
    constructor
    · rintro ⟨p, hp, rfl⟩
      exact ⟨p, (mem_usort ht).mp hp, rfl⟩
    · rintro ⟨p, hp, rfl⟩
      exact ⟨p, (mem_usort ht).mpr hp, rfl⟩
  · rw [List.pairwise_map]
    exact (usort_sorted ht xs).imp fun {a b} h => by
      rw [lexI_iff]
      unfold lt2 at h
      split at h
      · simp [ltI] at h; omega
      · simp [ltI] at h; omega
theorem sortSetG {m : M} {xs : List (Int × Int)} (hm : m.listD = some (xs.map (e2 eI eI))) : RE (sortSetM m) (sortSetT xs) (ls (e2 eI eI)) := by
  unfold sortSetT
  split
  · rename_i hs
    refine RR.of ?_
    have e : xs.map (e2 eI eI) = (xs.map fun p => [p.1, p.2]).map tupI := by simp [e2, tupI]
    rw [sortSetM_of (hm.trans (congrArg some e)) ⟨by simpa using hs.1, 2, by decide, fun ns hns => by
      obtain ⟨p, hp, rfl⟩ := List.mem_map.mp hns
      have := hs.2 p hp
      refine ⟨rfl, fun n hn => ?_⟩
      rcases List.mem_cons.mp hn with rfl | hn
      · omega
      · rw [List.mem_singleton.mp hn]; omega⟩, uniq_pairs]
    simp [e2, tupI, ls]
  · exact RR.bad
/-! ## pots -/
theorem spotE {st : DSt} {i : Nat} (h : st[i]? = some (some .pot)) : nmP i st = .ret .pot := nmPE h rfl
end L2.Zy
namespace L2.Zy
open PySem PyProof.Rows PySem.Spec
section
variable {α β γ : Type} {st : DSt} {vs : List Nat} {fi : DSt → T (List D)} {g : D → DSt → T DSt} {c : DSt → T Bool} {e f fa fb : DSt → T M}
theorem frzL2 {ev : α → D} (xs : List (List α)) : frz (l2 ev xs) = .ret (pu (eL (eL ev)) xs) := by
  show T.ret (M.pure (.list ((xs.map (List.map ev)).map .list))) = _
  rw [List.map_map]
  rfl
theorem sOne {R : Fw × DSt → γ → Prop} {s : Sm} {t : T γ} (h : RR (seqS s skS st) t R) : RR (s st) t R := by
  have q : seqS s skS st = (s st >>= T.ret) := by
    unfold seqS
    congr 1
    funext x
    obtain ⟨f, st'⟩ := x
    cases f <;> rfl
  rw [T.bind_ret] at q
  rw [q] at h
  exact h
theorem iteE2 {em : α → M} {cond : DSt → T Bool} {a : Bool} {x y : α} (h : cond st = .ret a) (h1 : fa st = .ret (em x)) (h2 : fb st = .ret (em y)) : iteM cond fa fb st = .ret (em (if a = true then x else y)) := by
  unfold iteM
  rw [h, T.ret_bind]
  cases a
  · exact h2
  · exact h1
theorem coD {x : T M} {t : T α} {ev : α → D} (h : RE x t (pu ev)) : RE x (t >>= fun a => T.ret (ev a)) (pu eD) := by
  have q := RR.bM (k := T.ret) (t' := fun a => T.ret (ev a)) (R := fun m d => m = pu eD d) h fun a => RR.of (e := pu eD) rfl
  rw [T.bind_ret] at q
  exact q
theorem dispT {ms : List M} {ds : List D} (m : M) (e : pureL ms = .ret ds) (z : ds.length ≤ 1000) (h : M.pure (.tuple ds) = m) : (pureL ms >>= fun ds => if ds.length ≤ sizeLine then T.ret (M.pure (.tuple ds)) else .bad) = .ret m := by
  subst h
  exact dispE e z
theorem dispL {ms : List M} {ds : List D} (m : M) (e : pureL ms = .ret ds) (z : ds.length ≤ 1000) (h : M.lst ds = m) : (pureL ms >>= fun ds => if ds.length ≤ sizeLine then T.ret (M.lst ds) else .bad) = .ret m := by
  subst h
  exact dispE e z
theorem frzR {x : T M} {t : T α} {ev : α → D} (h : RE x t (pu ev)) : RE (x >>= frz) t (pu ev) := by
  have q := RR.bM (k := frz) (t' := T.ret) (R := fun m d => m = pu ev d) h fun a => RR.of (e := pu ev) rfl
  rw [T.bind_ret] at q
  exact q
theorem frzRl {x : T M} {t : T (List α)} {ev : α → D} (h : RE x t (ls ev)) : RE (x >>= frz) t (pu (eL ev)) := by
  have q := RR.bM (k := frz) (t' := T.ret) (R := fun m d => m = pu (eL ev) d) h fun a => RR.of (e := pu (eL ev)) rfl
  rw [T.bind_ret] at q
  exact q
theorem frzRll {x : T M} {t : T (List (List α))} {ev : α → D} (h : RE x t (l2 ev)) : RE (x >>= frz) t (pu (eL (eL ev))) := by
  have q := RR.bM (k := frz) (t' := T.ret) (R := fun m d => m = pu (eL (eL ev)) d) h fun a => RR.of (e := pu (eL (eL ev))) (frzL2 a)
  rw [T.bind_ret] at q
  exact q
theorem a1E {g : M → T M} {m r : M} (h : g m = .ret r) : arg1 g [m] = .ret r := h
theorem a1R {g : M → T M} {m : M} {t : T γ} {R : M → γ → Prop} (h : RR (g m) t R) : RR (arg1 g [m]) t R := h
theorem a2E {g : M → M → T M} {m n r : M} (h : g m n = .ret r) : arg2 g [m, n] = .ret r := h
theorem a2R {g : M → M → T M} {m n : M} {t : T γ} {R : M → γ → Prop} (h : RR (g m n) t R) : RR (arg2 g [m, n]) t R := h
theorem lcEM {tx : T (List β)} (ι : β → D) {S : β → DSt} {cb : β → Bool} {v : β → α} {ev : α → D} (hfi : RE (fi st) tx (List.map ι)) (hg : ∀ x, g (ι x) (wipeD st vs) = .ret (S x)) (hc : ∀ x, c (S x) = .ret (cb x)) (he : ∀ x, e (S x) = .ret (.pure (ev (v x)))) :
    RE (lcD vs fi g c e st) (tx >>= fun xs => T.ret ((xs.filter cb).map v)) (ls ev) := by
  unfold lcD
  refine RR.bM hfi fun xs => RR.of ?_
  rw [lcLoop_ret ι cb (fun x => ev (v x)) xs fun x _ => ⟨S x, hg x, hc x, fun _ => by rw [he x]; rfl⟩, T.ret_bind]
  simp [ls, Function.comp_def]
theorem lcEM1 {tx : T (List β)} (ι : β → D) {S : β → DSt} {v : β → α} {ev : α → D} (hfi : RE (fi st) tx (List.map ι)) (hg : ∀ x, g (ι x) (wipeD st vs) = .ret (S x)) (he : ∀ x, e (S x) = .ret (.pure (ev (v x)))) :
    RE (lcD vs fi g yesT e st) (tx >>= fun xs => T.ret (xs.map v)) (ls ev) := by
  unfold lcD
  refine RR.bM hfi fun xs => RR.of ?_
  rw [lcLoop_all ι (fun x => ev (v x)) xs fun x _ => ⟨S x, hg x, by rw [he x]; rfl⟩, T.ret_bind]
  simp [ls, Function.comp_def]
theorem lcLE1 {xs : List β} (ι : β → D) {S : β → DSt} {v : β → List α} {ev : α → D} (hfi : fi st = .ret (xs.map ι)) (hg : ∀ x, g (ι x) (wipeD st vs) = .ret (S x)) (he : ∀ x, e (S x) = .ret (ls ev (v x))) :
    lcL vs fi g yesT e st = .ret (l2 ev (xs.map v)) := by
  unfold lcL
  rw [hfi, T.ret_bind, lcLoop_all ι (fun x => (v x).map ev) xs fun x _ => ⟨S x, hg x, by rw [he x]; rfl⟩, T.ret_bind]
  simp [l2, Function.comp_def]
theorem lcLEM1 {tx : T (List β)} (ι : β → D) {S : β → DSt} {v : β → List α} {ev : α → D} (hfi : RE (fi st) tx (List.map ι)) (hg : ∀ x, g (ι x) (wipeD st vs) = .ret (S x)) (he : ∀ x, e (S x) = .ret (ls ev (v x))) :
    RE (lcL vs fi g yesT e st) (tx >>= fun xs => T.ret (xs.map v)) (l2 ev) := by
  unfold lcL
  refine RR.bM hfi fun xs => RR.of ?_
  rw [lcLoop_all ι (fun x => (v x).map ev) xs fun x _ => ⟨S x, hg x, by rw [he x]; rfl⟩, T.ret_bind]
  simp [l2, Function.comp_def]
theorem lcLMP {xs : List β} (ι : β → D) {S : β → DSt} {tc : β → T Bool} {tv : β → T (List α)} {ev : α → D} (hfi : fi st = .ret (xs.map ι)) (hg : ∀ x, g (ι x) (wipeD st vs) = .ret (S x)) (hc : ∀ x, RE (c (S x)) (tc x) id) (he : ∀ x, RE (e (S x)) (tv x) (ls ev)) :
    RE (lcL vs fi g c e st) (lcT xs tc tv) (l2 ev) := by
  unfold lcL
  refine RR.bP hfi ?_
  have q := RR.bM (k := fun r => T.ret (M.lst2 r)) (t' := T.ret) (lcLoop_R (e := fun s => e s >>= asL) ι hg hc (fun x => asL_R (he x)) xs) fun b => RR.of (e := l2 ev) rfl
  rw [T.bind_ret] at q
  exact q
theorem enumEE {m : M} {xs : List α} {ev : α → D} (h : f st = .ret m) (h2 : m.seqD = some (xs.map ev)) : enumE (consL f nilL) st = .ret ((enumI xs).map (e2 eI ev)) := by
  unfold enumE consL nilL
  rw [h]
  simp only [T.ret_bind]
  rw [h2]
  simp only [Option.map_some, T.ofO_some]
  rw [enumG]
theorem enumPE {m : M} {xs : List α} {ev : α → D} (h : f st = .ret m) (h2 : m.seqP = some (xs.map ev)) : enumP (consL f nilL) st = .ret ((enumI xs).map (e2 eI ev)) := by
  unfold enumP consL nilL
  rw [h]
  simp only [T.ret_bind]
  rw [h2]
  simp only [Option.map_some, T.ofO_some]
  rw [enumG]
theorem enumEM {em : List α → M} {t : T (List α)} {ev : α → D} (h : RE (f st) t em) (h2 : ∀ xs, (em xs).seqD = some (xs.map ev)) : RE (enumE (consL f nilL) st) (t >>= fun xs => T.ret (enumI xs)) (List.map (e2 eI ev)) := by
  have q : enumE (consL f nilL) st = f st >>= fun m => T.ofO (m.seqD.map enumL) := by
    unfold enumE consL nilL
    rw [T.bind_assoc]
    rfl
  rw [q]
  refine RR.bM h fun xs => RR.of ?_
  rw [h2]
  simp only [Option.map_some, T.ofO_some]
  rw [enumG]
theorem enumPM {em : List α → M} {t : T (List α)} {ev : α → D} (h : RE (f st) t em) (h2 : ∀ xs, (em xs).seqP = some (xs.map ev)) : RE (enumP (consL f nilL) st) (t >>= fun xs => T.ret (enumI xs)) (List.map (e2 eI ev)) := by
  have q : enumP (consL f nilL) st = f st >>= fun m => T.ofO (m.seqP.map enumL) := by
    unfold enumP consL nilL
    rw [T.bind_assoc]
    rfl
  rw [q]
  refine RR.bM h fun xs => RR.of ?_
  rw [h2]
  simp only [Option.map_some, T.ofO_some]
  rw [enumG]
theorem zipEE {m n : M} {xs : List α} {ys : List β} {ea : α → D} {eb : β → D} (h : fa st = .ret m) (h' : fb st = .ret n) (h2 : m.seqD = some (xs.map ea)) (h3 : n.seqD = some (ys.map eb)) : zipE (consL fa (consL fb nilL)) st = .ret ((xs.zip ys).map (e2 ea eb)) := by
  unfold zipE consL nilL
  rw [h, h']
  simp only [T.ret_bind]
  rw [h2, h3]
  simp only
  rw [zipG]
theorem zipPE {m n : M} {xs : List α} {ys : List β} {ea : α → D} {eb : β → D} (h : fa st = .ret m) (h' : fb st = .ret n) (h2 : m.seqP = some (xs.map ea)) (h3 : n.seqP = some (ys.map eb)) : zipP (consL fa (consL fb nilL)) st = .ret ((xs.zip ys).map (e2 ea eb)) := by
  unfold zipP consL nilL
  rw [h, h']
  simp only [T.ret_bind]
  rw [h2, h3]
  simp only
  rw [zipG]
end
end L2.Zy
namespace L2.Zy
open PySem PyProof.Rows PySem.Spec
/-! ## reckoning with typed programs -/
@[irreducible] def T.wp {α : Type} (t : T α) (P : α → Prop) : Prop := t.all P
section
variable {α β γ σ τ ρ : Type}
theorem wp_iff {t : T α} {P : α → Prop} : t.wp P ↔ t.all P := by unfold T.wp; exact Iff.rfl
theorem wp_ret {a : α} {P : α → Prop} : (T.ret a).wp P ↔ P a := by rw [wp_iff]; exact Iff.rfl
theorem wp_bind {t : T α} {f : α → T β} {P : β → Prop} : (t >>= f).wp P ↔ t.wp fun a => (f a).wp P := by
  simp only [wp_iff]
  exact T.all_bind
theorem wp_mono {t : T α} {P Q : α → Prop} (h : t.wp P) (f : ∀ a, P a → Q a) : t.wp Q := by
  rw [wp_iff] at *
  exact T.all_mono h f
theorem wp_eq {t : T α} {a : α} {P : α → Prop} (h : t = .ret a) (p : P a) : t.wp P := by
  subst h
  exact wp_ret.mpr p
/-- a call's value, then the rest -/
theorem wp_step {t : T α} {f : α → T β} {P : β → Prop} {a : α} (h : t = .ret a) (p : (f a).wp P) : (t >>= f).wp P := by
  subst h
  exact p
theorem wp_next {t : T α} {f : α → T β} {P : β → Prop} (Q : α → Prop) (h : t.wp Q) (p : ∀ a, Q a → (f a).wp P) : (t >>= f).wp P := wp_bind.mpr (wp_mono h p)
theorem wp_ite {t u : T α} {c : Bool} {P : α → Prop} (h1 : c = true → t.wp P) (h2 : c = false → u.wp P) : (if c = true then t else u).wp P := by
  cases c with
  | true => exact h1 rfl
  | false => exact h2 rfl
theorem drawT_wp {n : Int} {P : Int → Prop} (h0 : 0 < n) (h1 : n < 16777216) (h : ∀ i, 0 ≤ i → i < n → P i) : (drawT n).wp P := by
  rw [wp_iff]
  unfold drawT
  rw [if_pos h1]
  exact ⟨h0, h⟩
theorem drawTJ_wp {n : Int} {P : Int → Prop} (h1 : n < 16777216) (h0 : n < 2 → P 0) (h : ∀ i, 0 ≤ i → i < n → P i) : (drawTJ n).wp P := by
  rw [wp_iff]
  unfold drawTJ
  by_cases h2 : n < 2
  · rw [if_pos h2]; exact h0 h2
  · rw [if_neg h2, if_pos h1]
    exact ⟨by omega, h⟩
/-! ### sources -/
theorem rangeT_ok {n : Int} (h : n ≤ 16777216) (h2 : -16777216 ≤ n) : rangeT n = .ret (rangeI n) := by
  unfold rangeT
  rw [if_pos ⟨h2, h⟩]
theorem rangeT2_ok {a b : Int} (h1 : -16777216 ≤ a) (h2 : a ≤ 16777216) (h3 : -16777216 ≤ b) (h4 : b ≤ 16777216) (h5 : b - a ≤ 16777216) : rangeT2 a b = .ret (rangeI2 a b) := by
  unfold rangeT2
  rw [if_pos ⟨h1, h2, h3, h4, h5⟩]
theorem mem_rangeI {n x : Int} : x ∈ rangeI n ↔ 0 ≤ x ∧ x < n := by
  unfold rangeI
  rw [List.mem_map]
  constructor
  · rintro ⟨i, h, rfl⟩
    have := List.mem_range.mp h
    omega
  · rintro ⟨h1, h2⟩
    exact ⟨x.toNat, List.mem_range.mpr (by omega), by omega⟩
theorem mem_rangeI2 {a b x : Int} : x ∈ rangeI2 a b ↔ a ≤ x ∧ x < b := by
  unfold rangeI2
  rw [List.mem_map]
  constructor
  · rintro ⟨i, h, rfl⟩
    have := List.mem_range.mp h
    omega
  · rintro ⟨h1, h2⟩
    exact ⟨(x - a).toNat, List.mem_range.mpr (by omega), by omega⟩
theorem length_rangeI (n : Int) : (rangeI n).length = n.toNat := by simp [rangeI]
theorem length_rangeI2 (a b : Int) : (rangeI2 a b).length = (b - a).toNat := by simp [rangeI2]
theorem rangeI_get {n : Int} {k : Nat} (h : k < n.toNat) : (rangeI n)[k]? = some (k : Int) := by
  unfold rangeI
  rw [List.getElem?_map, List.getElem?_range h]
  rfl
theorem rangeI_sorted (n : Int) : (rangeI n).Pairwise (· < ·) := by
  unfold rangeI
  rw [List.pairwise_map]
  exact List.pairwise_lt_range.imp fun h => by omega
theorem rangeI2_sorted (a b : Int) : (rangeI2 a b).Pairwise (· < ·) := by
  unfold rangeI2
  rw [List.pairwise_map]
  exact List.pairwise_lt_range.imp fun h => by omega
theorem rangeI_nodup (n : Int) : (rangeI n).Nodup := (rangeI_sorted n).imp fun h => by omega
theorem rangeI2_nodup (a b : Int) : (rangeI2 a b).Nodup := (rangeI2_sorted a b).imp fun h => by omega
/-- what is ahead of an item of a range -/
theorem rangeI_split {n x : Int} {d r : List Int} (h : rangeI n = d ++ x :: r) : 0 ≤ x ∧ x < n ∧ (d.length : Int) = x ∧ d = rangeI x := by
  have hl : d.length < n.toNat := by
    have := congrArg List.length h
    simp [length_rangeI] at this
    omega
  have hx : x = (d.length : Int) := by
    have h1 : (rangeI n)[d.length]? = some x := by rw [h, List.getElem?_append_right (Nat.le_refl _)]; simp
    rw [rangeI_get hl] at h1
    exact (Option.some.inj h1).symm
  refine ⟨by omega, by omega, hx.symm, ?_⟩
  have h2 : (rangeI n).take d.length = d := by rw [h]; simp
  rw [← h2]
  unfold rangeI
  rw [← List.map_take, List.take_range]
  congr 2
  omega
theorem rangeI2_split {a b x : Int} {d r : List Int} (h : rangeI2 a b = d ++ x :: r) : a ≤ x ∧ x < b ∧ (d.length : Int) = x - a := by
  have hl : d.length < (b - a).toNat := by
    have := congrArg List.length h
    simp [length_rangeI2] at this
    omega
  have hx : x = a + (d.length : Int) := by
    have h1 : (rangeI2 a b)[d.length]? = some x := by rw [h, List.getElem?_append_right (Nat.le_refl _)]; simp
    unfold rangeI2 at h1
    rw [List.getElem?_map, List.getElem?_range hl] at h1
    exact (Option.some.inj h1).symm
  omega
theorem rangeI_succ {n : Int} (h : 0 ≤ n) : rangeI (n + 1) = rangeI n ++ [n] := by
  unfold rangeI
  have e : (n + 1).toNat = n.toNat + 1 := by omega
  rw [e, List.range_succ, List.map_append]
  congr 1
  simp
  omega
theorem rangeI_zero : rangeI 0 = [] := rfl
/-! ### items -/
theorem ixN_nn {n : Nat} {i : Int} (h : 0 ≤ i) (h2 : i < n) : ixN n i = some i.toNat := by
  unfold ixN
  rw [if_pos h, if_pos h2]
theorem getI_ok {xs : List α} {i : Int} {a : α} (h : 0 ≤ i) (h2 : xs[i.toNat]? = some a) : getI xs i = .ret a := by
  have hl : i.toNat < xs.length := by
    rcases Nat.lt_or_ge i.toNat xs.length with q | q
    · exact q
    · rw [List.getElem?_eq_none q] at h2; cases h2
  unfold getI atI
  rw [ixN_nn h (by omega)]
  simp [h2]
theorem getI_range {n i : Int} {f : Int → α} (h : 0 ≤ i) (h2 : i < n) : getI ((rangeI n).map f) i = .ret (f i) := by
  refine getI_ok h ?_
  rw [List.getElem?_map, rangeI_get (by omega)]
  simp
  congr 1
  omega
theorem getI_getD {xs : List α} {i : Int} (d : α) (h : 0 ≤ i) (h2 : i < xs.length) : getI xs i = .ret (xs.getD i.toNat d) := by
  refine getI_ok h ?_
  rw [List.getElem?_eq_getElem (by omega)]
  simp [List.getD_eq_getElem?_getD, List.getElem?_eq_getElem (show i.toNat < xs.length by omega)]
theorem size_mil : (16000000 : Nat) ≤ sizeLine := by rw [sizeLine_eq]; decide
theorem appT_ok {xs : List α} {x : α} (h : xs.length < 16000000) : appT xs x = .ret (xs ++ [x]) := by
  unfold appT
  rw [if_pos (Nat.lt_of_lt_of_le h size_mil)]
theorem catT_ok {xs ys : List α} (h : xs.length + ys.length ≤ 16000000) : catT xs ys = .ret (xs ++ ys) := by
  unfold catT
  rw [if_pos (Nat.le_trans h size_mil)]
theorem repT_ok {xs : List α} {k : Int} (h0 : 0 ≤ k) (h1 : k < 2 ^ 62) (h : xs.length * k.toNat ≤ 16000000) : repT xs k = .ret (List.replicate k.toNat xs).flatten := by
  unfold repT
  rw [if_pos ⟨by omega, by omega, Nat.le_trans h size_mil⟩]
theorem mulT_small {i j : Int} (h : j.natAbs < 2 ^ 64) : mulT i j = .ret (i * j) := by
  unfold mulT mulOk
  rw [if_pos (decide_eq_true (.inr (.inl h)))]
theorem mulT_smallL {i j : Int} (h : i.natAbs < 2 ^ 64) : mulT i j = .ret (i * j) := by
  unfold mulT mulOk
  rw [if_pos (decide_eq_true (.inl h))]
theorem modT_ok {i j : Int} (h : 0 < j) : modT i j = .ret (i % j) := by unfold modT; rw [if_pos h]
theorem reprT_ok {e : α → D} {a : α} (h : showOk (e a)) : reprT e a = .ret (e a).shown := by unfold reprT; rw [if_pos h]
/-! ### comprehensions -/
theorem lcT_ret {c : β → T Bool} {f : β → T α} (cb : β → Bool) (v : β → α) : ∀ {xs : List β}, (∀ x ∈ xs, c x = .ret (cb x)) → (∀ x ∈ xs, cb x = true → f x = .ret (v x)) → lcT xs c f = .ret ((xs.filter cb).map v)
  | [], _, _ => rfl
  | x :: xs, hc, hf => by
    have ih := lcT_ret (c := c) (f := f) cb v (xs := xs) (fun y hy => hc y (List.mem_cons_of_mem _ hy)) fun y hy => hf y (List.mem_cons_of_mem _ hy)
    unfold lcT
    rw [hc x List.mem_cons_self, T.ret_bind]
    cases q : cb x with
    | true => rw [if_pos rfl, hf x List.mem_cons_self q, T.ret_bind, ih, T.ret_bind, List.filter_cons_of_pos q]; rfl
    | false => rw [if_neg Bool.false_ne_true, ih, List.filter_cons_of_neg (by simp [q])]
theorem lcT_map {f : β → T α} (v : β → α) {xs : List β} (hf : ∀ x ∈ xs, f x = .ret (v x)) : lcT xs (fun _ => T.ret true) f = .ret (xs.map v) := by
  rw [lcT_ret (fun _ => true) v (fun _ _ => rfl) fun x hx _ => hf x hx, List.filter_eq_self.mpr (by simp)]
/-- some of the items, with draws -/
theorem lcT_wp {c : β → T Bool} {f : β → T α} (v : β → α) : ∀ {xs : List β} {P : List α → Prop}, (∀ x ∈ xs, (c x).wp fun _ => True) → (∀ x ∈ xs, f x = .ret (v x)) → (∀ ys : List β, ys.Sublist xs → P (ys.map v)) → (lcT xs c f).wp P
  | [], P, _, _, h => wp_ret.mpr (h [] (List.Sublist.refl _))
  | x :: xs, P, hc, hf, h => by
    unfold lcT
    have hc' := fun y hy => hc y (List.mem_cons_of_mem _ hy)
    have hf' := fun y hy => hf y (List.mem_cons_of_mem _ hy)
    refine wp_next _ (hc x List.mem_cons_self) fun b _ => ?_
    refine wp_ite (fun _ => ?_) fun _ => ?_
    · refine wp_step (hf x List.mem_cons_self) ?_
      rw [wp_bind]
      exact lcT_wp v hc' hf' fun ys hy => wp_ret.mpr (h (x :: ys) (hy.cons₂ x))
    · exact lcT_wp v hc' hf' fun ys hy => h ys (hy.cons x)
inductive All2 (Q : β → α → Prop) : List β → List α → Prop
  | nil : All2 Q [] []
  | cons {x : β} {y : α} {xs : List β} {ys : List α} : Q x y → All2 Q xs ys → All2 Q (x :: xs) (y :: ys)
/-- each item drawn -/
theorem lcT_all {f : β → T α} (Q : β → α → Prop) : ∀ {xs : List β} {P : List α → Prop}, (∀ x ∈ xs, (f x).wp (Q x)) → (∀ ys : List α, All2 Q xs ys → P ys) → (lcT xs (fun _ => T.ret true) f).wp P
  | [], P, _, h => wp_ret.mpr (h [] .nil)
  | x :: xs, P, hf, h => by
    unfold lcT
    refine wp_step rfl ?_
    rw [if_pos rfl]
    refine wp_next _ (hf x List.mem_cons_self) fun a ha => ?_
    rw [wp_bind]
    exact lcT_all Q (fun y hy => hf y (List.mem_cons_of_mem _ hy)) fun ys hy => wp_ret.mpr (h (a :: ys) (.cons ha hy))
/-! ### loops -/
theorem forT_cons (x : β) (xs : List β) (s : σ) (f : σ → β → T σ) : forT (x :: xs) s f = f s x >>= fun s' => forT xs s' f := rfl
/-- the state told by what is done -/
theorem forT_pre {body : σ → β → T σ} (S : List β → σ) : ∀ (xs done : List β), (∀ d x r, done ++ xs = d ++ x :: r → body (S d) x = .ret (S (d ++ [x]))) → forT xs (S done) body = .ret (S (done ++ xs))
  | [], done, _ => by rw [List.append_nil]; rfl
  | x :: xs, done, h => by
    rw [forT_cons, h done x xs rfl, T.ret_bind]
    have ih := forT_pre S xs (done ++ [x]) fun d y r e => h d y r (by rw [← e, List.append_assoc]; rfl)
    rw [List.append_assoc] at ih
    exact ih
theorem forT_at {body : σ → β → T σ} (S : List β → σ) {xs : List β} {s0 : σ} (h0 : s0 = S []) (h : ∀ d x r, xs = d ++ x :: r → body (S d) x = .ret (S (d ++ [x]))) : forT xs s0 body = .ret (S xs) := by
  subst h0
  exact forT_pre S xs [] h
theorem forT_fold {body : σ → β → T σ} (g : σ → β → σ) (Inv : σ → Prop) : ∀ (xs : List β) (s : σ), Inv s → (∀ s x, x ∈ xs → Inv s → body s x = .ret (g s x) ∧ Inv (g s x)) → forT xs s body = .ret (xs.foldl g s) ∧ Inv (xs.foldl g s)
  | [], s, hs, _ => ⟨rfl, hs⟩
  | x :: xs, s, hs, h => by
    obtain ⟨h1, h2⟩ := h s x List.mem_cons_self hs
    rw [forT_cons, h1, T.ret_bind]
    exact forT_fold g Inv xs (g s x) h2 fun s y hy => h s y (List.mem_cons_of_mem _ hy)
theorem forT_wp {body : σ → β → T σ} {P : σ → Prop} (Inv : List β → σ → Prop) : ∀ (xs done : List β) (s : σ), Inv done s → (∀ d x r s, done ++ xs = d ++ x :: r → Inv d s → (body s x).wp (Inv (d ++ [x]))) → (∀ s, Inv (done ++ xs) s → P s) → (forT xs s body).wp P
  | [], done, s, hs, _, hP => wp_ret.mpr (hP s (by rw [List.append_nil]; exact hs))
  | x :: xs, done, s, hs, h, hP => by
    rw [forT_cons]
    refine wp_next _ (h done x xs s rfl hs) fun s' hs' => ?_
    exact forT_wp Inv xs (done ++ [x]) s' hs' (fun d y r s e => h d y r s (by rw [← e, List.append_assoc]; rfl)) (by rw [List.append_assoc]; exact hP)
theorem forT_wp0 {body : σ → β → T σ} {P : σ → Prop} {xs : List β} {s0 : σ} (Inv : List β → σ → Prop) (h0 : Inv [] s0) (h : ∀ d x r s, xs = d ++ x :: r → Inv d s → (body s x).wp (Inv (d ++ [x]))) (hP : ∀ s, Inv xs s → P s) : (forT xs s0 body).wp P := forT_wp Inv xs [] s0 h0 h hP
theorem forX_cons (x : β) (xs : List β) (s : σ) (f : σ → β → T (Stp ρ σ τ)) (fin : σ → τ) : forX (x :: xs) s f fin = f s x >>= fun z => match z with
    | .nx s' => forX xs s' f fin
    | .bk u => .ret (.inr u)
    | .rt r => .ret (.inl r) := rfl
/-- what a turn leads to -/
def StpI (Inv : σ → Prop) (P : ρ ⊕ τ → Prop) : Stp ρ σ τ → Prop
  | .nx s => Inv s
  | .bk u => P (.inr u)
  | .rt r => P (.inl r)
theorem forX_wp {body : σ → β → T (Stp ρ σ τ)} {fin : σ → τ} {P : ρ ⊕ τ → Prop} (Inv : List β → σ → Prop) : ∀ (xs done : List β) (s : σ), Inv done s → (∀ d x r s, done ++ xs = d ++ x :: r → Inv d s → (body s x).wp (StpI (Inv (d ++ [x])) P)) →
    (∀ s, Inv (done ++ xs) s → P (.inr (fin s))) → (forX xs s body fin).wp P
  | [], done, s, hs, _, hP => wp_ret.mpr (hP s (by rw [List.append_nil]; exact hs))
  | x :: xs, done, s, hs, h, hP => by
    rw [forX_cons]
    refine wp_next _ (h done x xs s rfl hs) fun z hz => ?_
    cases z with
    | nx s' => exact forX_wp Inv xs (done ++ [x]) s' hz (fun d y r s e => h d y r s (by rw [← e, List.append_assoc]; rfl)) (by rw [List.append_assoc]; exact hP)
    | bk u => exact wp_ret.mpr hz
    | rt r => exact wp_ret.mpr hz
theorem forX_wp0 {body : σ → β → T (Stp ρ σ τ)} {fin : σ → τ} {P : ρ ⊕ τ → Prop} {xs : List β} {s0 : σ} (Inv : List β → σ → Prop) (h0 : Inv [] s0) (h : ∀ d x r s, xs = d ++ x :: r → Inv d s → (body s x).wp (StpI (Inv (d ++ [x])) P)) (hP : ∀ s, Inv xs s → P (.inr (fin s))) : (forX xs s0 body fin).wp P := forX_wp Inv xs [] s0 h0 h hP
/-- without draws: the first that ends the loop, or all -/
theorem forX_pre {body : σ → β → T (Stp ρ σ τ)} {fin : σ → τ} (S : List β → σ) : ∀ (xs done : List β), (∀ d x r, done ++ xs = d ++ x :: r → body (S d) x = .ret (.nx (S (d ++ [x])))) → forX xs (S done) body fin = .ret (.inr (fin (S (done ++ xs))))
  | [], done, _ => by rw [List.append_nil]; rfl
  | x :: xs, done, h => by
    rw [forX_cons, h done x xs rfl, T.ret_bind]
    have ih := forX_pre (fin := fin) S xs (done ++ [x]) fun d y r e => h d y r (by rw [← e, List.append_assoc]; rfl)
    rw [List.append_assoc] at ih
    exact ih
theorem sumK_inr {f : ρ → T γ} {g : τ → T γ} (u : τ) : sumK f g (.inr u) = g u := rfl
theorem sumK_inl {f : ρ → T γ} {g : τ → T γ} (u : ρ) : sumK f g (.inl u) = f u := rfl
theorem andK_t (t : T Bool) : andK true t = t := rfl
theorem andK_f (t : T Bool) : andK false t = .ret false := rfl
theorem orK_t (t : T Bool) : orK true t = .ret true := rfl
theorem orK_f (t : T Bool) : orK false t = t := rfl
theorem andK_ret (a b : Bool) : andK a (.ret b) = .ret (a && b) := by cases a <;> rfl
theorem orK_ret (a b : Bool) : orK a (.ret b) = .ret (a || b) := by cases a <;> rfl
end
/-! ### sums -/
section
variable {β γ : Type}
theorem isum_add (f g : β → Int) : ∀ xs : List β, (xs.map fun x => f x + g x).sum = (xs.map f).sum + (xs.map g).sum
  | [] => rfl
  | x :: xs => by
    have := isum_add f g xs
    simp only [List.map_cons, List.sum_cons]
    omega
theorem isum_zero : ∀ xs : List β, (xs.map fun _ => (0 : Int)).sum = 0
  | [] => rfl
  | x :: xs => by
    have := isum_zero xs
    simp only [List.map_cons, List.sum_cons]
    omega
theorem isum_mul (c : Int) (f : β → Int) : ∀ xs : List β, (xs.map fun x => c * f x).sum = c * (xs.map f).sum
  | [] => (Int.mul_zero c).symm
  | x :: xs => by
    have := isum_mul c f xs
    simp only [List.map_cons, List.sum_cons]
    rw [this, Int.mul_add]
theorem isum_mul_r (c : Int) (f : β → Int) : ∀ xs : List β, (xs.map fun x => f x * c).sum = (xs.map f).sum * c
  | [] => (Int.zero_mul c).symm
  | x :: xs => by
    have := isum_mul_r c f xs
    simp only [List.map_cons, List.sum_cons]
    rw [this, Int.add_mul]
theorem isum_comm (f : β → γ → Int) (ys : List γ) : ∀ xs : List β, (xs.map fun x => (ys.map fun y => f x y).sum).sum = (ys.map fun y => (xs.map fun x => f x y).sum).sum
  | [] => (isum_zero ys).symm
  | x :: xs => by
    have := isum_comm f ys xs
    simp only [List.map_cons, List.sum_cons]
    rw [this, isum_add]
theorem isum_congr {f g : β → Int} : ∀ {xs : List β}, (∀ x ∈ xs, f x = g x) → (xs.map f).sum = (xs.map g).sum
  | [], _ => rfl
  | x :: xs, h => by
    simp only [List.map_cons, List.sum_cons]
    rw [h x List.mem_cons_self, isum_congr fun y hy => h y (List.mem_cons_of_mem _ hy)]
theorem isum_filter (p : β → Bool) (f : β → Int) : ∀ xs : List β, ((xs.filter p).map f).sum = (xs.map fun x => if p x = true then f x else 0).sum
  | [] => rfl
  | x :: xs => by
    have := isum_filter p f xs
    cases h : p x with
    | true =>
      rw [List.filter_cons_of_pos h]
      simp only [List.map_cons, List.sum_cons, h, if_true]
      rw [this]
    | false =>
      rw [List.filter_cons_of_neg (by simp [h])]
      simp only [List.map_cons, List.sum_cons, h]
      rw [this]
      simp
theorem isum_one [DecidableEq β] (a : β) (f : β → Int) : ∀ {xs : List β}, xs.Nodup → a ∈ xs → (xs.map fun x => if x = a then f x else 0).sum = f a
  | [], _, h => nomatch h
  | x :: xs, hn, h => by
    have hn' := List.nodup_cons.mp hn
    simp only [List.map_cons, List.sum_cons]
    by_cases e : x = a
    · subst e
      rw [if_pos rfl]
      have : (xs.map fun y => if y = x then f y else 0).sum = (xs.map fun _ => (0 : Int)).sum := isum_congr fun y hy => by
        have q : ¬ y = x := by
          rintro rfl
          exact hn'.1 hy
        rw [if_neg q]
      rw [this, isum_zero]
      omega
    · rw [if_neg e, isum_one a f hn'.2 ((List.mem_cons.mp h).resolve_left (Ne.symm e))]
      omega
theorem isum_none [DecidableEq β] (a : β) (f : β → Int) {xs : List β} (h : a ∉ xs) : (xs.map fun x => if x = a then f x else 0).sum = 0 := by
  have : (xs.map fun y => if y = a then f y else 0).sum = (xs.map fun _ => (0 : Int)).sum := isum_congr fun y hy => by
    have q : ¬ y = a := by
      rintro rfl
      exact h hy
    rw [if_neg q]
  rw [this, isum_zero]
theorem isum_flat (f : β → List γ) (g : γ → Int) : ∀ xs : List β, ((xs.flatMap f).map g).sum = (xs.map fun x => ((f x).map g).sum).sum
  | [] => rfl
  | x :: xs => by
    have := isum_flat f g xs
    rw [List.flatMap_cons, List.map_append, List.sum_append, List.map_cons, List.sum_cons, this]
theorem isum_ones : ∀ xs : List β, (xs.map fun _ => (1 : Int)).sum = (xs.length : Int)
  | [] => rfl
  | x :: xs => by
    have := isum_ones xs
    simp only [List.map_cons, List.sum_cons, List.length_cons]
    omega
theorem isum_le {f : β → Int} {c : Int} : ∀ {xs : List β}, (∀ x ∈ xs, f x ≤ c) → (xs.map f).sum ≤ (xs.length : Int) * c
  | [], _ => by simp
  | x :: xs, h => by
    have h1 := h x List.mem_cons_self
    have h2 := isum_le (c := c) fun y hy => h y (List.mem_cons_of_mem _ hy)
    simp only [List.map_cons, List.sum_cons, List.length_cons]
    rw [Int.natCast_add, Int.add_mul]
    omega
theorem isum_nonneg {f : β → Int} : ∀ {xs : List β}, (∀ x ∈ xs, 0 ≤ f x) → 0 ≤ (xs.map f).sum
  | [], _ => by simp
  | x :: xs, h => by
    have h1 := h x List.mem_cons_self
    have h2 := isum_nonneg fun y hy => h y (List.mem_cons_of_mem _ hy)
    simp only [List.map_cons, List.sum_cons]
    omega
end
/-! ### the end of a law -/
theorem lawM_of {kn : PotKeys} {i : Nat} {f1 : DSt → T M} {b : Sm} {st st' : DSt} {t : T Bool} {gs is : List Int} (he : f1 st = .ret (.npot kn gs is)) (hok : OkPot kn gs is) (hs : st.set i (some .pot) = st') (hr : RR (b st') t (TopR (pu eB))) (h : t.wp fun r => r = true) : lawM kn i f1 b st := by
  unfold lawM
  rw [he]
  refine ⟨gs, is, rfl, hok, ?_⟩
  rw [hs]
  rw [wp_iff] at h
  refine T.all_mono (hr.out _ h) fun y ⟨r, w, e⟩ => ?_
  subst e
  obtain ⟨f, st2⟩ := y
  rcases w with w | ⟨_, w⟩
  · simp only at w
    subst w
    rfl
  · cases w
end L2.Zy
namespace L2.Zy
open PySem PyProof.Rows PySem.Spec
section
variable {A B α β γ δ σ τ ρ : Type}
/-! ## one kind as another -/
structure DecE (e : α → D) (f : D → Option α) : Prop where
  out : ∀ d a, f d = some a → d = e a
  back : ∀ a, f (e a) = some a
def dcI : D → Option Int
  | .int i => some i
  | _ => none
def dcB : D → Option Bool
  | .bool i => some i
  | _ => none
def dcS : D → Option Str
  | .str i => some i
  | _ => none
def dcT : D → Option (List D)
  | .tuple ds => some ds
  | _ => none
def dcQ : D → Option (List D)
  | .list ds => some ds
  | _ => none
def mapO (f : δ → Option α) : List δ → Option (List α)
  | [] => some []
  | d :: ds => match f d, mapO f ds with
    | some a, some as => some (a :: as)
    | _, _ => none
def dcV (f : D → Option α) (d : D) : Option (List α) := (dcT d).bind (mapO f)
def dcL (f : D → Option α) (d : D) : Option (List α) := (dcQ d).bind (mapO f)
def dc2 (f : D → Option α) (g : D → Option β) : D → Option (α × β)
  | .tuple [a, b] => match f a, g b with
    | some a, some b => some (a, b)
    | _, _ => none
  | _ => none
def dc3 (f : D → Option α) (g : D → Option β) (h : D → Option γ) : D → Option (α × β × γ)
  | .tuple [a, b, c] => match f a, g b, h c with
    | some a, some b, some c => some (a, b, c)
    | _, _, _ => none
  | _ => none
theorem mapO_out {e : α → D} {f : D → Option α} (h : DecE e f) : ∀ (ds : List D) (as : List α), mapO f ds = some as → ds = as.map e
  | [], as, q => by
    cases q
    rfl
  | d :: ds, as, q => by
    unfold mapO at q
    split at q
    · rename_i a as' h1 h2
      cases q
      rw [h.out d a h1, mapO_out h ds as' h2]
      rfl
    · cases q
theorem mapO_back {e : α → D} {f : D → Option α} (h : DecE e f) : ∀ as : List α, mapO f (as.map e) = some as
  | [] => rfl
  | a :: as => by
    show (match f (e a), mapO f (as.map e) with | some a, some as => some (a :: as) | _, _ => none) = _
    rw [h.back, mapO_back h as]
theorem deD : DecE eD some := ⟨fun d a h => by cases h; rfl, fun _ => rfl⟩
theorem deI : DecE eI dcI := ⟨fun d a h => by cases d <;> cases h; rfl, fun _ => rfl⟩
theorem deB : DecE eB dcB := ⟨fun d a h => by cases d <;> cases h; rfl, fun _ => rfl⟩
theorem deS : DecE eS dcS := ⟨fun d a h => by cases d <;> cases h; rfl, fun _ => rfl⟩
theorem deV {e : α → D} {f : D → Option α} (h : DecE e f) : DecE (eV e) (dcV f) where
  out d a q := by
    cases d <;> first | cases q | (show PyData.tuple _ = _; rw [mapO_out h _ _ q]; rfl)
  back a := mapO_back h a
theorem deL {e : α → D} {f : D → Option α} (h : DecE e f) : DecE (eL e) (dcL f) where
  out d a q := by
    cases d <;> first | cases q | (show PyData.list _ = _; rw [mapO_out h _ _ q]; rfl)
  back a := mapO_back h a
theorem de2 {e : α → D} {f : D → Option α} {e' : β → D} {f' : D → Option β} (h : DecE e f) (h' : DecE e' f') : DecE (e2 e e') (dc2 f f') where
  out d a q := by
    unfold dc2 at q
    split at q
    · split at q
      · rename_i h1 h2
        cases q
        rw [h.out _ _ h1, h'.out _ _ h2]
        rfl
      · cases q
    · cases q
  back a := by
    show (match f (e a.1), f' (e' a.2) with | some a, some b => some (a, b) | _, _ => none) = _
    rw [h.back, h'.back]
theorem de3 {e : α → D} {f : D → Option α} {e' : β → D} {f' : D → Option β} {e'' : γ → D} {f'' : D → Option γ} (h : DecE e f) (h' : DecE e' f') (h'' : DecE e'' f'') : DecE (e3 e e' e'') (dc3 f f' f'') where
  out d a q := by
    unfold dc3 at q
    split at q
    · split at q
      · rename_i h1 h2 h3
        cases q
        rw [h.out _ _ h1, h'.out _ _ h2, h''.out _ _ h3]
        rfl
      · cases q
    · cases q
  back a := by
    show (match f (e a.1), f' (e' a.2.1), f'' (e'' a.2.2) with | some a, some b, some c => some (a, b, c) | _, _, _ => none) = _
    rw [h.back, h'.back, h''.back]
/-- a value of one kind as one of another, if it is one -/
def castT (f : γ → Option α) (c : γ) : T α := T.ofO (f c)
theorem castP {x : T M} {c : γ} {e : γ → D} {e' : α → D} {f : γ → Option α} (h : x = .ret (pu e c)) (hf : ∀ c a, f c = some a → e c = e' a) : RE x (castT f c) (pu e') := by
  unfold castT
  cases q : f c with
  | none => exact RR.bad
  | some a =>
    rw [h]
    unfold pu
    rw [hf c a q]
    exact RR.of rfl
theorem castM {x : T M} {t : T γ} {e : γ → D} {e' : α → D} {f : γ → Option α} (h : RE x t (pu e)) (hf : ∀ c a, f c = some a → e c = e' a) : RE x (t >>= fun c => castT f c) (pu e') := by
  have q := RR.bM (k := T.ret) (t' := fun c => castT f c) (R := fun m d => m = pu e' d) h fun c => castP rfl hf
  rw [T.bind_ret] at q
  exact q
/-- always -/
theorem coP {x : T M} {c : γ} {e : γ → D} {e' : α → D} (g : γ → α) (h : x = .ret (pu e c)) (hg : ∀ c, e c = e' (g c)) : x = .ret (pu e' (g c)) := by rw [h]; unfold pu; rw [hg]
theorem coM {x : T M} {t : T γ} {e : γ → D} {e' : α → D} (g : γ → α) (h : RE x t (pu e)) (hg : ∀ c, e c = e' (g c)) : RE x (t >>= fun c => T.ret (g c)) (pu e') := by
  have q := RR.bM (k := T.ret) (t' := fun c => T.ret (g c)) (R := fun m d => m = pu e' d) h fun c => RR.of (e := pu e') (by unfold pu; rw [hg])
  rw [T.bind_ret] at q
  exact q
theorem coLP {x : T M} {c : List γ} {e : γ → D} {e' : α → D} (g : γ → α) (h : x = .ret (ls e c)) (hg : ∀ c, e c = e' (g c)) : x = .ret (ls e' (c.map g)) := by
  rw [h]
  unfold ls
  rw [List.map_map]
  congr 2
  exact List.map_congr_left fun a _ => hg a
theorem coLM {x : T M} {t : T (List γ)} {e : γ → D} {e' : α → D} (g : γ → α) (h : RE x t (ls e)) (hg : ∀ c, e c = e' (g c)) : RE x (t >>= fun c => T.ret (c.map g)) (ls e') := by
  have q := RR.bM (k := T.ret) (t' := fun c => T.ret (c.map g)) (R := fun m d => m = ls e' d) h fun c => RR.of (e := ls e') (by
    unfold ls
    rw [List.map_map]
    congr 2
    exact List.map_congr_left fun a _ => hg a)
  rw [T.bind_ret] at q
  exact q
theorem mapV {e : γ → D} {e' : α → D} {g : γ → α} (hg : ∀ c, e c = e' (g c)) (xs : List γ) : eV e xs = eV e' (xs.map g) := by
  unfold eV
  rw [List.map_map]
  congr 1
  exact List.map_congr_left fun a _ => hg a
theorem mapL {e : γ → D} {e' : α → D} {g : γ → α} (hg : ∀ c, e c = e' (g c)) (xs : List γ) : eL e xs = eL e' (xs.map g) := by
  unfold eL
  rw [List.map_map]
  congr 1
  exact List.map_congr_left fun a _ => hg a
def noD : D → Bool
  | .none => true
  | _ => false
theorem isND (d : D) : isM (pu eD d) (.pure .none) = .ret (pu eB (noD d)) := by cases d <;> rfl
theorem isnND (d : D) : isnM (pu eD d) (.pure .none) = .ret (pu eB (!noD d)) := by cases d <;> rfl
theorem getO {e : α → D} : ∀ (c : Option α) (a : α), id c = some a → eO e c = e a := fun c a h => by
  cases h
  rfl
/-! ## isinstance -/
def isT (c : Cl) (d : D) : T Bool := .ret (isD c d)
theorem isiG {c : Cl} (d : D) : RE (isiM c (pu eD d)) (isT c d) (pu eB) := by
  exact RR.of rfl
/-! ## a < b < c -/
theorem chainE {g1 g2 : M → M → T M} {fa fb fc : DSt → T M} {st : DSt} {x y z : M} {p q : Bool} (ha : fa st = .ret x) (hb : fb st = .ret y) (h1 : g1 x y = .ret (pu eB p)) (hc : fc st = .ret z) (h2 : g2 y z = .ret (pu eB q)) : chainV g1 g2 fa fb fc st = .ret (pu eB (p && q)) := by
  unfold chainV
  rw [ha, T.ret_bind, hb, T.ret_bind, h1, T.ret_bind]
  show (if p = true then _ else _) = _
  cases p with
  | true => rw [if_pos rfl, hc, T.ret_bind]; exact h2
  | false => rw [if_neg (by simp)]; rfl
theorem chainR {g1 g2 : M → M → T M} {fa fb fc : DSt → T M} {st : DSt} {ta : T α} {tb : T β} {tc : T γ} {ea : α → M} {eb : β → M} {ec : γ → M} {p : α → β → Bool} {q : β → γ → Bool} (ha : RE (fa st) ta ea) (hb : RE (fb st) tb eb) (h1 : ∀ a b, g1 (ea a) (eb b) = .ret (pu eB (p a b))) (hc : RE (fc st) tc ec) (h2 : ∀ b c, g2 (eb b) (ec c) = .ret (pu eB (q b c))) :
    RE (chainV g1 g2 fa fb fc st) (ta >>= fun a => tb >>= fun b => if p a b = true then tc >>= fun c => .ret (q b c) else .ret false) (pu eB) := by
  refine RR.bM ha fun a => RR.bM hb fun b => RR.bP (h1 a b) ?_
  show RR (if p a b = true then _ else _) _ _
  cases p a b with
  | true => exact RR.bM hc fun c => RR.of (h2 b c)
  | false => exact RR.of rfl
/-! ## four at once -/
theorem uPar4 {st : DSt} {s2 : Sm} {i j : Nat} {R : Fw × DSt → γ → Prop} {t : T γ} {l r : Nat} {fa fb fc fd : DSt → T M} (h : RR (fa st >>= fun m => fb st >>= fun n => fc st >>= fun o => fd st >>= fun p => s2 ((((st.set i (some m)).set j (some n)).set l (some o)).set r (some p))) t R) : RR (seqS (par4 i j l r fa fb fc fd) s2 st) t R := by
  have e : seqS (par4 i j l r fa fb fc fd) s2 st = fa st >>= fun m => fb st >>= fun n => fc st >>= fun o => fd st >>= fun p => s2 ((((st.set i (some m)).set j (some n)).set l (some o)).set r (some p)) := by
    unfold seqS par4
    rw [T.bind_assoc]
    congr 1
    funext m
    rw [T.bind_assoc]
    congr 1
    funext n
    rw [T.bind_assoc]
    congr 1
    funext o
    rw [T.bind_assoc]
    rfl
  rw [e]
  exact h
/-! ## slices -/
theorem cutEV {fa : DSt → T M} {st : DSt} {m : M} {e : α → D} {xs : List α} (h : m = pu (eV e) xs) (lo hi : Option Int) : cutM m lo hi = .ret (pu (eV e) (cutI xs lo hi)) := by
  rw [h]
  exact cutV' xs lo hi
/-! ## while -/
def iterT (c : σ → T Bool) (b : σ → T σ) : Nat → σ → T σ
  | 0, _ => .bad
  | n + 1, s => c s >>= fun k => if k = true then b s >>= iterT c b n else .ret s
open Classical in
noncomputable def whlT (c : σ → T Bool) (b : σ → T σ) (s : σ) : T σ := if h : ∃ n, (iterT c b n s).all fun _ => True then iterT c b h.choose s else .bad
theorem T.all_and {t : T α} : ∀ {P Q : α → Prop}, t.all P → t.all Q → t.all fun a => P a ∧ Q a := by
  induction t with
  | ret a => exact fun h1 h2 => ⟨h1, h2⟩
  | bad => exact fun h1 _ => h1.elim
  | draw n k ih => exact fun h1 h2 => ⟨h1.1, fun i a b => ih i (h1.2 i a b) (h2.2 i a b)⟩
  | nat k ih => exact fun h1 h2 i a => ih i (h1 i a) (h2 i a)
theorem iterT_up {c : σ → T Bool} {b : σ → T σ} {P : σ → Prop} : ∀ (n : Nat) (s : σ), (iterT c b n s).all P → (iterT c b (n + 1) s).all P
  | 0, s, h => h.elim
  | n + 1, s, h => by
    have h := T.bind_all h
    refine T.all_bind.mpr (T.all_mono h fun k q => ?_)
    cases k with
    | false => exact q
    | true => exact T.all_bind.mpr (T.all_mono (T.bind_all q) fun s' q => iterT_up n s' q)
theorem iterT_le {c : σ → T Bool} {b : σ → T σ} {P : σ → Prop} {n m : Nat} {s : σ} (h : n ≤ m) (q : (iterT c b n s).all P) : (iterT c b m s).all P := by
  induction h with
  | refl => exact q
  | step _ ih => exact iterT_up _ _ ih
theorem iterT_dn {c : σ → T Bool} {b : σ → T σ} {P : σ → Prop} : ∀ (n : Nat) (s : σ), (iterT c b n s).all (fun _ => True) → (iterT c b (n + 1) s).all P → (iterT c b n s).all P
  | 0, s, h, _ => h.elim
  | n + 1, s, h, q => by
    refine T.all_bind.mpr (T.all_mono (T.all_and (T.bind_all h) (T.bind_all q)) fun k ⟨h, q⟩ => ?_)
    cases k with
    | false => exact q
    | true => exact T.all_bind.mpr (T.all_mono (T.all_and (T.bind_all h) (T.bind_all q)) fun s' ⟨h, q⟩ => iterT_dn n s' h q)
theorem iterT_any {c : σ → T Bool} {b : σ → T σ} {P : σ → Prop} {n m : Nat} {s : σ} (h : (iterT c b n s).all fun _ => True) (q : (iterT c b m s).all P) : (iterT c b n s).all P := by
  have key : ∀ k, (iterT c b (n + k) s).all P → (iterT c b n s).all P := by
    intro k
    induction k with
    | zero => exact id
    | succ k ih => exact fun q => ih (iterT_dn _ _ (iterT_le (by omega) h) q)
  exact key m (iterT_le (by omega) q)
theorem whlT_get {c : σ → T Bool} {b : σ → T σ} {P : σ → Prop} {s : σ} (h : (whlT c b s).all P) : ∃ n, (iterT c b n s).all P := by
  unfold whlT at h
  split at h
  · exact ⟨_, h⟩
  · exact h.elim
theorem whlT_of {c : σ → T Bool} {b : σ → T σ} {P : σ → Prop} {s : σ} {n : Nat} (h : (iterT c b n s).all P) : (whlT c b s).all P := by
  unfold whlT
  have ex : ∃ n, (iterT c b n s).all fun _ => True := ⟨n, T.all_mono h fun _ _ => trivial⟩
  rw [dif_pos ex]
  exact iterT_any ex.choose_spec h
theorem iterW_up {c : DSt → T Bool} {b : Sm} {P : Fw × DSt → Prop} : ∀ (n : Nat) (s : DSt), (iterW c b n s).all P → (iterW c b (n + 1) s).all P
  | 0, s, h => h.elim
  | n + 1, s, h => by
    have h := T.bind_all h
    refine T.all_bind.mpr (T.all_mono h fun k q => ?_)
    cases k with
    | false => exact q
    | true =>
      refine T.all_bind.mpr (T.all_mono (T.bind_all q) fun y q => ?_)
      obtain ⟨f, s'⟩ := y
      cases f with
      | nx => exact iterW_up n s' q
      | ct => exact iterW_up n s' q
      | bk => exact q
      | rt m => exact q
theorem iterW_le {c : DSt → T Bool} {b : Sm} {P : Fw × DSt → Prop} {n m : Nat} {s : DSt} (h : n ≤ m) (q : (iterW c b n s).all P) : (iterW c b m s).all P := by
  induction h with
  | refl => exact q
  | step _ ih => exact iterW_up _ _ ih
theorem iterW_dn {c : DSt → T Bool} {b : Sm} {P : Fw × DSt → Prop} : ∀ (n : Nat) (s : DSt), (iterW c b n s).all (fun _ => True) → (iterW c b (n + 1) s).all P → (iterW c b n s).all P
  | 0, s, h, _ => h.elim
  | n + 1, s, h, q => by
    refine T.all_bind.mpr (T.all_mono (T.all_and (T.bind_all h) (T.bind_all q)) fun k ⟨h, q⟩ => ?_)
    cases k with
    | false => exact q
    | true =>
      refine T.all_bind.mpr (T.all_mono (T.all_and (T.bind_all h) (T.bind_all q)) fun y ⟨h, q⟩ => ?_)
      obtain ⟨f, s'⟩ := y
      cases f with
      | nx => exact iterW_dn n s' h q
      | ct => exact iterW_dn n s' h q
      | bk => exact q
      | rt m => exact q
theorem iterW_any {c : DSt → T Bool} {b : Sm} {P : Fw × DSt → Prop} {n m : Nat} {s : DSt} (h : (iterW c b n s).all fun _ => True) (q : (iterW c b m s).all P) : (iterW c b n s).all P := by
  have key : ∀ k, (iterW c b (n + k) s).all P → (iterW c b n s).all P := by
    intro k
    induction k with
    | zero => exact id
    | succ k ih => exact fun q => ih (iterW_dn _ _ (iterW_le (by omega) h) q)
  exact key m (iterW_le (by omega) q)
theorem whlS_of {c : DSt → T Bool} {b : Sm} {P : Fw × DSt → Prop} {s : DSt} {n : Nat} (h : (iterW c b n s).all P) : (whlS c b s).all P := by
  unfold whlS
  have ex : ∃ n, (iterW c b n s).all fun _ => True := ⟨n, T.all_mono h fun _ _ => trivial⟩
  rw [dif_pos ex]
  exact iterW_any ex.choose_spec h
theorem iter_R {c : DSt → T Bool} {b : Sm} {S : σ → DSt} {tc : σ → T Bool} {tb : σ → T σ} (hc : ∀ s, RE (c (S s)) (tc s) id) (hb : ∀ s, RR (b (S s)) (tb s) fun y s' => (y.1 = .nx ∨ y.1 = .ct) ∧ y.2 = S s') :
    ∀ (n : Nat) (s : σ), RR (iterW c b n (S s)) (iterT tc tb n s) fun y s' => y.1 = .nx ∧ y.2 = S s'
  | 0, s => RR.bad
  | n + 1, s => RR.bM (e := id) (hc s) fun k => by
    cases k with
    | false => exact RR.ret rfl ⟨rfl, rfl⟩
    | true =>
      refine RR.bR (hb s) fun y s' ⟨h, e⟩ => ?_
      obtain ⟨f, st'⟩ := y
      simp only at e
      subst e
      rcases h with h | h <;> (simp only at h; subst h; exact iter_R hc hb n s')
theorem sWhl {c : DSt → T Bool} {b s2 : Sm} {st : DSt} {R : Fw × DSt → γ → Prop} {S : σ → DSt} {tc : σ → T Bool} {tb : σ → T σ} {s0 : σ} {t' : σ → T γ} (hw : st = S s0) (hc : ∀ s, RE (c (S s)) (tc s) id) (hb : ∀ s, RR (b (S s)) (tb s) fun y s' => (y.1 = .nx ∨ y.1 = .ct) ∧ y.2 = S s')
    (h2 : ∀ s, RR (s2 (S s)) (t' s) R) : RR (seqS (whlS c b) s2 st) (whlT tc tb s0 >>= t') R := by
  refine sJoin (P := fun st s => st = S s) ?_ fun st s e => by subst e; exact h2 s
  subst hw
  refine ⟨fun Q q => ?_⟩
  obtain ⟨n, q⟩ := whlT_get q
  exact whlS_of ((iter_R hc hb n s0).out Q q)
/-- a loop that ends -/
theorem whlT_all {c : σ → T Bool} {b : σ → T σ} {P Inv : σ → Prop} (μ : σ → Nat) (h : ∀ s, Inv s → (c s).all fun k => if k = true then (b s).all fun s' => Inv s' ∧ μ s' < μ s else P s) {s : σ} (hs : Inv s) : (whlT c b s).all P := by
  have key : ∀ (n : Nat) (s : σ), Inv s → μ s < n → (iterT c b n s).all P := by
    intro n
    induction n with
    | zero => exact fun s _ h => absurd h (Nat.not_lt_zero _)
    | succ n ih =>
      intro s hs hn
      refine T.all_bind.mpr (T.all_mono (h s hs) fun k q => ?_)
      cases k with
      | false => exact q
      | true => exact T.all_bind.mpr (T.all_mono q fun s' ⟨h1, h2⟩ => ih s' h1 (by omega))
  exact whlT_of (key _ s hs (Nat.lt_succ_self _))
end
end L2.Zy
namespace L2.Zy
open PySem PyProof.Rows PySem.Spec
section
variable {α β γ δ σ τ ρ : Type} {st : DSt} {fa fb f g : DSt → T M}
/-! ## and, or, not as values -/
theorem vAnd {a b : Bool} (h : f st = .ret (pu eB a)) (h2 : g st = .ret (pu eB b)) : andV f g st = .ret (pu eB (a && b)) := by
  unfold andV
  rw [h, T.ret_bind]
  cases a
  · rfl
  · exact h2
theorem vOr {a b : Bool} (h : f st = .ret (pu eB a)) (h2 : g st = .ret (pu eB b)) : orV f g st = .ret (pu eB (a || b)) := by
  unfold orV
  rw [h, T.ret_bind]
  cases a
  · exact h2
  · rfl
theorem vNot {a : Bool} (h : f st = .ret (pu eB a)) : notV f st = .ret (pu eB (!a)) := by
  unfold notV
  rw [h, T.ret_bind]
  rfl
theorem uAnd {ta tb : T Bool} (h : RE (f st) ta (pu eB)) (h2 : RE (g st) tb (pu eB)) : RE (andV f g st) (ta >>= fun a => andK a tb) (pu eB) := RR.bM h fun a => by
  cases a
  · exact RR.of rfl
  · exact h2
theorem uOr {ta tb : T Bool} (h : RE (f st) ta (pu eB)) (h2 : RE (g st) tb (pu eB)) : RE (orV f g st) (ta >>= fun a => orK a tb) (pu eB) := RR.bM h fun a => by
  cases a
  · exact h2
  · exact RR.of rfl
theorem uNot {ta : T Bool} (h : RE (f st) ta (pu eB)) : RE (notV f st) (ta >>= fun a => .ret (!a)) (pu eB) := RR.bM h fun a => RR.of rfl
/-! ## slices with bounds -/
theorem cutVR {l u : DSt → T (Option Int)} {t : T (List α)} {e : α → D} {tl tu : T (Option Int)} (h : RE (f st) t (pu (eV e))) (hl : RE (l st) tl id) (hu : RE (u st) tu id) : RE (cutF f l u st) (t >>= fun xs => tl >>= fun lo => tu >>= fun hi => .ret (cutI xs lo hi)) (pu (eV e)) :=
  RR.bM h fun xs => RR.bM hl fun lo => RR.bM hu fun hi => RR.of (cutV' xs lo hi)
theorem cutVE {l u : DSt → T (Option Int)} {xs : List α} {e : α → D} {lo hi : Option Int} (h : f st = .ret (pu (eV e) xs)) (hl : l st = .ret lo) (hu : u st = .ret hi) : cutF f l u st = .ret (pu (eV e) (cutI xs lo hi)) := by
  unfold cutF
  rw [h, T.ret_bind, hl, T.ret_bind, hu, T.ret_bind]
  exact cutV' xs lo hi
theorem cutLR {l u : DSt → T (Option Int)} {t : T (List α)} {e : α → D} {em : List α → M} {tl tu : T (Option Int)} (h : RE (f st) t em) (hm : ∀ xs, (em xs).listD = some (xs.map e)) (hl : RE (l st) tl id) (hu : RE (u st) tu id) : RE (cutF f l u st) (t >>= fun xs => tl >>= fun lo => tu >>= fun hi => .ret (cutI xs lo hi)) (ls e) :=
  RR.bM h fun xs => RR.bM hl fun lo => RR.bM hu fun hi => RR.of (cutL (hm xs) lo hi)
theorem cutLE {l u : DSt → T (Option Int)} {xs : List α} {e : α → D} {m : M} {lo hi : Option Int} (h : f st = .ret m) (hm : m.listD = some (xs.map e)) (hl : l st = .ret lo) (hu : u st = .ret hi) : cutF f l u st = .ret (ls e (cutI xs lo hi)) := by
  unfold cutF
  rw [h, T.ret_bind, hl, T.ret_bind, hu, T.ret_bind]
  exact cutL hm lo hi
theorem noOE : noO st = .ret (none : Option Int) := rfl
theorem someOE {i : Int} (h : f st = .ret (pu eI i)) : someO f st = .ret (some i) := by
  unfold someO
  rw [h]
  rfl
theorem someOM {t : T Int} (h : RE (f st) t (pu eI)) : RE (someO f st) (t >>= fun i => .ret (some i)) id := RR.bM h fun i => RR.of rfl
theorem revAV {xs : List α} {e : α → D} : revA (pu (eV e) xs) = .ret (pu (eV e) xs.reverse) := by
  show T.ret (M.pure (.tuple (xs.map e).reverse)) = _
  rw [← List.map_reverse]
  rfl
theorem revAL {xs : List α} {e : α → D} {m : M} (h : m.listD = some (xs.map e)) : revA m = .ret (ls e xs.reverse) := by
  unfold revA
  split
  · cases h
  · rw [h]
    simp [ls]
/-! ## zip -/
theorem zipEM {ma : List α → M} {mb : List β → M} {ta : T (List α)} {tb : T (List β)} {ea : α → D} {eb : β → D} (h : RE (fa st) ta ma) (h' : RE (fb st) tb mb) (h2 : ∀ xs, (ma xs).seqD = some (xs.map ea)) (h3 : ∀ xs, (mb xs).seqD = some (xs.map eb)) : RE (L2.Zy.zipE (consL fa (consL fb nilL)) st) (ta >>= fun xs => tb >>= fun ys => T.ret (List.zip xs ys)) (List.map (e2 ea eb)) := by
  have q : L2.Zy.zipE (consL fa (consL fb nilL)) st = fa st >>= fun m => fb st >>= fun n => match m.seqD, n.seqD with
    | some xs, some ys => .ret (zipL xs ys)
    | _, _ => .bad := by
    unfold L2.Zy.zipE consL nilL
    rw [T.bind_assoc]
    congr 1
    funext m
    rw [T.bind_assoc, T.bind_assoc]
    rfl
  rw [q]
  refine RR.bM h fun xs => RR.bM h' fun ys => RR.of ?_
  rw [h2, h3]
  simp only
  rw [zipG]
theorem zipPM {ma : List α → M} {mb : List β → M} {ta : T (List α)} {tb : T (List β)} {ea : α → D} {eb : β → D} (h : RE (fa st) ta ma) (h' : RE (fb st) tb mb) (h2 : ∀ xs, (ma xs).seqP = some (xs.map ea)) (h3 : ∀ xs, (mb xs).seqP = some (xs.map eb)) : RE (L2.Zy.zipP (consL fa (consL fb nilL)) st) (ta >>= fun xs => tb >>= fun ys => T.ret (List.zip xs ys)) (List.map (e2 ea eb)) := by
  have q : L2.Zy.zipP (consL fa (consL fb nilL)) st = fa st >>= fun m => fb st >>= fun n => match m.seqP, n.seqP with
    | some xs, some ys => .ret (zipL xs ys)
    | _, _ => .bad := by
    unfold L2.Zy.zipP consL nilL
    rw [T.bind_assoc]
    congr 1
    funext m
    rw [T.bind_assoc, T.bind_assoc]
    rfl
  rw [q]
  refine RR.bM h fun xs => RR.bM h' fun ys => RR.of ?_
  rw [h2, h3]
  simp only
  rw [zipG]
/-! ## in order; str(i) -/
theorem leAI (a b : Int) : leA (pu eI a) (pu eI b) = .ret (pu eB (decide (a ≤ b))) := rfl
def le2I (p q : Int × Int) : Bool := if p.1 = q.1 then decide (p.2 ≤ q.2) else decide (p.1 ≤ q.1)
theorem leA2 (p q : Int × Int) : leA (pu (e2 eI eI) p) (pu (e2 eI eI) q) = .ret (pu eB (le2I p q)) := by
  have e : lexN [p.1, p.2] [q.1, q.2] = le2I p q := by
    unfold le2I lexN
    show (if decide (p.1 = q.1) = true then (if decide (p.2 = q.2) = true then decide (2 ≤ 2) else decide (p.2 ≤ q.2)) else decide (p.1 ≤ q.1)) = _
    by_cases h : p.1 = q.1
    · rw [if_pos (by simpa using h), if_pos h]
      by_cases h2 : p.2 = q.2
      · rw [if_pos (by simpa using h2), h2]
        simp
      · rw [if_neg (by simpa using h2)]
    · rw [if_neg (by simpa using h), if_neg h]
  show T.ret (M.pure (.bool (lexN [p.1, p.2] [q.1, q.2]))) = _
  rw [e]
def strT (i : Int) : T Str := if i.natAbs.log2 < 1920 then .ret (toString i) else .bad
theorem strG (i : Int) : RE (strM (pu eI i)) (strT i) (pu eS) := by
  unfold strT
  show RE (if i.natAbs.log2 < 1920 then _ else _) _ _
  split
  · exact RR.of rfl
  · exact RR.bad
theorem chain3R {g1 g2 g3 : M → M → T M} {fa fb fc fd : DSt → T M} {st : DSt} {ta : T α} {tb : T β} {tc : T γ} {td : T δ} {ea : α → M} {eb : β → M} {ec : γ → M} {ed : δ → M} {p : α → β → Bool} {q : β → γ → Bool} {r : γ → δ → Bool} (ha : RE (fa st) ta ea) (hb : RE (fb st) tb eb) (h1 : ∀ a b, g1 (ea a) (eb b) = .ret (pu eB (p a b))) (hc : RE (fc st) tc ec) (h2 : ∀ b c, g2 (eb b) (ec c) = .ret (pu eB (q b c))) (hd : RE (fd st) td ed) (h3 : ∀ c d, g3 (ec c) (ed d) = .ret (pu eB (r c d))) :
    RE (chainV3 g1 g2 g3 fa fb fc fd st) (ta >>= fun a => tb >>= fun b => if p a b = true then tc >>= fun c => if q b c = true then td >>= fun d => .ret (r c d) else .ret false else .ret false) (pu eB) := by
  refine RR.bM ha fun a => RR.bM hb fun b => RR.bP (h1 a b) ?_
  show RR (if p a b = true then _ else _) _ _
  cases p a b with
  | true =>
    refine RR.bM hc fun c => RR.bP (h2 b c) ?_
    show RR (if q b c = true then _ else _) _ _
    cases q b c with
    | true => exact RR.bM hd fun d => RR.of (h3 c d)
    | false => exact RR.of rfl
  | false => exact RR.of rfl
end
end L2.Zy
namespace L2.Zy
open PySem PyProof.Rows PySem.Spec
/-! ## stores, pops, while with ways out, ranges as values: typed -/
section
variable {α β γ σ ρ τ : Type} {st : DSt} {s2 : Sm} {R : Fw × DSt → γ → Prop} {e : α → D} {f fj fl fk : DSt → T M} {i j : Nat}
def setT (xs : List α) (j : Int) (a : α) : T (List α) := match ixN xs.length j with
  | some k => .ret (xs.set k a)
  | none => .bad
theorem sSetP {xs : List α} {jv : Int} {a : α} {st' : List α → DSt} {t' : List α → T γ} (hx : st[i]? = some (some (ls e xs))) (hj : fj st = .ret (pu eI jv)) (h : f st = .ret (pu e a)) (hs : ∀ ys, st.set i (some (ls e ys)) = st' ys) (h2 : ∀ ys, RR (s2 (st' ys)) (t' ys) R) :
    RR (seqS (setI i fj f) s2 st) (setT xs jv a >>= t') R := by
  refine sStM (e := st') ?_ h2
  unfold setI setT
  rw [h, T.ret_bind, asD_pure, T.ret_bind, hx]
  simp only
  rw [hj, T.ret_bind]
  simp only
  rw [List.length_map]
  cases ixN xs.length jv with
  | none => exact RR.bad
  | some k =>
    refine RR.of ?_
    rw [← hs]
    simp [ls, List.map_set]
theorem sSetM {xs : List α} {jv : Int} {t : T α} {st' : List α → DSt} {t' : List α → T γ} (hx : st[i]? = some (some (ls e xs))) (hj : fj st = .ret (pu eI jv)) (h : RE (f st) t (pu e)) (hs : ∀ ys, st.set i (some (ls e ys)) = st' ys) (h2 : ∀ ys, RR (s2 (st' ys)) (t' ys) R) :
    RR (seqS (setI i fj f) s2 st) (t >>= fun a => setT xs jv a >>= t') R := by
  have q : seqS (setI i fj f) s2 st = f st >>= fun m => seqS (setI i fj fun _ => .ret m) s2 st := by
    unfold seqS setI
    rw [T.bind_assoc]
    rfl
  rw [q]
  exact RR.bM h fun a => sSetP hx hj rfl hs h2
def setRT (xss : List (List α)) (j k : Int) (a : α) : T (List (List α)) := match ixN xss.length j with
  | some l => match xss[l]? with
    | some r => match ixN r.length k with
      | some m => .ret (xss.set l (r.set m a))
      | none => .bad
    | none => .bad
  | none => .bad
theorem sSetRP {xss : List (List α)} {jv kv : Int} {a : α} {st' : List (List α) → DSt} {t' : List (List α) → T γ} (hx : st[i]? = some (some (l2 e xss))) (hj : fj st = .ret (pu eI jv)) (hk : fl st = .ret (pu eI kv)) (h : f st = .ret (pu e a)) (hs : ∀ ys, st.set i (some (l2 e ys)) = st' ys) (h2 : ∀ ys, RR (s2 (st' ys)) (t' ys) R) :
    RR (seqS (setR i fj fl f) s2 st) (setRT xss jv kv a >>= t') R := by
  refine sStM (e := st') ?_ h2
  unfold setR setRT
  rw [h, T.ret_bind, asD_pure, T.ret_bind, hx]
  simp only
  rw [hj, T.ret_bind]
  simp only
  rw [List.length_map]
  cases ixN xss.length jv with
  | none => exact RR.bad
  | some k =>
    simp only
    rw [List.getElem?_map]
    cases xss[k]? with
    | none => exact RR.bad
    | some r =>
      simp only [Option.map_some]
      rw [hk, T.ret_bind]
      simp only
      rw [List.length_map]
      cases ixN r.length kv with
      | none => exact RR.bad
      | some m =>
        refine RR.of ?_
        rw [← hs]
        simp [l2, List.map_set]
def popT (xs : List α) : T (List α × α) := match xs[xs.length - 1]? with
  | some a => .ret (xs.dropLast, a)
  | none => .bad
theorem sPopTo {xs : List α} {st' : List α → α → DSt} {t' : List α × α → T γ} (hx : st[i]? = some (some (ls e xs))) (hs : ∀ ys a, (st.set i (some (ls e ys))).set j (some (pu e a)) = st' ys a) (h2 : ∀ p : List α × α, RR (s2 (st' p.1 p.2)) (t' p) R) :
    RR (seqS (popTo i j) s2 st) (popT xs >>= t') R := by
  refine sStM (e := fun p : List α × α => st' p.1 p.2) ?_ h2
  unfold popTo popT
  rw [hx]
  simp only
  rw [List.length_map, List.getElem?_map]
  cases xs[xs.length - 1]? with
  | none => exact RR.bad
  | some a =>
    refine RR.of ?_
    rw [← hs]
    simp [ls]
theorem sPopG {g : D → DSt → T DSt} {xs : List α} {st' : List α → α → DSt} {t' : List α × α → T γ} (hx : st[i]? = some (some (ls e xs))) (hs : ∀ ys a, g (e a) (st.set i (some (ls e ys))) = .ret (st' ys a)) (h2 : ∀ p : List α × α, RR (s2 (st' p.1 p.2)) (t' p) R) :
    RR (seqS (popG i g) s2 st) (popT xs >>= t') R := by
  refine sStM (e := fun p : List α × α => st' p.1 p.2) ?_ h2
  unfold popG popT
  rw [hx]
  simp only
  rw [List.length_map, List.getElem?_map]
  cases xs[xs.length - 1]? with
  | none => exact RR.bad
  | some a =>
    have q := hs xs.dropLast a
    simp only [ls, List.map_dropLast] at q
    simp only [Option.map_some]
    rw [q]
    exact RR.of rfl
def appPopT (es xs : List α) (k : Int) : T (List α × List α) := if -(2 ^ 63) ≤ k ∧ k < 2 ^ 63 ∧ es.length < sizeLine then match seqIndex? k xs.length with
  | some l => match xs[l]? with
    | some a => .ret (es ++ [a], xs.eraseIdx l)
    | none => .bad
  | none => .bad
  else .bad
theorem map_erase {f : α → D} : ∀ (xs : List α) (l : Nat), (xs.eraseIdx l).map f = (xs.map f).eraseIdx l
  | [], _ => rfl
  | x :: xs, 0 => rfl
  | x :: xs, l + 1 => by
    show f x :: (xs.eraseIdx l).map f = f x :: (xs.map f).eraseIdx l
    rw [map_erase xs l]
theorem sAppPop {es xs : List α} {tk : T Int} {st' : List α × List α → DSt} {t' : List α × List α → T γ} (he : st[i]? = some (some (ls e es))) (hx : st[j]? = some (some (ls e xs))) (hk : RE (fk st) tk (pu eI)) (hs : ∀ ys zs, (st.set j (some (ls e zs))).set i (some (ls e ys)) = st' (ys, zs)) (h2 : ∀ p, RR (s2 (st' p)) (t' p) R) :
    RR (seqS (appPop i j fk) s2 st) (tk >>= fun k => appPopT es xs k >>= t') R := by
  have q : seqS (appPop i j fk) s2 st = fk st >>= fun m => seqS (appPop i j fun _ => .ret m) s2 st := by
    unfold seqS appPop
    rw [he, hx]
    simp only
    rw [T.bind_assoc]
    rfl
  rw [q]
  refine RR.bM hk fun k => ?_
  refine sStM (e := st') ?_ h2
  unfold appPop appPopT
  rw [he, hx]
  simp only
  rw [T.ret_bind]
  show RR (if -(2 ^ 63) ≤ k ∧ k < 2 ^ 63 ∧ (es.map e).length < sizeLine then _ else _) _ _
  rw [List.length_map]
  by_cases hz : -(2 ^ 63) ≤ k ∧ k < 2 ^ 63 ∧ es.length < sizeLine
  · rw [if_pos hz, if_pos hz, List.length_map]
    cases seqIndex? k xs.length with
    | none => exact RR.bad
    | some l =>
      simp only
      rw [List.getElem?_map]
      cases xs[l]? with
      | none => exact RR.bad
      | some a =>
        refine RR.of ?_
        rw [← hs]
        simp only [ls, map_erase, List.map_append, List.map_cons, List.map_nil]
        rfl
  · rw [if_neg hz, if_neg hz]
    exact RR.bad
/-! ### while, with ways out -/
def iterX (c : σ → T Bool) (b : σ → T (Stp ρ σ τ)) (fin : σ → τ) : Nat → σ → T (ρ ⊕ τ)
  | 0, _ => .bad
  | n + 1, s => c s >>= fun k => if k = true then b s >>= fun z => match z with
      | .nx s' => iterX c b fin n s'
      | .bk u => .ret (.inr u)
      | .rt r => .ret (.inl r)
    else .ret (.inr (fin s))
open Classical in
noncomputable def whlX (c : σ → T Bool) (b : σ → T (Stp ρ σ τ)) (fin : σ → τ) (s : σ) : T (ρ ⊕ τ) := if h : ∃ n, (iterX c b fin n s).all fun _ => True then iterX c b fin h.choose s else .bad
section
variable {c : σ → T Bool} {b : σ → T (Stp ρ σ τ)} {fin : σ → τ} {P : ρ ⊕ τ → Prop}
theorem iterX_up : ∀ (n : Nat) (s : σ), (iterX c b fin n s).all P → (iterX c b fin (n + 1) s).all P
  | 0, s, h => h.elim
  | n + 1, s, h => by
    have h := T.bind_all h
    refine T.all_bind.mpr (T.all_mono h fun k q => ?_)
    cases k with
    | false => exact q
    | true =>
      refine T.all_bind.mpr (T.all_mono (T.bind_all q) fun z q => ?_)
      cases z with
      | nx s' => exact iterX_up n s' q
      | bk u => exact q
      | rt r => exact q
theorem iterX_le {n m : Nat} {s : σ} (h : n ≤ m) (q : (iterX c b fin n s).all P) : (iterX c b fin m s).all P := by
  induction h with
  | refl => exact q
  | step _ ih => exact iterX_up _ _ ih
theorem iterX_dn : ∀ (n : Nat) (s : σ), (iterX c b fin n s).all (fun _ => True) → (iterX c b fin (n + 1) s).all P → (iterX c b fin n s).all P
  | 0, s, h, _ => h.elim
  | n + 1, s, h, q => by
    refine T.all_bind.mpr (T.all_mono (T.all_and (T.bind_all h) (T.bind_all q)) fun k ⟨h, q⟩ => ?_)
    cases k with
    | false => exact q
    | true =>
      refine T.all_bind.mpr (T.all_mono (T.all_and (T.bind_all h) (T.bind_all q)) fun z ⟨h, q⟩ => ?_)
      cases z with
      | nx s' => exact iterX_dn n s' h q
      | bk u => exact q
      | rt r => exact q
theorem iterX_any {n m : Nat} {s : σ} (h : (iterX c b fin n s).all fun _ => True) (q : (iterX c b fin m s).all P) : (iterX c b fin n s).all P := by
  have key : ∀ k, (iterX c b fin (n + k) s).all P → (iterX c b fin n s).all P := by
    intro k
    induction k with
    | zero => exact id
    | succ k ih => exact fun q => ih (iterX_dn _ _ (iterX_le (by omega) h) q)
  exact key m (iterX_le (by omega) q)
theorem whlX_get {s : σ} (h : (whlX c b fin s).all P) : ∃ n, (iterX c b fin n s).all P := by
  unfold whlX at h
  split at h
  · exact ⟨_, h⟩
  · exact h.elim
theorem whlX_of {s : σ} {n : Nat} (h : (iterX c b fin n s).all P) : (whlX c b fin s).all P := by
  unfold whlX
  have ex : ∃ n, (iterX c b fin n s).all fun _ => True := ⟨n, T.all_mono h fun _ _ => trivial⟩
  rw [dif_pos ex]
  exact iterX_any ex.choose_spec h
/-- a loop that ends -/
theorem whlX_all {Inv : σ → Prop} (μ : σ → Nat) (h : ∀ s, Inv s → (c s).all fun k => if k = true then (b s).all fun z => (match z with
    | .nx s' => Inv s' ∧ μ s' < μ s
    | .bk u => P (.inr u)
    | .rt r => P (.inl r)) else P (.inr (fin s))) {s : σ} (hs : Inv s) : (whlX c b fin s).all P := by
  have key : ∀ (n : Nat) (s : σ), Inv s → μ s < n → (iterX c b fin n s).all P := by
    intro n
    induction n with
    | zero => exact fun s _ h => absurd h (Nat.not_lt_zero _)
    | succ n ih =>
      intro s hs hn
      refine T.all_bind.mpr (T.all_mono (h s hs) fun k q => ?_)
      cases k with
      | false => exact q
      | true =>
        refine T.all_bind.mpr (T.all_mono q fun z q => ?_)
        cases z with
        | nx s' => exact ih s' q.1 (by have := q.2; omega)
        | bk u => exact q
        | rt r => exact q
  exact whlX_of (key _ s hs (Nat.lt_succ_self _))
end
theorem iterX_R {c : DSt → T Bool} {b : Sm} {S : σ → DSt} {P : DSt → τ → Prop} {Rr : Fw × DSt → ρ → Prop} {tc : σ → T Bool} {tb : σ → T (Stp ρ σ τ)} {fin : σ → τ} (hc : ∀ s, RE (c (S s)) (tc s) id) (hfin : ∀ s, P (S s) (fin s)) (hb : ∀ s, RR (b (S s)) (tb s) (StpR S P Rr)) :
    ∀ (n : Nat) (s : σ), RR (iterW c b n (S s)) (iterX tc tb fin n s) fun y z => match z with
      | .inl r => (∃ m, y.1 = .rt m) ∧ ∃ st, Rr (y.1, st) r
      | .inr u => y.1 = .nx ∧ P y.2 u
  | 0, s => RR.bad
  | n + 1, s => RR.bM (e := id) (hc s) fun k => by
    cases k with
    | false => exact RR.ret rfl ⟨rfl, hfin s⟩
    | true =>
      refine RR.bR (hb s) fun y z h => ?_
      obtain ⟨f, st'⟩ := y
      cases z with
      | nx s' =>
        obtain ⟨h, e⟩ := h
        simp only at e
        subst e
        rcases h with h | h <;> (simp only at h; subst h; exact iterX_R hc hfin hb n s')
      | bk u =>
        obtain ⟨h, e⟩ := h
        simp only at h
        subst h
        exact RR.ret rfl ⟨rfl, e⟩
      | rt r =>
        obtain ⟨⟨m, h⟩, e⟩ := h
        simp only at h
        subst h
        exact RR.ret rfl ⟨⟨m, rfl⟩, st', e⟩
theorem sWhlX {c : DSt → T Bool} {b : Sm} {S : σ → DSt} {P : DSt → τ → Prop} {Rr : Fw × DSt → ρ → Prop} {tc : σ → T Bool} {tb : σ → T (Stp ρ σ τ)} {fin : σ → τ} {s0 : σ} {t' : τ → T γ} {inj : ρ → γ} (hw : st = S s0) (hc : ∀ s, RE (c (S s)) (tc s) id) (hfin : ∀ s, P (S s) (fin s)) (hb : ∀ s, RR (b (S s)) (tb s) (StpR S P Rr))
    (hr : ∀ m st st' r, Rr (.rt m, st) r → R (.rt m, st') (inj r)) (h2 : ∀ st u, P st u → RR (s2 st) (t' u) R) : RR (seqS (whlS c b) s2 st) (whlX tc tb fin s0 >>= sumK (fun r => .ret (inj r)) t') R := by
  have q : RR (whlS c b st) (whlX tc tb fin s0) fun y z => match z with
      | .inl r => (∃ m, y.1 = .rt m) ∧ ∃ st, Rr (y.1, st) r
      | .inr u => y.1 = .nx ∧ P y.2 u := by
    subst hw
    refine ⟨fun Q q => ?_⟩
    obtain ⟨n, q⟩ := whlX_get q
    exact whlS_of ((iterX_R hc hfin hb n s0).out Q q)
  refine RR.bR q fun y z h => ?_
  obtain ⟨f, st'⟩ := y
  cases z with
  | inl r =>
    obtain ⟨⟨m, h⟩, st2, e⟩ := h
    simp only at h e
    subst h
    exact RR.ret rfl (hr m st2 st' r e)
  | inr u =>
    obtain ⟨h, e⟩ := h
    simp only at h
    subst h
    exact h2 st' u e
end
/-! ### ranges as values, range downwards, bool(n), {} -/
section
variable {γ : Type} {st : DSt} {fs : DSt → T (List M)} {t : T γ}
theorem uRgL {R : M → γ → Prop} (h : RR (fs st >>= fun ms => rgM ms >>= fun p => .ret (.lst (rangeL p.1 (p.2 - p.1).toNat))) t R) : RR (rgL fs st) t R := h
theorem uRgT {R : M → γ → Prop} (h : RR (fs st >>= fun ms => rgM ms >>= fun p => .ret (.pure (.tuple (rangeL p.1 (p.2 - p.1).toNat)))) t R) : RR (rgT fs st) t R := h
theorem rangeL_map (a : Int) (n : Nat) : rangeL a n = ((List.range n).map fun i => a + ((i : Nat) : Int)).map eI := by
  unfold rangeL
  rw [List.map_map]
  rfl
theorem rangeL_map0 (n : Nat) : rangeL 0 n = ((List.range n).map fun i => ((i : Nat) : Int)).map eI := by
  unfold rangeL
  rw [List.map_map]
  refine List.map_congr_left fun i _ => ?_
  simp [Function.comp]
theorem rgM1 (n : Int) : rgM [pu eI n] = if -16777216 ≤ n ∧ n ≤ 16777216 then .ret (0, n) else .bad := rfl
theorem rgM2 (a b : Int) : rgM [pu eI a, pu eI b] = if -16777216 ≤ a ∧ a ≤ 16777216 ∧ -16777216 ≤ b ∧ b ≤ 16777216 ∧ b - a ≤ 16777216 then .ret (a, b) else .bad := rfl
theorem rgLG (n : Int) : RE (rgM [pu eI n] >>= fun p => .ret (.lst (rangeL p.1 (p.2 - p.1).toNat))) (rangeT n) (ls eI) := by
  rw [rgM1]
  unfold rangeT
  split
  · refine RR.of ?_
    simp only [T.ret_bind, Int.sub_zero]
    rw [rangeL_map0]
    rfl
  · exact RR.bad
theorem rgTG (n : Int) : RE (rgM [pu eI n] >>= fun p => .ret (.pure (.tuple (rangeL p.1 (p.2 - p.1).toNat)))) (rangeT n) (pu (eV eI)) := by
  rw [rgM1]
  unfold rangeT
  split
  · refine RR.of ?_
    simp only [T.ret_bind, Int.sub_zero]
    rw [rangeL_map0]
    rfl
  · exact RR.bad
theorem rgLG2 (a b : Int) : RE (rgM [pu eI a, pu eI b] >>= fun p => .ret (.lst (rangeL p.1 (p.2 - p.1).toNat))) (rangeT2 a b) (ls eI) := by
  rw [rgM2]
  unfold rangeT2
  split
  · refine RR.of ?_
    simp only [T.ret_bind]
    rw [rangeL_map]
    rfl
  · exact RR.bad
theorem rgTG2 (a b : Int) : RE (rgM [pu eI a, pu eI b] >>= fun p => .ret (.pure (.tuple (rangeL p.1 (p.2 - p.1).toNat)))) (rangeT2 a b) (pu (eV eI)) := by
  rw [rgM2]
  unfold rangeT2
  split
  · refine RR.of ?_
    simp only [T.ret_bind]
    rw [rangeL_map]
    rfl
  · exact RR.bad
def rangeI3 (a b : Int) : List Int := (List.range (a - b).toNat).map fun (i : Nat) => a - (i : Int)
def rangeT3 (a b c : Int) : T (List Int) := if c = -1 ∧ -16777216 ≤ a ∧ a ≤ 16777216 ∧ -16777216 ≤ b ∧ b ≤ 16777216 ∧ a - b ≤ 16777216 then .ret (rangeI3 a b) else .bad
theorem range3G (a b c : Int) : RE (range3 [pu eI a, pu eI b, pu eI c]) (rangeT3 a b c) (List.map eI) := by
  unfold rangeT3
  show RE (if c = -1 ∧ -16777216 ≤ a ∧ a ≤ 16777216 ∧ -16777216 ≤ b ∧ b ≤ 16777216 ∧ a - b ≤ 16777216 then T.ret (rangeDn a (a - b).toNat) else .bad) _ _
  split
  · refine RR.of ?_
    congr 1
    unfold rangeDn rangeI3
    rw [List.map_map]
    refine List.map_congr_left fun i _ => ?_
    show PyData.int (a + ((i : Nat) : Int) * (-1)) = PyData.int (a - ((i : Nat) : Int))
    congr 1
    omega
  · exact RR.bad
theorem boolI (i : Int) : boolC (pu eI i) = .ret (pu eB (!decide (i = 0))) := rfl
theorem dct0E : un1 frz (fun _ => .ret (.dic [])) st = .ret (pu eD (.dict [])) := rfl
end
/-! ### a tuple so often -/
def repVT {α : Type} (xs : List α) (k : Int) : T (List α) := if xs.length ≠ 0 ∧ 2 ≤ k ∧ k ≤ 1000 ∧ xs.length ≤ 1000 then .ret (List.replicate k.toNat xs).flatten else .bad
theorem repVG {α : Type} {e : α → D} (xs : List α) (k : Int) : RE (mulM (pu (eV e) xs) (pu eI k)) (repVT xs k) (pu (eV e)) := by
  show RE (if xs.map e ≠ [] ∧ 2 ≤ k ∧ k ≤ 1000 ∧ (xs.map e).length ≤ 1000 then T.ret (M.pure (PyData.tuple (List.replicate k.toNat (xs.map e)).flatten)) else .bad) _ _
  unfold repVT
  by_cases h : xs.length ≠ 0 ∧ 2 ≤ k ∧ k ≤ 1000 ∧ xs.length ≤ 1000
  · rw [if_pos h, if_pos ⟨fun q => h.1 (by simpa using congrArg List.length q), h.2.1, h.2.2.1, by rw [List.length_map]; exact h.2.2.2⟩]
    refine RR.of ?_
    rw [rep_map]
    rfl
  · rw [if_neg h]
    exact RR.bad
end L2.Zy
namespace L2.Zy
open PySem PyProof.Rows PySem.Spec
/-! ## the decks -/
theorem npOf_at {KN : PotKeys} {i : Nat} {st : DSt} {gs is : List Int} (h : st[i]? = some (some (.npot KN gs is))) (hl : is.length = KN.ks.length) : npOf KN i st = some (gs, is) := by
  unfold npOf
  rw [h]
  simp only
  rw [if_pos (by simp [hl])]
theorem cut_intsG (ns : List Int) (lo hi : Option Int) : ∃ ms : List Int, cutD (ns.map PyData.int) lo hi = ms.map PyData.int ∧ ms.length ≤ ns.length ∧ ms.length ≤ (match hi with | some h => h.toNat | none => ns.length) + (if hi.any (· < 0) then ns.length else 0) := by
  refine ⟨(ns.drop (HT.sIx (ns.map PyData.int).length 0 lo)).take (HT.sIx (ns.map PyData.int).length (ns.map PyData.int).length hi - HT.sIx (ns.map PyData.int).length 0 lo), ?_, ?_, ?_⟩
  · unfold cutD
    rw [← List.map_drop, ← List.map_take]
  · rw [List.length_take, List.length_drop]
    omega
  · rw [List.length_take, List.length_drop]
    cases hi with
    | none => simp only; omega
    | some h =>
      by_cases q : h < 0
      · simp [q]
        omega
      · simp [q]
        have : HT.sIx ns.length ns.length (some h) ≤ h.toNat := by
          have e : h = ((h.toNat : Nat) : Int) := by omega
          rw [e, HT.sIx_nat]
          omega
        omega
def absI' (x : Int) : Int := if x < 0 then -x else x
theorem absI_nn (x : Int) : 0 ≤ absI' x := by
  unfold absI'
  split <;> omega
def deckG (gs : List Int) (x : Int) : List Int := if 10 ^ 18 ≤ absI' x then absI' x :: gs else gs
def deckS (s x : Int) : Int := ((s + (2 * absI' x + (if x < 0 then 1 else 0)) + 1) * 1181783497276652981 + 521288629) % 2305843009213693951
theorem deckG_len : ∀ (xs gs : List Int), (xs.foldl deckG gs).length ≤ gs.length + xs.length
  | [], gs => Nat.le_refl _
  | x :: xs, gs => by
    have h := deckG_len xs (deckG gs x)
    have : (deckG gs x).length ≤ gs.length + 1 := by
      unfold deckG
      split <;> simp
    simp only [List.foldl_cons, List.length_cons]
    omega
theorem deckG_nn : ∀ (xs gs : List Int), (∀ i ∈ gs, 0 ≤ i) → ∀ i ∈ xs.foldl deckG gs, 0 ≤ i
  | [], gs, h => h
  | x :: xs, gs, h => deckG_nn xs (deckG gs x) (by
    unfold deckG
    split
    · intro i hi
      rcases List.mem_cons.mp hi with rfl | hi
      · exact absI_nn x
      · exact h i hi
    · exact h)
theorem deckS_nn : ∀ (xs : List Int) (s : Int), 0 ≤ s → 0 ≤ xs.foldl deckS s
  | [], _, h => h
  | x :: xs, s, _ => deckS_nn xs _ (Int.emod_nonneg _ (by decide))
def deckB : Sm := (seqS (asgS 2 (npot2 ⟨"deep", ["state"], false⟩ (lstD nilL) (bin addM (bin addM (kM (.int 362436069)) (bin mulM (nm 1) (kM (.int 7919)))) (callG (arg1 lenM) (consL (cutF (nm 0) noO (someO (kM (.int 63)))) nilL)))))
    (seqS (killS [1, 3, 4] (forS (itemsP (un1 frz (cutF (nm 0) noO (someO (kM (.int 63)))))) [0, 1, 3, 4] (setD 3)
    (seqS (iteS (fun st => bin geM (callG (arg1 absM) (consL (nm 3) nilL)) (bin powM (kM (.int 10)) (kM (.int 18))) st >>= boolM)
    (npPutL ⟨"deep", ["state"], false⟩ 2 (bin addM (lstD (consL (callG (arg1 absM) (consL (nm 3) nilL)) nilL)) (npLst ⟨"deep", ["state"], false⟩ 2)))
    skS)
    (killS [0, 1, 4] (seqS (asgS 4 (un1 frz (bin addM (bin mulM (kM (.int 2)) (callG (arg1 absM) (consL (nm 3) nilL))) (callG (arg1 intM) (consL (bin ltM (nm 3) (kM (.int 0))) nilL)))))
    (seqS (npPut ⟨"deep", ["state"], false⟩ 2 0 (bin modM (callG (arg1 intM) (consL (bin addM (bin mulM (bin addM (bin addM (npGet ⟨"deep", ["state"], false⟩ 2 0) (nm 4)) (kM (.int 1))) (kM (.int 1181783497276652981))) (kM (.int 521288629))) nilL)) (kM (.int 2305843009213693951))))
    (killS [0, 1, 3, 4] skS)))))))
    (killS [0, 1, 3, 4] (retS (nm 2)))))
abbrev knDeck : PotKeys := ⟨"deep", ["state"], false⟩
theorem addM_lsts (xs ys : List D) (h : xs.length + ys.length ≤ 16000000) : addM (.lst xs) (.lst ys) = .ret (.lst (xs ++ ys)) := by
  show catL (.lst xs) (.lst ys) = _
  unfold catL
  simp only [listD_lst]
  rw [if_pos (Nat.le_trans h size_mil)]
theorem run_deckG (ns : List Int) (seed : Int) (hl : ns.length ≤ 63) (hs : 0 ≤ seed) : ∃ gs s, bodyD 5 deckB [.pure (.list (ns.map PyData.int)), .pure (.int seed)] = .ret (.npot knDeck gs [s]) ∧ OkPot knDeck gs [s] := by
  obtain ⟨ms, hcut, hms, _⟩ := cut_intsG ns none (some 63)
  have hc : cutM (.pure (.list (ns.map PyData.int))) none (some 63) = .ret (.lst (ms.map PyData.int)) := by
    rw [← hcut]
    rfl
  have hlenM : lenM (.lst (ms.map PyData.int)) = .ret (.pure (.int (ms.length : Int))) := by
    rw [lenM_lst, List.length_map]
  refine ⟨ms.foldl deckG [], ms.foldl deckS (362436069 + seed * 7919 + (ms.length : Int)), ?_, deckG_nn ms [] (fun _ h => nomatch h), ?_, rfl, ?_⟩
  · unfold deckB bodyD
    simp [seqS, retS, asgS, drpS, iteS, skS, killS, frzS, frzI, frz_lst, frz_pure, frz_pot, frz_lst2, bin, un1, callG, arg1, arg2, consL, nilL, kM, tupD, lstD, pureL, itemsE, itemsP, seqD_list, seqD_tuple, seqD_lst, seqP_list, seqP_tuple, listD_list, listD_lst, toD_pure, toD_lst, toD_lst2, setD, unpD, consG, nilG, asD_pure, asL_lst, T.ofO, callD, allPP, isPP_pure, isPP_pot, nm_at, nmP_at, nmP_pot, addM_ii, addM_ib, subM_ii, intM_i, intM_b, bodyD, par2, iteM, orT, andT, notT, boolM_b, truM_b, ltM_ii, gtM_ii, leM_ii, geM_ii, min2M_n, max2M_n, andT, wipeD, eqM_ii, neM_ii, T.bind_assoc, npot2, cutF, noO, someO, hc, asG, asI, intsOf, hlenM]
    rw [mulM_ir (by decide)]
    simp [seqS, retS, asgS, drpS, iteS, skS, killS, frzS, frzI, frz_lst, frz_pure, frz_pot, frz_lst2, bin, un1, callG, arg1, arg2, consL, nilL, kM, tupD, lstD, pureL, itemsE, itemsP, seqD_list, seqD_tuple, seqD_lst, seqP_list, seqP_tuple, listD_list, listD_lst, toD_pure, toD_lst, toD_lst2, setD, unpD, consG, nilG, asD_pure, asL_lst, T.ofO, callD, allPP, isPP_pure, isPP_pot, nm_at, nmP_at, nmP_pot, addM_ii, addM_ib, subM_ii, intM_i, intM_b, bodyD, par2, iteM, orT, andT, notT, boolM_b, truM_b, ltM_ii, gtM_ii, leM_ii, geM_ii, min2M_n, max2M_n, andT, wipeD, eqM_ii, neM_ii, T.bind_assoc, npot2, cutF, noO, someO, hc, asG, asI, intsOf, hlenM, forS]
    have key : ∀ bn : D → Sm, (∀ (dn : List (Int)) (xn : Int) (r : List (Int)), ms = dn ++ xn :: r → bn (PyData.int xn) [none, none, some (.npot knDeck (dn.foldl deckG []) [dn.foldl deckS (362436069 + seed * 7919 + (ms.length : Int))]), none, none] = .ret (.nx, [none, none, some (.npot knDeck ((dn ++ [xn]).foldl deckG []) [(dn ++ [xn]).foldl deckS (362436069 + seed * 7919 + (ms.length : Int))]), none, none])) →
        loopS bn (ms.map PyData.int) [none, none, some (.npot knDeck [] [362436069 + seed * 7919 + (ms.length : Int)]), none, none] = .ret (.nx, [none, none, some (.npot knDeck ((ms).foldl deckG []) [(ms).foldl deckS (362436069 + seed * 7919 + (ms.length : Int))]), none, none]) := fun bn hn_ => by
        have q_ := loopS_pre (PyData.int) (fun dn => [none, none, some (.npot knDeck (dn.foldl deckG []) [dn.foldl deckS (362436069 + seed * 7919 + (ms.length : Int))]), none, none]) (ms) [] hn_
        simp only [List.filter_nil, List.map_nil, List.append_nil, List.nil_append, List.flatMap_nil] at q_
        exact q_
    rw [key _ ?_]
    · simp [seqS, retS, asgS, drpS, iteS, skS, killS, frzS, frzI, frz_lst, frz_pure, frz_pot, frz_lst2, bin, un1, callG, arg1, arg2, consL, nilL, kM, tupD, lstD, pureL, itemsE, itemsP, seqD_list, seqD_tuple, seqD_lst, seqP_list, seqP_tuple, listD_list, listD_lst, toD_pure, toD_lst, toD_lst2, setD, unpD, consG, nilG, asD_pure, asL_lst, T.ofO, callD, allPP, isPP_pure, isPP_pot, nm_at, nmP_at, nmP_pot, addM_ii, addM_ib, subM_ii, intM_i, intM_b, bodyD, par2, iteM, orT, andT, notT, boolM_b, truM_b, ltM_ii, gtM_ii, leM_ii, geM_ii, min2M_n, max2M_n, andT, wipeD, eqM_ii, neM_ii, T.bind_assoc]
    · intro d x r e
      have hdl : (d.foldl deckG []).length ≤ 63 := by
        have h1 := deckG_len d []
        have h2 : ms.length = d.length + (r.length + 1) := by rw [e]; simp
        simp at h1
        omega
      have hpow : powM (.pure (.int 10)) (.pure (.int 18)) = .ret (.pure (.int 1000000000000000000)) := rfl
      have ha : absM (.pure (.int x)) = .ret (.pure (.int (absI' x))) := rfl
      have hm2 := mulM_il (i := 2) (j := absI' x) (by decide)
      have hmm : ∀ i : Int, mulM (.pure (.int i)) (.pure (.int 1181783497276652981)) = .ret (.pure (.int (i * 1181783497276652981))) := fun i => mulM_ir (by decide)
      have hmo : ∀ i : Int, modM (.pure (.int i)) (.pure (.int 2305843009213693951)) = .ret (.pure (.int (i % 2305843009213693951))) := fun i => modM_ii (by decide)
      rw [List.foldl_append, List.foldl_append]
      generalize d.foldl deckG [] = G at hdl ⊢
      generalize d.foldl deckS (362436069 + seed * 7919 + (ms.length : Int)) = S
      have hcat : addM (.lst [PyData.int (absI' x)]) (.lst (G.map PyData.int)) = .ret (.lst ((absI' x :: G).map PyData.int)) := addM_lsts _ _ (by simp; omega)
      have hs1 : 1 ≤ sizeLine := Nat.le_trans (by decide) size_mil
      have hin : intsOf (PyData.int (absI' x) :: G.map PyData.int) = some (absI' x :: G) := intsOf_ints (absI' x :: G)
      simp only [List.map_cons] at hcat
      by_cases hb : (1000000000000000000 : Int) ≤ absI' x
      · simp [seqS, retS, asgS, drpS, iteS, skS, killS, frzS, frzI, frz_lst, frz_pure, frz_pot, frz_lst2, bin, un1, callG, arg1, arg2, consL, nilL, kM, tupD, lstD, pureL, itemsE, itemsP, seqD_list, seqD_tuple, seqD_lst, seqP_list, seqP_tuple, listD_list, listD_lst, toD_pure, toD_lst, toD_lst2, setD, unpD, consG, nilG, asD_pure, asL_lst, T.ofO, callD, allPP, isPP_pure, isPP_pot, nm_at, nmP_at, nmP_pot, addM_ii, addM_ib, subM_ii, intM_i, intM_b, bodyD, par2, iteM, orT, andT, notT, boolM_b, truM_b, ltM_ii, gtM_ii, leM_ii, geM_ii, min2M_n, max2M_n, andT, wipeD, eqM_ii, neM_ii, T.bind_assoc, ha, hpow, hb, npPutL, npLst, npOf, hs1, hin, hcat, asG, intsOf_ints, npPut, npGet, hm2, hmm, hmo, deckG, deckS]
      · simp [seqS, retS, asgS, drpS, iteS, skS, killS, frzS, frzI, frz_lst, frz_pure, frz_pot, frz_lst2, bin, un1, callG, arg1, arg2, consL, nilL, kM, tupD, lstD, pureL, itemsE, itemsP, seqD_list, seqD_tuple, seqD_lst, seqP_list, seqP_tuple, listD_list, listD_lst, toD_pure, toD_lst, toD_lst2, setD, unpD, consG, nilG, asD_pure, asL_lst, T.ofO, callD, allPP, isPP_pure, isPP_pot, nm_at, nmP_at, nmP_pot, addM_ii, addM_ib, subM_ii, intM_i, intM_b, bodyD, par2, iteM, orT, andT, notT, boolM_b, truM_b, ltM_ii, gtM_ii, leM_ii, geM_ii, min2M_n, max2M_n, andT, wipeD, eqM_ii, neM_ii, T.bind_assoc, ha, hpow, hb, npPutL, npLst, npOf, hs1, hin, hcat, asG, intsOf_ints, npPut, npGet, hm2, hmm, hmo, deckG, deckS]
  · have := deckG_len ms []
    simp at this
    omega
  · intro i hi
    rw [List.mem_singleton.mp hi]
    exact deckS_nn ms _ (by omega)
end L2.Zy
namespace L2.Zy
open PySem PyProof.Rows PySem.Spec
/-! ## webs: who is whose neighbour -/
abbrev Roads := List (Int × Int)
def adj (R : Roads) (i j : Int) : Bool := decide ((i, j) ∈ R) || decide ((j, i) ∈ R)
def nearL (n : Int) (R : Roads) (i : Int) : List Int := (rangeI n).filter (adj R i)
/-- a web as the laws make them: roads upwards, none twice -/
structure Good (n : Int) (R : Roads) : Prop where
  n0 : 0 ≤ n
  nd : R.Nodup
  rd : ∀ p ∈ R, 0 ≤ p.1 ∧ p.1 ≤ p.2 ∧ p.2 < n
theorem adj_comm (R : Roads) (i j : Int) : adj R i j = adj R j i := Bool.or_comm _ _
theorem mem_near {n : Int} {R : Roads} {i j : Int} : j ∈ nearL n R i ↔ (0 ≤ j ∧ j < n) ∧ adj R i j = true := by
  unfold nearL
  rw [List.mem_filter, mem_rangeI]
theorem near_nodup (n : Int) (R : Roads) (i : Int) : (nearL n R i).Nodup := (rangeI_nodup n).filter _
theorem near_sorted (n : Int) (R : Roads) (i : Int) : (nearL n R i).Pairwise (· < ·) := (rangeI_sorted n).filter _
theorem adj_lt {n : Int} {R : Roads} (g : Good n R) {i j : Int} (h : adj R i j = true) : 0 ≤ i ∧ i < n ∧ 0 ≤ j ∧ j < n := by
  unfold adj at h
  rw [Bool.or_eq_true, decide_eq_true_eq, decide_eq_true_eq] at h
  rcases h with h | h
  · have := g.rd _ h
    simp at this
    omega
  · have := g.rd _ h
    simp at this
    omega
theorem road_adj {n : Int} {R : Roads} (g : Good n R) (a b : Int) : decide ((min a b, max a b) ∈ R) = adj R a b := by
  unfold adj
  rw [Bool.eq_iff_iff]
  simp only [decide_eq_true_eq, Bool.or_eq_true]
  rcases Int.le_total a b with h | h
  · rw [show min a b = a by omega, show max a b = b by omega]
    refine ⟨.inl, fun q => q.elim id fun q => ?_⟩
    have := (g.rd _ q)
    simp at this
    have e : a = b := by omega
    subst e
    exact q
  · rw [show min a b = b by omega, show max a b = a by omega]
    refine ⟨.inr, fun q => q.elim (fun q => ?_) id⟩
    have := (g.rd _ q)
    simp at this
    have e : a = b := by omega
    subst e
    exact q
/-! ### neighbours, road by road -/
def bit (p : Int × Int) (i : Int) : List Int := (if p.1 = i then [p.2] else []) ++ (if p.2 ≠ p.1 ∧ p.2 = i then [p.1] else [])
def acc (R : Roads) (i : Int) : List Int := R.flatMap fun p => bit p i
theorem mem_bit {p : Int × Int} {i v : Int} (h : v ∈ bit p i) : p = (i, v) ∨ p = (v, i) := by
  obtain ⟨a, b⟩ := p
  unfold bit at h
  rcases List.mem_append.mp h with h | h
  · split at h
    · rename_i e
      simp at h e
      subst h e
      exact .inl rfl
    · cases h
  · split at h
    · rename_i e
      simp at h e
      obtain ⟨_, e⟩ := e
      subst h e
      exact .inr rfl
    · cases h
theorem bit_mem {i v : Int} : v ∈ bit (i, v) i ∧ v ∈ bit (v, i) i := by
  constructor
  · simp [bit]
  · by_cases h : i = v
    · subst h; simp [bit]
    · simp [bit, h]
theorem bit_cases (p : Int × Int) (i : Int) : bit p i = [] ∨ ∃ v, bit p i = [v] := by
  unfold bit
  by_cases h1 : p.1 = i
  · have h2 : ¬ (p.2 ≠ p.1 ∧ p.2 = i) := by omega
    rw [if_pos h1, if_neg h2]
    exact .inr ⟨_, rfl⟩
  · rw [if_neg h1]
    split
    · exact .inr ⟨_, rfl⟩
    · exact .inl rfl
theorem bit_nodup (p : Int × Int) (i : Int) : (bit p i).Nodup := by
  rcases bit_cases p i with h | ⟨v, h⟩ <;> rw [h] <;> simp
theorem mem_acc {R : Roads} {i v : Int} : v ∈ acc R i ↔ (i, v) ∈ R ∨ (v, i) ∈ R := by
  unfold acc
  rw [List.mem_flatMap]
  constructor
  · rintro ⟨p, hp, hv⟩
    rcases mem_bit hv with e | e
    · exact .inl (e ▸ hp)
    · exact .inr (e ▸ hp)
  · rintro (h | h)
    · exact ⟨_, h, bit_mem.1⟩
    · exact ⟨_, h, bit_mem.2⟩
theorem acc_nodup {i : Int} : ∀ {R : Roads}, R.Nodup → (∀ p ∈ R, p.1 ≤ p.2) → (acc R i).Nodup
  | [], _, _ => List.nodup_nil
  | p :: R, hn, hle => by
    have hn' := List.nodup_cons.mp hn
    show (bit p i ++ acc R i).Nodup
    refine List.nodup_append.mpr ⟨bit_nodup p i, acc_nodup hn'.2 fun q hq => hle q (List.mem_cons_of_mem _ hq), fun a ha b hb e => ?_⟩
    subst e
    have h0 := hle p List.mem_cons_self
    rcases mem_bit ha with e | e <;> rcases mem_acc.mp hb with h | h
    · exact hn'.1 (e ▸ h)
    · have h1 := hle _ (List.mem_cons_of_mem _ h)
      rw [e] at h0
      simp at h0 h1
      have : a = i := by omega
      subst this
      exact hn'.1 (e ▸ h)
    · have h1 := hle _ (List.mem_cons_of_mem _ h)
      rw [e] at h0
      simp at h0 h1
      have : a = i := by omega
      subst this
      exact hn'.1 (e ▸ h)
    · exact hn'.1 (e ▸ h)
theorem near_perm {n : Int} {R : Roads} (g : Good n R) (i : Int) : (nearL n R i).Perm (acc R i) := by
  refine (List.perm_ext_iff_of_nodup (near_nodup n R i) (acc_nodup g.nd fun p hp => (g.rd p hp).2.1)).mpr fun v => ?_
  rw [mem_acc, mem_near]
  constructor
  · intro h
    have := h.2
    unfold adj at this
    simpa using this
  · intro h
    have ha : adj R i v = true := by unfold adj; simpa using h
    have := adj_lt g ha
    exact ⟨⟨this.2.2.1, this.2.2.2⟩, ha⟩
theorem near_isort {n : Int} {R : Roads} (g : Good n R) (i : Int) : isort ltI (acc R i) = nearL n R i := isort_eq totI (near_perm g i) ((near_sorted n R i).imp fun h => by simp [ltI]; omega)
theorem acc_len (i : Int) : ∀ R : Roads, (acc R i).length ≤ R.length
  | [] => Nat.le_refl _
  | p :: R => by
    have h1 := acc_len i R
    have h2 : (bit p i).length ≤ 1 := by rcases bit_cases p i with h | ⟨v, h⟩ <;> rw [h] <;> simp
    show (bit p i ++ acc R i).length ≤ _
    rw [List.length_append, List.length_cons]
    omega
theorem acc_snoc (R : Roads) (p : Int × Int) (i : Int) : acc (R ++ [p]) i = acc R i ++ bit p i := by simp [acc]
theorem map_rangeI_congr {α : Type} {n : Int} {f g : Int → α} (h : ∀ i, 0 ≤ i → i < n → f i = g i) : (rangeI n).map f = (rangeI n).map g := List.map_congr_left fun i hi => h i (mem_rangeI.mp hi).1 (mem_rangeI.mp hi).2
theorem rangeI_set {α : Type} {n a : Int} (F : Int → α) (v : α) (h : 0 ≤ a) (h2 : a < n) : ((rangeI n).map F).set a.toNat v = (rangeI n).map fun i => if i = a then v else F i := by
  apply List.ext_getElem?
  intro i
  by_cases hi : i < n.toNat
  · by_cases e : i = a.toNat
    · subst e
      rw [List.getElem?_set_self (by rw [List.length_map, length_rangeI]; exact hi), List.getElem?_map, rangeI_get hi]
      have : (a.toNat : Int) = a := by omega
      simp [this]
    · rw [List.getElem?_set_ne (Ne.symm e), List.getElem?_map, List.getElem?_map, rangeI_get hi]
      have : ¬ (i : Int) = a := by omega
      simp [this]
  · rw [List.getElem?_eq_none (by rw [List.length_set, List.length_map, length_rangeI]; omega), List.getElem?_eq_none (by rw [List.length_map, length_rangeI]; omega)]
theorem appRT_range {α : Type} {n a : Int} {F : Int → List α} {v : α} (h : 0 ≤ a) (h2 : a < n) (hl : (F a).length < 16000000) : appRT ((rangeI n).map F) a v = .ret ((rangeI n).map fun i => if i = a then F i ++ [v] else F i) := by
  unfold appRT
  rw [ixN_nn h (by rw [List.length_map, length_rangeI]; omega)]
  simp only
  rw [List.getElem?_map, rangeI_get (by omega)]
  simp only [Option.map_some]
  have e : (a.toNat : Int) = a := by omega
  rw [e, if_pos (Nat.lt_of_lt_of_le hl size_mil), rangeI_set F _ h h2]
  congr 1
  exact List.map_congr_left fun i _ => by
    by_cases q : i = a
    · subst q; simp
    · simp [q]
/-! ### walks -/
/-- walks of s steps from i to j -/
def W (n : Int) (R : Roads) : Nat → Int → Int → Int
  | 0, i, j => if i = j then 1 else 0
  | s + 1, i, j => ((nearL n R j).map (W n R s i)).sum
def rowW (n : Int) (R : Roads) (s : Nat) (i : Int) : List Int := (rangeI n).map (W n R s i)
def tabW (n : Int) (R : Roads) (s : Nat) : List (List Int) := (rangeI n).map (rowW n R s)
def cnt (n : Int) (R : Roads) (s : Nat) : Int := ((rangeI n).map fun i => ((rangeI n).map (W n R s i)).sum).sum
def rng (n : Int) (R : Roads) (s : Nat) : Int := ((rangeI n).map fun i => W n R s i i).sum
theorem near_comm {n : Int} {R : Roads} {i j : Int} (hi : 0 ≤ i ∧ i < n) (h : j ∈ nearL n R i) : i ∈ nearL n R j := mem_near.mpr ⟨hi, (adj_comm R j i).trans (mem_near.mp h).2⟩
/-- walks laid end to end -/
theorem W_add (n : Int) (R : Roads) (s : Nat) (i : Int) : ∀ (f : Nat) (j : Int), 0 ≤ j → j < n → ((rangeI n).map fun k => W n R s i k * W n R f k j).sum = W n R (s + f) i j
  | 0, j, h0, hj => by
    have : ((rangeI n).map fun k => W n R s i k * W n R 0 k j).sum = ((rangeI n).map fun k => if k = j then W n R s i k else 0).sum := isum_congr fun k _ => by
      show W n R s i k * (if k = j then 1 else 0) = _
      by_cases e : k = j
      · rw [if_pos e, if_pos e, Int.mul_one]
      · rw [if_neg e, if_neg e, Int.mul_zero]
    rw [this, isum_one j _ (rangeI_nodup n) (mem_rangeI.mpr ⟨h0, hj⟩)]
    rfl
  | f + 1, j, h0, hj => by
    have : ((rangeI n).map fun k => W n R s i k * W n R (f + 1) k j).sum = ((rangeI n).map fun k => ((nearL n R j).map fun l => W n R s i k * W n R f k l).sum).sum := isum_congr fun k _ => (isum_mul _ _ _).symm
    rw [this, isum_comm]
    show _ = ((nearL n R j).map (W n R (s + f) i)).sum
    exact isum_congr fun l hl => W_add n R s i f l (mem_near.mp hl).1.1 (mem_near.mp hl).1.2
theorem W_one {n : Int} {R : Roads} {i k : Int} (hi : 0 ≤ i ∧ i < n) : W n R 1 i k = if adj R i k = true then 1 else 0 := by
  show ((nearL n R k).map fun l => if i = l then 1 else 0).sum = _
  have e : ((nearL n R k).map fun l => if i = l then (1 : Int) else 0).sum = ((nearL n R k).map fun l => if l = i then (fun _ => 1) l else 0).sum := isum_congr fun l _ => by
    by_cases q : i = l
    · subst q; simp
    · rw [if_neg q, if_neg (Ne.symm q)]
  rw [e]
  by_cases h : i ∈ nearL n R k
  · rw [isum_one i (fun _ => 1) (near_nodup n R k) h, if_pos ((adj_comm R i k).trans (mem_near.mp h).2)]
  · rw [isum_none i (fun _ => 1) h, if_neg]
    intro q
    exact h (mem_near.mpr ⟨hi, (adj_comm R k i).trans q⟩)
theorem W_first {n : Int} {R : Roads} {i j : Int} (s : Nat) (hi : 0 ≤ i ∧ i < n) (hj : 0 ≤ j ∧ j < n) : W n R (s + 1) i j = ((nearL n R i).map fun k => W n R s k j).sum := by
  rw [Nat.add_comm, ← W_add n R 1 i s j hj.1 hj.2]
  unfold nearL
  rw [isum_filter]
  refine isum_congr fun k _ => ?_
  rw [W_one hi]
  by_cases h : adj R i k = true
  · rw [if_pos h, if_pos h, Int.one_mul]
  · rw [if_neg h, if_neg h, Int.zero_mul]
theorem W_symm {n : Int} {R : Roads} : ∀ (s : Nat) (i j : Int), 0 ≤ i ∧ i < n → 0 ≤ j ∧ j < n → W n R s i j = W n R s j i
  | 0, i, j, _, _ => by
    show (if i = j then 1 else 0) = if j = i then 1 else 0
    by_cases e : i = j
    · subst e; rfl
    · rw [if_neg e, if_neg (Ne.symm e)]
  | s + 1, i, j, hi, hj => by
    rw [W_first s hj hi]
    show ((nearL n R j).map (W n R s i)).sum = _
    exact isum_congr fun l hl => W_symm s i l hi (mem_near.mp hl).1
theorem W_nn {n : Int} {R : Roads} : ∀ (s : Nat) (i j : Int), 0 ≤ W n R s i j
  | 0, i, j => by
    show 0 ≤ (if i = j then (1 : Int) else 0)
    split <;> omega
  | s + 1, i, j => isum_nonneg fun l _ => W_nn s i l
theorem near_len (n : Int) (R : Roads) (i : Int) : (nearL n R i).length ≤ n.toNat := by
  have := List.length_filter_le (adj R i) (rangeI n)
  rw [length_rangeI] at this
  exact this
theorem W_le {n : Int} {R : Roads} : ∀ (s : Nat) (i j : Int), W n R s i j ≤ ((n.toNat ^ s : Nat) : Int)
  | 0, i, j => by
    show (if i = j then (1 : Int) else 0) ≤ 1
    split <;> omega
  | s + 1, i, j => by
    show ((nearL n R j).map (W n R s i)).sum ≤ _
    refine Int.le_trans (isum_le fun l _ => W_le s i l) ?_
    rw [← Int.natCast_mul, Nat.pow_succ, Nat.mul_comm (n.toNat ^ s)]
    exact Int.ofNat_le.mpr (Nat.mul_le_mul_right _ (near_len n R j))
theorem bit_count {n a b : Int} (h0 : 0 ≤ a) (hab : a < b) (hb : b < n) : ((rangeI n).map fun i => ((bit (a, b) i).length : Int)).sum = 2 := by
  have : ((rangeI n).map fun i => ((bit (a, b) i).length : Int)).sum = ((rangeI n).map fun i => (if i = a then (fun _ => 1) i else 0) + (if i = b then (fun _ => 1) i else 0)).sum := isum_congr fun i _ => by
    unfold bit
    rw [List.length_append]
    have h1 : b ≠ a := by omega
    by_cases e1 : i = a
    · have q1 : ¬ (b ≠ a ∧ b = i) := by omega
      have q2 : ¬ i = b := by omega
      rw [if_pos e1.symm, if_neg q1, if_pos e1, if_neg q2]
      rfl
    · by_cases e2 : i = b
      · have q1 : b ≠ a ∧ b = i := ⟨h1, e2.symm⟩
        rw [if_neg (Ne.symm e1), if_pos q1, if_neg e1, if_pos e2]
        rfl
      · have q1 : ¬ (b ≠ a ∧ b = i) := fun q => e2 q.2.symm
        rw [if_neg (Ne.symm e1), if_neg q1, if_neg e1, if_neg e2]
        rfl
  rw [this, isum_add, isum_one a _ (rangeI_nodup n) (mem_rangeI.mpr ⟨by omega, by omega⟩), isum_one b _ (rangeI_nodup n) (mem_rangeI.mpr ⟨by omega, by omega⟩)]
  rfl
theorem acc_count {n : Int} : ∀ {R : Roads}, (∀ p ∈ R, 0 ≤ p.1 ∧ p.1 < p.2 ∧ p.2 < n) → ((rangeI n).map fun i => ((acc R i).length : Int)).sum = 2 * (R.length : Int)
  | [], _ => isum_zero _
  | p :: R, h => by
    have h1 := acc_count (R := R) fun q hq => h q (List.mem_cons_of_mem _ hq)
    have h2 := h p List.mem_cons_self
    have : ((rangeI n).map fun i => ((acc (p :: R) i).length : Int)).sum = ((rangeI n).map fun i => ((bit p i).length : Int) + ((acc R i).length : Int)).sum := isum_congr fun i _ => by
      show (((bit p i ++ acc R i).length : Nat) : Int) = _
      rw [List.length_append]
      exact Int.natCast_add _ _
    rw [this, isum_add, h1, bit_count h2.1 h2.2.1 h2.2.2, List.length_cons]
    omega
/-- there and back: two rings for each road -/
theorem rng_two {n : Int} {R : Roads} (g : Good n R) (h : ∀ p ∈ R, p.1 < p.2) : rng n R 2 = 2 * (R.length : Int) := by
  unfold rng
  rw [← acc_count (n := n) fun p hp => ⟨(g.rd p hp).1, h p hp, (g.rd p hp).2.2⟩]
  refine isum_congr fun i hi => ?_
  have hi' := mem_rangeI.mp hi
  rw [← (near_perm g i).length_eq]
  show ((nearL n R i).map (W n R 1 i)).sum = _
  have : ((nearL n R i).map (W n R 1 i)).sum = ((nearL n R i).map fun _ => (1 : Int)).sum := isum_congr fun l hl => by
    rw [W_one hi', if_pos (mem_near.mp hl).2]
  rw [this, isum_ones]
/-! ### all maps, house by house -/
def ahead (Q : Roads) (h : Int) : List Int := (Q.filter fun p => decide (p.2 = h) && decide (p.1 < h)).map (·.1)
def okI (Q R : Roads) (h : Int) (nm : List Int) (v : Int) : Bool := (ahead Q h).all (fun o => adj R (nm.getD o.toNat 0) v) && (!decide ((h, h) ∈ Q) || adj R v v)
def extM (Q : Roads) (n : Int) (R : Roads) (h : Int) (nm : List Int) : List (List Int) := ((rangeI n).filter (okI Q R h nm)).map fun v => nm ++ [v]
/-- the maps of the first h houses -/
def maps (Q : Roads) (n : Int) (R : Roads) : Nat → List (List Int)
  | 0 => [[]]
  | h + 1 => (maps Q n R h).flatMap (extM Q n R h)
theorem extM_len (Q : Roads) (n : Int) (R : Roads) (h : Int) (nm : List Int) : (extM Q n R h nm).length ≤ n.toNat := by
  unfold extM
  rw [List.length_map]
  have := List.length_filter_le (okI Q R h nm) (rangeI n)
  rw [length_rangeI] at this
  exact this
theorem flat_len {β γ : Type} (f : β → List γ) (n : Nat) (hf : ∀ b, (f b).length ≤ n) : ∀ xs : List β, (xs.flatMap f).length ≤ xs.length * n
  | [] => Nat.zero_le _
  | x :: xs => by
    have h1 := hf x
    have h2 := flat_len f n hf xs
    rw [List.flatMap_cons, List.length_append, List.length_cons, Nat.add_mul]
    omega
theorem maps_len (Q : Roads) (n : Int) (R : Roads) : ∀ h, (maps Q n R h).length ≤ n.toNat ^ h
  | 0 => Nat.le_refl _
  | h + 1 => by
    rw [Nat.pow_succ]
    exact Nat.le_trans (flat_len _ n.toNat (extM_len Q n R h) _) (Nat.mul_le_mul_right _ (maps_len Q n R h))
theorem maps_each (Q : Roads) (n : Int) (R : Roads) : ∀ h, ∀ nm ∈ maps Q n R h, nm.length = h
  | 0, nm, hm => by
    have : nm = [] := by simpa [maps] using hm
    subst this
    rfl
  | h + 1, nm, hm => by
    obtain ⟨nm', h1, h2⟩ := List.mem_flatMap.mp hm
    obtain ⟨v, _, rfl⟩ := List.mem_map.mp h2
    rw [List.length_append, maps_each Q n R h nm' h1]
    rfl
/-- up to house h the map's web is a path -/
def PathTo (Q : Roads) (h : Nat) : Prop := ahead Q 0 = [] ∧ (∀ k : Nat, k < h → ahead Q (k + 1) = [(k : Int)]) ∧ ∀ k : Nat, k ≤ h → ((k : Int), (k : Int)) ∉ Q
theorem ext_sum (Q : Roads) (n : Int) (R : Roads) (h : Int) (nm : List Int) (g : List Int → Int) : ((extM Q n R h nm).map g).sum = ((rangeI n).map fun v => if okI Q R h nm v = true then g (nm ++ [v]) else 0).sum := by
  unfold extM
  rw [List.map_map]
  exact isum_filter (okI Q R h nm) (g ∘ fun v => nm ++ [v]) (rangeI n)
theorem W_next (n : Int) (R : Roads) (s : Nat) (i v : Int) : W n R (s + 1) i v = ((rangeI n).map fun j => if adj R j v = true then W n R s i j else 0).sum := by
  show ((nearL n R v).map (W n R s i)).sum = _
  unfold nearL
  rw [isum_filter]
  exact isum_congr fun j _ => by rw [adj_comm]
/-- along a path, any weight of the two ends -/
theorem path_sum {Q : Roads} (n : Int) (R : Roads) : ∀ (h : Nat), PathTo Q h → ∀ G : Int → Int → Int,
    ((maps Q n R (h + 1)).map fun nm => G (nm.getD 0 0) (nm.getD h 0)).sum = ((rangeI n).map fun i => ((rangeI n).map fun j => W n R h i j * G i j).sum).sum
  | 0, p, G => by
    have e : maps Q n R 1 = extM Q n R 0 [] := by simp [maps]
    rw [e, ext_sum]
    refine isum_congr fun i hi => ?_
    have ok : okI Q R 0 [] i = true := by
      unfold okI
      have := p.2.2 0 (Nat.le_refl 0)
      rw [p.1, decide_eq_false (show ((0 : Int), (0 : Int)) ∉ Q from this)]
      rfl
    rw [if_pos ok]
    have : ((rangeI n).map fun j => W n R 0 i j * G i j).sum = ((rangeI n).map fun j => if j = i then G i j else 0).sum := isum_congr fun j _ => by
      show (if i = j then 1 else 0) * G i j = _
      by_cases q : i = j
      · subst q; simp
      · rw [if_neg q, if_neg (Ne.symm q), Int.zero_mul]
    rw [this, isum_one i _ (rangeI_nodup n) hi]
    rfl
  | h + 1, p, G => by
    have p' : PathTo Q h := ⟨p.1, fun k hk => p.2.1 k (by omega), fun k hk => p.2.2 k (by omega)⟩
    show (((maps Q n R (h + 1)).flatMap (extM Q n R ((h + 1 : Nat) : Int))).map _).sum = _
    rw [isum_flat]
    have e1 : ((maps Q n R (h + 1)).map fun nm => ((extM Q n R ((h + 1 : Nat) : Int) nm).map fun nm => G (nm.getD 0 0) (nm.getD (h + 1) 0)).sum).sum =
        ((maps Q n R (h + 1)).map fun nm => (fun i j => ((rangeI n).map fun v => if adj R j v = true then G i v else 0).sum) (nm.getD 0 0) (nm.getD h 0)).sum := isum_congr fun nm hnm => by
      have hl := maps_each Q n R (h + 1) nm hnm
      rw [ext_sum]
      refine isum_congr fun v _ => ?_
      have ok : okI Q R ((h + 1 : Nat) : Int) nm v = adj R (nm.getD h 0) v := by
        unfold okI
        have e0 : ((h + 1 : Nat) : Int) = (h : Int) + 1 := by omega
        rw [decide_eq_false (p.2.2 (h + 1) (Nat.le_refl _)), e0, p.2.1 h (by omega)]
        simp
      rw [ok]
      have g1 : (nm ++ [v]).getD 0 0 = nm.getD 0 0 := by
        simp only [List.getD_eq_getElem?_getD]
        rw [List.getElem?_append_left (by omega)]
      have g2 : (nm ++ [v]).getD (h + 1) 0 = v := by
        simp only [List.getD_eq_getElem?_getD]
        rw [List.getElem?_append_right (by omega), hl]
        simp
      rw [g1, g2]
    refine e1.trans ((path_sum n R h p' fun i j => ((rangeI n).map fun v => if adj R j v = true then G i v else 0).sum).trans ?_)
    refine isum_congr fun i _ => ?_
    have e2 : ((rangeI n).map fun j => W n R h i j * ((rangeI n).map fun v => if adj R j v = true then G i v else 0).sum).sum =
        ((rangeI n).map fun j => ((rangeI n).map fun v => W n R h i j * if adj R j v = true then G i v else 0).sum).sum := isum_congr fun j _ => (isum_mul _ _ _).symm
    rw [e2, isum_comm]
    refine isum_congr fun v _ => ?_
    rw [W_next, Int.mul_comm, ← isum_mul]
    refine isum_congr fun j _ => ?_
    by_cases q : adj R j v = true
    · rw [if_pos q, if_pos q, Int.mul_comm]
    · rw [if_neg q, if_neg q, Int.mul_zero, Int.mul_zero]
/-- maps of a path: walks -/
theorem path_count {Q : Roads} (n : Int) (R : Roads) (h : Nat) (p : PathTo Q h) : ((maps Q n R (h + 1)).length : Int) = cnt n R h := by
  have := path_sum n R h p fun _ _ => 1
  rw [isum_ones] at this
  rw [this]
  unfold cnt
  exact isum_congr fun i _ => isum_congr fun j _ => Int.mul_one _
/-- maps of a ring: rings -/
theorem ring_count {Q : Roads} (n : Int) (R : Roads) (h : Nat) (p : PathTo Q h) (ha : ahead Q ((h : Int) + 1) = [0, (h : Int)]) (hq : ((h : Int) + 1, (h : Int) + 1) ∉ Q) : ((maps Q n R (h + 2)).length : Int) = rng n R (h + 2) := by
  rw [← isum_ones]
  show (((maps Q n R (h + 1)).flatMap (extM Q n R ((h + 1 : Nat) : Int))).map _).sum = _
  rw [isum_flat]
  have e0 : ((h + 1 : Nat) : Int) = (h : Int) + 1 := by omega
  have e1 : ((maps Q n R (h + 1)).map fun nm => ((extM Q n R ((h + 1 : Nat) : Int) nm).map fun _ => (1 : Int)).sum).sum =
      ((maps Q n R (h + 1)).map fun nm => (fun i j => ((rangeI n).map fun v => if adj R j v = true then (if adj R i v = true then 1 else 0) else 0).sum) (nm.getD 0 0) (nm.getD h 0)).sum := isum_congr fun nm hnm => by
    rw [ext_sum]
    refine isum_congr fun v _ => ?_
    have ok : okI Q R ((h + 1 : Nat) : Int) nm v = (adj R (nm.getD 0 0) v && adj R (nm.getD h 0) v) := by
      unfold okI
      rw [e0, ha, decide_eq_false hq]
      simp
    rw [ok]
    cases adj R (nm.getD 0 0) v <;> cases adj R (nm.getD h 0) v <;> rfl
  refine e1.trans ((path_sum n R h p fun i j => ((rangeI n).map fun v => if adj R j v = true then (if adj R i v = true then 1 else 0) else 0).sum).trans ?_)
  refine isum_congr fun i _ => ?_
  have e2 : ((rangeI n).map fun j => W n R h i j * ((rangeI n).map fun v => if adj R j v = true then (if adj R i v = true then 1 else 0) else 0).sum).sum =
      ((rangeI n).map fun j => ((rangeI n).map fun v => W n R h i j * if adj R j v = true then (if adj R i v = true then 1 else 0) else 0).sum).sum := isum_congr fun j _ => (isum_mul _ _ _).symm
  rw [e2, isum_comm, W_next]
  refine isum_congr fun v _ => ?_
  by_cases q : adj R v i = true
  · have q' : adj R i v = true := (adj_comm R i v).trans q
    rw [if_pos q, W_next]
    refine isum_congr fun j _ => ?_
    rw [if_pos q']
    by_cases q2 : adj R j v = true
    · rw [if_pos q2, if_pos q2, Int.mul_one]
    · rw [if_neg q2, if_neg q2, Int.mul_zero]
  · have q' : ¬ adj R i v = true := fun z => q ((adj_comm R v i).trans z)
    rw [if_neg q]
    have : ((rangeI n).map fun j => W n R h i j * if adj R j v = true then (if adj R i v = true then 1 else 0) else 0).sum = ((rangeI n).map fun _ => (0 : Int)).sum := isum_congr fun j _ => by
      rw [if_neg q']
      split <;> rw [Int.mul_zero]
    rw [this, isum_zero]
end L2.Zy
namespace L2.Zy
open PySem PyProof.Rows PySem.Spec
/-! ## the most roads without a full web of so many houses -/
/-- roads among houses -/
def rdN (A : Int → Int → Bool) : List Int → Nat
  | [] => 0
  | v :: S => (S.filter (A v)).length + rdN A S
def tri : Nat → Nat
  | 0 => 0
  | k + 1 => k + tri k
/-- no houses, so many, each two neighbours -/
def NoK (A : Int → Int → Bool) (S : List Int) (k : Nat) : Prop := ∀ C : List Int, (∀ x ∈ C, x ∈ S) → C.length = k → ¬ C.Pairwise fun a b => A a b = true
section
variable {A : Int → Int → Bool}
theorem rdN_tri : ∀ S : List Int, rdN A S ≤ tri S.length
  | [] => Nat.le_refl _
  | v :: S => by
    have h1 := rdN_tri S
    have h2 := List.length_filter_le (A v) S
    simp only [rdN, List.length_cons, tri]
    omega
theorem rdN_perm (hA : ∀ a b, A a b = A b a) {S T : List Int} (h : S.Perm T) : rdN A S = rdN A T := by
  induction h with
  | nil => rfl
  | cons x p ih => simp only [rdN]; rw [ih, (p.filter (A x)).length_eq]
  | swap x y S =>
    simp only [rdN, List.filter_cons]
    rw [hA y x]
    cases A x y <;> simp <;> omega
  | trans _ _ h1 h2 => exact h1.trans h2
theorem rdN_append (hA : ∀ a b, A a b = A b a) (C : List Int) (c : Nat) : ∀ B : List Int, (∀ b ∈ B, (C.filter (A b)).length ≤ c) → rdN A (C ++ B) ≤ rdN A C + B.length * c + rdN A B
  | [], _ => by simp
  | b :: B, h => by
    have ih := rdN_append hA C c B fun x hx => h x (List.mem_cons_of_mem _ hx)
    have hb := h b List.mem_cons_self
    have p : (C ++ b :: B).Perm (b :: (C ++ B)) := List.perm_middle
    rw [rdN_perm hA p]
    simp only [rdN, List.filter_append, List.length_append, List.length_cons]
    rw [Nat.add_mul]
    omega
theorem nodup_of_clique (hI : ∀ a, A a a = false) {C : List Int} (h : C.Pairwise fun a b => A a b = true) : C.Nodup := h.imp fun {a b} q e => by
  subst e
  rw [hI] at q
  cases q
theorem perm_split {S C : List Int} (hS : S.Nodup) (hC : C.Nodup) (h : ∀ x ∈ C, x ∈ S) : S.Perm (C ++ S.filter fun x => decide (x ∉ C)) := by
  refine (List.perm_ext_iff_of_nodup hS (List.nodup_append.mpr ⟨hC, hS.filter _, fun a ha b hb e => ?_⟩)).mpr fun a => ?_
  · subst e
    have := (List.mem_filter.mp hb).2
    exact absurd ha (by simpa using this)
  · rw [List.mem_append, List.mem_filter]
    by_cases q : a ∈ C
    · simp [q, h a q]
    · simp [q]
/-- Turan: f tells no less than what taking away a full web leaves -/
theorem turan (hA : ∀ a b, A a b = A b a) (hI : ∀ a, A a a = false) (N Rm : Nat) (f : Nat → Nat → Nat)
    (h1 : ∀ n r, n ≤ N → 1 ≤ r → r ≤ Rm → r ≤ n → tri r + (n - r) * (r - 1) + f (n - r) r ≤ f n r) (h2 : ∀ n r, n ≤ N → 1 ≤ r → r + 1 ≤ Rm → f n r ≤ f n (r + 1)) :
    ∀ (n : Nat) (r : Nat) (S : List Int), S.length = n → n ≤ N → 1 ≤ r → r ≤ Rm → S.Nodup → NoK A S (r + 1) → rdN A S ≤ f n r := by
  intro n
  induction n using Nat.strongRecOn with
  | ind n ihn =>
    intro r
    induction r with
    | zero => exact fun S _ _ h => absurd h (by omega)
    | succ r ihr =>
      intro S hl hn _ hr hS hK
      by_cases ex : ∃ C : List Int, (∀ x ∈ C, x ∈ S) ∧ C.length = r + 1 ∧ C.Pairwise fun a b => A a b = true
      · obtain ⟨C, hC, hCl, hCc⟩ := ex
        have hCn := nodup_of_clique hI hCc
        have p := perm_split hS hCn hC
        rw [rdN_perm hA p]
        have hB : ∀ b ∈ S.filter (fun x => decide (x ∉ C)), (C.filter (A b)).length ≤ r := fun b hb => by
          apply Nat.le_of_not_lt
          intro q
          have hf : C.filter (A b) = C := by
            have := List.length_filter_le (A b) C
            exact List.filter_eq_self.mpr (List.length_filter_eq_length_iff.mp (by omega))
          have hb' := List.mem_filter.mp hb
          refine hK (b :: C) (fun x hx => ?_) (by simp [hCl]) (List.pairwise_cons.mpr ⟨fun x hx => ?_, hCc⟩)
          · rcases List.mem_cons.mp hx with rfl | hx
            · exact hb'.1
            · exact hC x hx
          · exact List.filter_eq_self.mp hf x hx
        have e := rdN_append hA C r (S.filter fun x => decide (x ∉ C)) hB
        have hlen : (S.filter fun x => decide (x ∉ C)).length = n - (r + 1) := by
          have := p.length_eq
          rw [List.length_append, hl, hCl] at this
          omega
        have hle : r + 1 ≤ n := by
          have := p.length_eq
          rw [List.length_append, hl, hCl] at this
          omega
        have i := ihn (n - (r + 1)) (by omega) (r + 1) (S.filter fun x => decide (x ∉ C)) hlen (by omega) (by omega) hr (hS.filter _) (fun D hD => hK D fun x hx => (List.mem_filter.mp (hD x hx)).1)
        have t := rdN_tri (A := A) C
        rw [hCl] at t
        have := h1 n (r + 1) hn (by omega) hr hle
        rw [hlen] at e
        simp only [Nat.add_sub_cancel] at this
        omega
      · have hK' : NoK A S (r + 1) := fun C c1 c2 c3 => ex ⟨C, c1, c2, c3⟩
        by_cases r0 : r = 0
        · subst r0
          cases S with
          | nil => exact Nat.zero_le _
          | cons v S => exact absurd (List.pairwise_singleton _ _) (hK' [v] (fun x hx => by rw [List.mem_singleton.mp hx]; exact List.mem_cons_self) rfl)
        · exact Nat.le_trans (ihr S hl hn (by omega) (by omega) hS hK') (h2 n r hn (by omega) hr)
end
/-- the roads themselves -/
def rdL (A : Int → Int → Bool) : List Int → Roads
  | [] => []
  | v :: S => ((S.filter (A v)).map fun w => (v, w)) ++ rdL A S
theorem rdL_len (A : Int → Int → Bool) : ∀ S, (rdL A S).length = rdN A S
  | [] => rfl
  | v :: S => by simp only [rdL, rdN, List.length_append, List.length_map, rdL_len A S]
theorem mem_rdL {A : Int → Int → Bool} {p : Int × Int} : ∀ {S : List Int}, S.Pairwise (· < ·) → p.1 ∈ S → p.2 ∈ S → p.1 < p.2 → A p.1 p.2 = true → p ∈ rdL A S
  | [], _, h, _, _, _ => nomatch h
  | v :: S, hs, h1, h2, h3, h4 => by
    rw [List.pairwise_cons] at hs
    unfold rdL
    rw [List.mem_append]
    rcases List.mem_cons.mp h1 with h | h
    · left
      rcases List.mem_cons.mp h2 with h' | h'
      · omega
      · exact List.mem_map.mpr ⟨p.2, List.mem_filter.mpr ⟨h', by rw [← h]; exact h4⟩, by rw [← h]⟩
    · right
      rcases List.mem_cons.mp h2 with h' | h'
      · have := hs.1 _ h
        omega
      · exact mem_rdL hs.2 h h' h3 h4
theorem len_sub {α : Type} [DecidableEq α] : ∀ {xs ys : List α}, xs.Nodup → (∀ x ∈ xs, x ∈ ys) → xs.length ≤ ys.length
  | [], _, _, _ => Nat.zero_le _
  | x :: xs, ys, hn, h => by
    rw [List.nodup_cons] at hn
    have hx := h x List.mem_cons_self
    have := len_sub (xs := xs) (ys := ys.erase x) hn.2 fun z hz => (List.mem_erase_of_ne (fun e => hn.1 (by rw [← e]; exact hz))).mpr (h z (List.mem_cons_of_mem _ hz))
    have e := List.length_erase_of_mem hx
    have pos := List.length_pos_of_mem hx
    simp only [List.length_cons]
    omega
def Plain (R : Roads) : Prop := ∀ p ∈ R, p.1 < p.2
theorem roads_le {n : Int} {R : Roads} (g : Good n R) (hp : Plain R) : R.length ≤ rdN (adj R) (rangeI n) := by
  rw [← rdL_len]
  refine len_sub g.nd fun p h => ?_
  have := g.rd p h
  have h2 := hp p h
  refine mem_rdL (rangeI_sorted n) (mem_rangeI.mpr (by omega)) (mem_rangeI.mpr (by omega)) h2 ?_
  unfold adj
  rw [Bool.or_eq_true]
  exact .inl (decide_eq_true h)
theorem adj_irr {R : Roads} (hp : Plain R) (a : Int) : adj R a a = false := by
  rw [Bool.eq_false_iff]
  intro h
  unfold adj at h
  rw [Bool.or_self, decide_eq_true_eq] at h
  have := hp _ h
  exact absurd this (Int.lt_irrefl _)
end L2.Zy
namespace L2.Zy
open PySem PyProof.Rows PySem.Spec
section
variable {α β γ δ σ τ ρ : Type}
theorem bind_ret_inv {t : T α} {f : α → T β} {v : β} (h : (t >>= f) = .ret v) : ∃ a, t = .ret a ∧ f a = .ret v := by
  cases t with
  | ret a => exact ⟨a, rfl, h⟩
  | bad => cases h
  | draw n k => cases h
  | nat k => cases h
theorem iterT_eq {c : σ → T Bool} {b : σ → T σ} {v : σ} : ∀ (m n : Nat) (s : σ), iterT c b n s = .ret v → ((iterT c b m s).all fun _ => True) → iterT c b m s = .ret v
  | 0, _, _, _, h => h.elim
  | m + 1, 0, s, h, _ => by cases h
  | m + 1, n + 1, s, h, q => by
    obtain ⟨k, e, h⟩ := bind_ret_inv (show (c s >>= fun k => if k = true then b s >>= iterT c b n else .ret s) = .ret v from h)
    have e2 : iterT c b (m + 1) s = c s >>= fun k => if k = true then b s >>= iterT c b m else .ret s := rfl
    rw [e2, e, T.ret_bind] at q ⊢
    cases k with
    | false => exact h
    | true =>
      obtain ⟨s', e3, h⟩ := bind_ret_inv (show (b s >>= iterT c b n) = .ret v from h)
      rw [if_pos rfl, e3, T.ret_bind] at q ⊢
      exact iterT_eq m n s' h q
theorem whlT_ret {c : σ → T Bool} {b : σ → T σ} {P : σ → Prop} (Inv : σ → Prop) (μ : σ → Nat) {s : σ} (hs : Inv s) (h : ∀ s, Inv s → ∃ k, c s = .ret k ∧ (k = true → ∃ s', b s = .ret s' ∧ Inv s' ∧ μ s' < μ s) ∧ (k = false → P s)) : ∃ v, whlT c b s = .ret v ∧ P v := by
  have key : ∀ (n : Nat) (s : σ), Inv s → μ s < n → ∃ v, iterT c b n s = .ret v ∧ P v := by
    intro n
    induction n with
    | zero => exact fun s _ h => absurd h (Nat.not_lt_zero _)
    | succ n ih =>
      intro s hs hn
      obtain ⟨k, e, h1, h2⟩ := h s hs
      have e2 : iterT c b (n + 1) s = c s >>= fun k => if k = true then b s >>= iterT c b n else .ret s := rfl
      rw [e2, e, T.ret_bind]
      cases k with
      | false => exact ⟨s, rfl, h2 rfl⟩
      | true =>
        obtain ⟨s', e3, hi, hm⟩ := h1 rfl
        rw [if_pos rfl, e3, T.ret_bind]
        exact ih s' hi (by omega)
  obtain ⟨v, e, p⟩ := key _ s hs (Nat.lt_succ_self _)
  refine ⟨v, ?_, p⟩
  unfold whlT
  have ex : ∃ n, (iterT c b n s).all fun _ => True := ⟨_, by rw [e]; trivial⟩
  rw [dif_pos ex]
  exact iterT_eq _ _ s e ex.choose_spec
theorem whlT_bind {c : σ → T Bool} {b : σ → T σ} {P : σ → Prop} {k : σ → T γ} {X : γ → Prop} (Inv : σ → Prop) (μ : σ → Nat) {s : σ} (hs : Inv s) (h : ∀ s, Inv s → ∃ k, c s = .ret k ∧ (k = true → ∃ s', b s = .ret s' ∧ Inv s' ∧ μ s' < μ s) ∧ (k = false → P s)) (h2 : ∀ s, P s → ∃ v, k s = .ret v ∧ X v) : ∃ v, (whlT c b s >>= k) = .ret v ∧ X v := by
  obtain ⟨s', e, p⟩ := whlT_ret Inv μ hs h
  obtain ⟨v, e2, x⟩ := h2 s' p
  exact ⟨v, by rw [e, T.ret_bind, e2], x⟩
theorem forX_find {body : Unit → β → T (Stp ρ Unit τ)} {fin : Unit → τ} (g : β → Option ρ) : ∀ {xs : List β}, (∀ x ∈ xs, body () x = .ret (match g x with | some r => .rt r | none => .nx ())) → forX xs () body fin = .ret (match xs.findSome? g with | some r => .inl r | none => .inr (fin ()))
  | [], _ => rfl
  | x :: xs, h => by
    rw [forX_cons, h x List.mem_cons_self, T.ret_bind, List.findSome?_cons]
    cases g x with
    | some r => rfl
    | none => exact forX_find g fun y hy => h y (List.mem_cons_of_mem _ hy)
theorem whlT_wp {c : σ → T Bool} {b : σ → T σ} {P : σ → Prop} (Inv : σ → Prop) (μ : σ → Nat) {s : σ} (hs : Inv s) (h : ∀ s, Inv s → (c s).wp fun k => if k = true then (b s).wp fun s' => Inv s' ∧ μ s' < μ s else P s) : (whlT c b s).wp P := by
  rw [wp_iff]
  refine whlT_all (Inv := Inv) μ (fun s hs => ?_) hs
  have := h s hs
  rw [wp_iff] at this
  refine T.all_mono this fun k hk => ?_
  cases k with
  | true =>
    have hk : (b s).wp _ := hk
    rw [wp_iff] at hk
    exact hk
  | false => exact hk
def stpK (g : σ → T (ρ ⊕ τ)) : Stp ρ σ τ → T (ρ ⊕ τ)
  | .nx s' => g s'
  | .bk u => .ret (.inr u)
  | .rt r => .ret (.inl r)
theorem iterX_succ (c : σ → T Bool) (b : σ → T (Stp ρ σ τ)) (fin : σ → τ) (n : Nat) (s : σ) : iterX c b fin (n + 1) s = c s >>= fun k => if k = true then b s >>= stpK (iterX c b fin n) else .ret (.inr (fin s)) := by
  unfold iterX
  congr 1
  funext k
  cases k with
  | false => rfl
  | true =>
    rw [if_pos rfl, if_pos rfl]
    congr 1
    funext z
    cases z <;> rfl
theorem iterX_eq {c : σ → T Bool} {b : σ → T (Stp ρ σ τ)} {fin : σ → τ} {v : ρ ⊕ τ} : ∀ (m n : Nat) (s : σ), iterX c b fin n s = .ret v → ((iterX c b fin m s).all fun _ => True) → iterX c b fin m s = .ret v
  | 0, _, _, _, h => h.elim
  | m + 1, 0, s, h, _ => by cases h
  | m + 1, n + 1, s, h, q => by
    rw [iterX_succ] at h q ⊢
    obtain ⟨k, e, h⟩ := bind_ret_inv h
    rw [e, T.ret_bind] at q ⊢
    cases k with
    | false => exact h
    | true =>
      rw [if_pos rfl] at h q ⊢
      obtain ⟨z, e3, h⟩ := bind_ret_inv h
      rw [e3, T.ret_bind] at q ⊢
      cases z with
      | nx s' => exact iterX_eq m n s' h q
      | bk u => exact h
      | rt r => exact h
theorem whlX_ret {c : σ → T Bool} {b : σ → T (Stp ρ σ τ)} {fin : σ → τ} {P : ρ ⊕ τ → Prop} (Inv : σ → Prop) (μ : σ → Nat) {s : σ} (hs : Inv s) (h : ∀ s, Inv s → ∃ k, c s = .ret k ∧ (k = true → ∃ z, b s = .ret z ∧ StpI (fun s' => Inv s' ∧ μ s' < μ s) P z) ∧ (k = false → P (.inr (fin s)))) :
    ∃ v, whlX c b fin s = .ret v ∧ P v := by
  have key : ∀ (n : Nat) (s : σ), Inv s → μ s < n → ∃ v, iterX c b fin n s = .ret v ∧ P v := by
    intro n
    induction n with
    | zero => exact fun s _ h => absurd h (Nat.not_lt_zero _)
    | succ n ih =>
      intro s hs hn
      obtain ⟨k, e, h1, h2⟩ := h s hs
      rw [iterX_succ, e, T.ret_bind]
      cases k with
      | false => exact ⟨_, rfl, h2 rfl⟩
      | true =>
        obtain ⟨z, e3, hz⟩ := h1 rfl
        rw [if_pos rfl, e3, T.ret_bind]
        cases z with
        | nx s' => exact ih s' hz.1 (by have := hz.2; omega)
        | bk u => exact ⟨_, rfl, hz⟩
        | rt r => exact ⟨_, rfl, hz⟩
  obtain ⟨v, e, p⟩ := key _ s hs (Nat.lt_succ_self _)
  refine ⟨v, ?_, p⟩
  unfold whlX
  have ex : ∃ n, (iterX c b fin n s).all fun _ => True := ⟨_, by rw [e]; trivial⟩
  rw [dif_pos ex]
  exact iterX_eq _ _ s e ex.choose_spec
theorem whlX_bind {c : σ → T Bool} {b : σ → T (Stp ρ σ τ)} {fin : σ → τ} {P : ρ ⊕ τ → Prop} {k : ρ ⊕ τ → T γ} {X : γ → Prop} (Inv : σ → Prop) (μ : σ → Nat) {s : σ} (hs : Inv s) (h : ∀ s, Inv s → ∃ k, c s = .ret k ∧ (k = true → ∃ z, b s = .ret z ∧ StpI (fun s' => Inv s' ∧ μ s' < μ s) P z) ∧ (k = false → P (.inr (fin s))))
    (h2 : ∀ z, P z → ∃ v, k z = .ret v ∧ X v) : ∃ v, (whlX c b fin s >>= k) = .ret v ∧ X v := by
  obtain ⟨z, e, p⟩ := whlX_ret Inv μ hs h
  obtain ⟨v, e2, x⟩ := h2 z p
  exact ⟨v, by rw [e, T.ret_bind, e2], x⟩
theorem popT_snoc (xs : List α) (a : α) : popT (xs ++ [a]) = .ret (xs, a) := by
  unfold popT
  rw [List.length_append, List.length_singleton, Nat.add_sub_cancel, List.getElem?_append_right (Nat.le_refl _), Nat.sub_self]
  simp
theorem snoc_of {xs : List α} (h : xs ≠ []) : ∃ ys a, xs = ys ++ [a] := ⟨xs.dropLast, xs.getLast h, (List.dropLast_concat_getLast h).symm⟩
theorem getI_last (xs : List α) (a : α) : getI (xs ++ [a]) (-1) = .ret a := by
  have e : ixN (xs ++ [a]).length (-1) = some xs.length := by
    unfold ixN
    rw [if_neg (by omega), if_pos (by rw [List.length_append, List.length_singleton]; omega)]
    congr 1
    rw [List.length_append, List.length_singleton]
    omega
  unfold getI atI
  rw [e]
  simp [T.ofO]
theorem divT_ok {i j : Int} (h : 0 < j) (h2 : j < 1000000) : divT i j = .ret (i / j) := by
  unfold divT
  rw [if_pos ⟨h, Nat.lt_of_lt_of_le ((Nat.log2_lt (by omega)).mpr (show j.natAbs < 2 ^ 64 by omega)) (by decide)⟩]
theorem rangeT3_ok {a b : Int} (h1 : -1000 ≤ a) (h2 : a ≤ 1000) (h3 : -1000 ≤ b) (h4 : b ≤ 1000) : rangeT3 a b (-1) = .ret (rangeI3 a b) := by
  unfold rangeT3
  rw [if_pos (by omega)]
theorem appPopT_ok {es xs : List α} {k : Int} (h0 : 0 ≤ k) (h1 : k < (xs.length : Int)) (hx : xs.length ≤ 1000000) (he : es.length ≤ 1000000) : appPopT es xs k = .ret (es ++ [xs[k.toNat]'(by omega)], xs.eraseIdx k.toNat) := by
  unfold appPopT
  have hs : (1000000 : Nat) < sizeLine := by rw [sizeLine_eq]; decide
  rw [if_pos ⟨by omega, by omega, by omega⟩]
  have e : seqIndex? k xs.length = some k.toNat := by
    unfold seqIndex?
    first
      | (rw [if_pos (by omega)]; done)
      | (simp only []; split <;> simp_all <;> omega)
  rw [e]
  simp only
  rw [List.getElem?_eq_getElem (show k.toNat < xs.length by omega)]
end
end L2.Zy
namespace L2.Zy
open PySem PyProof.Rows PySem.Spec
theorem mapO_some {α : Type} : ∀ ds : List α, mapO some ds = some ds
  | [] => rfl
  | d :: ds => by
    show (match some d, mapO some ds with | some a, some as => some (a :: as) | _, _ => none) = _
    rw [mapO_some ds]
theorem cast_tup (ds : List D) : castT (dcV some) (.tuple ds) = .ret ds := by
  show T.ofO (mapO some ds) = _
  rw [mapO_some]
  rfl
theorem castI_int (i : Int) : castT dcI (.int i) = .ret i := rfl
theorem isT_of {c : Cl} {d : D} (h : d.hasDict = false) : isT c d = .ret (isD c d) := by
  cases d with
  | dict kvs => simp [PyData.hasDict] at h
  | _ => rfl
theorem nodict_mem : ∀ {ds : List D}, PyData.hasDictAll ds = false → ∀ x ∈ ds, x.hasDict = false
  | d :: ds, h, x, hx => by
    have h' : d.hasDict = false ∧ PyData.hasDictAll ds = false := by simpa [PyData.hasDictAll] using h
    rcases List.mem_cons.mp hx with rfl | hx
    · exact h'.1
    · exact nodict_mem h'.2 x hx
theorem nodict_tup {ds : List D} (h : (PyData.tuple ds).hasDict = false) : ∀ x ∈ ds, x.hasDict = false := nodict_mem (by simpa [PyData.hasDict] using h)
def isInt : D → Bool
  | .int _ => true
  | _ => false
theorem isInt_of {d : D} (h : isInt d = true) : ∃ i, d = .int i := by
  cases d <;> first | exact ⟨_, rfl⟩ | cases h
theorem mapO_none {α β : Type} {f : α → Option β} : ∀ {ds : List α}, mapO f ds = none → ∃ x ∈ ds, f x = none
  | [], h => by cases h
  | d :: ds, h => by
    cases e : f d with
    | none => exact ⟨d, List.mem_cons_self, e⟩
    | some a =>
      cases e2 : mapO f ds with
      | none =>
        obtain ⟨x, hx, q⟩ := mapO_none e2
        exact ⟨x, List.mem_cons_of_mem _ hx, q⟩
      | some as =>
        unfold mapO at h
        rw [e, e2] at h
        cases h
theorem mapO_all {α β : Type} {f : α → Option β} : ∀ {ds : List α} {l : List β}, mapO f ds = some l → ∀ x ∈ ds, (f x).isSome = true
  | d :: ds, l, h, x, hx => by
    unfold mapO at h
    split at h
    · rename_i a as e1 e2
      rcases List.mem_cons.mp hx with rfl | hx
      · rw [e1]; rfl
      · exact mapO_all e2 x hx
    · cases h
end L2.Zy
namespace L2.Zy
open PySem PyProof.Rows PySem.Spec
theorem fitI {i : Int} {b : Nat} (h : i.natAbs < 2 ^ b) (hb : b ≤ 1900) : Fits (eI i) 0 (b + 3) := Fits.int h hb
theorem fitI_small {i : Int} (h : i.natAbs ≤ 1000) : Fits (eI i) 0 20 := (fitI (b := 10) (Nat.lt_of_le_of_lt h (by decide)) (by omega)).mono (by omega) (by omega)
theorem fitV {α : Type} {e : α → D} {xs : List α} {dep sz n : Nat} (h : ∀ x ∈ xs, Fits (e x) dep sz) (hn : xs.length ≤ n) : Fits (eV e xs) (dep + 1) (n * (sz + 2) + 4) := Fits.tupMap h hn
theorem fitL {α : Type} {e : α → D} {xs : List α} {dep sz n : Nat} (h : ∀ x ∈ xs, Fits (e x) dep sz) (hn : xs.length ≤ n) : Fits (eL e xs) (dep + 1) (n * (sz + 2) + 2) := Fits.listMap h hn
theorem fit2 {α β : Type} {e : α → D} {f : β → D} {p : α × β} {dep sz : Nat} (h : Fits (e p.1) dep sz) (h2 : Fits (f p.2) dep sz) : Fits (e2 e f p) (dep + 1) (2 * (sz + 2) + 4) := by
  refine Fits.tup (ds := [e p.1, f p.2]) (n := 2) (fun x hx => ?_) (by simp)
  rcases List.mem_cons.mp hx with rfl | hx
  · exact h
  · rw [List.mem_singleton.mp hx]
    exact h2
theorem fit_web {n : Int} {R : Roads} (g : Good n R) (hn : n ≤ 64) (hR : R.length ≤ 4096) : Fits (e2 eI (eV (e2 eI eI)) (n, R)) 3 600000 := by
  have hp : ∀ p ∈ R, Fits (e2 eI eI p) 1 48 := fun p hp => by
    have := g.rd p hp
    exact (fit2 (fitI_small (by omega)) (fitI_small (by omega))).mono (by omega) (by omega)
  have h1 : Fits (eV (e2 eI eI) R) 2 204804 := (fitV hp hR).mono (by omega) (by omega)
  have h0 := g.n0
  exact (fit2 (e := eI) (f := eV (e2 eI eI)) (p := (n, R)) ((fitI_small (by simp only; omega)).mono (by omega) (by omega)) h1).mono (by omega) (by omega)
/-! ## rows of values that are shown -/
structure FL (xs : List D) (dep s : Nat) : Prop where
  each : ∀ x ∈ xs, Fits x dep s
  tot : szAll xs ≤ s
theorem szAll_append : ∀ (xs ys : List D), szAll (xs ++ ys) = szAll xs + szAll ys
  | [], ys => by simp [szAll]
  | x :: xs, ys => by simp only [List.cons_append, szAll, szAll_append xs ys]; omega
theorem szAll_take (n : Nat) (xs : List D) : szAll (xs.take n) ≤ szAll xs := by
  have := szAll_append (xs.take n) (xs.drop n)
  rw [List.take_append_drop] at this
  omega
theorem szAll_drop (n : Nat) (xs : List D) : szAll (xs.drop n) ≤ szAll xs := by
  have := szAll_append (xs.take n) (xs.drop n)
  rw [List.take_append_drop] at this
  omega
theorem szAll_rev : ∀ xs : List D, szAll xs.reverse = szAll xs
  | [] => rfl
  | x :: xs => by rw [List.reverse_cons, szAll_append, szAll_rev xs]; simp only [szAll]; omega
theorem szAll_len : ∀ xs : List D, 2 * xs.length ≤ szAll xs
  | [] => Nat.zero_le _
  | x :: xs => by
    have := szAll_len xs
    simp only [szAll, List.length_cons]
    omega
theorem szAll_mem : ∀ {xs : List D} {x : D}, x ∈ xs → szD x ≤ szAll xs
  | y :: ys, x, h => by
    simp only [szAll]
    rcases List.mem_cons.mp h with rfl | h
    · omega
    · have := szAll_mem h
      omega
theorem FL.mono {xs : List D} {dep s dep' s' : Nat} (f : FL xs dep s) (h : dep ≤ dep') (h2 : s ≤ s') : FL xs dep' s' := ⟨fun x hx => (f.each x hx).mono h h2, Nat.le_trans f.tot h2⟩
theorem FL.cut {xs : List D} {dep s : Nat} (f : FL xs dep s) (lo hi : Option Int) : FL (cutI xs lo hi) dep s := by
  refine ⟨fun x hx => f.each x (List.mem_of_mem_drop (List.mem_of_mem_take hx)), ?_⟩
  have h1 := szAll_take
  unfold cutI
  exact Nat.le_trans (szAll_take _ _) (Nat.le_trans (szAll_drop _ _) f.tot)
theorem FL.append {xs ys : List D} {dep s s' : Nat} (f : FL xs dep s) (g : FL ys dep s') : FL (xs ++ ys) dep (s + s') := by
  refine ⟨fun x hx => ?_, ?_⟩
  · rcases List.mem_append.mp hx with h | h
    · exact (f.each x h).mono (Nat.le_refl _) (by omega)
    · exact (g.each x h).mono (Nat.le_refl _) (by omega)
  · rw [szAll_append]
    have := f.tot
    have := g.tot
    omega
theorem FL.nil {dep : Nat} : FL [] dep 0 := ⟨fun x h => absurd h List.not_mem_nil, Nat.le_refl _⟩
theorem FL.cons {x : D} {xs : List D} {dep s s' : Nat} (h : Fits x dep s) (f : FL xs dep s') : FL (x :: xs) dep (s + 2 + s') := by
  refine ⟨fun y hy => ?_, ?_⟩
  · rcases List.mem_cons.mp hy with rfl | hy
    · exact h.mono (Nat.le_refl _) (by omega)
    · exact (f.each y hy).mono (Nat.le_refl _) (by omega)
  · simp only [szAll]
    have := h.sz
    have := f.tot
    omega
theorem FL.rev {xs : List D} {dep s : Nat} (f : FL xs dep s) : FL xs.reverse dep s := ⟨fun x hx => f.each x (List.mem_reverse.mp hx), by rw [szAll_rev]; exact f.tot⟩
theorem FL.tup {xs : List D} {dep s : Nat} (f : FL xs dep s) : Fits (.tuple xs) (dep + 1) (s + 4) := by
  have e : xs.map id = xs := List.map_id xs
  have h1 := Fits.tup f.each (Nat.le_refl _)
  exact ⟨h1.sh, h1.nd, h1.dp, by simp only [szD]; have := f.tot; omega⟩
theorem FL.lst {xs : List D} {dep s : Nat} (f : FL xs dep s) : Fits (.list xs) (dep + 1) (s + 2) := by
  have h1 := Fits.list f.each (Nat.le_refl _)
  exact ⟨h1.sh, h1.nd, h1.dp, by simp only [szD]; have := f.tot; omega⟩
theorem shAll_mem : ∀ {xs : List D} {x : D}, PyData.showableAll xs = true → x ∈ xs → x.showable = true
  | y :: ys, x, h, hx => by
    simp only [PyData.showableAll, Bool.and_eq_true] at h
    rcases List.mem_cons.mp hx with rfl | hx
    · exact h.1
    · exact shAll_mem h.2 hx
theorem dpAll_mem : ∀ {xs : List D} {x : D} {c : Nat}, PyData.depthAll xs ≤ c → x ∈ xs → x.depth ≤ c
  | y :: ys, x, c, h, hx => by
    simp only [PyData.depthAll] at h
    rcases List.mem_cons.mp hx with rfl | hx
    · omega
    · exact dpAll_mem (by omega) hx
theorem Fits.tupI {xs : List D} {dep s : Nat} (f : Fits (.tuple xs) dep s) : FL xs dep s := by
  have h1 := f.sh
  have h2 := f.nd
  have h3 := f.dp
  have h4 := f.sz
  simp only [PyData.showable] at h1
  simp only [PyData.depth] at h3
  simp only [szD] at h4
  refine ⟨fun x hx => ⟨shAll_mem h1 hx, nodict_tup h2 x hx, dpAll_mem (by omega) hx, ?_⟩, by omega⟩
  have := szAll_mem hx
  omega
theorem fitEV {xs : List D} {dep s : Nat} (f : FL xs dep s) : Fits (eV eD xs) (dep + 1) (s + 4) := by
  have := f.tup
  unfold eV
  rwa [show List.map eD xs = xs from List.map_id xs]
theorem fitEL {xs : List D} {dep s : Nat} (f : FL xs dep s) : Fits (eL eD xs) (dep + 1) (s + 2) := by
  have := f.lst
  unfold eL
  rwa [show List.map eD xs = xs from List.map_id xs]
theorem fitS {x : Str} (h : szD (.str x) ≤ 20) : Fits (.str x) 0 20 := ⟨by simp [PyData.showable], by simp [PyData.hasDict], by simp [PyData.depth], h⟩
theorem fitN0 : Fits .none 0 20 := ⟨by simp [PyData.showable], by simp [PyData.hasDict], by simp [PyData.depth], by simp [szD]⟩
theorem fitB0 (b : Bool) : Fits (.bool b) 0 20 := ⟨by simp [PyData.showable], by simp [PyData.hasDict], by simp [PyData.depth], by simp [szD]⟩
/-- some of the items, each made with draws -/
theorem lcT_both {α β : Type} {c : β → T Bool} {f : β → T α} (Q : α → Prop) : ∀ {xs : List β} {P : List α → Prop}, (∀ x ∈ xs, (c x).wp fun _ => True) → (∀ x ∈ xs, (f x).wp Q) → (∀ ys : List α, ys.length ≤ xs.length → (∀ y ∈ ys, Q y) → P ys) → (lcT xs c f).wp P
  | [], P, _, _, h => wp_ret.mpr (h [] (Nat.le_refl _) fun _ h => nomatch h)
  | x :: xs, P, hc, hf, h => by
    unfold lcT
    have hc' := fun y hy => hc y (List.mem_cons_of_mem _ hy)
    have hf' := fun y hy => hf y (List.mem_cons_of_mem _ hy)
    refine wp_next _ (hc x List.mem_cons_self) fun b _ => ?_
    refine wp_ite (fun _ => ?_) fun _ => ?_
    · refine wp_next _ (hf x List.mem_cons_self) fun a ha => ?_
      rw [wp_bind]
      refine lcT_both Q hc' hf' fun ys hl hy => wp_ret.mpr (h (a :: ys) (by simp; omega) fun y hm => ?_)
      rcases List.mem_cons.mp hm with rfl | hm
      · exact ha
      · exact hy y hm
    · exact lcT_both Q hc' hf' fun ys hl hy => h ys (by simp; omega) hy
theorem fitPair {s : Str} {k : Int} (hs : szD (.str s) ≤ 20) (hk : k.natAbs < 2 ^ 30) : Fits (.tuple [.str s, .int k]) 1 200 := by
  have := (FL.cons (fitS hs) (FL.cons ((fitI (b := 30) hk (by omega)).mono (dep' := 0) (by omega) (Nat.le_refl _)) FL.nil)).tup
  exact this.mono (by omega) (by omega)
end L2.Zy
namespace L2.Zy.K62
open PySem PyProof.Rows PySem.Spec L2.Zy
def topS (i : Nat) : Stmt := PySem.Challenge.pw_webmaps_k62_whole_main_parted.main.body.getD i (.Pass ⟨0, 0, 0, 0⟩)
abbrev s_is_number : Stmt := topS 4
abbrev n_is_number : List Str := ["value"]
theorem sc_is_number : FnScope n_is_number ["value"] (defScope s_is_number) := ⟨rfl, rfl, rfl, by decide +kernel, rfl, by decide +kernel, by decide +kernel⟩
abbrev s_is_within : Stmt := topS 5
abbrev n_is_within : List Str := ["value", "least", "most"]
theorem sc_is_within : FnScope n_is_within ["value", "least", "most"] (defScope s_is_within) := ⟨rfl, rfl, rfl, by decide +kernel, rfl, by decide +kernel, by decide +kernel⟩
abbrev s_has_road : Stmt := topS 6
abbrev n_has_road : List Str := ["web", "one", "other"]
theorem sc_has_road : FnScope n_has_road ["web", "one", "other"] (defScope s_has_road) := ⟨rfl, rfl, rfl, by decide +kernel, rfl, by decide +kernel, by decide +kernel⟩
abbrev s_neighbour_lists : Stmt := topS 7
abbrev n_neighbour_lists : List Str := ["web", "found", "one", "other", "house", "near"]
theorem sc_neighbour_lists : FnScope n_neighbour_lists ["web"] (defScope s_neighbour_lists) := ⟨rfl, rfl, rfl, by decide +kernel, rfl, by decide +kernel, by decide +kernel⟩
abbrev s_is_plain : Stmt := topS 8
abbrev n_is_plain : List Str := ["web", "one", "other"]
theorem sc_is_plain : FnScope n_is_plain ["web"] (defScope s_is_plain) := ⟨rfl, rfl, rfl, by decide +kernel, rfl, by decide +kernel, by decide +kernel⟩
abbrev s_full_size : Stmt := topS 10
abbrev n_full_size : List Str := ["web", "near", "best", "waiting", "lot", "left", "place", "house", "other"]
theorem sc_full_size : FnScope n_full_size ["web"] (defScope s_full_size) := ⟨rfl, rfl, rfl, by decide +kernel, rfl, by decide +kernel, by decide +kernel⟩
abbrev s_parted_web : Stmt := topS 12
abbrev n_parted_web : List Str := ["m", "k", "names", "lot", "roads", "one", "other"]
theorem sc_parted_web : FnScope n_parted_web ["m", "k"] (defScope s_parted_web) := ⟨rfl, rfl, rfl, by decide +kernel, rfl, by decide +kernel, by decide +kernel⟩
abbrev s_most_roads : Stmt := topS 13
abbrev n_most_roads : List Str := ["m", "k"]
theorem sc_most_roads : FnScope n_most_roads ["m", "k"] (defScope s_most_roads) := ⟨rfl, rfl, rfl, by decide +kernel, rfl, by decide +kernel, by decide +kernel⟩
abbrev s_is_house_row : Stmt := topS 14
abbrev n_is_house_row : List Str := ["web", "value", "size", "house", "one", "other"]
theorem sc_is_house_row : FnScope n_is_house_row ["web", "value", "size"] (defScope s_is_house_row) := ⟨rfl, rfl, rfl, by decide +kernel, rfl, by decide +kernel, by decide +kernel⟩
abbrev s_full_error : Stmt := topS 15
abbrev n_full_error : List Str := ["web", "k", "value", "place", "one", "other"]
theorem sc_full_error : FnScope n_full_error ["web", "k", "value"] (defScope s_full_error) := ⟨rfl, rfl, rfl, by decide +kernel, rfl, by decide +kernel, by decide +kernel⟩
abbrev s_some_full : Stmt := topS 16
abbrev n_some_full : List Str := ["web", "size", "waiting", "houses", "start", "house", "own"]
theorem sc_some_full : FnScope n_some_full ["web", "size"] (defScope s_some_full) := ⟨rfl, rfl, rfl, by decide +kernel, rfl, by decide +kernel, by decide +kernel⟩
abbrev s_roads_paper : Stmt := topS 17
abbrev n_roads_paper : List Str := ["web", "k", "found"]
theorem sc_roads_paper : FnScope n_roads_paper ["web", "k"] (defScope s_roads_paper) := ⟨rfl, rfl, rfl, by decide +kernel, rfl, by decide +kernel, by decide +kernel⟩
abbrev s_roads_paper_error : Stmt := topS 18
abbrev n_roads_paper_error : List Str := ["web", "k", "value", "word", "item", "most"]
theorem sc_roads_paper_error : FnScope n_roads_paper_error ["web", "k", "value"] (defScope s_roads_paper_error) := ⟨rfl, rfl, rfl, by decide +kernel, rfl, by decide +kernel, by decide +kernel⟩
abbrev s__law_jar : Stmt := topS 20
abbrev n__law_jar : List Str := ["script", "stirred", "cell", "great"]
theorem sc__law_jar : FnScope n__law_jar ["script"] (defScope s__law_jar) := ⟨rfl, rfl, rfl, by decide +kernel, rfl, by decide +kernel, by decide +kernel⟩
abbrev s__law_draw : Stmt := topS 21
abbrev n__law_draw : List Str := ["jar", "many", "whole", "one"]
theorem sc__law_draw : FnScope n__law_draw ["jar", "many"] (defScope s__law_draw) := ⟨rfl, rfl, rfl, by decide +kernel, rfl, by decide +kernel, by decide +kernel⟩
abbrev s__law_pick : Stmt := topS 22
abbrev n__law_pick : List Str := ["jar", "some"]
theorem sc__law_pick : FnScope n__law_pick ["jar", "some"] (defScope s__law_pick) := ⟨rfl, rfl, rfl, by decide +kernel, rfl, by decide +kernel, by decide +kernel⟩
abbrev s__law_mixed : Stmt := topS 23
abbrev n__law_mixed : List Str := ["jar", "some", "rest", "found"]
theorem sc__law_mixed : FnScope n__law_mixed ["jar", "some"] (defScope s__law_mixed) := ⟨rfl, rfl, rfl, by decide +kernel, rfl, by decide +kernel, by decide +kernel⟩
abbrev s__law_full_lots : Stmt := topS 24
abbrev n__law_full_lots : List Str := ["web", "size", "near", "found", "turn", "longer", "lot", "begin", "i", "j"]
theorem sc__law_full_lots : FnScope n__law_full_lots ["web", "size"] (defScope s__law_full_lots) := ⟨rfl, rfl, rfl, by decide +kernel, rfl, by decide +kernel, by decide +kernel⟩
abbrev s__law_odd : Stmt := topS 25
abbrev n__law_odd : List Str := ["jar", "some"]
theorem sc__law_odd : FnScope n__law_odd ["jar"] (defScope s__law_odd) := ⟨rfl, rfl, rfl, by decide +kernel, rfl, by decide +kernel, by decide +kernel⟩
abbrev s__law_is_integer : Stmt := topS 26
abbrev n__law_is_integer : List Str := ["value"]
theorem sc__law_is_integer : FnScope n__law_is_integer ["value"] (defScope s__law_is_integer) := ⟨rfl, rfl, rfl, by decide +kernel, rfl, by decide +kernel, by decide +kernel⟩
abbrev s__law_pairs : Stmt := topS 27
abbrev n__law_pairs : List Str := ["many", "is_looped", "found", "i", "j"]
theorem sc__law_pairs : FnScope n__law_pairs ["many", "is_looped"] (defScope s__law_pairs) := ⟨rfl, rfl, rfl, by decide +kernel, rfl, by decide +kernel, by decide +kernel⟩
abbrev s__law_web : Stmt := topS 28
abbrev n__law_web : List Str := ["jar", "many", "is_looped", "share", "road"]
theorem sc__law_web : FnScope n__law_web ["jar", "many", "is_looped"] (defScope s__law_web) := ⟨rfl, rfl, rfl, by decide +kernel, rfl, by decide +kernel, by decide +kernel⟩
abbrev s__law_renamed : Stmt := topS 29
abbrev n__law_renamed : List Str := ["web", "names", "roads", "i", "j"]
theorem sc__law_renamed : FnScope n__law_renamed ["web", "names"] (defScope s__law_renamed) := ⟨rfl, rfl, rfl, by decide +kernel, rfl, by decide +kernel, by decide +kernel⟩
abbrev s__law_called : Stmt := topS 30
abbrev n__law_called : List Str := ["jar", "web"]
theorem sc__law_called : FnScope n__law_called ["jar", "web"] (defScope s__law_called) := ⟨rfl, rfl, rfl, by decide +kernel, rfl, by decide +kernel, by decide +kernel⟩
abbrev s__law_table : Stmt := topS 31
abbrev n__law_table : List Str := ["web", "found", "i", "j"]
theorem sc__law_table : FnScope n__law_table ["web"] (defScope s__law_table) := ⟨rfl, rfl, rfl, by decide +kernel, rfl, by decide +kernel, by decide +kernel⟩
abbrev s__law_parted : Stmt := topS 32
abbrev n__law_parted : List Str := ["many", "lots", "where", "k", "size", "i", "j"]
theorem sc__law_parted : FnScope n__law_parted ["many", "lots"] (defScope s__law_parted) := ⟨rfl, rfl, rfl, by decide +kernel, rfl, by decide +kernel, by decide +kernel⟩
abbrev s__law_full_fault : Stmt := topS 33
abbrev n__law_full_fault : List Str := ["web", "size", "value", "near", "p", "i", "some", "own", "one", "other", "j"]
theorem sc__law_full_fault : FnScope n__law_full_fault ["web", "size", "value"] (defScope s__law_full_fault) := ⟨rfl, rfl, rfl, by decide +kernel, rfl, by decide +kernel, by decide +kernel⟩
abbrev s__law_fault : Stmt := topS 34
abbrev n__law_fault : List Str := ["web", "size", "value", "most"]
theorem sc__law_fault : FnScope n__law_fault ["web", "size", "value"] (defScope s__law_fault) := ⟨rfl, rfl, rfl, by decide +kernel, rfl, by decide +kernel, by decide +kernel⟩
abbrev s__law_plain : Stmt := topS 35
abbrev n__law_plain : List Str := ["jar", "many", "web", "road", "roads", "own"]
theorem sc__law_plain : FnScope n__law_plain ["jar"] (defScope s__law_plain) := ⟨rfl, rfl, rfl, by decide +kernel, rfl, by decide +kernel, by decide +kernel⟩
abbrev s__law_values : Stmt := topS 36
abbrev n__law_values : List Str := ["jar", "web", "size", "lots", "lot", "other", "some", "values", "number", "own"]
theorem sc__law_values : FnScope n__law_values ["jar", "web", "size"] (defScope s__law_values) := ⟨rfl, rfl, rfl, by decide +kernel, rfl, by decide +kernel, by decide +kernel⟩
abbrev s_law : Stmt := topS 37
abbrev n_law : List Str := ["script", "jar", "many", "lots", "due", "told", "turn", "web", "size", "kept", "values", "some", "k", "value", "error"]
theorem sc_law : FnScope n_law ["script"] (defScope s_law) := ⟨rfl, rfl, rfl, by decide +kernel, rfl, by decide +kernel, by decide +kernel⟩
abbrev kn0 : PotKeys := ⟨"digits", ["stirred", "turn"], false⟩
structure Tx (K : PySem.W.Frag) (mg : Str → Option Value) where
  a_is_number : Addr
  f_is_number : FuncData
  F_is_number : Fun K "is_number" "is_number" s_is_number a_is_number f_is_number
  m_is_number : mg "is_number" = some (.ref a_is_number)
  a_is_within : Addr
  f_is_within : FuncData
  F_is_within : Fun K "is_within" "is_within" s_is_within a_is_within f_is_within
  m_is_within : mg "is_within" = some (.ref a_is_within)
  a_has_road : Addr
  f_has_road : FuncData
  F_has_road : Fun K "has_road" "has_road" s_has_road a_has_road f_has_road
  m_has_road : mg "has_road" = some (.ref a_has_road)
  a_neighbour_lists : Addr
  f_neighbour_lists : FuncData
  F_neighbour_lists : Fun K "neighbour_lists" "neighbour_lists" s_neighbour_lists a_neighbour_lists f_neighbour_lists
  m_neighbour_lists : mg "neighbour_lists" = some (.ref a_neighbour_lists)
  a_is_plain : Addr
  f_is_plain : FuncData
  F_is_plain : Fun K "is_plain" "is_plain" s_is_plain a_is_plain f_is_plain
  m_is_plain : mg "is_plain" = some (.ref a_is_plain)
  a_full_size : Addr
  f_full_size : FuncData
  F_full_size : Fun K "full_size" "full_size" s_full_size a_full_size f_full_size
  m_full_size : mg "full_size" = some (.ref a_full_size)
  a_parted_web : Addr
  f_parted_web : FuncData
  F_parted_web : Fun K "parted_web" "parted_web" s_parted_web a_parted_web f_parted_web
  m_parted_web : mg "parted_web" = some (.ref a_parted_web)
  a_most_roads : Addr
  f_most_roads : FuncData
  F_most_roads : Fun K "most_roads" "most_roads" s_most_roads a_most_roads f_most_roads
  m_most_roads : mg "most_roads" = some (.ref a_most_roads)
  a_is_house_row : Addr
  f_is_house_row : FuncData
  F_is_house_row : Fun K "is_house_row" "is_house_row" s_is_house_row a_is_house_row f_is_house_row
  m_is_house_row : mg "is_house_row" = some (.ref a_is_house_row)
  a_full_error : Addr
  f_full_error : FuncData
  F_full_error : Fun K "full_error" "full_error" s_full_error a_full_error f_full_error
  m_full_error : mg "full_error" = some (.ref a_full_error)
  a_some_full : Addr
  f_some_full : FuncData
  F_some_full : Fun K "some_full" "some_full" s_some_full a_some_full f_some_full
  m_some_full : mg "some_full" = some (.ref a_some_full)
  a_roads_paper : Addr
  f_roads_paper : FuncData
  F_roads_paper : Fun K "roads_paper" "roads_paper" s_roads_paper a_roads_paper f_roads_paper
  m_roads_paper : mg "roads_paper" = some (.ref a_roads_paper)
  a_roads_paper_error : Addr
  f_roads_paper_error : FuncData
  F_roads_paper_error : Fun K "roads_paper_error" "roads_paper_error" s_roads_paper_error a_roads_paper_error f_roads_paper_error
  m_roads_paper_error : mg "roads_paper_error" = some (.ref a_roads_paper_error)
  a__law_jar : Addr
  f__law_jar : FuncData
  F__law_jar : Fun K "_law_jar" "_law_jar" s__law_jar a__law_jar f__law_jar
  m__law_jar : mg "_law_jar" = some (.ref a__law_jar)
  a__law_draw : Addr
  f__law_draw : FuncData
  F__law_draw : Fun K "_law_draw" "_law_draw" s__law_draw a__law_draw f__law_draw
  m__law_draw : mg "_law_draw" = some (.ref a__law_draw)
  a__law_pick : Addr
  f__law_pick : FuncData
  F__law_pick : Fun K "_law_pick" "_law_pick" s__law_pick a__law_pick f__law_pick
  m__law_pick : mg "_law_pick" = some (.ref a__law_pick)
  a__law_mixed : Addr
  f__law_mixed : FuncData
  F__law_mixed : Fun K "_law_mixed" "_law_mixed" s__law_mixed a__law_mixed f__law_mixed
  m__law_mixed : mg "_law_mixed" = some (.ref a__law_mixed)
  a__law_full_lots : Addr
  f__law_full_lots : FuncData
  F__law_full_lots : Fun K "_law_full_lots" "_law_full_lots" s__law_full_lots a__law_full_lots f__law_full_lots
  m__law_full_lots : mg "_law_full_lots" = some (.ref a__law_full_lots)
  a__law_odd : Addr
  f__law_odd : FuncData
  F__law_odd : Fun K "_law_odd" "_law_odd" s__law_odd a__law_odd f__law_odd
  m__law_odd : mg "_law_odd" = some (.ref a__law_odd)
  a__law_is_integer : Addr
  f__law_is_integer : FuncData
  F__law_is_integer : Fun K "_law_is_integer" "_law_is_integer" s__law_is_integer a__law_is_integer f__law_is_integer
  m__law_is_integer : mg "_law_is_integer" = some (.ref a__law_is_integer)
  a__law_pairs : Addr
  f__law_pairs : FuncData
  F__law_pairs : Fun K "_law_pairs" "_law_pairs" s__law_pairs a__law_pairs f__law_pairs
  m__law_pairs : mg "_law_pairs" = some (.ref a__law_pairs)
  a__law_web : Addr
  f__law_web : FuncData
  F__law_web : Fun K "_law_web" "_law_web" s__law_web a__law_web f__law_web
  m__law_web : mg "_law_web" = some (.ref a__law_web)
  a__law_renamed : Addr
  f__law_renamed : FuncData
  F__law_renamed : Fun K "_law_renamed" "_law_renamed" s__law_renamed a__law_renamed f__law_renamed
  m__law_renamed : mg "_law_renamed" = some (.ref a__law_renamed)
  a__law_called : Addr
  f__law_called : FuncData
  F__law_called : Fun K "_law_called" "_law_called" s__law_called a__law_called f__law_called
  m__law_called : mg "_law_called" = some (.ref a__law_called)
  a__law_table : Addr
  f__law_table : FuncData
  F__law_table : Fun K "_law_table" "_law_table" s__law_table a__law_table f__law_table
  m__law_table : mg "_law_table" = some (.ref a__law_table)
  a__law_parted : Addr
  f__law_parted : FuncData
  F__law_parted : Fun K "_law_parted" "_law_parted" s__law_parted a__law_parted f__law_parted
  m__law_parted : mg "_law_parted" = some (.ref a__law_parted)
  a__law_full_fault : Addr
  f__law_full_fault : FuncData
  F__law_full_fault : Fun K "_law_full_fault" "_law_full_fault" s__law_full_fault a__law_full_fault f__law_full_fault
  m__law_full_fault : mg "_law_full_fault" = some (.ref a__law_full_fault)
  a__law_fault : Addr
  f__law_fault : FuncData
  F__law_fault : Fun K "_law_fault" "_law_fault" s__law_fault a__law_fault f__law_fault
  m__law_fault : mg "_law_fault" = some (.ref a__law_fault)
  a__law_plain : Addr
  f__law_plain : FuncData
  F__law_plain : Fun K "_law_plain" "_law_plain" s__law_plain a__law_plain f__law_plain
  m__law_plain : mg "_law_plain" = some (.ref a__law_plain)
  a__law_values : Addr
  f__law_values : FuncData
  F__law_values : Fun K "_law_values" "_law_values" s__law_values a__law_values f__law_values
  m__law_values : mg "_law_values" = some (.ref a__law_values)
  a_law : Addr
  f_law : FuncData
  F_law : Fun K "law" "law" s_law a_law f_law
  m_law : mg "law" = some (.ref a_law)
  z_abs : mg "abs" = none
  z_all : mg "all" = none
  z_any : mg "any" = none
  z_bool : mg "bool" = none
  z_enumerate : mg "enumerate" = none
  z_int : mg "int" = none
  z_isinstance : mg "isinstance" = none
  z_len : mg "len" = none
  z_list : mg "list" = none
  z_max : mg "max" = none
  z_min : mg "min" = none
  z_range : mg "range" = none
  z_repr : mg "repr" = none
  z_sorted : mg "sorted" = none
  z_str : mg "str" = none
  z_tuple : mg "tuple" = none
  z_zip : mg "zip" = none
section
variable {P : Program} {w : World} {K : PySem.W.Frag} {mg : Str → Option Value} {base : Heap}
theorem b__law_called (T : Tx K mg) : Binds K T.f__law_called ["jar", "web"] [] := T.F__law_called.binds fun _ _ _ _ _ _ us hl => match us, hl with | [_, _], _ => rfl
theorem b__law_draw (T : Tx K mg) : Binds K T.f__law_draw ["jar", "many"] [] := T.F__law_draw.binds fun _ _ _ _ _ _ us hl => match us, hl with | [_, _], _ => rfl
theorem b__law_fault (T : Tx K mg) : Binds K T.f__law_fault ["web", "size", "value"] [] := T.F__law_fault.binds fun _ _ _ _ _ _ us hl => match us, hl with | [_, _, _], _ => rfl
theorem b__law_full_fault (T : Tx K mg) : Binds K T.f__law_full_fault ["web", "size", "value"] [] := T.F__law_full_fault.binds fun _ _ _ _ _ _ us hl => match us, hl with | [_, _, _], _ => rfl
theorem b__law_full_lots (T : Tx K mg) : Binds K T.f__law_full_lots ["web", "size"] [] := T.F__law_full_lots.binds fun _ _ _ _ _ _ us hl => match us, hl with | [_, _], _ => rfl
theorem b__law_is_integer (T : Tx K mg) : Binds K T.f__law_is_integer ["value"] [] := T.F__law_is_integer.binds fun _ _ _ _ _ _ us hl => match us, hl with | [_], _ => rfl
theorem b__law_jar (T : Tx K mg) : Binds K T.f__law_jar ["script"] [] := T.F__law_jar.binds fun _ _ _ _ _ _ us hl => match us, hl with | [_], _ => rfl
theorem b__law_mixed (T : Tx K mg) : Binds K T.f__law_mixed ["jar", "some"] [] := T.F__law_mixed.binds fun _ _ _ _ _ _ us hl => match us, hl with | [_, _], _ => rfl
theorem b__law_odd (T : Tx K mg) : Binds K T.f__law_odd ["jar"] [] := T.F__law_odd.binds fun _ _ _ _ _ _ us hl => match us, hl with | [_], _ => rfl
theorem b__law_pairs (T : Tx K mg) : Binds K T.f__law_pairs ["many", "is_looped"] [] := T.F__law_pairs.binds fun _ _ _ _ _ _ us hl => match us, hl with | [_, _], _ => rfl
theorem b__law_parted (T : Tx K mg) : Binds K T.f__law_parted ["many", "lots"] [] := T.F__law_parted.binds fun _ _ _ _ _ _ us hl => match us, hl with | [_, _], _ => rfl
theorem b__law_pick (T : Tx K mg) : Binds K T.f__law_pick ["jar", "some"] [] := T.F__law_pick.binds fun _ _ _ _ _ _ us hl => match us, hl with | [_, _], _ => rfl
theorem b__law_plain (T : Tx K mg) : Binds K T.f__law_plain ["jar"] [] := T.F__law_plain.binds fun _ _ _ _ _ _ us hl => match us, hl with | [_], _ => rfl
theorem b__law_renamed (T : Tx K mg) : Binds K T.f__law_renamed ["web", "names"] [] := T.F__law_renamed.binds fun _ _ _ _ _ _ us hl => match us, hl with | [_, _], _ => rfl
theorem b__law_table (T : Tx K mg) : Binds K T.f__law_table ["web"] [] := T.F__law_table.binds fun _ _ _ _ _ _ us hl => match us, hl with | [_], _ => rfl
theorem b__law_values (T : Tx K mg) : Binds K T.f__law_values ["jar", "web", "size"] [] := T.F__law_values.binds fun _ _ _ _ _ _ us hl => match us, hl with | [_, _, _], _ => rfl
theorem b__law_web (T : Tx K mg) : Binds K T.f__law_web ["jar", "many", "is_looped"] [] := T.F__law_web.binds fun _ _ _ _ _ _ us hl => match us, hl with | [_, _, _], _ => rfl
theorem b_full_error (T : Tx K mg) : Binds K T.f_full_error ["web", "k", "value"] [] := T.F_full_error.binds fun _ _ _ _ _ _ us hl => match us, hl with | [_, _, _], _ => rfl
theorem b_full_size (T : Tx K mg) : Binds K T.f_full_size ["web"] [] := T.F_full_size.binds fun _ _ _ _ _ _ us hl => match us, hl with | [_], _ => rfl
theorem b_has_road (T : Tx K mg) : Binds K T.f_has_road ["web", "one", "other"] [] := T.F_has_road.binds fun _ _ _ _ _ _ us hl => match us, hl with | [_, _, _], _ => rfl
theorem b_is_house_row (T : Tx K mg) : Binds K T.f_is_house_row ["web", "value", "size"] [] := T.F_is_house_row.binds fun _ _ _ _ _ _ us hl => match us, hl with | [_, _, _], _ => rfl
theorem b_is_number (T : Tx K mg) : Binds K T.f_is_number ["value"] [] := T.F_is_number.binds fun _ _ _ _ _ _ us hl => match us, hl with | [_], _ => rfl
theorem b_is_plain (T : Tx K mg) : Binds K T.f_is_plain ["web"] [] := T.F_is_plain.binds fun _ _ _ _ _ _ us hl => match us, hl with | [_], _ => rfl
theorem b_is_within (T : Tx K mg) : Binds K T.f_is_within ["value", "least", "most"] [] := T.F_is_within.binds fun _ _ _ _ _ _ us hl => match us, hl with | [_, _, _], _ => rfl
theorem b_most_roads (T : Tx K mg) : Binds K T.f_most_roads ["m", "k"] [] := T.F_most_roads.binds fun _ _ _ _ _ _ us hl => match us, hl with | [_, _], _ => rfl
theorem b_neighbour_lists (T : Tx K mg) : Binds K T.f_neighbour_lists ["web"] [] := T.F_neighbour_lists.binds fun _ _ _ _ _ _ us hl => match us, hl with | [_], _ => rfl
theorem b_parted_web (T : Tx K mg) : Binds K T.f_parted_web ["m", "k"] [] := T.F_parted_web.binds fun _ _ _ _ _ _ us hl => match us, hl with | [_, _], _ => rfl
theorem b_roads_paper (T : Tx K mg) : Binds K T.f_roads_paper ["web", "k"] [] := T.F_roads_paper.binds fun _ _ _ _ _ _ us hl => match us, hl with | [_, _], _ => rfl
theorem b_roads_paper_error (T : Tx K mg) : Binds K T.f_roads_paper_error ["web", "k", "value"] [] := T.F_roads_paper_error.binds fun _ _ _ _ _ _ us hl => match us, hl with | [_, _, _], _ => rfl
theorem b_some_full (T : Tx K mg) : Binds K T.f_some_full ["web", "size"] [] := T.F_some_full.binds fun _ _ _ _ _ _ us hl => match us, hl with | [_, _], _ => rfl
theorem bk_full_error_2_1_0 (T : Tx K mg) (s : Shared) (ws : List Value) (h : ws.length = 3) : BindsTo s T.f_full_error ⟨[], (["value", "k", "web"] : List Str).zip ws⟩ ((["web", "k", "value"] : List Str).zip (gP [2, 1, 0] ws)) := by
  obtain ⟨oc, od, kV, doc, pm, an, cdv, ct, osl, e, _⟩ := T.F_full_error.ex
  rw [e]
  match ws, h with
  | [_, _, _], _ => exact .of_eq rfl
theorem bk_most_roads_1_0 (T : Tx K mg) (s : Shared) (ws : List Value) (h : ws.length = 2) : BindsTo s T.f_most_roads ⟨[], (["k", "m"] : List Str).zip ws⟩ ((["m", "k"] : List Str).zip (gP [1, 0] ws)) := by
  obtain ⟨oc, od, kV, doc, pm, an, cdv, ct, osl, e, _⟩ := T.F_most_roads.ex
  rw [e]
  match ws, h with
  | [_, _], _ => exact .of_eq rfl
theorem bk_parted_web_1_0 (T : Tx K mg) (s : Shared) (ws : List Value) (h : ws.length = 2) : BindsTo s T.f_parted_web ⟨[], (["k", "m"] : List Str).zip ws⟩ ((["m", "k"] : List Str).zip (gP [1, 0] ws)) := by
  obtain ⟨oc, od, kV, doc, pm, an, cdv, ct, osl, e, _⟩ := T.F_parted_web.ex
  rw [e]
  match ws, h with
  | [_, _], _ => exact .of_eq rfl
theorem bk_roads_paper_1_0 (T : Tx K mg) (s : Shared) (ws : List Value) (h : ws.length = 2) : BindsTo s T.f_roads_paper ⟨[], (["k", "web"] : List Str).zip ws⟩ ((["web", "k"] : List Str).zip (gP [1, 0] ws)) := by
  obtain ⟨oc, od, kV, doc, pm, an, cdv, ct, osl, e, _⟩ := T.F_roads_paper.ex
  rw [e]
  match ws, h with
  | [_, _], _ => exact .of_eq rfl
theorem bk_roads_paper_error_2_1_0 (T : Tx K mg) (s : Shared) (ws : List Value) (h : ws.length = 3) : BindsTo s T.f_roads_paper_error ⟨[], (["value", "k", "web"] : List Str).zip ws⟩ ((["web", "k", "value"] : List Str).zip (gP [2, 1, 0] ws)) := by
  obtain ⟨oc, od, kV, doc, pm, an, cdv, ct, osl, e, _⟩ := T.F_roads_paper_error.ex
  rw [e]
  match ws, h with
  | [_, _, _], _ => exact .of_eq rfl
/-- a number below the second argument is drawn -/
noncomputable def d__law_draw : List M → T M := drawJ
noncomputable def b_D_is_number : Sm := (retS (andV (un1 (isiM .int) (nm 0)) (notV (un1 (isiM .bool) (nm 0)))))
@[irreducible] noncomputable def d_is_number : List M → T M := bodyD 1 b_D_is_number
noncomputable def b_D_is_within : Sm := (retS (andV (callD 1 d_is_number (consL (nm 0) nilL)) (chainV leA leA (nm 1) (nm 0) (nm 2))))
@[irreducible] noncomputable def d_is_within : List M → T M := bodyD 3 b_D_is_within
noncomputable def b_D_has_road : Sm := (retS (bin inM (tupD (consL (callG (arg2 min2M) (consL (nm 1) (consL (nm 2) nilL))) (consL (callG (arg2 max2M) (consL (nm 1) (consL (nm 2) nilL))) nilL))) (bin ixM (nm 0) (kM (.int 1)))))
@[irreducible] noncomputable def d_has_road : List M → T M := bodyD 3 b_D_has_road
noncomputable def b_D_neighbour_lists : Sm := (seqS (asgS 1 (lcL [4] (fun st => (consL (bin ixM (nm 0) (kM (.int 0))) nilL) st >>= range1) (setD 4) yesT (lstD nilL)))
    (seqS (killS [2, 3] (forS (itemsP (bin ixM (nm 0) (kM (.int 1)))) [0, 2, 3] (unpD 2 (consG (setD 2) (consG (setD 3) nilG)))
    (seqS (appR 1 (nm 2) (nmP 3))
    (seqS (iteS (fun st => bin neM (nm 3) (nm 2) st >>= boolM)
    (appR 1 (nm 3) (nmP 2))
    skS)
    (killS [0, 2, 3] (killS [0, 2, 3] skS))))))
    (killS [0, 2, 3] (frzS 1 (retS (un1 frz (lcD [5] (itemsE (nm 1)) (setD 5) yesT (un1 frz (callG (arg1 sortM) (consL (nm 5) nilL))))))))))
@[irreducible] noncomputable def d_neighbour_lists : List M → T M := bodyD 6 b_D_neighbour_lists
noncomputable def b_D_is_plain : Sm := (retS (callG (arg1 allM) (consL (lcD [1, 2] (itemsE (bin ixM (nm 0) (kM (.int 1)))) (unpD 2 (consG (setD 1) (consG (setD 2) nilG))) yesT (bin neM (nm 1) (nm 2))) nilL)))
@[irreducible] noncomputable def d_is_plain : List M → T M := bodyD 3 b_D_is_plain
noncomputable def b_D_full_size : Sm := (seqS (iteS (notT (fun st => (callD 1 d_is_plain (consL (nm 0) nilL)) st >>= truM))
    (fun _ => .bad)
    skS)
    (killS [1, 2, 3, 4, 5, 6, 7] (seqS (par3 1 2 3 (un1 frz (callD 1 d_neighbour_lists (consL (nm 0) nilL))) (kM (.int 0)) (lstD (consL (tupD (consL (tupD nilL) (consL (un1 frz (rgL (consL (bin ixM (nm 0) (kM (.int 0))) nilL))) nilL))) nilL)))
    (seqS (killS [0, 4, 5, 6, 7] (whlS (fun st => bin neM (nm 3) (lstD nilL) st >>= boolM)
    (seqS (popG 3 (unpD 2 (consG (setD 4) (consG (setD 5) nilG))))
    (seqS (asgS 2 (callG (arg2 max2M) (consL (nm 2) (consL (callG (arg1 lenM) (consL (nm 4) nilL)) nilL))))
    (seqS (killS [0, 6, 7] (forS (enumP (consL (nm 5) nilL)) [0, 6, 7] (unpD 2 (consG (setD 6) (consG (setD 7) nilG)))
    (seqS (appS 3 (tupD (consL (un1 frz (bin addM (nm 4) (tupD (consL (nm 7) nilL)))) (consL (un1 frz (lcD [8] (itemsE (cutF (nm 5) (someO (bin addM (nm 6) (kM (.int 1)))) noO)) (setD 8) (fun st => bin inM (nm 8) (bin ixM (nm 1) (nm 7)) st >>= boolM) (nmP 8))) nilL))))
    (killS [0, 6, 7] skS))))
    (killS [0, 4, 5, 6, 7] (killS [0, 4, 5, 6, 7] skS)))))))
    (killS [0, 1, 3, 4, 5, 6, 7] (retS (nmP 2)))))))
@[irreducible] noncomputable def d_full_size : List M → T M := bodyD 9 b_D_full_size
noncomputable def b_D_parted_web : Sm := (seqS (asgS 2 (lstD nilL))
    (seqS (killS [3, 4, 5] (forS (fun st => (consL (nm 1) nilL) st >>= range1) [3, 4, 5] (setD 3)
    (seqS (extS 2 (bin mulM (lstD (consL (nm 3) nilL)) (bin addM (bin fdivM (nm 0) (nm 1)) (callG (arg1 intM) (consL (bin ltM (nm 3) (bin modM (nm 0) (nm 1))) nilL)))))
    (killS [3, 4, 5] skS))))
    (killS [1, 3, 4, 5] (seqS (asgS 4 (lstD nilL))
    (seqS (killS [1, 3, 5] (forS (fun st => (consL (nm 0) nilL) st >>= range1) [1, 3, 5] (setD 5)
    (seqS (extS 4 (lcD [6] (fun st => (consL (bin addM (nm 5) (kM (.int 1))) (consL (nm 0) nilL)) st >>= range2) (setD 6) (fun st => bin neM (bin ixM (nm 2) (nm 5)) (bin ixM (nm 2) (nm 6)) st >>= boolM) (tupD (consL (nm 5) (consL (nm 6) nilL)))))
    (killS [1, 3, 5] skS))))
    (killS [1, 2, 3, 5] (retS (tupD (consL (nm 0) (consL (callG (arg1 tupM) (consL (nm 4) nilL)) nilL))))))))))
@[irreducible] noncomputable def d_parted_web : List M → T M := bodyD 7 b_D_parted_web
noncomputable def b_D_most_roads : Sm := (retS (callG (arg1 lenM) (consL (bin ixM (callD 2 d_parted_web (consL (nm 0) (consL (nm 1) nilL))) (kM (.int 1))) nilL)))
@[irreducible] noncomputable def d_most_roads : List M → T M := bodyD 2 b_D_most_roads
noncomputable def b_D_is_house_row : Sm := (seqS (iteS (orT (notT (fun st => (un1 (isiM .tuple) (nm 1)) st >>= truM)) (fun st => bin neM (callG (arg1 lenM) (consL (nm 1) nilL)) (nm 2) st >>= boolM))
    (retS (kM (.bool false)))
    skS)
    (killS [2] (seqS (iteS (notT (fun st => (callG (arg1 allM) (consL (lcD [3] (itemsE (nm 1)) (setD 3) yesT (un1 frz (callD 3 d_is_within (consL (nm 3) (consL (kM (.int 0)) (consL (bin subM (bin ixM (nm 0) (kM (.int 0))) (kM (.int 1))) nilL)))))) nilL)) st >>= truM))
    (retS (kM (.bool false)))
    skS)
    (killS [0, 2] (retS (callG (arg1 allM) (consL (lcD [4, 5] (zipE (consL (nm 1) (consL (cutF (nm 1) (someO (kM (.int 1))) noO) nilL))) (unpD 2 (consG (setD 4) (consG (setD 5) nilG))) yesT (bin ltM (nm 4) (nm 5))) nilL)))))))
@[irreducible] noncomputable def d_is_house_row : List M → T M := bodyD 6 b_D_is_house_row
noncomputable def b_D_full_error : Sm := (seqS (iteS (notT (fun st => (callD 3 d_is_house_row (consL (nm 0) (consL (nm 2) (consL (un1 frz (bin addM (nm 1) (kM (.int 1)))) nilL)))) st >>= truM))
    (retS (kM (.str "form")))
    skS)
    (killS [1, 3, 4, 5] (seqS (killS [1, 3, 4, 5] (forS (enumP (consL (nm 2) nilL)) [1, 3, 4, 5] (unpD 2 (consG (setD 3) (consG (setD 4) nilG)))
    (seqS (killS [1, 5] (forS (itemsP (un1 frz (cutF (nm 2) (someO (bin addM (nm 3) (kM (.int 1)))) noO))) [1, 3, 5] (setD 5)
    (seqS (iteS (notT (fun st => (callD 3 d_has_road (consL (nm 0) (consL (nm 4) (consL (nm 5) nilL)))) st >>= truM))
    (retS (tupD (consL (kM (.str "apart")) (consL (nm 4) (consL (nm 5) nilL)))))
    skS)
    (killS [1, 3, 5] (killS [1, 3, 5] skS)))))
    (killS [1, 3, 4, 5] (killS [1, 3, 4, 5] skS)))))
    (killS [0, 1, 2, 3, 4, 5] (retS (kM .none))))))
@[irreducible] noncomputable def d_full_error : List M → T M := bodyD 6 b_D_full_error
noncomputable def b_D_some_full : Sm := (seqS (asgS 2 (lstD (consL (tupD nilL) nilL)))
    (seqS (killS [3, 4, 5] (whlS (fun st => bin neM (nm 2) (lstD nilL) st >>= boolM)
    (seqS (popTo 2 3)
    (seqS (iteS (fun st => bin eqM (callG (arg1 lenM) (consL (nm 3) nilL)) (nm 1) st >>= boolM)
    (retS (nmP 3))
    skS)
    (killS [4, 5] (seqS (asgS 4 (un1 frz (iteM (fun st => bin neM (nm 3) (tupD nilL) st >>= boolM) (un1 frz (bin addM (bin ixM (nm 3) (un1 negM (kM (.int 1)))) (kM (.int 1)))) (kM (.int 0)))))
    (seqS (killS [5] (forS (fun st => (consL (bin subM (bin ixM (nm 0) (kM (.int 0))) (kM (.int 1))) (consL (bin subM (nm 4) (kM (.int 1))) (consL (un1 negM (kM (.int 1))) nilL))) st >>= range3) [4, 5] (setD 5)
    (seqS (iteS (fun st => (callG (arg1 allM) (consL (lcD [6] (itemsE (nm 3)) (setD 6) yesT (un1 frz (callD 3 d_has_road (consL (nm 0) (consL (nm 6) (consL (nm 5) nilL)))))) nilL)) st >>= truM)
    (appS 2 (un1 frz (bin addM (nm 3) (tupD (consL (nm 5) nilL)))))
    skS)
    (killS [4, 5] (killS [4, 5] skS)))))
    (killS [3, 4, 5] (killS [3, 4, 5] skS)))))))))
    (killS [0, 1, 2, 3, 4, 5] (retS (kM .none)))))
@[irreducible] noncomputable def d_some_full : List M → T M := bodyD 7 b_D_some_full
noncomputable def b_D_roads_paper : Sm := (seqS (asgS 2 (un1 frz (iteM (fun st => bin leA (bin addM (nm 1) (kM (.int 1))) (callD 1 d_full_size (consL (nm 0) nilL)) st >>= boolM) (un1 frz (callD 2 d_some_full (consL (nm 0) (consL (un1 frz (bin addM (nm 1) (kM (.int 1)))) nilL)))) (kM .none))))
    (retS (iteM (fun st => bin isnM (nm 2) (kM .none) st >>= boolM) (tupD (consL (kM (.str "full")) (consL (nm 2) nilL))) (tupD (consL (kM (.str "few")) (consL (callG (arg1 lenM) (consL (bin ixM (nm 0) (kM (.int 1))) nilL)) nilL))))))
@[irreducible] noncomputable def d_roads_paper : List M → T M := bodyD 3 b_D_roads_paper
noncomputable def b_D_roads_paper_error : Sm := (seqS (iteS (orT (notT (fun st => (un1 (isiM .tuple) (nm 2)) st >>= truM)) (orT (fun st => bin neM (callG (arg1 lenM) (consL (nm 2) nilL)) (kM (.int 2)) st >>= boolM) (notT (fun st => (un1 (isiM .str) (bin ixM (nm 2) (kM (.int 0)))) st >>= truM))))
    (retS (kM (.str "form")))
    skS)
    (killS [3, 4, 5] (seqS (fun st => (nmP 2) st >>= fun m => asD m >>= fun d => (unpD 2 (consG (setD 3) (consG (setD 4) nilG))) d st >>= fun st' => .ret (.nx, st'))
    (seqS (iteS (fun st => bin eqM (nm 3) (kM (.str "full")) st >>= boolM)
    (retS (un1 frz (callD 3 d_full_error (consL (nm 0) (consL (nm 1) (consL (nm 4) nilL))))))
    skS)
    (killS [2, 5] (seqS (iteS (fun st => bin neM (nm 3) (kM (.str "few")) st >>= boolM)
    (retS (kM (.str "form")))
    skS)
    (killS [2, 3, 5] (seqS (iteS (orT (notT (fun st => (callD 1 d_is_number (consL (nm 4) nilL)) st >>= truM)) (fun st => bin neM (nm 4) (callG (arg1 lenM) (consL (bin ixM (nm 0) (kM (.int 1))) nilL)) st >>= boolM))
    (retS (kM (.str "number")))
    skS)
    (killS [2, 3, 5] (seqS (asgS 5 (un1 frz (callD 2 d_most_roads (consL (bin ixM (nm 0) (kM (.int 0))) (consL (nm 1) nilL)))))
    (retS (iteM (fun st => bin gtM (nm 4) (nm 5) st >>= boolM) (tupD (consL (kM (.str "many")) (consL (nm 5) nilL))) (kM .none)))))))))))))
@[irreducible] noncomputable def d_roads_paper_error : List M → T M := bodyD 6 b_D_roads_paper_error
noncomputable def b_D__law_jar : Sm := (seqS (asgS 1 (un1 frz (bin addM (kM (.int 16259)) (bin mulM (kM (.int 73)) (callG (arg1 lenM) (consL (cutF (nm 0) noO (someO (kM (.int 63)))) nilL))))))
    (seqS (killS [2, 3] (forS (itemsP (un1 frz (cutF (nm 0) noO (someO (kM (.int 63)))))) [2, 3] (setD 2)
    (seqS (asgS 1 (bin modM (callG (arg1 intM) (consL (bin addM (bin addM (bin addM (bin mulM (nm 1) (kM (.int 69621))) (bin mulM (kM (.int 2)) (callG (arg1 absM) (consL (nm 2) nilL)))) (callG (arg1 intM) (consL (bin ltM (nm 2) (kM (.int 0))) nilL))) (kM (.int 5))) nilL)) (kM (.int 2147483587))))
    (killS [2, 3] skS))))
    (killS [2, 3] (seqS (asgS 3 (lcD [2] (itemsE (cutF (nm 0) noO (someO (kM (.int 63))))) (setD 2) (fun st => bin geM (callG (arg1 absM) (consL (nm 2) nilL)) (bin powM (kM (.int 10)) (kM (.int 14))) st >>= boolM) (callG (arg1 absM) (consL (nm 2) nilL))))
    (frzS 3 (retS (npot3 ⟨"digits", ["stirred", "turn"], false⟩ (un1 revA (nm 3)) (nmP 1) (kM (.int 0)))))))))
@[irreducible] noncomputable def d__law_jar : List M → T M := bodyD 4 b_D__law_jar
noncomputable def b_D__law_draw : Sm := (seqS (iteS (fun st => bin ltM (nm 1) (kM (.int 2)) st >>= boolM)
    (retS (kM (.int 0)))
    skS)
    (killS [2, 3] (seqS (greatJ 0 2 1 (retS (bin modM (callG (arg1 intM) (consL (nm 2) nilL)) (nm 1))))
    (seqS (fun st => (bin addM (fun st => nm 0 st >>= potGet) (kM (.int 1))) st >>= fun v => nm 0 st >>= fun m => potPut v m st)
    (seqS (asgS 3 (bin modM (callG (arg1 intM) (consL (bin addM (fun st => nm 0 st >>= potGet) (bin mulM (kM (.int 48271)) (fun st => nm 0 st >>= potGet))) nilL)) (kM (.int 2147483563))))
    (seqS (asgS 3 (bin modM (callG (arg1 intM) (consL (bin addM (bin addM (bin mulM (nm 3) (nm 3)) (bin mulM (kM (.int 39373)) (fun st => nm 0 st >>= potGet))) (kM (.int 13))) nilL)) (kM (.int 2147483549))))
    (retS (bin modM (callG (arg1 intM) (consL (bin fdivM (bin modM (callG (arg1 intM) (consL (bin addM (bin mulM (nm 3) (kM (.int 16807))) (fun st => nm 0 st >>= potGet)) nilL)) (kM (.int 2147483543))) (kM (.int 128))) nilL)) (nm 1)))))))))
noncomputable def b_D__law_pick : Sm := (retS (bin ixM (nm 1) (callD 2 d__law_draw (consL (nm 0) (consL (callG (arg1 lenM) (consL (nm 1) nilL)) nilL)))))
@[irreducible] noncomputable def d__law_pick : List M → T M := bodyD 2 b_D__law_pick
noncomputable def b_D__law_mixed : Sm := (seqS (par2 2 3 (callG (arg1 listM) (consL (nm 1) nilL)) (lstD nilL))
    (seqS (killS [1] (whlS (fun st => bin neM (nm 2) (lstD nilL) st >>= boolM)
    (seqS (appPop 3 2 (callD 2 d__law_draw (consL (nm 0) (consL (callG (arg1 lenM) (consL (nm 2) nilL)) nilL))))
    (killS [1] skS))))
    (killS [0, 1, 2] (retS (nm 3)))))
@[irreducible] noncomputable def d__law_mixed : List M → T M := bodyD 4 b_D__law_mixed
noncomputable def b_D__law_table : Sm := (seqS (asgS 1 (lcL [2] (fun st => (consL (bin ixM (nm 0) (kM (.int 0))) nilL) st >>= range1) (setD 2) yesT (bin mulM (lstD (consL (kM (.bool false)) nilL)) (bin ixM (nm 0) (kM (.int 0))))))
    (seqS (killS [2, 3] (forS (itemsP (bin ixM (nm 0) (kM (.int 1)))) [0, 2, 3] (unpD 2 (consG (setD 2) (consG (setD 3) nilG)))
    (seqS (setR 1 (nm 2) (nm 3) (kM (.bool true)))
    (seqS (setR 1 (nm 3) (nm 2) (kM (.bool true)))
    (killS [0, 2, 3] skS)))))
    (killS [0, 2, 3] (retS (nm 1)))))
@[irreducible] noncomputable def d__law_table : List M → T M := bodyD 4 b_D__law_table
noncomputable def b_D__law_full_lots : Sm := (seqS (par2 2 3 (un1 frz (callD 1 d__law_table (consL (nm 0) nilL))) (un1 frz (lstD (consL (tupD nilL) nilL))))
    (seqS (killS [4, 5, 6, 7] (forS (fun st => (consL (nm 1) nilL) st >>= range1) [1, 4, 5, 6, 7] (setD 4)
    (seqS (asgS 5 (lstD nilL))
    (seqS (killS [1, 4, 6, 7] (forS (itemsP (nm 3)) [1, 3, 4, 6, 7] (setD 6)
    (seqS (asgS 7 (un1 frz (iteM (fun st => bin neM (nm 6) (tupD nilL) st >>= boolM) (un1 frz (bin addM (bin ixM (nm 6) (un1 negM (kM (.int 1)))) (kM (.int 1)))) (kM (.int 0)))))
    (seqS (extS 5 (lcD [8] (fun st => (consL (nm 7) (consL (bin ixM (nm 0) (kM (.int 0))) nilL)) st >>= range2) (setD 8) (fun st => (callG (arg1 allM) (consL (lcD [9] (itemsE (nm 6)) (setD 9) yesT (bin ixM (bin ixM (nm 2) (nm 8)) (nm 9))) nilL)) st >>= truM) (un1 frz (bin addM (nm 6) (tupD (consL (nm 8) nilL))))))
    (killS [1, 3, 4, 6, 7] skS)))))
    (killS [1, 3, 4, 6, 7] (seqS (asgS 3 (un1 frz (callG (arg1 listM) (consL (nm 5) nilL))))
    (killS [1, 4, 5, 6, 7] skS)))))))
    (killS [0, 1, 2, 4, 5, 6, 7] (retS (nmP 3)))))
@[irreducible] noncomputable def d__law_full_lots : List M → T M := bodyD 10 b_D__law_full_lots
noncomputable def b_D__law_odd : Sm := (seqS (asgS 1 (un1 frz (lstD (consL (kM .none) (consL (kM (.int 0)) (consL (tupD nilL) (consL (un1 frz (lstD nilL)) (consL (tupD (consL (kM (.int 0)) nilL)) (consL (kM (.str "")) (consL (kM (.str "a")) (consL (un1 frz (fun _ => .ret (.dic []))) (consL (tupD (consL (tupD (consL (kM (.int 0)) (consL (kM (.int 0)) nilL))) nilL)) (consL (tupD (consL (kM (.int 1)) (consL (kM (.int 2)) nilL))) (consL (kM (.int 3)) (consL (un1 frz (lstD (consL (un1 frz (lstD nilL)) nilL))) (consL (kM (.bool true)) (consL (tupD (consL (kM .none) (consL (kM .none) nilL))) (consL (tupD (consL (kM (.int 0)) (consL (kM .none) nilL))) nilL))))))))))))))))))
    (retS (un1 frz (callD 2 d__law_pick (consL (nm 0) (consL (nm 1) nilL))))))
@[irreducible] noncomputable def d__law_odd : List M → T M := bodyD 2 b_D__law_odd
noncomputable def b_D__law_is_integer : Sm := (retS (andV (un1 (isiM .int) (nm 0)) (notV (un1 (isiM .bool) (nm 0)))))
@[irreducible] noncomputable def d__law_is_integer : List M → T M := bodyD 1 b_D__law_is_integer
noncomputable def b_D__law_pairs : Sm := (seqS (asgS 2 (lstD nilL))
    (seqS (killS [3] (forS (fun st => (consL (nm 0) nilL) st >>= range1) [3] (setD 3)
    (seqS (extS 2 (lcD [4] (fun st => (consL (iteM (fun st => (nm 1) st >>= truM) (nmP 3) (un1 frz (bin addM (nm 3) (kM (.int 1))))) (consL (nm 0) nilL)) st >>= range2) (setD 4) yesT (tupD (consL (nm 3) (consL (nm 4) nilL)))))
    (killS [3] skS))))
    (killS [0, 1, 3] (retS (nm 2)))))
@[irreducible] noncomputable def d__law_pairs : List M → T M := bodyD 5 b_D__law_pairs
noncomputable def b_D__law_web : Sm := (seqS (asgS 3 (un1 frz (bin addM (kM (.int 1)) (callD 2 d__law_draw (consL (nm 0) (consL (kM (.int 4)) nilL))))))
    (retS (tupD (consL (nm 1) (consL (callG (arg1 tupM) (consL (lcD [4] (itemsE (callD 2 d__law_pairs (consL (nm 1) (consL (nm 2) nilL)))) (setD 4) (fun st => bin ltM (callD 2 d__law_draw (consL (nm 0) (consL (kM (.int 5)) nilL))) (nm 3) st >>= boolM) (nmP 4)) nilL)) nilL)))))
@[irreducible] noncomputable def d__law_web : List M → T M := bodyD 5 b_D__law_web
noncomputable def b_D__law_renamed : Sm := (seqS (asgS 2 (lcD [3, 4] (itemsE (bin ixM (nm 0) (kM (.int 1)))) (unpD 2 (consG (setD 3) (consG (setD 4) nilG))) yesT (tupD (consL (callG (arg2 min2M) (consL (bin ixM (nm 1) (nm 3)) (consL (bin ixM (nm 1) (nm 4)) nilL))) (consL (callG (arg2 max2M) (consL (bin ixM (nm 1) (nm 3)) (consL (bin ixM (nm 1) (nm 4)) nilL))) nilL)))))
    (frzS 2 (retS (tupD (consL (bin ixM (nm 0) (kM (.int 0))) (consL (callG (arg1 tupM) (consL (callG (arg1 sortM) (consL (nm 2) nilL)) nilL)) nilL))))))
@[irreducible] noncomputable def d__law_renamed : List M → T M := bodyD 5 b_D__law_renamed
noncomputable def b_D__law_called : Sm := (retS (un1 frz (callD 2 d__law_renamed (consL (nm 1) (consL (un1 frz (callD 2 d__law_mixed (consL (nm 0) (consL (un1 frz (rgL (consL (bin ixM (nm 1) (kM (.int 0))) nilL))) nilL)))) nilL)))))
@[irreducible] noncomputable def d__law_called : List M → T M := bodyD 2 b_D__law_called
noncomputable def b_D__law_parted : Sm := (seqS (asgS 2 (lstD nilL))
    (seqS (killS [3, 4] (forS (fun st => (consL (nm 1) nilL) st >>= range1) [3, 4] (setD 3)
    (seqS (asgS 4 (un1 frz (bin addM (bin fdivM (nm 0) (nm 1)) (callG (arg1 intM) (consL (bin ltM (nm 3) (bin modM (callG (arg1 intM) (consL (nm 0) nilL)) (nm 1))) nilL)))))
    (seqS (extS 2 (bin mulM (lstD (consL (nm 3) nilL)) (nm 4)))
    (killS [3, 4] skS)))))
    (killS [1, 3, 4] (retS (tupD (consL (nm 0) (consL (callG (arg1 tupM) (consL (lcD [5, 6] (itemsE (callD 2 d__law_pairs (consL (nm 0) (consL (kM (.bool false)) nilL)))) (unpD 2 (consG (setD 5) (consG (setD 6) nilG))) (fun st => bin neM (bin ixM (nm 2) (nm 5)) (bin ixM (nm 2) (nm 6)) st >>= boolM) (tupD (consL (nm 5) (consL (nm 6) nilL)))) nilL)) nilL)))))))
@[irreducible] noncomputable def d__law_parted : List M → T M := bodyD 7 b_D__law_parted
noncomputable def b_D__law_full_fault : Sm := (seqS (iteS (orT (notT (fun st => (un1 (isiM .tuple) (nm 2)) st >>= truM)) (fun st => bin neM (callG (arg1 lenM) (consL (nm 2) nilL)) (bin addM (nm 1) (kM (.int 1))) st >>= boolM))
    (retS (kM (.str "form")))
    skS)
    (killS [1, 3, 4, 5, 6] (seqS (iteS (notT (fun st => (callG (arg1 allM) (consL (lcD [7] (itemsE (nm 2)) (setD 7) yesT (andV (callD 1 d__law_is_integer (consL (nm 7) nilL)) (chainV leA ltM (kM (.int 0)) (nm 7) (bin ixM (nm 0) (kM (.int 0)))))) nilL)) st >>= truM))
    (retS (kM (.str "form")))
    skS)
    (killS [1, 3, 4, 5, 6] (seqS (iteS (fun st => (callG (arg1 anyM) (consL (lcD [8, 9] (zipE (consL (nm 2) (consL (cutF (nm 2) (someO (kM (.int 1))) noO) nilL))) (unpD 2 (consG (setD 8) (consG (setD 9) nilG))) yesT (bin geM (nm 8) (nm 9))) nilL)) st >>= truM)
    (retS (kM (.str "form")))
    skS)
    (killS [1, 3, 4, 5, 6] (seqS (asgS 3 (un1 frz (callD 1 d__law_table (consL (nm 0) nilL))))
    (seqS (killS [0, 1, 4, 5, 6] (forS (enumP (consL (nm 2) nilL)) [0, 1, 4, 5, 6] (unpD 2 (consG (setD 4) (consG (setD 5) nilG)))
    (seqS (asgS 6 (lcD [10] (itemsE (cutF (nm 2) (someO (bin addM (nm 4) (kM (.int 1)))) noO)) (setD 10) (notT (fun st => (bin ixM (bin ixM (nm 3) (nm 5)) (nm 10)) st >>= truM)) (nmP 10)))
    (frzS 6 (seqS (iteS (fun st => bin neM (nm 6) (lstD nilL) st >>= boolM)
    (retS (tupD (consL (kM (.str "apart")) (consL (nm 5) (consL (bin ixM (nm 6) (kM (.int 0))) nilL)))))
    skS)
    (killS [0, 1, 4, 5, 6] (killS [0, 1, 4, 5, 6] skS)))))))
    (killS [0, 1, 2, 3, 4, 5, 6] (retS (kM .none)))))))))))
@[irreducible] noncomputable def d__law_full_fault : List M → T M := bodyD 11 b_D__law_full_fault
noncomputable def b_D__law_fault : Sm := (seqS (iteS (orT (notT (fun st => (un1 (isiM .tuple) (nm 2)) st >>= truM)) (orT (fun st => bin neM (callG (arg1 lenM) (consL (nm 2) nilL)) (kM (.int 2)) st >>= boolM) (notT (fun st => (un1 (isiM .str) (bin ixM (nm 2) (kM (.int 0)))) st >>= truM))))
    (retS (kM (.str "form")))
    skS)
    (killS [3] (seqS (iteS (fun st => bin eqM (bin ixM (nm 2) (kM (.int 0))) (kM (.str "full")) st >>= boolM)
    (retS (un1 frz (callD 3 d__law_full_fault (consL (nm 0) (consL (nm 1) (consL (bin ixM (nm 2) (kM (.int 1))) nilL))))))
    skS)
    (killS [3] (seqS (iteS (fun st => bin neM (bin ixM (nm 2) (kM (.int 0))) (kM (.str "few")) st >>= boolM)
    (retS (kM (.str "form")))
    skS)
    (killS [3] (seqS (iteS (orT (notT (fun st => (callD 1 d__law_is_integer (consL (bin ixM (nm 2) (kM (.int 1))) nilL)) st >>= truM)) (fun st => bin neM (bin ixM (nm 2) (kM (.int 1))) (callG (arg1 lenM) (consL (bin ixM (nm 0) (kM (.int 1))) nilL)) st >>= boolM))
    (retS (kM (.str "number")))
    skS)
    (killS [2, 3] (seqS (asgS 3 (callG (arg1 lenM) (consL (bin ixM (callD 2 d__law_parted (consL (bin ixM (nm 0) (kM (.int 0))) (consL (nm 1) nilL))) (kM (.int 1))) nilL)))
    (retS (iteM (fun st => bin gtM (callG (arg1 lenM) (consL (bin ixM (nm 0) (kM (.int 1))) nilL)) (nm 3) st >>= boolM) (tupD (consL (kM (.str "many")) (consL (nm 3) nilL))) (kM .none))))))))))))
@[irreducible] noncomputable def d__law_fault : List M → T M := bodyD 4 b_D__law_fault
noncomputable def b_D__law_plain : Sm := (seqS (iteS (fun st => bin eqM (callD 2 d__law_draw (consL (nm 0) (consL (kM (.int 2)) nilL))) (kM (.int 0)) st >>= boolM)
    (retS (un1 frz (callD 3 d__law_web (consL (nm 0) (consL (un1 frz (callD 2 d__law_draw (consL (nm 0) (consL (kM (.int 9)) nilL)))) (consL (kM (.bool false)) nilL))))))
    skS)
    (killS [1, 2, 3, 4] (seqS (asgS 1 (un1 frz (bin addM (kM (.int 2)) (callD 2 d__law_draw (consL (nm 0) (consL (kM (.int 7)) nilL))))))
    (seqS (asgS 2 (un1 frz (callD 2 d__law_parted (consL (nm 1) (consL (un1 frz (bin addM (kM (.int 1)) (callD 2 d__law_draw (consL (nm 0) (consL (kM (.int 4)) nilL))))) nilL)))))
    (seqS (asgS 3 (un1 frz (callD 2 d__law_pick (consL (nm 0) (consL (un1 frz (callD 2 d__law_pairs (consL (nm 1) (consL (kM (.bool false)) nilL)))) nilL)))))
    (seqS (asgS 4 (un1 frz (bin addM (lcD [5] (itemsE (bin ixM (nm 2) (kM (.int 1)))) (setD 5) (fun st => bin neM (nm 5) (nm 3) st >>= boolM) (nmP 5)) (iteM (fun st => bin ninM (nm 3) (bin ixM (nm 2) (kM (.int 1))) st >>= boolM) (un1 frz (lstD (consL (nm 3) nilL))) (un1 frz (lstD nilL))))))
    (retS (un1 frz (callD 2 d__law_called (consL (nm 0) (consL (tupD (consL (nm 1) (consL (callG (arg1 tupM) (consL (callG (arg1 sortM) (consL (nm 4) nilL)) nilL)) nilL))) nilL)))))))))))
@[irreducible] noncomputable def d__law_plain : List M → T M := bodyD 6 b_D__law_plain
noncomputable def b_D__law_values : Sm := (seqS (asgS 3 (un1 frz (iteM (fun st => bin ltM (nm 2) (kM (.int 5)) st >>= boolM) (un1 frz (callD 2 d__law_full_lots (consL (nm 1) (consL (un1 frz (bin addM (nm 2) (kM (.int 1)))) nilL)))) (un1 frz (lstD nilL)))))
    (seqS (asgS 4 (un1 frz (iteM (fun st => bin neM (nm 3) (lstD nilL) st >>= boolM) (un1 frz (callD 2 d__law_pick (consL (nm 0) (consL (nm 3) nilL)))) (rgT (consL (bin addM (nm 2) (kM (.int 1))) nilL)))))
    (seqS (asgS 5 (callG (arg1 tupM) (consL (callG (arg1 sortM) (consL (cutF (callD 2 d__law_mixed (consL (nm 0) (consL (un1 frz (rgL (consL (bin ixM (nm 1) (kM (.int 0))) nilL))) nilL))) noO (someO (bin addM (nm 2) (kM (.int 1))))) nilL)) nilL)))
    (seqS (asgS 6 (lstD (consL (nm 4) (consL (nm 5) (consL (un1 frz (cutF (nm 4) noO (someO (un1 negM (kM (.int 1)))))) (consL (un1 frz (un1 revA (nm 4))) (consL (un1 frz (bin addM (nm 4) (tupD (consL (bin ixM (nm 1) (kM (.int 0))) nilL)))) (consL (un1 frz (bin addM (cutF (nm 4) noO (someO (un1 negM (kM (.int 1))))) (tupD (consL (kM (.bool true)) nilL)))) (consL (un1 frz (callG (arg1 listM) (consL (nm 4) nilL))) (consL (un1 frz (bin mulM (tupD (consL (kM (.int 0)) nilL)) (bin addM (nm 2) (kM (.int 1))))) nilL))))))))))
    (seqS (appS 6 (un1 frz (callD 1 d__law_odd (consL (nm 0) nilL))))
    (seqS (asgS 7 (lcD [9] (itemsE (nm 6)) (setD 9) yesT (tupD (consL (kM (.str "full")) (consL (nm 9) nilL)))))
    (seqS (asgS 8 (callG (arg1 lenM) (consL (bin ixM (nm 1) (kM (.int 1))) nilL)))
    (seqS (killS [1, 2, 3, 4, 5, 9] (forS (itemsP (un1 frz (lstD (consL (nm 8) (consL (un1 frz (bin addM (nm 8) (kM (.int 1)))) (consL (bin subM (nm 8) (kM (.int 1))) (consL (callG (arg1 boolC) (consL (nm 8) nilL)) (consL (callG (arg1 strM) (consL (nm 8) nilL)) (consL (kM .none) nilL))))))))) [1, 2, 3, 4, 5, 9] (setD 9)
    (seqS (appS 7 (tupD (consL (kM (.str "few")) (consL (nm 9) nilL))))
    (killS [1, 2, 3, 4, 5, 9] skS))))
    (killS [1, 2, 3, 4, 5, 9] (frzS 6 (retS (tupD (consL (un1 frz (bin addM (nm 7) (lstD (consL (tupD (consL (kM (.str "full")) nilL)) (consL (un1 frz (lstD (consL (kM (.str "few")) (consL (nm 8) nilL)))) (consL (tupD (consL (kM (.str "roads")) (consL (nm 8) nilL))) (consL (tupD (consL (kM (.str "few")) (consL (nm 8) (consL (kM (.int 0)) nilL)))) (consL (un1 frz (callD 1 d__law_odd (consL (nm 0) nilL))) nilL)))))))) (consL (nm 6) nilL))))))))))))))
@[irreducible] noncomputable def d__law_values : List M → T M := bodyD 10 b_D__law_values
noncomputable def b_D_law : Sm := (seqS (par2 2 3 (un1 frz (callD 2 d__law_draw (consL (nm 1) (consL (kM (.int 13)) nilL)))) (un1 frz (bin addM (kM (.int 1)) (callD 2 d__law_draw (consL (nm 1) (consL (kM (.int 12)) nilL))))))
    (seqS (asgS 4 (un1 frz (callD 2 d__law_parted (consL (nm 2) (consL (nm 3) nilL)))))
    (seqS (asgS 5 (un1 frz (lstD (consL (un1 frz (callD 2 d_parted_web (consL (nm 2) (consL (nm 3) nilL)))) (consL (un1 frz (callD 2 d_most_roads (consL (nm 2) (consL (nm 3) nilL)))) (consL (un1 frz (callK 2 [1, 0] d_parted_web (consL (nm 3) (consL (nm 2) nilL)))) (consL (un1 frz (callK 2 [1, 0] d_most_roads (consL (nm 3) (consL (nm 2) nilL)))) nilL)))))))
    (seqS (iteS (orT (fun st => bin neM (callG (arg1 reprM) (consL (nm 5) nilL)) (callG (arg1 reprM) (consL (bin mulM (lstD (consL (nm 4) (consL (callG (arg1 lenM) (consL (bin ixM (nm 4) (kM (.int 1))) nilL)) nilL))) (kM (.int 2))) nilL)) st >>= boolM) (fun st => bin gtM (bin mulM (bin mulM (kM (.int 2)) (nm 3)) (callG (arg1 lenM) (consL (bin ixM (nm 4) (kM (.int 1))) nilL))) (bin mulM (bin mulM (bin subM (nm 3) (kM (.int 1))) (nm 2)) (nm 2)) st >>= boolM))
    (retS (kM (.bool false)))
    skS)
    (killS [0, 5, 6, 7, 8, 9, 10, 11, 12, 13, 14] (seqS (iteS (andT (fun st => bin eqM (bin modM (callG (arg1 intM) (consL (nm 2) nilL)) (nm 3)) (kM (.int 0)) st >>= boolM) (fun st => bin neM (bin mulM (bin mulM (kM (.int 2)) (nm 3)) (callG (arg1 lenM) (consL (bin ixM (nm 4) (kM (.int 1))) nilL))) (bin mulM (bin mulM (bin subM (nm 3) (kM (.int 1))) (nm 2)) (nm 2)) st >>= boolM))
    (retS (kM (.bool false)))
    skS)
    (killS [0, 2, 3, 4, 5, 6, 7, 8, 9, 10, 11, 12, 13, 14] (seqS (killS [0, 2, 3, 4, 5, 6, 7, 8, 9, 10, 11, 12, 13, 14] (forS (fun st => (consL (kM (.int 2)) nilL) st >>= range1) [0, 2, 3, 4, 5, 6, 7, 8, 9, 10, 11, 12, 13, 14] (setD 6)
    (seqS (par2 7 8 (un1 frz (callD 1 d__law_plain (consL (nm 1) nilL))) (un1 frz (bin addM (kM (.int 1)) (callD 2 d__law_draw (consL (nm 1) (consL (un1 frz (callD 2 d__law_pick (consL (nm 1) (consL (un1 frz (lstD (consL (kM (.int 3)) (consL (kM (.int 5)) (consL (kM (.int 12)) nilL))))) nilL)))) nilL))))))
    (seqS (asgS 9 (callG (arg1 reprM) (consL (nm 7) nilL)))
    (seqS (asgS 5 (un1 frz (iteM (fun st => bin eqM (nm 6) (kM (.int 1)) st >>= boolM) (un1 frz (callK 2 [1, 0] d_roads_paper (consL (nm 8) (consL (nm 7) nilL)))) (un1 frz (callD 2 d_roads_paper (consL (nm 7) (consL (nm 8) nilL)))))))
    (seqS (iteS (orT (fun st => bin isnM (callD 3 d__law_fault (consL (nm 7) (consL (nm 8) (consL (nm 5) nilL)))) (kM .none) st >>= boolM) (fun st => bin neM (callG (arg1 reprM) (consL (callD 2 d_roads_paper (consL (nm 7) (consL (nm 8) nilL))) nilL)) (callG (arg1 reprM) (consL (nm 5) nilL)) st >>= boolM))
    (retS (kM (.bool false)))
    skS)
    (killS [0, 2, 3, 4, 5, 6, 10, 11, 12, 13, 14] (seqS (iteS (andT (fun st => bin ltM (nm 8) (kM (.int 5)) st >>= boolM) (andT (fun st => bin eqM (callD 2 d__law_full_lots (consL (nm 7) (consL (un1 frz (bin addM (nm 8) (kM (.int 1)))) nilL))) (lstD nilL) st >>= boolM) (fun st => bin gtM (callG (arg1 lenM) (consL (bin ixM (nm 7) (kM (.int 1))) nilL)) (callG (arg1 lenM) (consL (bin ixM (callD 2 d__law_parted (consL (bin ixM (nm 7) (kM (.int 0))) (consL (nm 8) nilL))) (kM (.int 1))) nilL)) st >>= boolM)))
    (retS (kM (.bool false)))
    skS)
    (killS [0, 2, 3, 4, 5, 6, 10, 11, 12, 13, 14] (seqS (fun st => (un1 frz (callD 3 d__law_values (consL (nm 1) (consL (nm 7) (consL (nm 8) nilL))))) st >>= fun m => asD m >>= fun d => (unpD 2 (consG (setD 10) (consG (setD 11) nilG))) d st >>= fun st' => .ret (.nx, st'))
    (seqS (killS [0, 2, 3, 4, 5, 6, 12, 13, 14] (forS (enumP (consL (nm 10) nilL)) [0, 2, 3, 4, 5, 6, 10, 12, 13, 14] (unpD 2 (consG (setD 12) (consG (setD 13) nilG)))
    (seqS (asgS 14 (un1 frz (iteM (fun st => bin eqM (nm 12) (kM (.int 1)) st >>= boolM) (un1 frz (callK 3 [2, 1, 0] d_roads_paper_error (consL (nm 13) (consL (nm 8) (consL (nm 7) nilL))))) (un1 frz (callD 3 d_roads_paper_error (consL (nm 7) (consL (nm 8) (consL (nm 13) nilL))))))))
    (seqS (iteS (fun st => bin neM (callG (arg1 reprM) (consL (nm 14) nilL)) (callG (arg1 reprM) (consL (callD 3 d__law_fault (consL (nm 7) (consL (nm 8) (consL (nm 13) nilL)))) nilL)) st >>= boolM)
    (retS (kM (.bool false)))
    skS)
    (killS [0, 2, 3, 4, 5, 6, 10, 12, 13, 14] (killS [0, 2, 3, 4, 5, 6, 10, 12, 13, 14] skS))))))
    (killS [0, 2, 3, 4, 5, 6, 10, 12, 13, 14] (seqS (killS [0, 2, 3, 4, 5, 6, 10, 12, 13, 14] (forS (enumP (consL (nm 11) nilL)) [0, 2, 3, 4, 5, 6, 10, 11, 12, 13, 14] (unpD 2 (consG (setD 12) (consG (setD 13) nilG)))
    (seqS (asgS 14 (un1 frz (iteM (fun st => bin eqM (nm 12) (kM (.int 1)) st >>= boolM) (un1 frz (callK 3 [2, 1, 0] d_full_error (consL (nm 13) (consL (nm 8) (consL (nm 7) nilL))))) (un1 frz (callD 3 d_full_error (consL (nm 7) (consL (nm 8) (consL (nm 13) nilL))))))))
    (seqS (iteS (fun st => bin neM (callG (arg1 reprM) (consL (nm 14) nilL)) (callG (arg1 reprM) (consL (callD 3 d__law_full_fault (consL (nm 7) (consL (nm 8) (consL (nm 13) nilL)))) nilL)) st >>= boolM)
    (retS (kM (.bool false)))
    skS)
    (killS [0, 2, 3, 4, 5, 6, 10, 11, 12, 13, 14] (killS [0, 2, 3, 4, 5, 6, 10, 11, 12, 13, 14] skS))))))
    (killS [0, 2, 3, 4, 5, 6, 8, 10, 11, 12, 13, 14] (seqS (iteS (fun st => bin neM (callG (arg1 reprM) (consL (nm 7) nilL)) (nm 9) st >>= boolM)
    (retS (kM (.bool false)))
    skS)
    (killS [0, 2, 3, 4, 5, 6, 7, 8, 9, 10, 11, 12, 13, 14] (killS [0, 2, 3, 4, 5, 6, 7, 8, 9, 10, 11, 12, 13, 14] skS)))))))))))))))))
    (killS [0, 1, 2, 3, 4, 5, 6, 7, 8, 9, 10, 11, 12, 13, 14] (retS (kM (.bool true))))))))))))
theorem ok_is_number (T : Tx K mg)  : FnG P w K mg base 1 T.a_is_number T.f_is_number ["value"] (spM kn0 K 1 d_is_number) := by
  have nd := sc_is_number.nd
  unfold d_is_number
  exact fn_D T.F_is_number sc_is_number rfl rfl fun cdv A outer s H E hg hr => (ds_one (ds_ret (dm_and (dm_isi (c := .int) (y := "int") (by rfl) T.z_isinstance (by decide +kernel) (by rfl) T.z_int (by decide +kernel) (by decide) (by decide) (pk_nm 0)) (dm_one (dm_not (dm_isi (c := .bool) (y := "bool") (by rfl) T.z_isinstance (by decide +kernel) (by rfl) T.z_bool (by decide +kernel) (by decide) (by decide) (pk_nm 0)))))))
theorem ok_is_within (T : Tx K mg)  : FnG P w K mg base 2 T.a_is_within T.f_is_within ["value", "least", "most"] (spM kn0 K 3 d_is_within) := by
  have G_is_number := ok_is_number (P := P) (w := w) (base := base) T
  have nd := sc_is_within.nd
  unfold d_is_within
  exact fn_D T.F_is_within sc_is_within rfl rfl fun cdv A outer s H E hg hr => (ds_one (ds_ret (dm_and (dm_call G_is_number hg (hr.mono (by decide)) (by rfl) T.m_is_number T.F_is_number.kp (b_is_number T) rfl (da_cons (pk_nm 0) da_nil)) (dm_one (dm_chain (o_leA (Nat.lt_of_le_of_lt (Nat.le_add_right _ 64) (un64 hr))) (o_leA (Nat.lt_of_le_of_lt (Nat.le_add_right _ 64) (un64 hr))) (pk_nm 1) (pk_nm 0) (pk_nm 2))))))
theorem ok_has_road (T : Tx K mg)  : FnG P w K mg base 1 T.a_has_road T.f_has_road ["web", "one", "other"] (spM kn0 K 3 d_has_road) := by
  have nd := sc_has_road.nd
  unfold d_has_road
  exact fn_D T.F_has_road sc_has_road rfl rfl fun cdv A outer s H E hg hr => (ds_one (ds_ret (dm_cmp (o_in (un65 hr)) (pk_of (dm_tup (da_cons (pk_of (dm_blt (c_min2 rfl).to (by rfl) T.z_min (by decide +kernel) (da_cons (pk_nm 1) (da_cons (pk_nm 2) da_nil)))) (da_cons (pk_of (dm_blt (c_max2 rfl).to (by rfl) T.z_max (by decide +kernel) (da_cons (pk_nm 1) (da_cons (pk_nm 2) da_nil)))) da_nil)))) (pk_of (dm_ix (pk_nm 0) (pk_of dm_int))) (by with_unfolding_all rfl))))
theorem ok_neighbour_lists (T : Tx K mg)  : FnG P w K mg base 1 T.a_neighbour_lists T.f_neighbour_lists ["web"] (spM kn0 K 1 d_neighbour_lists) := by
  have nd := sc_neighbour_lists.nd
  unfold d_neighbour_lists
  exact fn_D T.F_neighbour_lists sc_neighbour_lists rfl rfl fun cdv A outer s H E hg hr => (ds_cons (ds_setLcl (own := [("house", 4)]) (i := 1) rfl nd rfl rfl (sw_true rfl rfl rfl (by decide +kernel)) (blkOk_by (own := [("house", 4)]) (N := n_neighbour_lists) (sc := defScope s_neighbour_lists) (by decide +kernel)) (pi_ES (di_range1 (by rfl) T.z_range (da_cons (pk_of (dm_ix (pk_nm 0) (pk_of dm_int))) da_nil))) (fun _ _ _ _ _ => (wg_nm (i := 4) nd rfl (by first | exact Or.inl rfl | exact Or.inr rfl) (by decide))) (fun _ _ _ _ _ => dts_nil) (fun _ _ _ _ _ => (dm_lst da_nil)))
    (ds_cons (ds_kill [2, 3] (ds_for PassesOwn.never rfl (di_seqS (pk_of (dm_ix (pk_nm 0) (pk_of dm_int)))) (dg_tup rfl (dgs_cons (dg_nm (i := 2) nd rfl (by first | exact Or.inl rfl | exact Or.inr rfl)) (dgs_cons (dg_nm (i := 3) nd rfl (by first | exact Or.inl rfl | exact Or.inr rfl)) dgs_nil)))
    (ds_cons (ds_appR (pe_bm PySem.F.plainAttrs_list PySem.F.slot_list_append PySem.F.type_list_append mt_append (pe_ix ix_list (pv 1) (pk_nm 2) (fun _ _ => rfl)) (pa_cons (dm_nm 3) pa_nil)))
    (ds_cons (ds_if (dt_cmp (o_ne (un64 hr)) (pk_nm 3) (pk_nm 2) (nomark _))
    (ds_one (ds_appR (pe_bm PySem.F.plainAttrs_list PySem.F.slot_list_append PySem.F.type_list_append mt_append (pe_ix ix_list (pv 1) (pk_nm 3) (fun _ _ => rfl)) (pa_cons (dm_nm 2) pa_nil))))
    ds_nil)
    (dss_kill [0, 2, 3] (dss_kill [0, 2, 3] ds_nil))))))
    (dss_kill [0, 2, 3] (ds_one (ds_frz 1 (ds_ret (dm_frz (dm_lc (own := [("near", 5)]) rfl nd (blkOk_by (own := [("near", 5)]) (N := n_neighbour_lists) (sc := defScope s_neighbour_lists) (by decide +kernel)) (di_seqE (pk_nm 1)) (fun _ _ _ _ _ => (wg_nm (i := 5) nd rfl (by first | exact Or.inl rfl | exact Or.inr rfl) (by decide))) (fun _ _ _ _ _ => dts_nil) (fun _ _ _ _ _ => (dm_frz (dm_blt (c_sort (un70 hr)).to (by rfl) T.z_sorted (by decide +kernel) (da_cons (pk_nm 5) da_nil))))))))))))
theorem ok_is_plain (T : Tx K mg)  : FnG P w K mg base 1 T.a_is_plain T.f_is_plain ["web"] (spM kn0 K 1 d_is_plain) := by
  have nd := sc_is_plain.nd
  unfold d_is_plain
  exact fn_D T.F_is_plain sc_is_plain rfl rfl fun cdv A outer s H E hg hr => (ds_one (ds_ret (dm_blt (c_all rfl).to (by rfl) T.z_all (by decide +kernel) (da_cons (pk_of (dm_lc (own := [("one", 1), ("other", 2)]) rfl nd (blkOk_by (own := [("one", 1), ("other", 2)]) (N := n_is_plain) (sc := defScope s_is_plain) (by decide +kernel)) (di_seqE (pk_of (dm_ix (pk_nm 0) (pk_of dm_int)))) (fun _ _ _ _ _ => (wg_tup rfl (wgs_cons (wg_nm (i := 1) nd rfl (by first | exact Or.inl rfl | exact Or.inr rfl) (by decide)) (wgs_cons (wg_nm (i := 2) nd rfl (by first | exact Or.inl rfl | exact Or.inr rfl) (by decide)) wgs_nil)))) (fun _ _ _ _ _ => dts_nil) (fun _ _ _ _ _ => (dm_cmp (o_ne (un64 hr)) (pk_nm 1) (pk_nm 2) (nomark _))))) da_nil))))
theorem ok_full_size (T : Tx K mg)  : FnG P w K mg base 2 T.a_full_size T.f_full_size ["web"] (spM kn0 K 1 d_full_size) := by
  have G_is_plain := ok_is_plain (P := P) (w := w) (base := base) T
  have G_neighbour_lists := ok_neighbour_lists (P := P) (w := w) (base := base) T
  have nd := sc_full_size.nd
  unfold d_full_size
  exact fn_D T.F_full_size sc_full_size rfl rfl fun cdv A outer s H E hg hr => (ds_cons (ds_if (dt_not (dt_val (pk_of (dm_call G_is_plain hg (hr.mono (by decide)) (by rfl) T.m_is_plain T.F_is_plain.kp (b_is_plain T) rfl (da_cons (pk_nm 0) da_nil)))))
    (ds_one ds_never)
    ds_nil)
    (dss_kill [1, 2, 3, 4, 5, 6, 7] (ds_cons (ds_parT3 (i := 1) (j := 2) (l := 3) rfl nd rfl rfl rfl (by first | exact Or.inl rfl | exact Or.inr rfl) (by first | exact Or.inl rfl | exact Or.inr rfl) (by first | exact Or.inl rfl | exact Or.inr rfl) (dm_frz (dm_call G_neighbour_lists hg (hr.mono (by decide)) (by rfl) T.m_neighbour_lists T.F_neighbour_lists.kp (b_neighbour_lists T) rfl (da_cons (pk_nm 0) da_nil))) dm_int (dm_lst (da_cons (pk_of (dm_tup (da_cons (pk_of (dm_tup da_nil)) (da_cons (pk_of (dm_frz (dm_listRg1 rfl (by rfl) T.z_list (by rfl) T.z_range (pk_of (dm_ix (pk_nm 0) (pk_of dm_int)))))) da_nil)))) da_nil)))
    (ds_cons (ds_kill [0, 4, 5, 6, 7] (ds_while PassesOwn.never (dt_cmp (o_ne (un64 hr)) (pk_nm 3) (pk_of (dm_lst da_nil)) (nomark _))
    (ds_cons (ds_popG (i := 3) (pe_bm0 PySem.F.plainAttrs_list PySem.F.slot_list_pop PySem.F.type_list_pop mt_pop (pv 3)) (dg_tup rfl (dgs_cons (dg_nm (i := 4) nd rfl (by first | exact Or.inl rfl | exact Or.inr rfl)) (dgs_cons (dg_nm (i := 5) nd rfl (by first | exact Or.inl rfl | exact Or.inr rfl)) dgs_nil))))
    (ds_cons (ds_set (i := 2) nd rfl (Or.inl rfl) (dm_blt (c_max2 rfl).to (by rfl) T.z_max (by decide +kernel) (da_cons (pk_nm 2) (da_cons (pk_of (dm_blt c_len.to (by rfl) T.z_len PySem.boot_len (da_cons (pk_nm 4) da_nil))) da_nil))))
    (ds_cons (ds_kill [0, 6, 7] (ds_for PassesOwn.never rfl (di_enumS (by rfl) T.z_enumerate (da_cons (pk_nm 5) da_nil)) (dg_tup rfl (dgs_cons (dg_nm (i := 6) nd rfl (by first | exact Or.inl rfl | exact Or.inr rfl)) (dgs_cons (dg_nm (i := 7) nd rfl (by first | exact Or.inl rfl | exact Or.inr rfl)) dgs_nil)))
    (ds_cons (ds_app (pe_bm PySem.F.plainAttrs_list PySem.F.slot_list_append PySem.F.type_list_append mt_append (pv 3) (pa_cons (dm_tup (da_cons (pk_of (dm_frz (dm_bin o_add (pk_nm 4) (pk_of (dm_tup (da_cons (pk_nm 7) da_nil)))))) (da_cons (pk_of (dm_frz (dm_lc (own := [("other", 8)]) rfl nd (blkOk_by (own := [("other", 8)]) (N := n_full_size) (sc := defScope s_full_size) (by decide +kernel)) (di_seqE (pk_of (dm_cut (pk_nm 5) (do_some (pk_of (dm_bin o_add (pk_nm 6) (pk_of dm_int)))) do_none))) (fun _ _ _ _ _ => (wg_nm (i := 8) nd rfl (by first | exact Or.inl rfl | exact Or.inr rfl) (by decide))) (fun _ _ _ _ _ => (dts_one (dt_cmp (o_in (un65 hr)) (pk_nm 8) (pk_of (dm_ix (pk_nm 1) (pk_nm 7))) (by with_unfolding_all rfl)))) (fun _ _ _ _ _ => (dm_nm 8))))) da_nil))) pa_nil)))
    (dss_kill [0, 6, 7] ds_nil))))
    (dss_kill [0, 4, 5, 6, 7] (dss_kill [0, 4, 5, 6, 7] ds_nil)))))))
    (dss_kill [0, 1, 3, 4, 5, 6, 7] (ds_one (ds_ret (dm_nm 2))))))))
theorem ok_parted_web (T : Tx K mg)  : FnG P w K mg base 1 T.a_parted_web T.f_parted_web ["m", "k"] (spM kn0 K 2 d_parted_web) := by
  have nd := sc_parted_web.nd
  unfold d_parted_web
  exact fn_D T.F_parted_web sc_parted_web rfl rfl fun cdv A outer s H E hg hr => (ds_cons (ds_set (i := 2) nd rfl (Or.inr rfl) (dm_lst da_nil))
    (ds_cons (ds_kill [3, 4, 5] (ds_for PassesOwn.never rfl (di_range1 (by rfl) T.z_range (da_cons (pk_nm 1) da_nil)) (dg_nm (i := 3) nd rfl (by first | exact Or.inl rfl | exact Or.inr rfl))
    (ds_cons (ds_ext (pe_bm PySem.F.plainAttrs_list PySem.F.slot_list_extend PySem.F.type_list_extend mt_extM (pv 2) (pa_cons (dm_bin o_mul (pk_of (dm_lst (da_cons (pk_nm 3) da_nil))) (pk_of (dm_bin o_add (pk_of (dm_bin o_fdiv (pk_nm 0) (pk_nm 1))) (pk_of (dm_typ c_int.to (by rfl) T.z_int (by decide +kernel) (da_cons (pk_of (dm_cmp o_lt (pk_nm 3) (pk_of (dm_bin o_mod (pk_nm 0) (pk_nm 1))) (nomark _))) da_nil)))))) pa_nil)))
    (dss_kill [3, 4, 5] ds_nil))))
    (dss_kill [1, 3, 4, 5] (ds_cons (ds_set (i := 4) nd rfl (Or.inl rfl) (dm_lst da_nil))
    (ds_cons (ds_kill [1, 3, 5] (ds_for PassesOwn.never rfl (di_range1 (by rfl) T.z_range (da_cons (pk_nm 0) da_nil)) (dg_nm (i := 5) nd rfl (by first | exact Or.inl rfl | exact Or.inr rfl))
    (ds_cons (ds_ext (pe_bm PySem.F.plainAttrs_list PySem.F.slot_list_extend PySem.F.type_list_extend mt_extM (pv 4) (pa_cons (dm_lc (own := [("other", 6)]) rfl nd (blkOk_by (own := [("other", 6)]) (N := n_parted_web) (sc := defScope s_parted_web) (by decide +kernel)) (pi_ES (di_range2 (by rfl) T.z_range (da_cons (pk_of (dm_bin o_add (pk_nm 5) (pk_of dm_int))) (da_cons (pk_nm 0) da_nil)))) (fun _ _ _ _ _ => (wg_nm (i := 6) nd rfl (by first | exact Or.inl rfl | exact Or.inr rfl) (by decide))) (fun _ _ _ _ _ => (dts_one (dt_cmp (o_ne (un64 hr)) (pk_of (dm_ix (pk_nm 2) (pk_nm 5))) (pk_of (dm_ix (pk_nm 2) (pk_nm 6))) (nomark _)))) (fun _ _ _ _ _ => (dm_tup (da_cons (pk_nm 5) (da_cons (pk_nm 6) da_nil))))) pa_nil)))
    (dss_kill [1, 3, 5] ds_nil))))
    (dss_kill [1, 2, 3, 5] (ds_one (ds_ret (dm_tup (da_cons (pk_nm 0) (da_cons (pk_of (dm_typ c_tuple.to (by rfl) T.z_tuple (by decide +kernel) (da_cons (pk_nm 4) da_nil))) da_nil)))))))))))
theorem ok_most_roads (T : Tx K mg)  : FnG P w K mg base 2 T.a_most_roads T.f_most_roads ["m", "k"] (spM kn0 K 2 d_most_roads) := by
  have G_parted_web := ok_parted_web (P := P) (w := w) (base := base) T
  have nd := sc_most_roads.nd
  unfold d_most_roads
  exact fn_D T.F_most_roads sc_most_roads rfl rfl fun cdv A outer s H E hg hr => (ds_one (ds_ret (dm_blt c_len.to (by rfl) T.z_len PySem.boot_len (da_cons (pk_of (dm_ix (pk_of (dm_call G_parted_web hg (hr.mono (by decide)) (by rfl) T.m_parted_web T.F_parted_web.kp (b_parted_web T) rfl (da_cons (pk_nm 0) (da_cons (pk_nm 1) da_nil)))) (pk_of dm_int))) da_nil))))
theorem ok_is_house_row (T : Tx K mg)  : FnG P w K mg base 3 T.a_is_house_row T.f_is_house_row ["web", "value", "size"] (spM kn0 K 3 d_is_house_row) := by
  have G_is_within := ok_is_within (P := P) (w := w) (base := base) T
  have nd := sc_is_house_row.nd
  unfold d_is_house_row
  exact fn_D T.F_is_house_row sc_is_house_row rfl rfl fun cdv A outer s H E hg hr => (ds_cons (ds_if (PW.pt (dw_or (dt_not (dt_val (pk_of (dm_isi (c := .tuple) (y := "tuple") (by rfl) T.z_isinstance (by decide +kernel) (by rfl) T.z_tuple (by decide +kernel) (by decide) (by decide) (pk_nm 1))))) (dw_or1 (dt_cmp (o_ne (un64 hr)) (pk_of (dm_blt c_len.to (by rfl) T.z_len PySem.boot_len (da_cons (pk_nm 1) da_nil))) (pk_nm 2) (nomark _)))))
    (ds_one (ds_ret dm_bl))
    ds_nil)
    (dss_kill [2] (ds_cons (ds_if (dt_not (dt_val (pk_of (dm_blt (c_all rfl).to (by rfl) T.z_all (by decide +kernel) (da_cons (pk_of (dm_lc (own := [("house", 3)]) rfl nd (blkOk_by (own := [("house", 3)]) (N := n_is_house_row) (sc := defScope s_is_house_row) (by decide +kernel)) (di_seqE (pk_nm 1)) (fun _ _ _ _ _ => (wg_nm (i := 3) nd rfl (by first | exact Or.inl rfl | exact Or.inr rfl) (by decide))) (fun _ _ _ _ _ => dts_nil) (fun _ _ _ _ _ => (dm_frz (dm_call G_is_within hg (hr.mono (by decide)) (by rfl) T.m_is_within T.F_is_within.kp (b_is_within T) rfl (da_cons (pk_nm 3) (da_cons (pk_of dm_int) (da_cons (pk_of (dm_bin o_sub (pk_of (dm_ix (pk_nm 0) (pk_of dm_int))) (pk_of dm_int))) da_nil)))))))) da_nil)))))
    (ds_one (ds_ret dm_bl))
    ds_nil)
    (dss_kill [0, 2] (ds_one (ds_ret (dm_blt (c_all rfl).to (by rfl) T.z_all (by decide +kernel) (da_cons (pk_of (dm_lc (own := [("one", 4), ("other", 5)]) rfl nd (blkOk_by (own := [("one", 4), ("other", 5)]) (N := n_is_house_row) (sc := defScope s_is_house_row) (by decide +kernel)) (di_zipE (by rfl) T.z_zip (da_cons (pk_nm 1) (da_cons (pk_of (dm_cut (pk_nm 1) (do_some (pk_of dm_int)) do_none)) da_nil))) (fun _ _ _ _ _ => (wg_tup rfl (wgs_cons (wg_nm (i := 4) nd rfl (by first | exact Or.inl rfl | exact Or.inr rfl) (by decide)) (wgs_cons (wg_nm (i := 5) nd rfl (by first | exact Or.inl rfl | exact Or.inr rfl) (by decide)) wgs_nil)))) (fun _ _ _ _ _ => dts_nil) (fun _ _ _ _ _ => (dm_cmp o_lt (pk_nm 4) (pk_nm 5) (nomark _))))) da_nil))))))))
theorem ok_full_error (T : Tx K mg)  : FnG P w K mg base 4 T.a_full_error T.f_full_error ["web", "k", "value"] (spM kn0 K 3 d_full_error) := by
  have G_is_house_row := ok_is_house_row (P := P) (w := w) (base := base) T
  have G_has_road := ok_has_road (P := P) (w := w) (base := base) T
  have nd := sc_full_error.nd
  unfold d_full_error
  exact fn_D T.F_full_error sc_full_error rfl rfl fun cdv A outer s H E hg hr => (ds_cons (ds_if (dt_not (dt_val (pk_of (dm_call G_is_house_row hg (hr.mono (by decide)) (by rfl) T.m_is_house_row T.F_is_house_row.kp (b_is_house_row T) rfl (da_cons (pk_nm 0) (da_cons (pk_nm 2) (da_cons (pk_of (dm_frz (dm_bin o_add (pk_nm 1) (pk_of dm_int)))) da_nil)))))))
    (ds_one (ds_ret dm_str))
    ds_nil)
    (dss_kill [1, 3, 4, 5] (ds_cons (ds_kill [1, 3, 4, 5] (ds_for PassesOwn.never rfl (di_enumS (by rfl) T.z_enumerate (da_cons (pk_nm 2) da_nil)) (dg_tup rfl (dgs_cons (dg_nm (i := 3) nd rfl (by first | exact Or.inl rfl | exact Or.inr rfl)) (dgs_cons (dg_nm (i := 4) nd rfl (by first | exact Or.inl rfl | exact Or.inr rfl)) dgs_nil)))
    (ds_cons (ds_kill [1, 5] (ds_for PassesOwn.never rfl (di_seqS (pk_of (dm_frz (dm_cut (pk_nm 2) (do_some (pk_of (dm_bin o_add (pk_nm 3) (pk_of dm_int)))) do_none)))) (dg_nm (i := 5) nd rfl (by first | exact Or.inl rfl | exact Or.inr rfl))
    (ds_cons (ds_if (dt_not (dt_val (pk_of (dm_call G_has_road hg (hr.mono (by decide)) (by rfl) T.m_has_road T.F_has_road.kp (b_has_road T) rfl (da_cons (pk_nm 0) (da_cons (pk_nm 4) (da_cons (pk_nm 5) da_nil)))))))
    (ds_one (ds_ret (dm_tup (da_cons (pk_of dm_str) (da_cons (pk_nm 4) (da_cons (pk_nm 5) da_nil))))))
    ds_nil)
    (dss_kill [1, 3, 5] (dss_kill [1, 3, 5] ds_nil)))))
    (dss_kill [1, 3, 4, 5] (dss_kill [1, 3, 4, 5] ds_nil)))))
    (dss_kill [0, 1, 2, 3, 4, 5] (ds_one (ds_ret dm_non))))))
theorem ok_some_full (T : Tx K mg)  : FnG P w K mg base 2 T.a_some_full T.f_some_full ["web", "size"] (spM kn0 K 2 d_some_full) := by
  have G_has_road := ok_has_road (P := P) (w := w) (base := base) T
  have nd := sc_some_full.nd
  unfold d_some_full
  exact fn_D T.F_some_full sc_some_full rfl rfl fun cdv A outer s H E hg hr => (ds_cons (ds_set (i := 2) nd rfl (Or.inl rfl) (dm_lst (da_cons (pk_of (dm_tup da_nil)) da_nil)))
    (ds_cons (ds_kill [3, 4, 5] (ds_while PassesOwn.never (dt_cmp (o_ne (un64 hr)) (pk_nm 2) (pk_of (dm_lst da_nil)) (nomark _))
    (ds_cons (ds_popTo (i := 2) (j := 3) nd rfl (Or.inl rfl) (pe_bm0 PySem.F.plainAttrs_list PySem.F.slot_list_pop PySem.F.type_list_pop mt_pop (pv 2)) (by decide))
    (ds_cons (ds_if (dt_cmp (o_eq (un64 hr)) (pk_of (dm_blt c_len.to (by rfl) T.z_len PySem.boot_len (da_cons (pk_nm 3) da_nil))) (pk_nm 1) (nomark _))
    (ds_one (ds_ret (dm_nm 3)))
    ds_nil)
    (dss_kill [4, 5] (ds_cons (ds_set (i := 4) nd rfl (Or.inl rfl) (dm_frz (dm_ite (dt_cmp (o_ne (un64 hr)) (pk_nm 3) (pk_of (dm_tup da_nil)) (nomark _)) (dm_frz (dm_bin o_add (pk_of (dm_ix (pk_nm 3) (pk_of (dm_un o_neg (pk_of dm_int))))) (pk_of dm_int))) dm_int)))
    (ds_cons (ds_kill [5] (ds_for PassesOwn.never rfl (di_range3 (by rfl) T.z_range (da_cons (pk_of (dm_bin o_sub (pk_of (dm_ix (pk_nm 0) (pk_of dm_int))) (pk_of dm_int))) (da_cons (pk_of (dm_bin o_sub (pk_nm 4) (pk_of dm_int))) (da_cons (pk_of (dm_un o_neg (pk_of dm_int))) da_nil)))) (dg_nm (i := 5) nd rfl (by first | exact Or.inl rfl | exact Or.inr rfl))
    (ds_cons (ds_if (dt_val (pk_of (dm_blt (c_all rfl).to (by rfl) T.z_all (by decide +kernel) (da_cons (pk_of (dm_lc (own := [("own", 6)]) rfl nd (blkOk_by (own := [("own", 6)]) (N := n_some_full) (sc := defScope s_some_full) (by decide +kernel)) (di_seqE (pk_nm 3)) (fun _ _ _ _ _ => (wg_nm (i := 6) nd rfl (by first | exact Or.inl rfl | exact Or.inr rfl) (by decide))) (fun _ _ _ _ _ => dts_nil) (fun _ _ _ _ _ => (dm_frz (dm_call G_has_road hg (hr.mono (by decide)) (by rfl) T.m_has_road T.F_has_road.kp (b_has_road T) rfl (da_cons (pk_nm 0) (da_cons (pk_nm 6) (da_cons (pk_nm 5) da_nil)))))))) da_nil))))
    (ds_one (ds_app (pe_bm PySem.F.plainAttrs_list PySem.F.slot_list_append PySem.F.type_list_append mt_append (pv 2) (pa_cons (dm_frz (dm_bin o_add (pk_nm 3) (pk_of (dm_tup (da_cons (pk_nm 5) da_nil))))) pa_nil))))
    ds_nil)
    (dss_kill [4, 5] (dss_kill [4, 5] ds_nil)))))
    (dss_kill [3, 4, 5] (dss_kill [3, 4, 5] ds_nil)))))))))
    (dss_kill [0, 1, 2, 3, 4, 5] (ds_one (ds_ret dm_non)))))
theorem ok_roads_paper (T : Tx K mg)  : FnG P w K mg base 3 T.a_roads_paper T.f_roads_paper ["web", "k"] (spM kn0 K 2 d_roads_paper) := by
  have G_full_size := ok_full_size (P := P) (w := w) (base := base) T
  have G_some_full := ok_some_full (P := P) (w := w) (base := base) T
  have nd := sc_roads_paper.nd
  unfold d_roads_paper
  exact fn_D T.F_roads_paper sc_roads_paper rfl rfl fun cdv A outer s H E hg hr => (ds_cons (ds_set (i := 2) nd rfl (Or.inl rfl) (dm_frz (dm_ite (dt_cmp (o_leA (Nat.lt_of_le_of_lt (Nat.le_add_right _ 64) (un64 hr))) (pk_of (dm_bin o_add (pk_nm 1) (pk_of dm_int))) (pk_of (dm_call G_full_size hg (hr.mono (by decide)) (by rfl) T.m_full_size T.F_full_size.kp (b_full_size T) rfl (da_cons (pk_nm 0) da_nil))) (nomark _)) (dm_frz (dm_call G_some_full hg (hr.mono (by decide)) (by rfl) T.m_some_full T.F_some_full.kp (b_some_full T) rfl (da_cons (pk_nm 0) (da_cons (pk_of (dm_frz (dm_bin o_add (pk_nm 1) (pk_of dm_int)))) da_nil)))) dm_non)))
    (ds_one (ds_ret (dm_ite (dt_cmp o_isn (pk_nm 2) (pk_of dm_non) (nomark _)) (dm_tup (da_cons (pk_of dm_str) (da_cons (pk_nm 2) da_nil))) (dm_tup (da_cons (pk_of dm_str) (da_cons (pk_of (dm_blt c_len.to (by rfl) T.z_len PySem.boot_len (da_cons (pk_of (dm_ix (pk_nm 0) (pk_of dm_int))) da_nil))) da_nil)))))))
theorem ok_roads_paper_error (T : Tx K mg)  : FnG P w K mg base 5 T.a_roads_paper_error T.f_roads_paper_error ["web", "k", "value"] (spM kn0 K 3 d_roads_paper_error) := by
  have G_full_error := ok_full_error (P := P) (w := w) (base := base) T
  have G_is_number := ok_is_number (P := P) (w := w) (base := base) T
  have G_most_roads := ok_most_roads (P := P) (w := w) (base := base) T
  have nd := sc_roads_paper_error.nd
  unfold d_roads_paper_error
  exact fn_D T.F_roads_paper_error sc_roads_paper_error rfl rfl fun cdv A outer s H E hg hr => (ds_cons (ds_if (PW.pt (dw_or (dt_not (dt_val (pk_of (dm_isi (c := .tuple) (y := "tuple") (by rfl) T.z_isinstance (by decide +kernel) (by rfl) T.z_tuple (by decide +kernel) (by decide) (by decide) (pk_nm 2))))) (dw_or (dt_cmp (o_ne (un64 hr)) (pk_of (dm_blt c_len.to (by rfl) T.z_len PySem.boot_len (da_cons (pk_nm 2) da_nil))) (pk_of dm_int) (nomark _)) (dw_or1 (dt_not (dt_val (pk_of (dm_isi (c := .str) (y := "str") (by rfl) T.z_isinstance (by decide +kernel) (by rfl) T.z_str (by decide +kernel) (by decide) (by decide) (pk_of (dm_ix (pk_nm 2) (pk_of dm_int)))))))))))
    (ds_one (ds_ret dm_str))
    ds_nil)
    (dss_kill [3, 4, 5] (ds_cons (ds_asg (dm_nm 2) (dg_tup rfl (dgs_cons (dg_nm (i := 3) nd rfl (by first | exact Or.inl rfl | exact Or.inr rfl)) (dgs_cons (dg_nm (i := 4) nd rfl (by first | exact Or.inl rfl | exact Or.inr rfl)) dgs_nil))))
    (ds_cons (ds_if (dt_cmp (o_eq (un64 hr)) (pk_nm 3) (pk_of dm_str) (nomark _))
    (ds_one (ds_ret (dm_frz (dm_call G_full_error hg (hr.mono (by decide)) (by rfl) T.m_full_error T.F_full_error.kp (b_full_error T) rfl (da_cons (pk_nm 0) (da_cons (pk_nm 1) (da_cons (pk_nm 4) da_nil)))))))
    ds_nil)
    (dss_kill [2, 5] (ds_cons (ds_if (dt_cmp (o_ne (un64 hr)) (pk_nm 3) (pk_of dm_str) (nomark _))
    (ds_one (ds_ret dm_str))
    ds_nil)
    (dss_kill [2, 3, 5] (ds_cons (ds_if (PW.pt (dw_or (dt_not (dt_val (pk_of (dm_call G_is_number hg (hr.mono (by decide)) (by rfl) T.m_is_number T.F_is_number.kp (b_is_number T) rfl (da_cons (pk_nm 4) da_nil))))) (dw_or1 (dt_cmp (o_ne (un64 hr)) (pk_nm 4) (pk_of (dm_blt c_len.to (by rfl) T.z_len PySem.boot_len (da_cons (pk_of (dm_ix (pk_nm 0) (pk_of dm_int))) da_nil))) (nomark _)))))
    (ds_one (ds_ret dm_str))
    ds_nil)
    (dss_kill [2, 3, 5] (ds_cons (ds_set (i := 5) nd rfl (Or.inl rfl) (dm_frz (dm_call G_most_roads hg (hr.mono (by decide)) (by rfl) T.m_most_roads T.F_most_roads.kp (b_most_roads T) rfl (da_cons (pk_of (dm_ix (pk_nm 0) (pk_of dm_int))) (da_cons (pk_nm 1) da_nil)))))
    (ds_one (ds_ret (dm_ite (dt_cmp o_gt (pk_nm 4) (pk_nm 5) (nomark _)) (dm_tup (da_cons (pk_of dm_str) (da_cons (pk_nm 5) da_nil))) dm_non)))))))))))))
theorem ok__law_jar (T : Tx K mg)  : FnG P w K mg base 1 T.a__law_jar T.f__law_jar ["script"] (spM kn0 K 1 d__law_jar) := by
  have nd := sc__law_jar.nd
  unfold d__law_jar
  exact fn_D T.F__law_jar sc__law_jar rfl rfl fun cdv A outer s H E hg hr => (ds_cons (ds_set (i := 1) nd rfl (Or.inl rfl) (dm_frz (dm_bin o_add (pk_of dm_int) (pk_of (dm_bin o_mul (pk_of dm_int) (pk_of (dm_blt c_len.to (by rfl) T.z_len PySem.boot_len (da_cons (pk_of (dm_cut (pk_nm 0) do_none (do_some (pk_of dm_int)))) da_nil))))))))
    (ds_cons (ds_kill [2, 3] (ds_for PassesOwn.never rfl (di_seqS (pk_of (dm_frz (dm_cut (pk_nm 0) do_none (do_some (pk_of dm_int)))))) (dg_nm (i := 2) nd rfl (by first | exact Or.inl rfl | exact Or.inr rfl))
    (ds_cons (ds_set (i := 1) nd rfl (Or.inl rfl) (dm_bin o_mod (pk_of (dm_typ c_int.to (by rfl) T.z_int (by decide +kernel) (da_cons (pk_of (dm_bin o_add (pk_of (dm_bin o_add (pk_of (dm_bin o_add (pk_of (dm_bin o_mul (pk_nm 1) (pk_of dm_int))) (pk_of (dm_bin o_mul (pk_of dm_int) (pk_of (dm_blt c_abs.to (by rfl) T.z_abs (by decide +kernel) (da_cons (pk_nm 2) da_nil))))))) (pk_of (dm_typ c_int.to (by rfl) T.z_int (by decide +kernel) (da_cons (pk_of (dm_cmp o_lt (pk_nm 2) (pk_of dm_int) (nomark _))) da_nil))))) (pk_of dm_int))) da_nil))) (pk_of dm_int)))
    (dss_kill [2, 3] ds_nil))))
    (dss_kill [2, 3] (ds_cons (ds_setLc (own := [("cell", 2)]) (i := 3) rfl nd rfl rfl (sw_true rfl rfl rfl (by decide +kernel)) (blkOk_by (own := [("cell", 2)]) (N := n__law_jar) (sc := defScope s__law_jar) (by decide +kernel)) (di_seqE (pk_of (dm_cut (pk_nm 0) do_none (do_some (pk_of dm_int))))) (fun _ _ _ _ _ => (wg_nm (i := 2) nd rfl (by first | exact Or.inl rfl | exact Or.inr rfl) (by decide))) (fun _ _ _ _ _ => (dts_one (dt_cmp o_ge (pk_of (dm_blt c_abs.to (by rfl) T.z_abs (by decide +kernel) (da_cons (pk_nm 2) da_nil))) (pk_of (dm_bin o_pow (pk_of dm_int) (pk_of dm_int))) (nomark _)))) (fun _ _ _ _ _ => (dm_blt c_abs.to (by rfl) T.z_abs (by decide +kernel) (da_cons (pk_nm 2) da_nil))))
    (dss_frz 3 (ds_one (ds_ret (dm_npot3 (fun _ _ _ => rfl) (dm_revA (pk_nm 3)) (dm_nm 1) dm_int))))))))
theorem pf__law_draw (ms : List M) (P : M → Prop) (h : (d__law_draw ms).all P) : (bodyD 4 b_D__law_draw ms).all P := by
  obtain ⟨n, rfl, h1, h2, h3⟩ := drawJ_inv h
  have m1 : ∀ x : Int, 0 ≤ x % 2147483563 ∧ x % 2147483563 < 2147483563 := fun x => ⟨Int.emod_nonneg _ (by decide), Int.emod_lt_of_pos _ (by decide)⟩
  have m2 : ∀ x : Int, 0 ≤ x % 2147483549 ∧ x % 2147483549 < 2147483549 := fun x => ⟨Int.emod_nonneg _ (by decide), Int.emod_lt_of_pos _ (by decide)⟩
  have h1' : n < 18446744073709551616 := by omega
  unfold bodyD b_D__law_draw
  by_cases h0 : n < 2
  · have e0 : P (.pure (.int 0)) := h2 h0
    simp [greatJ, greatS, iteS, skS, seqS, retS, asgS, bin, callG, arg1, consL, nilL, kM, wipeD, killS, ltM_ii, boolM_b, h0, h1', T.all_bind, nm_at, e0]
  · have hm : ∀ x : Int, P (.pure (.int (x % n))) := fun x => h3 (by omega) _ (Int.emod_nonneg _ (by omega)) (Int.emod_lt_of_pos _ (by omega))
    have hp : 0 < n := by omega
    simp [greatJ, greatS, iteS, skS, seqS, retS, asgS, bin, callG, arg1, consL, nilL, kM, wipeD, killS, ltM_ii, boolM_b, h0, hp, h1', T.all_bind, nm_at]
    intro b hb
    by_cases e : b = 0
    · subst e
      simp [seqS, retS, asgS, bin, callG, arg1, consL, nilL, kM, T.all_bind, nm_at, addM_ii, modM_ii, intM_i, mulM_ir, potGet_pot]
      intro i1 hi1
      rw [potPut_pot (by omega)]
      simp [seqS, retS, asgS, bin, callG, arg1, consL, nilL, kM, T.all_bind, nm_at, potGet_pot]
      intro i2 hi2 i3 hi3
      rw [mulM_il (i := 48271) (j := i3) (by decide)]
      simp [addM_ii, modM_ii, intM_i, T.all_bind, nm_at, seqS, asgS, bin, kM, callG, consL, nilL, arg1]
      have mo := m1 (i2 + 48271 * i3)
      generalize (i2 + 48271 * i3) % 2147483563 = o at mo ⊢
      rw [mulM_ir (i := o) (j := o) (by omega)]
      simp [T.all_bind, nm_at, potGet_pot]
      intro i4 hi4
      rw [mulM_il (i := 39373) (j := i4) (by decide)]
      simp [addM_ii, modM_ii, intM_i, T.all_bind, nm_at, retS, bin, kM, callG, consL, nilL, arg1, potGet_pot]
      have mp := m2 (o * o + 39373 * i4 + 13)
      generalize (o * o + 39373 * i4 + 13) % 2147483549 = o2 at mp ⊢
      rw [mulM_ir (i := o2) (j := 16807) (by decide)]
      simp [addM_ii, modM_ii, intM_i, T.all_bind, nm_at, potGet_pot, fdivM_ii, hp, hm]
    · simp [e, hp, seqS, retS, asgS, bin, callG, arg1, consL, nilL, kM, T.all_bind, nm_at, addM_ii, modM_ii, intM_i, mulM_ir, potGet_pot, hm]
theorem ok__law_draw (T : Tx K mg) : FnG P w K mg base 1 T.a__law_draw T.f__law_draw ["jar", "many"] (spM kn0 K 2 d__law_draw) := by
  have nd := sc__law_draw.nd
  exact fnD_mono pf__law_draw (fn_D T.F__law_draw sc__law_draw rfl rfl fun cdv A outer s H E hg hr => (ds_cons (ds_if (dt_cmp o_lt (pk_nm 1) (pk_of dm_int) (nomark _))
    (ds_one (ds_ret dm_int))
    ds_nil)
    (dss_kill [2, 3] (ds_cons (ds_greatJ (ip := 0) (ic := 2) (im := 1) rfl (by decide) nd rfl (Or.inl rfl) (by decide) (pt_cmpR (o_ne (un64 hr)) (pe_dget (un2 hr) (pv 0) pe_str (by intro _ _; rfl)) (pe_lst pa_nil) (nomark _)) (pe_bm0 PySem.F.plainAttrs_list PySem.F.slot_list_pop PySem.F.type_list_pop mt_pop (pe_dget (un2 hr) (pv 0) pe_str (by intro _ _; rfl))) (pt_cmpR o_ge (pv 2) (pv 1) (nomark _)) (pe_bm PySem.F.plainAttrs_list PySem.F.slot_list_append PySem.F.type_list_append mt_append (pe_dget (un2 hr) (pv 0) pe_str (by intro _ _; rfl)) (pa_cons (pe_op o_fdiv (pv 2) (pv 1)) pa_nil))
    (ds_one (ds_ret (dm_bin o_mod (pk_of (dm_typ c_int.to (by rfl) T.z_int (by decide +kernel) (da_cons (pk_nm 2) da_nil))) (pk_nm 1)))))
    (ds_cons (ds_potput rfl (by decide) (by decide) (by decide) (un2 hr) (pk_nm 0) (dm_bin o_add (pk_of (dm_potget rfl (by decide) (by decide) (un2 hr) (pk_nm 0))) (pk_of dm_int)))
    (ds_cons (ds_set (i := 3) nd rfl (Or.inl rfl) (dm_bin o_mod (pk_of (dm_typ c_int.to (by rfl) T.z_int (by decide +kernel) (da_cons (pk_of (dm_bin o_add (pk_of (dm_potget rfl (by decide) (by decide) (un2 hr) (pk_nm 0))) (pk_of (dm_bin o_mul (pk_of dm_int) (pk_of (dm_potget rfl (by decide) (by decide) (un2 hr) (pk_nm 0))))))) da_nil))) (pk_of dm_int)))
    (ds_cons (ds_set (i := 3) nd rfl (Or.inl rfl) (dm_bin o_mod (pk_of (dm_typ c_int.to (by rfl) T.z_int (by decide +kernel) (da_cons (pk_of (dm_bin o_add (pk_of (dm_bin o_add (pk_of (dm_bin o_mul (pk_nm 3) (pk_nm 3))) (pk_of (dm_bin o_mul (pk_of dm_int) (pk_of (dm_potget rfl (by decide) (by decide) (un2 hr) (pk_nm 0))))))) (pk_of dm_int))) da_nil))) (pk_of dm_int)))
    (ds_one (ds_ret (dm_bin o_mod (pk_of (dm_typ c_int.to (by rfl) T.z_int (by decide +kernel) (da_cons (pk_of (dm_bin o_fdiv (pk_of (dm_bin o_mod (pk_of (dm_typ c_int.to (by rfl) T.z_int (by decide +kernel) (da_cons (pk_of (dm_bin o_add (pk_of (dm_bin o_mul (pk_nm 3) (pk_of dm_int))) (pk_of (dm_potget rfl (by decide) (by decide) (un2 hr) (pk_nm 0))))) da_nil))) (pk_of dm_int))) (pk_of dm_int))) da_nil))) (pk_nm 1)))))))))))
theorem ok__law_pick (T : Tx K mg)  : FnG P w K mg base 2 T.a__law_pick T.f__law_pick ["jar", "some"] (spM kn0 K 2 d__law_pick) := by
  have G__law_draw := ok__law_draw (P := P) (w := w) (base := base) T
  have nd := sc__law_pick.nd
  unfold d__law_pick
  exact fn_D T.F__law_pick sc__law_pick rfl rfl fun cdv A outer s H E hg hr => (ds_one (ds_ret (dm_ix (pk_nm 1) (pk_of (dm_call G__law_draw hg (hr.mono (by decide)) (by rfl) T.m__law_draw T.F__law_draw.kp (b__law_draw T) rfl (da_cons (pk_nm 0) (da_cons (pk_of (dm_blt c_len.to (by rfl) T.z_len PySem.boot_len (da_cons (pk_nm 1) da_nil))) da_nil)))))))
theorem ok__law_mixed (T : Tx K mg)  : FnG P w K mg base 2 T.a__law_mixed T.f__law_mixed ["jar", "some"] (spM kn0 K 2 d__law_mixed) := by
  have G__law_draw := ok__law_draw (P := P) (w := w) (base := base) T
  have nd := sc__law_mixed.nd
  unfold d__law_mixed
  exact fn_D T.F__law_mixed sc__law_mixed rfl rfl fun cdv A outer s H E hg hr => (ds_cons (ds_par (i := 2) (j := 3) rfl nd rfl rfl (by decide) rfl rfl (dm_typ c_list.to (by rfl) T.z_list (by decide +kernel) (da_cons (pk_nm 1) da_nil)) (dm_lst da_nil) (by with_unfolding_all rfl))
    (ds_cons (ds_kill [1] (ds_while PassesOwn.never (dt_cmp (o_ne (un64 hr)) (pk_nm 2) (pk_of (dm_lst da_nil)) (nomark _))
    (ds_cons (ds_appPop (i := 3) (j := 2) (pe_bm PySem.F.plainAttrs_list PySem.F.slot_list_append PySem.F.type_list_append mt_append (pv 3) (pa_cons (pe_bm PySem.F.plainAttrs_list PySem.F.slot_list_pop PySem.F.type_list_pop mt_popAt (pv 2) (pa_cons (pk_of (dm_call G__law_draw hg (hr.mono (by decide)) (by rfl) T.m__law_draw T.F__law_draw.kp (b__law_draw T) rfl (da_cons (pk_nm 0) (da_cons (pk_of (dm_blt c_len.to (by rfl) T.z_len PySem.boot_len (da_cons (pk_nm 2) da_nil))) da_nil)))) pa_nil)) pa_nil)) (by decide))
    (dss_kill [1] ds_nil))))
    (dss_kill [0, 1, 2] (ds_one (ds_retMove 3)))))
theorem ok__law_table (T : Tx K mg)  : FnG P w K mg base 1 T.a__law_table T.f__law_table ["web"] (spM kn0 K 1 d__law_table) := by
  have nd := sc__law_table.nd
  unfold d__law_table
  exact fn_D T.F__law_table sc__law_table rfl rfl fun cdv A outer s H E hg hr => (ds_cons (ds_setLcl (own := [("i", 2)]) (i := 1) rfl nd rfl rfl (sw_true rfl rfl rfl (by decide +kernel)) (blkOk_by (own := [("i", 2)]) (N := n__law_table) (sc := defScope s__law_table) (by decide +kernel)) (pi_ES (di_range1 (by rfl) T.z_range (da_cons (pk_of (dm_ix (pk_nm 0) (pk_of dm_int))) da_nil))) (fun _ _ _ _ _ => (wg_nm (i := 2) nd rfl (by first | exact Or.inl rfl | exact Or.inr rfl) (by decide))) (fun _ _ _ _ _ => dts_nil) (fun _ _ _ _ _ => (dm_bin o_mul (pk_of (dm_lst (da_cons (pk_of dm_bl) da_nil))) (pk_of (dm_ix (pk_nm 0) (pk_of dm_int))))))
    (ds_cons (ds_kill [2, 3] (ds_for PassesOwn.never rfl (di_seqS (pk_of (dm_ix (pk_nm 0) (pk_of dm_int)))) (dg_tup rfl (dgs_cons (dg_nm (i := 2) nd rfl (by first | exact Or.inl rfl | exact Or.inr rfl)) (dgs_cons (dg_nm (i := 3) nd rfl (by first | exact Or.inl rfl | exact Or.inr rfl)) dgs_nil)))
    (ds_cons (ds_setR (i := 1) dm_bl (pg_sub (pe_ix ix_list (pv 1) (pk_nm 2) (fun _ _ => rfl)) (pk_nm 3) set_list))
    (ds_cons (ds_setR (i := 1) dm_bl (pg_sub (pe_ix ix_list (pv 1) (pk_nm 3) (fun _ _ => rfl)) (pk_nm 2) set_list))
    (dss_kill [0, 2, 3] ds_nil)))))
    (dss_kill [0, 2, 3] (ds_one (ds_retMove 1)))))
theorem ok__law_full_lots (T : Tx K mg)  : FnG P w K mg base 2 T.a__law_full_lots T.f__law_full_lots ["web", "size"] (spM kn0 K 2 d__law_full_lots) := by
  have G__law_table := ok__law_table (P := P) (w := w) (base := base) T
  have nd := sc__law_full_lots.nd
  unfold d__law_full_lots
  exact fn_D T.F__law_full_lots sc__law_full_lots rfl rfl fun cdv A outer s H E hg hr => (ds_cons (ds_parT2 (i := 2) (j := 3) rfl nd rfl rfl (by first | exact Or.inl rfl | exact Or.inr rfl) (by first | exact Or.inl rfl | exact Or.inr rfl) (dm_frz (dm_call G__law_table hg (hr.mono (by decide)) (by rfl) T.m__law_table T.F__law_table.kp (b__law_table T) rfl (da_cons (pk_nm 0) da_nil))) (dm_frz (dm_lst (da_cons (pk_of (dm_tup da_nil)) da_nil))))
    (ds_cons (ds_kill [4, 5, 6, 7] (ds_for PassesOwn.never rfl (di_range1 (by rfl) T.z_range (da_cons (pk_nm 1) da_nil)) (dg_nm (i := 4) nd rfl (by first | exact Or.inl rfl | exact Or.inr rfl))
    (ds_cons (ds_set (i := 5) nd rfl (Or.inl rfl) (dm_lst da_nil))
    (ds_cons (ds_kill [1, 4, 6, 7] (ds_for PassesOwn.never rfl (di_seqS (pk_nm 3)) (dg_nm (i := 6) nd rfl (by first | exact Or.inl rfl | exact Or.inr rfl))
    (ds_cons (ds_set (i := 7) nd rfl (Or.inl rfl) (dm_frz (dm_ite (dt_cmp (o_ne (un64 hr)) (pk_nm 6) (pk_of (dm_tup da_nil)) (nomark _)) (dm_frz (dm_bin o_add (pk_of (dm_ix (pk_nm 6) (pk_of (dm_un o_neg (pk_of dm_int))))) (pk_of dm_int))) dm_int)))
    (ds_cons (ds_ext (pe_bm PySem.F.plainAttrs_list PySem.F.slot_list_extend PySem.F.type_list_extend mt_extM (pv 5) (pa_cons (dm_lc (own := [("i", 8)]) rfl nd (blkOk_by (own := [("i", 8)]) (N := n__law_full_lots) (sc := defScope s__law_full_lots) (by decide +kernel)) (pi_ES (di_range2 (by rfl) T.z_range (da_cons (pk_nm 7) (da_cons (pk_of (dm_ix (pk_nm 0) (pk_of dm_int))) da_nil)))) (fun _ _ _ _ _ => (wg_nm (i := 8) nd rfl (by first | exact Or.inl rfl | exact Or.inr rfl) (by decide))) (fun _ _ _ _ _ => (dts_one (dt_val (pk_of (dm_blt (c_all rfl).to (by rfl) T.z_all (by decide +kernel) (da_cons (pk_of (dm_lc (own := [("j", 9)]) rfl nd (blkOk_by (own := [("j", 9)]) (by rfl)) (di_seqE (pk_nm 6)) (fun _ _ _ _ _ => (wg_nm (i := 9) nd rfl (by first | exact Or.inl rfl | exact Or.inr rfl) (by decide))) (fun _ _ _ _ _ => dts_nil) (fun _ _ _ _ _ => (dm_ix (pk_of (dm_ix (pk_nm 2) (pk_nm 8))) (pk_nm 9))))) da_nil)))))) (fun _ _ _ _ _ => (dm_frz (dm_bin o_add (pk_nm 6) (pk_of (dm_tup (da_cons (pk_nm 8) da_nil))))))) pa_nil)))
    (dss_kill [1, 3, 4, 6, 7] ds_nil)))))
    (dss_kill [1, 3, 4, 6, 7] (ds_cons (ds_set (i := 3) nd rfl (Or.inl rfl) (dm_frz (dm_typ c_list.to (by rfl) T.z_list (by decide +kernel) (da_cons (pk_nm 5) da_nil))))
    (dss_kill [1, 4, 5, 6, 7] ds_nil)))))))
    (dss_kill [0, 1, 2, 4, 5, 6, 7] (ds_one (ds_ret (dm_nm 3))))))
theorem ok__law_odd (T : Tx K mg)  : FnG P w K mg base 3 T.a__law_odd T.f__law_odd ["jar"] (spM kn0 K 1 d__law_odd) := by
  have G__law_pick := ok__law_pick (P := P) (w := w) (base := base) T
  have nd := sc__law_odd.nd
  unfold d__law_odd
  exact fn_D T.F__law_odd sc__law_odd rfl rfl fun cdv A outer s H E hg hr => (ds_cons (ds_set (i := 1) nd rfl (Or.inl rfl) (dm_frz (dm_lst (da_cons (pk_of dm_non) (da_cons (pk_of dm_int) (da_cons (pk_of (dm_tup da_nil)) (da_cons (pk_of (dm_frz (dm_lst da_nil))) (da_cons (pk_of (dm_tup (da_cons (pk_of dm_int) da_nil))) (da_cons (pk_of dm_str) (da_cons (pk_of dm_str) (da_cons (pk_of (dm_frz dm_dic0)) (da_cons (pk_of (dm_tup (da_cons (pk_of (dm_tup (da_cons (pk_of dm_int) (da_cons (pk_of dm_int) da_nil)))) da_nil))) (da_cons (pk_of (dm_tup (da_cons (pk_of dm_int) (da_cons (pk_of dm_int) da_nil)))) (da_cons (pk_of dm_int) (da_cons (pk_of (dm_frz (dm_lst (da_cons (pk_of (dm_frz (dm_lst da_nil))) da_nil)))) (da_cons (pk_of dm_bl) (da_cons (pk_of (dm_tup (da_cons (pk_of dm_non) (da_cons (pk_of dm_non) da_nil)))) (da_cons (pk_of (dm_tup (da_cons (pk_of dm_int) (da_cons (pk_of dm_non) da_nil)))) da_nil))))))))))))))))))
    (ds_one (ds_ret (dm_frz (dm_call G__law_pick hg (hr.mono (by decide)) (by rfl) T.m__law_pick T.F__law_pick.kp (b__law_pick T) rfl (da_cons (pk_nm 0) (da_cons (pk_nm 1) da_nil)))))))
theorem ok__law_is_integer (T : Tx K mg)  : FnG P w K mg base 1 T.a__law_is_integer T.f__law_is_integer ["value"] (spM kn0 K 1 d__law_is_integer) := by
  have nd := sc__law_is_integer.nd
  unfold d__law_is_integer
  exact fn_D T.F__law_is_integer sc__law_is_integer rfl rfl fun cdv A outer s H E hg hr => (ds_one (ds_ret (dm_and (dm_isi (c := .int) (y := "int") (by rfl) T.z_isinstance (by decide +kernel) (by rfl) T.z_int (by decide +kernel) (by decide) (by decide) (pk_nm 0)) (dm_one (dm_not (dm_isi (c := .bool) (y := "bool") (by rfl) T.z_isinstance (by decide +kernel) (by rfl) T.z_bool (by decide +kernel) (by decide) (by decide) (pk_nm 0)))))))
theorem ok__law_pairs (T : Tx K mg)  : FnG P w K mg base 1 T.a__law_pairs T.f__law_pairs ["many", "is_looped"] (spM kn0 K 2 d__law_pairs) := by
  have nd := sc__law_pairs.nd
  unfold d__law_pairs
  exact fn_D T.F__law_pairs sc__law_pairs rfl rfl fun cdv A outer s H E hg hr => (ds_cons (ds_set (i := 2) nd rfl (Or.inl rfl) (dm_lst da_nil))
    (ds_cons (ds_kill [3] (ds_for PassesOwn.never rfl (di_range1 (by rfl) T.z_range (da_cons (pk_nm 0) da_nil)) (dg_nm (i := 3) nd rfl (by first | exact Or.inl rfl | exact Or.inr rfl))
    (ds_cons (ds_ext (pe_bm PySem.F.plainAttrs_list PySem.F.slot_list_extend PySem.F.type_list_extend mt_extM (pv 2) (pa_cons (dm_lc (own := [("j", 4)]) rfl nd (blkOk_by (own := [("j", 4)]) (N := n__law_pairs) (sc := defScope s__law_pairs) (by decide +kernel)) (pi_ES (di_range2 (by rfl) T.z_range (da_cons (pk_of (dm_ite (dt_val (pk_nm 1)) (dm_nm 3) (dm_frz (dm_bin o_add (pk_nm 3) (pk_of dm_int))))) (da_cons (pk_nm 0) da_nil)))) (fun _ _ _ _ _ => (wg_nm (i := 4) nd rfl (by first | exact Or.inl rfl | exact Or.inr rfl) (by decide))) (fun _ _ _ _ _ => dts_nil) (fun _ _ _ _ _ => (dm_tup (da_cons (pk_nm 3) (da_cons (pk_nm 4) da_nil))))) pa_nil)))
    (dss_kill [3] ds_nil))))
    (dss_kill [0, 1, 3] (ds_one (ds_retMove 2)))))
theorem ok__law_web (T : Tx K mg)  : FnG P w K mg base 2 T.a__law_web T.f__law_web ["jar", "many", "is_looped"] (spM kn0 K 3 d__law_web) := by
  have G__law_draw := ok__law_draw (P := P) (w := w) (base := base) T
  have G__law_pairs := ok__law_pairs (P := P) (w := w) (base := base) T
  have nd := sc__law_web.nd
  unfold d__law_web
  exact fn_D T.F__law_web sc__law_web rfl rfl fun cdv A outer s H E hg hr => (ds_cons (ds_set (i := 3) nd rfl (Or.inr rfl) (dm_frz (dm_bin o_add (pk_of dm_int) (pk_of (dm_call G__law_draw hg (hr.mono (by decide)) (by rfl) T.m__law_draw T.F__law_draw.kp (b__law_draw T) rfl (da_cons (pk_nm 0) (da_cons (pk_of dm_int) da_nil)))))))
    (ds_one (ds_ret (dm_tup (da_cons (pk_nm 1) (da_cons (pk_of (dm_typ c_tuple.to (by rfl) T.z_tuple (by decide +kernel) (da_cons (pk_of (dm_lc (own := [("road", 4)]) rfl nd (blkOk_by (own := [("road", 4)]) (N := n__law_web) (sc := defScope s__law_web) (by decide +kernel)) (di_seqE (pk_of (dm_call G__law_pairs hg (hr.mono (by decide)) (by rfl) T.m__law_pairs T.F__law_pairs.kp (b__law_pairs T) rfl (da_cons (pk_nm 1) (da_cons (pk_nm 2) da_nil))))) (fun _ _ _ _ _ => (wg_nm (i := 4) nd rfl (by first | exact Or.inl rfl | exact Or.inr rfl) (by decide))) (fun _ _ _ _ _ => (dts_one (dt_cmp o_lt (pk_of (dm_call G__law_draw hg (hr.mono (by decide)) (by rfl) T.m__law_draw T.F__law_draw.kp (b__law_draw T) rfl (da_cons (pk_nm 0) (da_cons (pk_of dm_int) da_nil)))) (pk_nm 3) (nomark _)))) (fun _ _ _ _ _ => (dm_nm 4)))) da_nil))) da_nil))))))
theorem ok__law_renamed (T : Tx K mg)  : FnG P w K mg base 1 T.a__law_renamed T.f__law_renamed ["web", "names"] (spM kn0 K 2 d__law_renamed) := by
  have nd := sc__law_renamed.nd
  unfold d__law_renamed
  exact fn_D T.F__law_renamed sc__law_renamed rfl rfl fun cdv A outer s H E hg hr => (ds_cons (ds_setLc (own := [("i", 3), ("j", 4)]) (i := 2) rfl nd rfl rfl (sw_true rfl rfl rfl (by decide +kernel)) (blkOk_by (own := [("i", 3), ("j", 4)]) (N := n__law_renamed) (sc := defScope s__law_renamed) (by decide +kernel)) (di_seqE (pk_of (dm_ix (pk_nm 0) (pk_of dm_int)))) (fun _ _ _ _ _ => (wg_tup rfl (wgs_cons (wg_nm (i := 3) nd rfl (by first | exact Or.inl rfl | exact Or.inr rfl) (by decide)) (wgs_cons (wg_nm (i := 4) nd rfl (by first | exact Or.inl rfl | exact Or.inr rfl) (by decide)) wgs_nil)))) (fun _ _ _ _ _ => dts_nil) (fun _ _ _ _ _ => (dm_tup (da_cons (pk_of (dm_blt (c_min2 rfl).to (by rfl) T.z_min (by decide +kernel) (da_cons (pk_of (dm_ix (pk_nm 1) (pk_nm 3))) (da_cons (pk_of (dm_ix (pk_nm 1) (pk_nm 4))) da_nil)))) (da_cons (pk_of (dm_blt (c_max2 rfl).to (by rfl) T.z_max (by decide +kernel) (da_cons (pk_of (dm_ix (pk_nm 1) (pk_nm 3))) (da_cons (pk_of (dm_ix (pk_nm 1) (pk_nm 4))) da_nil)))) da_nil)))))
    (dss_frz 2 (ds_one (ds_ret (dm_tup (da_cons (pk_of (dm_ix (pk_nm 0) (pk_of dm_int))) (da_cons (pk_of (dm_typ c_tuple.to (by rfl) T.z_tuple (by decide +kernel) (da_cons (pk_of (dm_blt (c_sort (un70 hr)).to (by rfl) T.z_sorted (by decide +kernel) (da_cons (pk_nm 2) da_nil))) da_nil))) da_nil)))))))
theorem ok__law_called (T : Tx K mg)  : FnG P w K mg base 3 T.a__law_called T.f__law_called ["jar", "web"] (spM kn0 K 2 d__law_called) := by
  have G__law_renamed := ok__law_renamed (P := P) (w := w) (base := base) T
  have G__law_mixed := ok__law_mixed (P := P) (w := w) (base := base) T
  have nd := sc__law_called.nd
  unfold d__law_called
  exact fn_D T.F__law_called sc__law_called rfl rfl fun cdv A outer s H E hg hr => (ds_one (ds_ret (dm_frz (dm_call G__law_renamed hg (hr.mono (by decide)) (by rfl) T.m__law_renamed T.F__law_renamed.kp (b__law_renamed T) rfl (da_cons (pk_nm 1) (da_cons (pk_of (dm_frz (dm_call G__law_mixed hg (hr.mono (by decide)) (by rfl) T.m__law_mixed T.F__law_mixed.kp (b__law_mixed T) rfl (da_cons (pk_nm 0) (da_cons (pk_of (dm_frz (dm_listRg1 rfl (by rfl) T.z_list (by rfl) T.z_range (pk_of (dm_ix (pk_nm 1) (pk_of dm_int)))))) da_nil))))) da_nil))))))
theorem ok__law_parted (T : Tx K mg)  : FnG P w K mg base 2 T.a__law_parted T.f__law_parted ["many", "lots"] (spM kn0 K 2 d__law_parted) := by
  have G__law_pairs := ok__law_pairs (P := P) (w := w) (base := base) T
  have nd := sc__law_parted.nd
  unfold d__law_parted
  exact fn_D T.F__law_parted sc__law_parted rfl rfl fun cdv A outer s H E hg hr => (ds_cons (ds_set (i := 2) nd rfl (Or.inr rfl) (dm_lst da_nil))
    (ds_cons (ds_kill [3, 4] (ds_for PassesOwn.never rfl (di_range1 (by rfl) T.z_range (da_cons (pk_nm 1) da_nil)) (dg_nm (i := 3) nd rfl (by first | exact Or.inl rfl | exact Or.inr rfl))
    (ds_cons (ds_set (i := 4) nd rfl (Or.inl rfl) (dm_frz (dm_bin o_add (pk_of (dm_bin o_fdiv (pk_nm 0) (pk_nm 1))) (pk_of (dm_typ c_int.to (by rfl) T.z_int (by decide +kernel) (da_cons (pk_of (dm_cmp o_lt (pk_nm 3) (pk_of (dm_bin o_mod (pk_of (dm_typ c_int.to (by rfl) T.z_int (by decide +kernel) (da_cons (pk_nm 0) da_nil))) (pk_nm 1))) (nomark _))) da_nil))))))
    (ds_cons (ds_ext (pe_bm PySem.F.plainAttrs_list PySem.F.slot_list_extend PySem.F.type_list_extend mt_extM (pv 2) (pa_cons (dm_bin o_mul (pk_of (dm_lst (da_cons (pk_nm 3) da_nil))) (pk_nm 4)) pa_nil)))
    (dss_kill [3, 4] ds_nil)))))
    (dss_kill [1, 3, 4] (ds_one (ds_ret (dm_tup (da_cons (pk_nm 0) (da_cons (pk_of (dm_typ c_tuple.to (by rfl) T.z_tuple (by decide +kernel) (da_cons (pk_of (dm_lc (own := [("i", 5), ("j", 6)]) rfl nd (blkOk_by (own := [("i", 5), ("j", 6)]) (N := n__law_parted) (sc := defScope s__law_parted) (by decide +kernel)) (di_seqE (pk_of (dm_call G__law_pairs hg (hr.mono (by decide)) (by rfl) T.m__law_pairs T.F__law_pairs.kp (b__law_pairs T) rfl (da_cons (pk_nm 0) (da_cons (pk_of dm_bl) da_nil))))) (fun _ _ _ _ _ => (wg_tup rfl (wgs_cons (wg_nm (i := 5) nd rfl (by first | exact Or.inl rfl | exact Or.inr rfl) (by decide)) (wgs_cons (wg_nm (i := 6) nd rfl (by first | exact Or.inl rfl | exact Or.inr rfl) (by decide)) wgs_nil)))) (fun _ _ _ _ _ => (dts_one (dt_cmp (o_ne (un64 hr)) (pk_of (dm_ix (pk_nm 2) (pk_nm 5))) (pk_of (dm_ix (pk_nm 2) (pk_nm 6))) (nomark _)))) (fun _ _ _ _ _ => (dm_tup (da_cons (pk_nm 5) (da_cons (pk_nm 6) da_nil)))))) da_nil))) da_nil))))))))
theorem ok__law_full_fault (T : Tx K mg)  : FnG P w K mg base 2 T.a__law_full_fault T.f__law_full_fault ["web", "size", "value"] (spM kn0 K 3 d__law_full_fault) := by
  have G__law_is_integer := ok__law_is_integer (P := P) (w := w) (base := base) T
  have G__law_table := ok__law_table (P := P) (w := w) (base := base) T
  have nd := sc__law_full_fault.nd
  unfold d__law_full_fault
  exact fn_D T.F__law_full_fault sc__law_full_fault rfl rfl fun cdv A outer s H E hg hr => (ds_cons (ds_if (PW.pt (dw_or (dt_not (dt_val (pk_of (dm_isi (c := .tuple) (y := "tuple") (by rfl) T.z_isinstance (by decide +kernel) (by rfl) T.z_tuple (by decide +kernel) (by decide) (by decide) (pk_nm 2))))) (dw_or1 (dt_cmp (o_ne (un64 hr)) (pk_of (dm_blt c_len.to (by rfl) T.z_len PySem.boot_len (da_cons (pk_nm 2) da_nil))) (pk_of (dm_bin o_add (pk_nm 1) (pk_of dm_int))) (nomark _)))))
    (ds_one (ds_ret dm_str))
    ds_nil)
    (dss_kill [1, 3, 4, 5, 6] (ds_cons (ds_if (dt_not (dt_val (pk_of (dm_blt (c_all rfl).to (by rfl) T.z_all (by decide +kernel) (da_cons (pk_of (dm_lc (own := [("own", 7)]) rfl nd (blkOk_by (own := [("own", 7)]) (N := n__law_full_fault) (sc := defScope s__law_full_fault) (by decide +kernel)) (di_seqE (pk_nm 2)) (fun _ _ _ _ _ => (wg_nm (i := 7) nd rfl (by first | exact Or.inl rfl | exact Or.inr rfl) (by decide))) (fun _ _ _ _ _ => dts_nil) (fun _ _ _ _ _ => (dm_and (dm_call G__law_is_integer hg (hr.mono (by decide)) (by rfl) T.m__law_is_integer T.F__law_is_integer.kp (b__law_is_integer T) rfl (da_cons (pk_nm 7) da_nil)) (dm_one (dm_chain (o_leA (Nat.lt_of_le_of_lt (Nat.le_add_right _ 64) (un64 hr))) o_lt (pk_of dm_int) (pk_nm 7) (pk_of (dm_ix (pk_nm 0) (pk_of dm_int))))))))) da_nil)))))
    (ds_one (ds_ret dm_str))
    ds_nil)
    (dss_kill [1, 3, 4, 5, 6] (ds_cons (ds_if (dt_val (pk_of (dm_blt (c_any rfl).to (by rfl) T.z_any (by decide +kernel) (da_cons (pk_of (dm_lc (own := [("one", 8), ("other", 9)]) rfl nd (blkOk_by (own := [("one", 8), ("other", 9)]) (N := n__law_full_fault) (sc := defScope s__law_full_fault) (by decide +kernel)) (di_zipE (by rfl) T.z_zip (da_cons (pk_nm 2) (da_cons (pk_of (dm_cut (pk_nm 2) (do_some (pk_of dm_int)) do_none)) da_nil))) (fun _ _ _ _ _ => (wg_tup rfl (wgs_cons (wg_nm (i := 8) nd rfl (by first | exact Or.inl rfl | exact Or.inr rfl) (by decide)) (wgs_cons (wg_nm (i := 9) nd rfl (by first | exact Or.inl rfl | exact Or.inr rfl) (by decide)) wgs_nil)))) (fun _ _ _ _ _ => dts_nil) (fun _ _ _ _ _ => (dm_cmp o_ge (pk_nm 8) (pk_nm 9) (nomark _))))) da_nil))))
    (ds_one (ds_ret dm_str))
    ds_nil)
    (dss_kill [1, 3, 4, 5, 6] (ds_cons (ds_set (i := 3) nd rfl (Or.inr rfl) (dm_frz (dm_call G__law_table hg (hr.mono (by decide)) (by rfl) T.m__law_table T.F__law_table.kp (b__law_table T) rfl (da_cons (pk_nm 0) da_nil))))
    (ds_cons (ds_kill [0, 1, 4, 5, 6] (ds_for PassesOwn.never rfl (di_enumS (by rfl) T.z_enumerate (da_cons (pk_nm 2) da_nil)) (dg_tup rfl (dgs_cons (dg_nm (i := 4) nd rfl (by first | exact Or.inl rfl | exact Or.inr rfl)) (dgs_cons (dg_nm (i := 5) nd rfl (by first | exact Or.inl rfl | exact Or.inr rfl)) dgs_nil)))
    (ds_cons (ds_setLc (own := [("j", 10)]) (i := 6) rfl nd rfl rfl (sw_true rfl rfl rfl (by decide +kernel)) (blkOk_by (own := [("j", 10)]) (N := n__law_full_fault) (sc := defScope s__law_full_fault) (by decide +kernel)) (di_seqE (pk_of (dm_cut (pk_nm 2) (do_some (pk_of (dm_bin o_add (pk_nm 4) (pk_of dm_int)))) do_none))) (fun _ _ _ _ _ => (wg_nm (i := 10) nd rfl (by first | exact Or.inl rfl | exact Or.inr rfl) (by decide))) (fun _ _ _ _ _ => (dts_one (dt_not (dt_val (pk_of (dm_ix (pk_of (dm_ix (pk_nm 3) (pk_nm 5))) (pk_nm 10))))))) (fun _ _ _ _ _ => (dm_nm 10)))
    (dss_frz 6 (ds_cons (ds_if (dt_cmp (o_ne (un64 hr)) (pk_nm 6) (pk_of (dm_lst da_nil)) (nomark _))
    (ds_one (ds_ret (dm_tup (da_cons (pk_of dm_str) (da_cons (pk_nm 5) (da_cons (pk_of (dm_ix (pk_nm 6) (pk_of dm_int))) da_nil))))))
    ds_nil)
    (dss_kill [0, 1, 4, 5, 6] (dss_kill [0, 1, 4, 5, 6] ds_nil)))))))
    (dss_kill [0, 1, 2, 3, 4, 5, 6] (ds_one (ds_ret dm_non)))))))))))
theorem ok__law_fault (T : Tx K mg)  : FnG P w K mg base 3 T.a__law_fault T.f__law_fault ["web", "size", "value"] (spM kn0 K 3 d__law_fault) := by
  have G__law_full_fault := ok__law_full_fault (P := P) (w := w) (base := base) T
  have G__law_is_integer := ok__law_is_integer (P := P) (w := w) (base := base) T
  have G__law_parted := ok__law_parted (P := P) (w := w) (base := base) T
  have nd := sc__law_fault.nd
  unfold d__law_fault
  exact fn_D T.F__law_fault sc__law_fault rfl rfl fun cdv A outer s H E hg hr => (ds_cons (ds_if (PW.pt (dw_or (dt_not (dt_val (pk_of (dm_isi (c := .tuple) (y := "tuple") (by rfl) T.z_isinstance (by decide +kernel) (by rfl) T.z_tuple (by decide +kernel) (by decide) (by decide) (pk_nm 2))))) (dw_or (dt_cmp (o_ne (un64 hr)) (pk_of (dm_blt c_len.to (by rfl) T.z_len PySem.boot_len (da_cons (pk_nm 2) da_nil))) (pk_of dm_int) (nomark _)) (dw_or1 (dt_not (dt_val (pk_of (dm_isi (c := .str) (y := "str") (by rfl) T.z_isinstance (by decide +kernel) (by rfl) T.z_str (by decide +kernel) (by decide) (by decide) (pk_of (dm_ix (pk_nm 2) (pk_of dm_int)))))))))))
    (ds_one (ds_ret dm_str))
    ds_nil)
    (dss_kill [3] (ds_cons (ds_if (dt_cmp (o_eq (un64 hr)) (pk_of (dm_ix (pk_nm 2) (pk_of dm_int))) (pk_of dm_str) (nomark _))
    (ds_one (ds_ret (dm_frz (dm_call G__law_full_fault hg (hr.mono (by decide)) (by rfl) T.m__law_full_fault T.F__law_full_fault.kp (b__law_full_fault T) rfl (da_cons (pk_nm 0) (da_cons (pk_nm 1) (da_cons (pk_of (dm_ix (pk_nm 2) (pk_of dm_int))) da_nil)))))))
    ds_nil)
    (dss_kill [3] (ds_cons (ds_if (dt_cmp (o_ne (un64 hr)) (pk_of (dm_ix (pk_nm 2) (pk_of dm_int))) (pk_of dm_str) (nomark _))
    (ds_one (ds_ret dm_str))
    ds_nil)
    (dss_kill [3] (ds_cons (ds_if (PW.pt (dw_or (dt_not (dt_val (pk_of (dm_call G__law_is_integer hg (hr.mono (by decide)) (by rfl) T.m__law_is_integer T.F__law_is_integer.kp (b__law_is_integer T) rfl (da_cons (pk_of (dm_ix (pk_nm 2) (pk_of dm_int))) da_nil))))) (dw_or1 (dt_cmp (o_ne (un64 hr)) (pk_of (dm_ix (pk_nm 2) (pk_of dm_int))) (pk_of (dm_blt c_len.to (by rfl) T.z_len PySem.boot_len (da_cons (pk_of (dm_ix (pk_nm 0) (pk_of dm_int))) da_nil))) (nomark _)))))
    (ds_one (ds_ret dm_str))
    ds_nil)
    (dss_kill [2, 3] (ds_cons (ds_set (i := 3) nd rfl (Or.inl rfl) (dm_blt c_len.to (by rfl) T.z_len PySem.boot_len (da_cons (pk_of (dm_ix (pk_of (dm_call G__law_parted hg (hr.mono (by decide)) (by rfl) T.m__law_parted T.F__law_parted.kp (b__law_parted T) rfl (da_cons (pk_of (dm_ix (pk_nm 0) (pk_of dm_int))) (da_cons (pk_nm 1) da_nil)))) (pk_of dm_int))) da_nil)))
    (ds_one (ds_ret (dm_ite (dt_cmp o_gt (pk_of (dm_blt c_len.to (by rfl) T.z_len PySem.boot_len (da_cons (pk_of (dm_ix (pk_nm 0) (pk_of dm_int))) da_nil))) (pk_nm 3) (nomark _)) (dm_tup (da_cons (pk_of dm_str) (da_cons (pk_nm 3) da_nil))) dm_non))))))))))))
theorem ok__law_plain (T : Tx K mg)  : FnG P w K mg base 4 T.a__law_plain T.f__law_plain ["jar"] (spM kn0 K 1 d__law_plain) := by
  have G__law_draw := ok__law_draw (P := P) (w := w) (base := base) T
  have G__law_web := ok__law_web (P := P) (w := w) (base := base) T
  have G__law_parted := ok__law_parted (P := P) (w := w) (base := base) T
  have G__law_pick := ok__law_pick (P := P) (w := w) (base := base) T
  have G__law_pairs := ok__law_pairs (P := P) (w := w) (base := base) T
  have G__law_called := ok__law_called (P := P) (w := w) (base := base) T
  have nd := sc__law_plain.nd
  unfold d__law_plain
  exact fn_D T.F__law_plain sc__law_plain rfl rfl fun cdv A outer s H E hg hr => (ds_cons (ds_if (dt_cmp (o_eq (un64 hr)) (pk_of (dm_call G__law_draw hg (hr.mono (by decide)) (by rfl) T.m__law_draw T.F__law_draw.kp (b__law_draw T) rfl (da_cons (pk_nm 0) (da_cons (pk_of dm_int) da_nil)))) (pk_of dm_int) (nomark _))
    (ds_one (ds_ret (dm_frz (dm_call G__law_web hg (hr.mono (by decide)) (by rfl) T.m__law_web T.F__law_web.kp (b__law_web T) rfl (da_cons (pk_nm 0) (da_cons (pk_of (dm_frz (dm_call G__law_draw hg (hr.mono (by decide)) (by rfl) T.m__law_draw T.F__law_draw.kp (b__law_draw T) rfl (da_cons (pk_nm 0) (da_cons (pk_of dm_int) da_nil))))) (da_cons (pk_of dm_bl) da_nil)))))))
    ds_nil)
    (dss_kill [1, 2, 3, 4] (ds_cons (ds_set (i := 1) nd rfl (Or.inl rfl) (dm_frz (dm_bin o_add (pk_of dm_int) (pk_of (dm_call G__law_draw hg (hr.mono (by decide)) (by rfl) T.m__law_draw T.F__law_draw.kp (b__law_draw T) rfl (da_cons (pk_nm 0) (da_cons (pk_of dm_int) da_nil)))))))
    (ds_cons (ds_set (i := 2) nd rfl (Or.inl rfl) (dm_frz (dm_call G__law_parted hg (hr.mono (by decide)) (by rfl) T.m__law_parted T.F__law_parted.kp (b__law_parted T) rfl (da_cons (pk_nm 1) (da_cons (pk_of (dm_frz (dm_bin o_add (pk_of dm_int) (pk_of (dm_call G__law_draw hg (hr.mono (by decide)) (by rfl) T.m__law_draw T.F__law_draw.kp (b__law_draw T) rfl (da_cons (pk_nm 0) (da_cons (pk_of dm_int) da_nil))))))) da_nil)))))
    (ds_cons (ds_set (i := 3) nd rfl (Or.inr rfl) (dm_frz (dm_call G__law_pick hg (hr.mono (by decide)) (by rfl) T.m__law_pick T.F__law_pick.kp (b__law_pick T) rfl (da_cons (pk_nm 0) (da_cons (pk_of (dm_frz (dm_call G__law_pairs hg (hr.mono (by decide)) (by rfl) T.m__law_pairs T.F__law_pairs.kp (b__law_pairs T) rfl (da_cons (pk_nm 1) (da_cons (pk_of dm_bl) da_nil))))) da_nil)))))
    (ds_cons (ds_set (i := 4) nd rfl (Or.inl rfl) (dm_frz (dm_bin o_add (pk_of (dm_lc (own := [("own", 5)]) rfl nd (blkOk_by (own := [("own", 5)]) (N := n__law_plain) (sc := defScope s__law_plain) (by decide +kernel)) (di_seqE (pk_of (dm_ix (pk_nm 2) (pk_of dm_int)))) (fun _ _ _ _ _ => (wg_nm (i := 5) nd rfl (by first | exact Or.inl rfl | exact Or.inr rfl) (by decide))) (fun _ _ _ _ _ => (dts_one (dt_cmp (o_ne (un64 hr)) (pk_nm 5) (pk_nm 3) (nomark _)))) (fun _ _ _ _ _ => (dm_nm 5)))) (pk_of (dm_ite (dt_cmp (o_nin (un65 hr)) (pk_nm 3) (pk_of (dm_ix (pk_nm 2) (pk_of dm_int))) (by with_unfolding_all rfl)) (dm_frz (dm_lst (da_cons (pk_nm 3) da_nil))) (dm_frz (dm_lst da_nil)))))))
    (ds_one (ds_ret (dm_frz (dm_call G__law_called hg (hr.mono (by decide)) (by rfl) T.m__law_called T.F__law_called.kp (b__law_called T) rfl (da_cons (pk_nm 0) (da_cons (pk_of (dm_tup (da_cons (pk_nm 1) (da_cons (pk_of (dm_typ c_tuple.to (by rfl) T.z_tuple (by decide +kernel) (da_cons (pk_of (dm_blt (c_sort (un70 hr)).to (by rfl) T.z_sorted (by decide +kernel) (da_cons (pk_nm 4) da_nil))) da_nil))) da_nil)))) da_nil))))))))))))
theorem ok__law_values (T : Tx K mg)  : FnG P w K mg base 4 T.a__law_values T.f__law_values ["jar", "web", "size"] (spM kn0 K 3 d__law_values) := by
  have G__law_full_lots := ok__law_full_lots (P := P) (w := w) (base := base) T
  have G__law_pick := ok__law_pick (P := P) (w := w) (base := base) T
  have G__law_mixed := ok__law_mixed (P := P) (w := w) (base := base) T
  have G__law_odd := ok__law_odd (P := P) (w := w) (base := base) T
  have nd := sc__law_values.nd
  unfold d__law_values
  exact fn_D T.F__law_values sc__law_values rfl rfl fun cdv A outer s H E hg hr => (ds_cons (ds_set (i := 3) nd rfl (Or.inl rfl) (dm_frz (dm_ite (dt_cmp o_lt (pk_nm 2) (pk_of dm_int) (nomark _)) (dm_frz (dm_call G__law_full_lots hg (hr.mono (by decide)) (by rfl) T.m__law_full_lots T.F__law_full_lots.kp (b__law_full_lots T) rfl (da_cons (pk_nm 1) (da_cons (pk_of (dm_frz (dm_bin o_add (pk_nm 2) (pk_of dm_int)))) da_nil)))) (dm_frz (dm_lst da_nil)))))
    (ds_cons (ds_set (i := 4) nd rfl (Or.inl rfl) (dm_frz (dm_ite (dt_cmp (o_ne (un64 hr)) (pk_nm 3) (pk_of (dm_lst da_nil)) (nomark _)) (dm_frz (dm_call G__law_pick hg (hr.mono (by decide)) (by rfl) T.m__law_pick T.F__law_pick.kp (b__law_pick T) rfl (da_cons (pk_nm 0) (da_cons (pk_nm 3) da_nil)))) (dm_tupRg1 rfl (by rfl) T.z_tuple (by rfl) T.z_range (pk_of (dm_bin o_add (pk_nm 2) (pk_of dm_int)))))))
    (ds_cons (ds_set (i := 5) nd rfl (Or.inl rfl) (dm_typ c_tuple.to (by rfl) T.z_tuple (by decide +kernel) (da_cons (pk_of (dm_blt (c_sort (un70 hr)).to (by rfl) T.z_sorted (by decide +kernel) (da_cons (pk_of (dm_cut (pk_of (dm_call G__law_mixed hg (hr.mono (by decide)) (by rfl) T.m__law_mixed T.F__law_mixed.kp (b__law_mixed T) rfl (da_cons (pk_nm 0) (da_cons (pk_of (dm_frz (dm_listRg1 rfl (by rfl) T.z_list (by rfl) T.z_range (pk_of (dm_ix (pk_nm 1) (pk_of dm_int)))))) da_nil)))) do_none (do_some (pk_of (dm_bin o_add (pk_nm 2) (pk_of dm_int)))))) da_nil))) da_nil)))
    (ds_cons (ds_set (i := 6) nd rfl (Or.inl rfl) (dm_lst (da_cons (pk_nm 4) (da_cons (pk_nm 5) (da_cons (pk_of (dm_frz (dm_cut (pk_nm 4) do_none (do_some (pk_of (dm_un o_neg (pk_of dm_int))))))) (da_cons (pk_of (dm_frz (dm_revA (pk_nm 4)))) (da_cons (pk_of (dm_frz (dm_bin o_add (pk_nm 4) (pk_of (dm_tup (da_cons (pk_of (dm_ix (pk_nm 1) (pk_of dm_int))) da_nil)))))) (da_cons (pk_of (dm_frz (dm_bin o_add (pk_of (dm_cut (pk_nm 4) do_none (do_some (pk_of (dm_un o_neg (pk_of dm_int)))))) (pk_of (dm_tup (da_cons (pk_of dm_bl) da_nil)))))) (da_cons (pk_of (dm_frz (dm_typ c_list.to (by rfl) T.z_list (by decide +kernel) (da_cons (pk_nm 4) da_nil)))) (da_cons (pk_of (dm_frz (dm_bin o_mul (pk_of (dm_tup (da_cons (pk_of dm_int) da_nil))) (pk_of (dm_bin o_add (pk_nm 2) (pk_of dm_int)))))) da_nil))))))))))
    (ds_cons (ds_app (pe_bm PySem.F.plainAttrs_list PySem.F.slot_list_append PySem.F.type_list_append mt_append (pv 6) (pa_cons (dm_frz (dm_call G__law_odd hg (hr.mono (by decide)) (by rfl) T.m__law_odd T.F__law_odd.kp (b__law_odd T) rfl (da_cons (pk_nm 0) da_nil))) pa_nil)))
    (ds_cons (ds_setLc (own := [("own", 9)]) (i := 7) rfl nd rfl rfl (sw_true rfl rfl rfl (by decide +kernel)) (blkOk_by (own := [("own", 9)]) (N := n__law_values) (sc := defScope s__law_values) (by decide +kernel)) (di_seqE (pk_nm 6)) (fun _ _ _ _ _ => (wg_nm (i := 9) nd rfl (by first | exact Or.inl rfl | exact Or.inr rfl) (by decide))) (fun _ _ _ _ _ => dts_nil) (fun _ _ _ _ _ => (dm_tup (da_cons (pk_of dm_str) (da_cons (pk_nm 9) da_nil)))))
    (ds_cons (ds_set (i := 8) nd rfl (Or.inl rfl) (dm_blt c_len.to (by rfl) T.z_len PySem.boot_len (da_cons (pk_of (dm_ix (pk_nm 1) (pk_of dm_int))) da_nil)))
    (ds_cons (ds_kill [1, 2, 3, 4, 5, 9] (ds_for PassesOwn.never rfl (di_seqS (pk_of (dm_frz (dm_lst (da_cons (pk_nm 8) (da_cons (pk_of (dm_frz (dm_bin o_add (pk_nm 8) (pk_of dm_int)))) (da_cons (pk_of (dm_bin o_sub (pk_nm 8) (pk_of dm_int))) (da_cons (pk_of (dm_typ c_bool.to (by rfl) T.z_bool (by decide +kernel) (da_cons (pk_nm 8) da_nil))) (da_cons (pk_of (dm_typ c_str.to (by rfl) T.z_str (by decide +kernel) (da_cons (pk_nm 8) da_nil))) (da_cons (pk_of dm_non) da_nil)))))))))) (dg_nm (i := 9) nd rfl (by first | exact Or.inl rfl | exact Or.inr rfl))
    (ds_cons (ds_app (pe_bm PySem.F.plainAttrs_list PySem.F.slot_list_append PySem.F.type_list_append mt_append (pv 7) (pa_cons (dm_tup (da_cons (pk_of dm_str) (da_cons (pk_nm 9) da_nil))) pa_nil)))
    (dss_kill [1, 2, 3, 4, 5, 9] ds_nil))))
    (dss_kill [1, 2, 3, 4, 5, 9] (ds_one (ds_frz 6 (ds_ret (dm_tup (da_cons (pk_of (dm_frz (dm_bin o_add (pk_nm 7) (pk_of (dm_lst (da_cons (pk_of (dm_tup (da_cons (pk_of dm_str) da_nil))) (da_cons (pk_of (dm_frz (dm_lst (da_cons (pk_of dm_str) (da_cons (pk_nm 8) da_nil))))) (da_cons (pk_of (dm_tup (da_cons (pk_of dm_str) (da_cons (pk_nm 8) da_nil)))) (da_cons (pk_of (dm_tup (da_cons (pk_of dm_str) (da_cons (pk_nm 8) (da_cons (pk_of dm_int) da_nil))))) (da_cons (pk_of (dm_frz (dm_call G__law_odd hg (hr.mono (by decide)) (by rfl) T.m__law_odd T.F__law_odd.kp (b__law_odd T) rfl (da_cons (pk_nm 0) da_nil)))) da_nil)))))))))) (da_cons (pk_nm 6) da_nil)))))))))))))))
noncomputable def e_law : DSt → T M := (callD 1 d__law_jar (consL (nm 0) nilL))
abbrev sp_law (K : PySem.W.Frag) : Sp := spLaw kn0 15 1 e_law b_D_law K
theorem ok_law (T : Tx K mg) : FnG P w K mg base 6 T.a_law T.f_law ["script"] (sp_law K) := by
  have G__law_jar := ok__law_jar (P := P) (w := w) (base := base) T
  have G__law_draw := ok__law_draw (P := P) (w := w) (base := base) T
  have G__law_parted := ok__law_parted (P := P) (w := w) (base := base) T
  have G_most_roads := ok_most_roads (P := P) (w := w) (base := base) T
  have G_parted_web := ok_parted_web (P := P) (w := w) (base := base) T
  have G__law_plain := ok__law_plain (P := P) (w := w) (base := base) T
  have G__law_pick := ok__law_pick (P := P) (w := w) (base := base) T
  have G_roads_paper := ok_roads_paper (P := P) (w := w) (base := base) T
  have G__law_fault := ok__law_fault (P := P) (w := w) (base := base) T
  have G__law_full_lots := ok__law_full_lots (P := P) (w := w) (base := base) T
  have G__law_values := ok__law_values (P := P) (w := w) (base := base) T
  have G_roads_paper_error := ok_roads_paper_error (P := P) (w := w) (base := base) T
  have G_full_error := ok_full_error (P := P) (w := w) (base := base) T
  have G__law_full_fault := ok__law_full_fault (P := P) (w := w) (base := base) T
  have nd := sc_law.nd
  exact law_fn T.F_law sc_law rfl fun cdv A outer s H E hg hr => (dss_law nd rfl (by first | exact Or.inl rfl | exact Or.inr rfl) (dm_call G__law_jar hg (hr.mono (by decide)) (by rfl) T.m__law_jar T.F__law_jar.kp (b__law_jar T) rfl (da_cons (pk_nm 0) da_nil))
    (ds_cons (ds_par (i := 2) (j := 3) rfl nd rfl rfl (by decide) rfl rfl (dm_frz (dm_call G__law_draw hg (hr.mono (by decide)) (by rfl) T.m__law_draw T.F__law_draw.kp (b__law_draw T) rfl (da_cons (pk_nm 1) (da_cons (pk_of dm_int) da_nil)))) (dm_frz (dm_bin o_add (pk_of dm_int) (pk_of (dm_call G__law_draw hg (hr.mono (by decide)) (by rfl) T.m__law_draw T.F__law_draw.kp (b__law_draw T) rfl (da_cons (pk_nm 1) (da_cons (pk_of dm_int) da_nil)))))) (by with_unfolding_all rfl))
    (ds_cons (ds_set (i := 4) nd rfl (Or.inl rfl) (dm_frz (dm_call G__law_parted hg (hr.mono (by decide)) (by rfl) T.m__law_parted T.F__law_parted.kp (b__law_parted T) rfl (da_cons (pk_nm 2) (da_cons (pk_nm 3) da_nil)))))
    (ds_cons (ds_set (i := 5) nd rfl (Or.inl rfl) (dm_frz (dm_lst (da_cons (pk_of (dm_frz (dm_call G_parted_web hg (hr.mono (by decide)) (by rfl) T.m_parted_web T.F_parted_web.kp (b_parted_web T) rfl (da_cons (pk_nm 2) (da_cons (pk_nm 3) da_nil))))) (da_cons (pk_of (dm_frz (dm_call G_most_roads hg (hr.mono (by decide)) (by rfl) T.m_most_roads T.F_most_roads.kp (b_most_roads T) rfl (da_cons (pk_nm 2) (da_cons (pk_nm 3) da_nil))))) (da_cons (pk_of (dm_frz (dm_callK (pi := [1, 0]) G_parted_web hg (hr.mono (by decide)) (by rfl) T.m_parted_web T.F_parted_web.kp rfl (fun ms h => match ms, h with | [_, _], _ => rfl) (bk_parted_web_1_0 T) (dk_cons (pk_nm 3) (dk_cons (pk_nm 2) dk_nil))))) (da_cons (pk_of (dm_frz (dm_callK (pi := [1, 0]) G_most_roads hg (hr.mono (by decide)) (by rfl) T.m_most_roads T.F_most_roads.kp rfl (fun ms h => match ms, h with | [_, _], _ => rfl) (bk_most_roads_1_0 T) (dk_cons (pk_nm 3) (dk_cons (pk_nm 2) dk_nil))))) da_nil)))))))
    (ds_cons (ds_if (PW.pt (dw_or (dt_cmp (o_ne (un64 hr)) (pk_of (dm_blt (c_repr hg (un70 hr)).to (by rfl) T.z_repr (by decide +kernel) (da_cons (pk_nm 5) da_nil))) (pk_of (dm_blt (c_repr hg (un70 hr)).to (by rfl) T.z_repr (by decide +kernel) (da_cons (pk_of (dm_bin o_mul (pk_of (dm_lst (da_cons (pk_nm 4) (da_cons (pk_of (dm_blt c_len.to (by rfl) T.z_len PySem.boot_len (da_cons (pk_of (dm_ix (pk_nm 4) (pk_of dm_int))) da_nil))) da_nil)))) (pk_of dm_int))) da_nil))) (nomark _)) (dw_or1 (dt_cmp o_gt (pk_of (dm_bin o_mul (pk_of (dm_bin o_mul (pk_of dm_int) (pk_nm 3))) (pk_of (dm_blt c_len.to (by rfl) T.z_len PySem.boot_len (da_cons (pk_of (dm_ix (pk_nm 4) (pk_of dm_int))) da_nil))))) (pk_of (dm_bin o_mul (pk_of (dm_bin o_mul (pk_of (dm_bin o_sub (pk_nm 3) (pk_of dm_int))) (pk_nm 2))) (pk_nm 2))) (nomark _)))))
    (ds_one (ds_ret dm_bl))
    ds_nil)
    (dss_kill [0, 5, 6, 7, 8, 9, 10, 11, 12, 13, 14] (ds_cons (ds_if (PW.pt (dw_and (dt_cmp (o_eq (un64 hr)) (pk_of (dm_bin o_mod (pk_of (dm_typ c_int.to (by rfl) T.z_int (by decide +kernel) (da_cons (pk_nm 2) da_nil))) (pk_nm 3))) (pk_of dm_int) (nomark _)) (dw_and1 (dt_cmp (o_ne (un64 hr)) (pk_of (dm_bin o_mul (pk_of (dm_bin o_mul (pk_of dm_int) (pk_nm 3))) (pk_of (dm_blt c_len.to (by rfl) T.z_len PySem.boot_len (da_cons (pk_of (dm_ix (pk_nm 4) (pk_of dm_int))) da_nil))))) (pk_of (dm_bin o_mul (pk_of (dm_bin o_mul (pk_of (dm_bin o_sub (pk_nm 3) (pk_of dm_int))) (pk_nm 2))) (pk_nm 2))) (nomark _)))))
    (ds_one (ds_ret dm_bl))
    ds_nil)
    (dss_kill [0, 2, 3, 4, 5, 6, 7, 8, 9, 10, 11, 12, 13, 14] (ds_cons (ds_kill [0, 2, 3, 4, 5, 6, 7, 8, 9, 10, 11, 12, 13, 14] (ds_for PassesOwn.never rfl (di_range1 (by rfl) T.z_range (da_cons (pk_of dm_int) da_nil)) (dg_nm (i := 6) nd rfl (by first | exact Or.inl rfl | exact Or.inr rfl))
    (ds_cons (ds_par (i := 7) (j := 8) rfl nd rfl rfl (by decide) rfl rfl (dm_frz (dm_call G__law_plain hg (hr.mono (by decide)) (by rfl) T.m__law_plain T.F__law_plain.kp (b__law_plain T) rfl (da_cons (pk_nm 1) da_nil))) (dm_frz (dm_bin o_add (pk_of dm_int) (pk_of (dm_call G__law_draw hg (hr.mono (by decide)) (by rfl) T.m__law_draw T.F__law_draw.kp (b__law_draw T) rfl (da_cons (pk_nm 1) (da_cons (pk_of (dm_frz (dm_call G__law_pick hg (hr.mono (by decide)) (by rfl) T.m__law_pick T.F__law_pick.kp (b__law_pick T) rfl (da_cons (pk_nm 1) (da_cons (pk_of (dm_frz (dm_lst (da_cons (pk_of dm_int) (da_cons (pk_of dm_int) (da_cons (pk_of dm_int) da_nil)))))) da_nil))))) da_nil)))))) (by with_unfolding_all rfl))
    (ds_cons (ds_set (i := 9) nd rfl (Or.inl rfl) (dm_blt (c_repr hg (un70 hr)).to (by rfl) T.z_repr (by decide +kernel) (da_cons (pk_nm 7) da_nil)))
    (ds_cons (ds_set (i := 5) nd rfl (Or.inl rfl) (dm_frz (dm_ite (dt_cmp (o_eq (un64 hr)) (pk_nm 6) (pk_of dm_int) (nomark _)) (dm_frz (dm_callK (pi := [1, 0]) G_roads_paper hg (hr.mono (by decide)) (by rfl) T.m_roads_paper T.F_roads_paper.kp rfl (fun ms h => match ms, h with | [_, _], _ => rfl) (bk_roads_paper_1_0 T) (dk_cons (pk_nm 8) (dk_cons (pk_nm 7) dk_nil)))) (dm_frz (dm_call G_roads_paper hg (hr.mono (by decide)) (by rfl) T.m_roads_paper T.F_roads_paper.kp (b_roads_paper T) rfl (da_cons (pk_nm 7) (da_cons (pk_nm 8) da_nil)))))))
    (ds_cons (ds_if (PW.pt (dw_or (dt_cmp o_isn (pk_of (dm_call G__law_fault hg (hr.mono (by decide)) (by rfl) T.m__law_fault T.F__law_fault.kp (b__law_fault T) rfl (da_cons (pk_nm 7) (da_cons (pk_nm 8) (da_cons (pk_nm 5) da_nil))))) (pk_of dm_non) (nomark _)) (dw_or1 (dt_cmp (o_ne (un64 hr)) (pk_of (dm_blt (c_repr hg (un70 hr)).to (by rfl) T.z_repr (by decide +kernel) (da_cons (pk_of (dm_call G_roads_paper hg (hr.mono (by decide)) (by rfl) T.m_roads_paper T.F_roads_paper.kp (b_roads_paper T) rfl (da_cons (pk_nm 7) (da_cons (pk_nm 8) da_nil)))) da_nil))) (pk_of (dm_blt (c_repr hg (un70 hr)).to (by rfl) T.z_repr (by decide +kernel) (da_cons (pk_nm 5) da_nil))) (nomark _)))))
    (ds_one (ds_ret dm_bl))
    ds_nil)
    (dss_kill [0, 2, 3, 4, 5, 6, 10, 11, 12, 13, 14] (ds_cons (ds_if (PW.pt (dw_and (dt_cmp o_lt (pk_nm 8) (pk_of dm_int) (nomark _)) (dw_and (dt_cmp (o_eq (un64 hr)) (pk_of (dm_call G__law_full_lots hg (hr.mono (by decide)) (by rfl) T.m__law_full_lots T.F__law_full_lots.kp (b__law_full_lots T) rfl (da_cons (pk_nm 7) (da_cons (pk_of (dm_frz (dm_bin o_add (pk_nm 8) (pk_of dm_int)))) da_nil)))) (pk_of (dm_lst da_nil)) (nomark _)) (dw_and1 (dt_cmp o_gt (pk_of (dm_blt c_len.to (by rfl) T.z_len PySem.boot_len (da_cons (pk_of (dm_ix (pk_nm 7) (pk_of dm_int))) da_nil))) (pk_of (dm_blt c_len.to (by rfl) T.z_len PySem.boot_len (da_cons (pk_of (dm_ix (pk_of (dm_call G__law_parted hg (hr.mono (by decide)) (by rfl) T.m__law_parted T.F__law_parted.kp (b__law_parted T) rfl (da_cons (pk_of (dm_ix (pk_nm 7) (pk_of dm_int))) (da_cons (pk_nm 8) da_nil)))) (pk_of dm_int))) da_nil))) (nomark _))))))
    (ds_one (ds_ret dm_bl))
    ds_nil)
    (dss_kill [0, 2, 3, 4, 5, 6, 10, 11, 12, 13, 14] (ds_cons (ds_asg (dm_frz (dm_call G__law_values hg (hr.mono (by decide)) (by rfl) T.m__law_values T.F__law_values.kp (b__law_values T) rfl (da_cons (pk_nm 1) (da_cons (pk_nm 7) (da_cons (pk_nm 8) da_nil))))) (dg_tup rfl (dgs_cons (dg_nm (i := 10) nd rfl (by first | exact Or.inl rfl | exact Or.inr rfl)) (dgs_cons (dg_nm (i := 11) nd rfl (by first | exact Or.inl rfl | exact Or.inr rfl)) dgs_nil))))
    (ds_cons (ds_kill [0, 2, 3, 4, 5, 6, 12, 13, 14] (ds_for PassesOwn.never rfl (di_enumS (by rfl) T.z_enumerate (da_cons (pk_nm 10) da_nil)) (dg_tup rfl (dgs_cons (dg_nm (i := 12) nd rfl (by first | exact Or.inl rfl | exact Or.inr rfl)) (dgs_cons (dg_nm (i := 13) nd rfl (by first | exact Or.inl rfl | exact Or.inr rfl)) dgs_nil)))
    (ds_cons (ds_set (i := 14) nd rfl (Or.inl rfl) (dm_frz (dm_ite (dt_cmp (o_eq (un64 hr)) (pk_nm 12) (pk_of dm_int) (nomark _)) (dm_frz (dm_callK (pi := [2, 1, 0]) G_roads_paper_error hg (hr.mono (by decide)) (by rfl) T.m_roads_paper_error T.F_roads_paper_error.kp rfl (fun ms h => match ms, h with | [_, _, _], _ => rfl) (bk_roads_paper_error_2_1_0 T) (dk_cons (pk_nm 13) (dk_cons (pk_nm 8) (dk_cons (pk_nm 7) dk_nil))))) (dm_frz (dm_call G_roads_paper_error hg (hr.mono (by decide)) (by rfl) T.m_roads_paper_error T.F_roads_paper_error.kp (b_roads_paper_error T) rfl (da_cons (pk_nm 7) (da_cons (pk_nm 8) (da_cons (pk_nm 13) da_nil))))))))
    (ds_cons (ds_if (dt_cmp (o_ne (un64 hr)) (pk_of (dm_blt (c_repr hg (un70 hr)).to (by rfl) T.z_repr (by decide +kernel) (da_cons (pk_nm 14) da_nil))) (pk_of (dm_blt (c_repr hg (un70 hr)).to (by rfl) T.z_repr (by decide +kernel) (da_cons (pk_of (dm_call G__law_fault hg (hr.mono (by decide)) (by rfl) T.m__law_fault T.F__law_fault.kp (b__law_fault T) rfl (da_cons (pk_nm 7) (da_cons (pk_nm 8) (da_cons (pk_nm 13) da_nil))))) da_nil))) (nomark _))
    (ds_one (ds_ret dm_bl))
    ds_nil)
    (dss_kill [0, 2, 3, 4, 5, 6, 10, 12, 13, 14] (dss_kill [0, 2, 3, 4, 5, 6, 10, 12, 13, 14] ds_nil))))))
    (dss_kill [0, 2, 3, 4, 5, 6, 10, 12, 13, 14] (ds_cons (ds_kill [0, 2, 3, 4, 5, 6, 10, 12, 13, 14] (ds_for PassesOwn.never rfl (di_enumS (by rfl) T.z_enumerate (da_cons (pk_nm 11) da_nil)) (dg_tup rfl (dgs_cons (dg_nm (i := 12) nd rfl (by first | exact Or.inl rfl | exact Or.inr rfl)) (dgs_cons (dg_nm (i := 13) nd rfl (by first | exact Or.inl rfl | exact Or.inr rfl)) dgs_nil)))
    (ds_cons (ds_set (i := 14) nd rfl (Or.inl rfl) (dm_frz (dm_ite (dt_cmp (o_eq (un64 hr)) (pk_nm 12) (pk_of dm_int) (nomark _)) (dm_frz (dm_callK (pi := [2, 1, 0]) G_full_error hg (hr.mono (by decide)) (by rfl) T.m_full_error T.F_full_error.kp rfl (fun ms h => match ms, h with | [_, _, _], _ => rfl) (bk_full_error_2_1_0 T) (dk_cons (pk_nm 13) (dk_cons (pk_nm 8) (dk_cons (pk_nm 7) dk_nil))))) (dm_frz (dm_call G_full_error hg (hr.mono (by decide)) (by rfl) T.m_full_error T.F_full_error.kp (b_full_error T) rfl (da_cons (pk_nm 7) (da_cons (pk_nm 8) (da_cons (pk_nm 13) da_nil))))))))
    (ds_cons (ds_if (dt_cmp (o_ne (un64 hr)) (pk_of (dm_blt (c_repr hg (un70 hr)).to (by rfl) T.z_repr (by decide +kernel) (da_cons (pk_nm 14) da_nil))) (pk_of (dm_blt (c_repr hg (un70 hr)).to (by rfl) T.z_repr (by decide +kernel) (da_cons (pk_of (dm_call G__law_full_fault hg (hr.mono (by decide)) (by rfl) T.m__law_full_fault T.F__law_full_fault.kp (b__law_full_fault T) rfl (da_cons (pk_nm 7) (da_cons (pk_nm 8) (da_cons (pk_nm 13) da_nil))))) da_nil))) (nomark _))
    (ds_one (ds_ret dm_bl))
    ds_nil)
    (dss_kill [0, 2, 3, 4, 5, 6, 10, 11, 12, 13, 14] (dss_kill [0, 2, 3, 4, 5, 6, 10, 11, 12, 13, 14] ds_nil))))))
    (dss_kill [0, 2, 3, 4, 5, 6, 8, 10, 11, 12, 13, 14] (ds_cons (ds_if (dt_cmp (o_ne (un64 hr)) (pk_of (dm_blt (c_repr hg (un70 hr)).to (by rfl) T.z_repr (by decide +kernel) (da_cons (pk_nm 7) da_nil))) (pk_nm 9) (nomark _))
    (ds_one (ds_ret dm_bl))
    ds_nil)
    (dss_kill [0, 2, 3, 4, 5, 6, 7, 8, 9, 10, 11, 12, 13, 14] (dss_kill [0, 2, 3, 4, 5, 6, 7, 8, 9, 10, 11, 12, 13, 14] ds_nil)))))))))))))))))
    (dss_kill [0, 1, 2, 3, 4, 5, 6, 7, 8, 9, 10, 11, 12, 13, 14] (ds_one (ds_ret dm_bl))))))))))))
end
theorem all_mk {P : Program} {w : World} {K : PySem.W.Frag} {h : Heap} {mg : Str → Option Value} {fa f0 f1 f2 f3 f4 f5 f6 f7 f8 f9 f10 f11 f12 f13 f14 f15 f16 f17 f18 f19 f20 f21 f22 f23 f24 f25 f26 f27 f28 f29 f30 : Addr} (X : K.In h) (G : h.Ns mainGlobals mg) (hfa : mg "law" = some (.ref fa))
    {od0 an0 od1 an1 od2 an2 od3 an3 od4 an4 od5 an5 od6 an6 od7 an7 od8 an8 od9 an9 od10 an10 od11 an11 od12 an12 od13 an13 od14 an14 od15 an15 od16 an16 od17 an17 od18 an18 od19 an19 od20 an20 od21 an21 od22 an22 od23 an23 od24 an24 od25 an25 od26 an26 od27 an27 od28 an28 od29 an29 od30 an30 : Option Addr} {sl0 sl1 sl2 sl3 sl4 sl5 sl6 sl7 sl8 sl9 sl10 sl11 sl12 sl13 sl14 sl15 sl16 sl17 sl18 sl19 sl20 sl21 sl22 sl23 sl24 sl25 sl26 sl27 sl28 sl29 sl30 : Array (Option Value)} {oc0 kV0 dc0 pm0 cd0 ct0 oc1 kV1 dc1 pm1 cd1 ct1 oc2 kV2 dc2 pm2 cd2 ct2 oc3 kV3 dc3 pm3 cd3 ct3 oc4 kV4 dc4 pm4 cd4 ct4 oc5 kV5 dc5 pm5 cd5 ct5 oc6 kV6 dc6 pm6 cd6 ct6 oc7 kV7 dc7 pm7 cd7 ct7 oc8 kV8 dc8 pm8 cd8 ct8 oc9 kV9 dc9 pm9 cd9 ct9 oc10 kV10 dc10 pm10 cd10 ct10 oc11 kV11 dc11 pm11 cd11 ct11 oc12 kV12 dc12 pm12 cd12 ct12 oc13 kV13 dc13 pm13 cd13 ct13 oc14 kV14 dc14 pm14 cd14 ct14 oc15 kV15 dc15 pm15 cd15 ct15 oc16 kV16 dc16 pm16 cd16 ct16 oc17 kV17 dc17 pm17 cd17 ct17 oc18 kV18 dc18 pm18 cd18 ct18 oc19 kV19 dc19 pm19 cd19 ct19 oc20 kV20 dc20 pm20 cd20 ct20 oc21 kV21 dc21 pm21 cd21 ct21 oc22 kV22 dc22 pm22 cd22 ct22 oc23 kV23 dc23 pm23 cd23 ct23 oc24 kV24 dc24 pm24 cd24 ct24 oc25 kV25 dc25 pm25 cd25 ct25 oc26 kV26 dc26 pm26 cd26 ct26 oc27 kV27 dc27 pm27 cd27 ct27 oc28 kV28 dc28 pm28 cd28 ct28 oc29 kV29 dc29 pm29 cd29 ct29 oc30 kV30 dc30 pm30 cd30 ct30 : Value}
    (a0 : PySem.W.nsIn K mainGlobals "is_number" = some (some (.ref f0))) (l0 : K.lookup f0 = some ⟨oc0, od0, .func (PySem.W.fnOf "is_number" "is_number" (defArgs s_is_number) (defBody s_is_number) (defScope s_is_number) .none kV0 dc0 pm0 an0 cd0 ct0), sl0⟩) (c0 : PySem.W.codeIn K cd0 "is_number" = true) (k0 : PySem.W.keepIn K (.ref f0) = true)
    (a1 : PySem.W.nsIn K mainGlobals "is_within" = some (some (.ref f1))) (l1 : K.lookup f1 = some ⟨oc1, od1, .func (PySem.W.fnOf "is_within" "is_within" (defArgs s_is_within) (defBody s_is_within) (defScope s_is_within) .none kV1 dc1 pm1 an1 cd1 ct1), sl1⟩) (c1 : PySem.W.codeIn K cd1 "is_within" = true) (k1 : PySem.W.keepIn K (.ref f1) = true)
    (a2 : PySem.W.nsIn K mainGlobals "has_road" = some (some (.ref f2))) (l2 : K.lookup f2 = some ⟨oc2, od2, .func (PySem.W.fnOf "has_road" "has_road" (defArgs s_has_road) (defBody s_has_road) (defScope s_has_road) .none kV2 dc2 pm2 an2 cd2 ct2), sl2⟩) (c2 : PySem.W.codeIn K cd2 "has_road" = true) (k2 : PySem.W.keepIn K (.ref f2) = true)
    (a3 : PySem.W.nsIn K mainGlobals "neighbour_lists" = some (some (.ref f3))) (l3 : K.lookup f3 = some ⟨oc3, od3, .func (PySem.W.fnOf "neighbour_lists" "neighbour_lists" (defArgs s_neighbour_lists) (defBody s_neighbour_lists) (defScope s_neighbour_lists) .none kV3 dc3 pm3 an3 cd3 ct3), sl3⟩) (c3 : PySem.W.codeIn K cd3 "neighbour_lists" = true) (k3 : PySem.W.keepIn K (.ref f3) = true)
    (a4 : PySem.W.nsIn K mainGlobals "is_plain" = some (some (.ref f4))) (l4 : K.lookup f4 = some ⟨oc4, od4, .func (PySem.W.fnOf "is_plain" "is_plain" (defArgs s_is_plain) (defBody s_is_plain) (defScope s_is_plain) .none kV4 dc4 pm4 an4 cd4 ct4), sl4⟩) (c4 : PySem.W.codeIn K cd4 "is_plain" = true) (k4 : PySem.W.keepIn K (.ref f4) = true)
    (a5 : PySem.W.nsIn K mainGlobals "full_size" = some (some (.ref f5))) (l5 : K.lookup f5 = some ⟨oc5, od5, .func (PySem.W.fnOf "full_size" "full_size" (defArgs s_full_size) (defBody s_full_size) (defScope s_full_size) .none kV5 dc5 pm5 an5 cd5 ct5), sl5⟩) (c5 : PySem.W.codeIn K cd5 "full_size" = true) (k5 : PySem.W.keepIn K (.ref f5) = true)
    (a6 : PySem.W.nsIn K mainGlobals "parted_web" = some (some (.ref f6))) (l6 : K.lookup f6 = some ⟨oc6, od6, .func (PySem.W.fnOf "parted_web" "parted_web" (defArgs s_parted_web) (defBody s_parted_web) (defScope s_parted_web) .none kV6 dc6 pm6 an6 cd6 ct6), sl6⟩) (c6 : PySem.W.codeIn K cd6 "parted_web" = true) (k6 : PySem.W.keepIn K (.ref f6) = true)
    (a7 : PySem.W.nsIn K mainGlobals "most_roads" = some (some (.ref f7))) (l7 : K.lookup f7 = some ⟨oc7, od7, .func (PySem.W.fnOf "most_roads" "most_roads" (defArgs s_most_roads) (defBody s_most_roads) (defScope s_most_roads) .none kV7 dc7 pm7 an7 cd7 ct7), sl7⟩) (c7 : PySem.W.codeIn K cd7 "most_roads" = true) (k7 : PySem.W.keepIn K (.ref f7) = true)
    (a8 : PySem.W.nsIn K mainGlobals "is_house_row" = some (some (.ref f8))) (l8 : K.lookup f8 = some ⟨oc8, od8, .func (PySem.W.fnOf "is_house_row" "is_house_row" (defArgs s_is_house_row) (defBody s_is_house_row) (defScope s_is_house_row) .none kV8 dc8 pm8 an8 cd8 ct8), sl8⟩) (c8 : PySem.W.codeIn K cd8 "is_house_row" = true) (k8 : PySem.W.keepIn K (.ref f8) = true)
    (a9 : PySem.W.nsIn K mainGlobals "full_error" = some (some (.ref f9))) (l9 : K.lookup f9 = some ⟨oc9, od9, .func (PySem.W.fnOf "full_error" "full_error" (defArgs s_full_error) (defBody s_full_error) (defScope s_full_error) .none kV9 dc9 pm9 an9 cd9 ct9), sl9⟩) (c9 : PySem.W.codeIn K cd9 "full_error" = true) (k9 : PySem.W.keepIn K (.ref f9) = true)
    (a10 : PySem.W.nsIn K mainGlobals "some_full" = some (some (.ref f10))) (l10 : K.lookup f10 = some ⟨oc10, od10, .func (PySem.W.fnOf "some_full" "some_full" (defArgs s_some_full) (defBody s_some_full) (defScope s_some_full) .none kV10 dc10 pm10 an10 cd10 ct10), sl10⟩) (c10 : PySem.W.codeIn K cd10 "some_full" = true) (k10 : PySem.W.keepIn K (.ref f10) = true)
    (a11 : PySem.W.nsIn K mainGlobals "roads_paper" = some (some (.ref f11))) (l11 : K.lookup f11 = some ⟨oc11, od11, .func (PySem.W.fnOf "roads_paper" "roads_paper" (defArgs s_roads_paper) (defBody s_roads_paper) (defScope s_roads_paper) .none kV11 dc11 pm11 an11 cd11 ct11), sl11⟩) (c11 : PySem.W.codeIn K cd11 "roads_paper" = true) (k11 : PySem.W.keepIn K (.ref f11) = true)
    (a12 : PySem.W.nsIn K mainGlobals "roads_paper_error" = some (some (.ref f12))) (l12 : K.lookup f12 = some ⟨oc12, od12, .func (PySem.W.fnOf "roads_paper_error" "roads_paper_error" (defArgs s_roads_paper_error) (defBody s_roads_paper_error) (defScope s_roads_paper_error) .none kV12 dc12 pm12 an12 cd12 ct12), sl12⟩) (c12 : PySem.W.codeIn K cd12 "roads_paper_error" = true) (k12 : PySem.W.keepIn K (.ref f12) = true)
    (a13 : PySem.W.nsIn K mainGlobals "_law_jar" = some (some (.ref f13))) (l13 : K.lookup f13 = some ⟨oc13, od13, .func (PySem.W.fnOf "_law_jar" "_law_jar" (defArgs s__law_jar) (defBody s__law_jar) (defScope s__law_jar) .none kV13 dc13 pm13 an13 cd13 ct13), sl13⟩) (c13 : PySem.W.codeIn K cd13 "_law_jar" = true) (k13 : PySem.W.keepIn K (.ref f13) = true)
    (a14 : PySem.W.nsIn K mainGlobals "_law_draw" = some (some (.ref f14))) (l14 : K.lookup f14 = some ⟨oc14, od14, .func (PySem.W.fnOf "_law_draw" "_law_draw" (defArgs s__law_draw) (defBody s__law_draw) (defScope s__law_draw) .none kV14 dc14 pm14 an14 cd14 ct14), sl14⟩) (c14 : PySem.W.codeIn K cd14 "_law_draw" = true) (k14 : PySem.W.keepIn K (.ref f14) = true)
    (a15 : PySem.W.nsIn K mainGlobals "_law_pick" = some (some (.ref f15))) (l15 : K.lookup f15 = some ⟨oc15, od15, .func (PySem.W.fnOf "_law_pick" "_law_pick" (defArgs s__law_pick) (defBody s__law_pick) (defScope s__law_pick) .none kV15 dc15 pm15 an15 cd15 ct15), sl15⟩) (c15 : PySem.W.codeIn K cd15 "_law_pick" = true) (k15 : PySem.W.keepIn K (.ref f15) = true)
    (a16 : PySem.W.nsIn K mainGlobals "_law_mixed" = some (some (.ref f16))) (l16 : K.lookup f16 = some ⟨oc16, od16, .func (PySem.W.fnOf "_law_mixed" "_law_mixed" (defArgs s__law_mixed) (defBody s__law_mixed) (defScope s__law_mixed) .none kV16 dc16 pm16 an16 cd16 ct16), sl16⟩) (c16 : PySem.W.codeIn K cd16 "_law_mixed" = true) (k16 : PySem.W.keepIn K (.ref f16) = true)
    (a17 : PySem.W.nsIn K mainGlobals "_law_full_lots" = some (some (.ref f17))) (l17 : K.lookup f17 = some ⟨oc17, od17, .func (PySem.W.fnOf "_law_full_lots" "_law_full_lots" (defArgs s__law_full_lots) (defBody s__law_full_lots) (defScope s__law_full_lots) .none kV17 dc17 pm17 an17 cd17 ct17), sl17⟩) (c17 : PySem.W.codeIn K cd17 "_law_full_lots" = true) (k17 : PySem.W.keepIn K (.ref f17) = true)
    (a18 : PySem.W.nsIn K mainGlobals "_law_odd" = some (some (.ref f18))) (l18 : K.lookup f18 = some ⟨oc18, od18, .func (PySem.W.fnOf "_law_odd" "_law_odd" (defArgs s__law_odd) (defBody s__law_odd) (defScope s__law_odd) .none kV18 dc18 pm18 an18 cd18 ct18), sl18⟩) (c18 : PySem.W.codeIn K cd18 "_law_odd" = true) (k18 : PySem.W.keepIn K (.ref f18) = true)
    (a19 : PySem.W.nsIn K mainGlobals "_law_is_integer" = some (some (.ref f19))) (l19 : K.lookup f19 = some ⟨oc19, od19, .func (PySem.W.fnOf "_law_is_integer" "_law_is_integer" (defArgs s__law_is_integer) (defBody s__law_is_integer) (defScope s__law_is_integer) .none kV19 dc19 pm19 an19 cd19 ct19), sl19⟩) (c19 : PySem.W.codeIn K cd19 "_law_is_integer" = true) (k19 : PySem.W.keepIn K (.ref f19) = true)
    (a20 : PySem.W.nsIn K mainGlobals "_law_pairs" = some (some (.ref f20))) (l20 : K.lookup f20 = some ⟨oc20, od20, .func (PySem.W.fnOf "_law_pairs" "_law_pairs" (defArgs s__law_pairs) (defBody s__law_pairs) (defScope s__law_pairs) .none kV20 dc20 pm20 an20 cd20 ct20), sl20⟩) (c20 : PySem.W.codeIn K cd20 "_law_pairs" = true) (k20 : PySem.W.keepIn K (.ref f20) = true)
    (a21 : PySem.W.nsIn K mainGlobals "_law_web" = some (some (.ref f21))) (l21 : K.lookup f21 = some ⟨oc21, od21, .func (PySem.W.fnOf "_law_web" "_law_web" (defArgs s__law_web) (defBody s__law_web) (defScope s__law_web) .none kV21 dc21 pm21 an21 cd21 ct21), sl21⟩) (c21 : PySem.W.codeIn K cd21 "_law_web" = true) (k21 : PySem.W.keepIn K (.ref f21) = true)
    (a22 : PySem.W.nsIn K mainGlobals "_law_renamed" = some (some (.ref f22))) (l22 : K.lookup f22 = some ⟨oc22, od22, .func (PySem.W.fnOf "_law_renamed" "_law_renamed" (defArgs s__law_renamed) (defBody s__law_renamed) (defScope s__law_renamed) .none kV22 dc22 pm22 an22 cd22 ct22), sl22⟩) (c22 : PySem.W.codeIn K cd22 "_law_renamed" = true) (k22 : PySem.W.keepIn K (.ref f22) = true)
    (a23 : PySem.W.nsIn K mainGlobals "_law_called" = some (some (.ref f23))) (l23 : K.lookup f23 = some ⟨oc23, od23, .func (PySem.W.fnOf "_law_called" "_law_called" (defArgs s__law_called) (defBody s__law_called) (defScope s__law_called) .none kV23 dc23 pm23 an23 cd23 ct23), sl23⟩) (c23 : PySem.W.codeIn K cd23 "_law_called" = true) (k23 : PySem.W.keepIn K (.ref f23) = true)
    (a24 : PySem.W.nsIn K mainGlobals "_law_table" = some (some (.ref f24))) (l24 : K.lookup f24 = some ⟨oc24, od24, .func (PySem.W.fnOf "_law_table" "_law_table" (defArgs s__law_table) (defBody s__law_table) (defScope s__law_table) .none kV24 dc24 pm24 an24 cd24 ct24), sl24⟩) (c24 : PySem.W.codeIn K cd24 "_law_table" = true) (k24 : PySem.W.keepIn K (.ref f24) = true)
    (a25 : PySem.W.nsIn K mainGlobals "_law_parted" = some (some (.ref f25))) (l25 : K.lookup f25 = some ⟨oc25, od25, .func (PySem.W.fnOf "_law_parted" "_law_parted" (defArgs s__law_parted) (defBody s__law_parted) (defScope s__law_parted) .none kV25 dc25 pm25 an25 cd25 ct25), sl25⟩) (c25 : PySem.W.codeIn K cd25 "_law_parted" = true) (k25 : PySem.W.keepIn K (.ref f25) = true)
    (a26 : PySem.W.nsIn K mainGlobals "_law_full_fault" = some (some (.ref f26))) (l26 : K.lookup f26 = some ⟨oc26, od26, .func (PySem.W.fnOf "_law_full_fault" "_law_full_fault" (defArgs s__law_full_fault) (defBody s__law_full_fault) (defScope s__law_full_fault) .none kV26 dc26 pm26 an26 cd26 ct26), sl26⟩) (c26 : PySem.W.codeIn K cd26 "_law_full_fault" = true) (k26 : PySem.W.keepIn K (.ref f26) = true)
    (a27 : PySem.W.nsIn K mainGlobals "_law_fault" = some (some (.ref f27))) (l27 : K.lookup f27 = some ⟨oc27, od27, .func (PySem.W.fnOf "_law_fault" "_law_fault" (defArgs s__law_fault) (defBody s__law_fault) (defScope s__law_fault) .none kV27 dc27 pm27 an27 cd27 ct27), sl27⟩) (c27 : PySem.W.codeIn K cd27 "_law_fault" = true) (k27 : PySem.W.keepIn K (.ref f27) = true)
    (a28 : PySem.W.nsIn K mainGlobals "_law_plain" = some (some (.ref f28))) (l28 : K.lookup f28 = some ⟨oc28, od28, .func (PySem.W.fnOf "_law_plain" "_law_plain" (defArgs s__law_plain) (defBody s__law_plain) (defScope s__law_plain) .none kV28 dc28 pm28 an28 cd28 ct28), sl28⟩) (c28 : PySem.W.codeIn K cd28 "_law_plain" = true) (k28 : PySem.W.keepIn K (.ref f28) = true)
    (a29 : PySem.W.nsIn K mainGlobals "_law_values" = some (some (.ref f29))) (l29 : K.lookup f29 = some ⟨oc29, od29, .func (PySem.W.fnOf "_law_values" "_law_values" (defArgs s__law_values) (defBody s__law_values) (defScope s__law_values) .none kV29 dc29 pm29 an29 cd29 ct29), sl29⟩) (c29 : PySem.W.codeIn K cd29 "_law_values" = true) (k29 : PySem.W.keepIn K (.ref f29) = true)
    (a30 : PySem.W.nsIn K mainGlobals "law" = some (some (.ref f30))) (l30 : K.lookup f30 = some ⟨oc30, od30, .func (PySem.W.fnOf "law" "law" (defArgs s_law) (defBody s_law) (defScope s_law) .none kV30 dc30 pm30 an30 cd30 ct30), sl30⟩) (c30 : PySem.W.codeIn K cd30 "law" = true) (k30 : PySem.W.keepIn K (.ref f30) = true)
    (z_abs : PySem.W.nsIn K mainGlobals "abs" = some none)
    (z_all : PySem.W.nsIn K mainGlobals "all" = some none)
    (z_any : PySem.W.nsIn K mainGlobals "any" = some none)
    (z_bool : PySem.W.nsIn K mainGlobals "bool" = some none)
    (z_enumerate : PySem.W.nsIn K mainGlobals "enumerate" = some none)
    (z_int : PySem.W.nsIn K mainGlobals "int" = some none)
    (z_isinstance : PySem.W.nsIn K mainGlobals "isinstance" = some none)
    (z_len : PySem.W.nsIn K mainGlobals "len" = some none)
    (z_list : PySem.W.nsIn K mainGlobals "list" = some none)
    (z_max : PySem.W.nsIn K mainGlobals "max" = some none)
    (z_min : PySem.W.nsIn K mainGlobals "min" = some none)
    (z_range : PySem.W.nsIn K mainGlobals "range" = some none)
    (z_repr : PySem.W.nsIn K mainGlobals "repr" = some none)
    (z_sorted : PySem.W.nsIn K mainGlobals "sorted" = some none)
    (z_str : PySem.W.nsIn K mainGlobals "str" = some none)
    (z_tuple : PySem.W.nsIn K mainGlobals "tuple" = some none)
    (z_zip : PySem.W.nsIn K mainGlobals "zip" = some none)
    : ∃ fd : FuncData, (∀ (s : Shared) (v : Value), BindsTo s fd ⟨[v], []⟩ [("script", v)]) ∧ ∀ base : Heap, K.In base → base.Ns mainGlobals mg → FnG P w K mg base 6 fa fd ["script"] (sp_law K) := by
  have e : fa = f30 := by
    have q := hfa.symm.trans (PySem.W.mg_of X G a30)
    cases q
    rfl
  rw [e]
  have T : Tx K mg := ⟨f0, _, fun_mk (st := s_is_number) l0 c0 k0, PySem.W.mg_of X G a0, f1, _, fun_mk (st := s_is_within) l1 c1 k1, PySem.W.mg_of X G a1, f2, _, fun_mk (st := s_has_road) l2 c2 k2, PySem.W.mg_of X G a2, f3, _, fun_mk (st := s_neighbour_lists) l3 c3 k3, PySem.W.mg_of X G a3, f4, _, fun_mk (st := s_is_plain) l4 c4 k4, PySem.W.mg_of X G a4, f5, _, fun_mk (st := s_full_size) l5 c5 k5, PySem.W.mg_of X G a5, f6, _, fun_mk (st := s_parted_web) l6 c6 k6, PySem.W.mg_of X G a6, f7, _, fun_mk (st := s_most_roads) l7 c7 k7, PySem.W.mg_of X G a7, f8, _, fun_mk (st := s_is_house_row) l8 c8 k8, PySem.W.mg_of X G a8, f9, _, fun_mk (st := s_full_error) l9 c9 k9, PySem.W.mg_of X G a9, f10, _, fun_mk (st := s_some_full) l10 c10 k10, PySem.W.mg_of X G a10, f11, _, fun_mk (st := s_roads_paper) l11 c11 k11, PySem.W.mg_of X G a11, f12, _, fun_mk (st := s_roads_paper_error) l12 c12 k12, PySem.W.mg_of X G a12, f13, _, fun_mk (st := s__law_jar) l13 c13 k13, PySem.W.mg_of X G a13, f14, _, fun_mk (st := s__law_draw) l14 c14 k14, PySem.W.mg_of X G a14, f15, _, fun_mk (st := s__law_pick) l15 c15 k15, PySem.W.mg_of X G a15, f16, _, fun_mk (st := s__law_mixed) l16 c16 k16, PySem.W.mg_of X G a16, f17, _, fun_mk (st := s__law_full_lots) l17 c17 k17, PySem.W.mg_of X G a17, f18, _, fun_mk (st := s__law_odd) l18 c18 k18, PySem.W.mg_of X G a18, f19, _, fun_mk (st := s__law_is_integer) l19 c19 k19, PySem.W.mg_of X G a19, f20, _, fun_mk (st := s__law_pairs) l20 c20 k20, PySem.W.mg_of X G a20, f21, _, fun_mk (st := s__law_web) l21 c21 k21, PySem.W.mg_of X G a21, f22, _, fun_mk (st := s__law_renamed) l22 c22 k22, PySem.W.mg_of X G a22, f23, _, fun_mk (st := s__law_called) l23 c23 k23, PySem.W.mg_of X G a23, f24, _, fun_mk (st := s__law_table) l24 c24 k24, PySem.W.mg_of X G a24, f25, _, fun_mk (st := s__law_parted) l25 c25 k25, PySem.W.mg_of X G a25, f26, _, fun_mk (st := s__law_full_fault) l26 c26 k26, PySem.W.mg_of X G a26, f27, _, fun_mk (st := s__law_fault) l27 c27 k27, PySem.W.mg_of X G a27, f28, _, fun_mk (st := s__law_plain) l28 c28 k28, PySem.W.mg_of X G a28, f29, _, fun_mk (st := s__law_values) l29 c29 k29, PySem.W.mg_of X G a29, f30, _, fun_mk (st := s_law) l30 c30 k30, PySem.W.mg_of X G a30, PySem.W.mg_none_of X G z_abs, PySem.W.mg_none_of X G z_all, PySem.W.mg_none_of X G z_any, PySem.W.mg_none_of X G z_bool, PySem.W.mg_none_of X G z_enumerate, PySem.W.mg_none_of X G z_int, PySem.W.mg_none_of X G z_isinstance, PySem.W.mg_none_of X G z_len, PySem.W.mg_none_of X G z_list, PySem.W.mg_none_of X G z_max, PySem.W.mg_none_of X G z_min, PySem.W.mg_none_of X G z_range, PySem.W.mg_none_of X G z_repr, PySem.W.mg_none_of X G z_sorted, PySem.W.mg_none_of X G z_str, PySem.W.mg_none_of X G z_tuple, PySem.W.mg_none_of X G z_zip⟩
  exact ⟨PySem.W.fnOf "law" "law" (defArgs s_law) (defBody s_law) (defScope s_law) .none kV30 dc30 pm30 an30 cd30 ct30, fun s v => .of_eq rfl, fun base _ _ => ok_law (P := P) (w := w) (base := base) ⟨f0, _, fun_mk (st := s_is_number) l0 c0 k0, PySem.W.mg_of X G a0, f1, _, fun_mk (st := s_is_within) l1 c1 k1, PySem.W.mg_of X G a1, f2, _, fun_mk (st := s_has_road) l2 c2 k2, PySem.W.mg_of X G a2, f3, _, fun_mk (st := s_neighbour_lists) l3 c3 k3, PySem.W.mg_of X G a3, f4, _, fun_mk (st := s_is_plain) l4 c4 k4, PySem.W.mg_of X G a4, f5, _, fun_mk (st := s_full_size) l5 c5 k5, PySem.W.mg_of X G a5, f6, _, fun_mk (st := s_parted_web) l6 c6 k6, PySem.W.mg_of X G a6, f7, _, fun_mk (st := s_most_roads) l7 c7 k7, PySem.W.mg_of X G a7, f8, _, fun_mk (st := s_is_house_row) l8 c8 k8, PySem.W.mg_of X G a8, f9, _, fun_mk (st := s_full_error) l9 c9 k9, PySem.W.mg_of X G a9, f10, _, fun_mk (st := s_some_full) l10 c10 k10, PySem.W.mg_of X G a10, f11, _, fun_mk (st := s_roads_paper) l11 c11 k11, PySem.W.mg_of X G a11, f12, _, fun_mk (st := s_roads_paper_error) l12 c12 k12, PySem.W.mg_of X G a12, f13, _, fun_mk (st := s__law_jar) l13 c13 k13, PySem.W.mg_of X G a13, f14, _, fun_mk (st := s__law_draw) l14 c14 k14, PySem.W.mg_of X G a14, f15, _, fun_mk (st := s__law_pick) l15 c15 k15, PySem.W.mg_of X G a15, f16, _, fun_mk (st := s__law_mixed) l16 c16 k16, PySem.W.mg_of X G a16, f17, _, fun_mk (st := s__law_full_lots) l17 c17 k17, PySem.W.mg_of X G a17, f18, _, fun_mk (st := s__law_odd) l18 c18 k18, PySem.W.mg_of X G a18, f19, _, fun_mk (st := s__law_is_integer) l19 c19 k19, PySem.W.mg_of X G a19, f20, _, fun_mk (st := s__law_pairs) l20 c20 k20, PySem.W.mg_of X G a20, f21, _, fun_mk (st := s__law_web) l21 c21 k21, PySem.W.mg_of X G a21, f22, _, fun_mk (st := s__law_renamed) l22 c22 k22, PySem.W.mg_of X G a22, f23, _, fun_mk (st := s__law_called) l23 c23 k23, PySem.W.mg_of X G a23, f24, _, fun_mk (st := s__law_table) l24 c24 k24, PySem.W.mg_of X G a24, f25, _, fun_mk (st := s__law_parted) l25 c25 k25, PySem.W.mg_of X G a25, f26, _, fun_mk (st := s__law_full_fault) l26 c26 k26, PySem.W.mg_of X G a26, f27, _, fun_mk (st := s__law_fault) l27 c27 k27, PySem.W.mg_of X G a27, f28, _, fun_mk (st := s__law_plain) l28 c28 k28, PySem.W.mg_of X G a28, f29, _, fun_mk (st := s__law_values) l29 c29 k29, PySem.W.mg_of X G a29, f30, _, fun_mk (st := s_law) l30 c30 k30, PySem.W.mg_of X G a30, PySem.W.mg_none_of X G z_abs, PySem.W.mg_none_of X G z_all, PySem.W.mg_none_of X G z_any, PySem.W.mg_none_of X G z_bool, PySem.W.mg_none_of X G z_enumerate, PySem.W.mg_none_of X G z_int, PySem.W.mg_none_of X G z_isinstance, PySem.W.mg_none_of X G z_len, PySem.W.mg_none_of X G z_list, PySem.W.mg_none_of X G z_max, PySem.W.mg_none_of X G z_min, PySem.W.mg_none_of X G z_range, PySem.W.mg_none_of X G z_repr, PySem.W.mg_none_of X G z_sorted, PySem.W.mg_none_of X G z_str, PySem.W.mg_none_of X G z_tuple, PySem.W.mg_none_of X G z_zip⟩⟩
end L2.Zy.K62
namespace L2.Zy.K62
open PySem PyProof.Rows PySem.Spec L2.Zy
theorem ref__law_draw (n : Int) : RE (d__law_draw [.pot, pu eI n]) (drawTJ n) (pu eI) := by
  unfold d__law_draw
  exact drawGJ n
abbrev t__law_draw (n : Int) : T Int := drawTJ n
@[irreducible] noncomputable def t__law_pairs (many0 : Int) (islooped0 : Bool) : T (List (Int × Int)) :=
  T.ret ([] : List (Int × Int)) >>= fun (found_15 : (List (Int × Int))) =>
  rangeT many0 >>= fun r23 => forT r23 found_15 (fun (s16 : ((List (Int × Int)))) (x17 : Int) =>
  (rangeT2 (if islooped0 = true then x17 else (x17 + (1 : Int))) many0 >>= fun a19 => T.ret (List.map (fun (x18 : Int) => (x17, x18)) a19)) >>= fun a21 => catT s16 a21 >>= fun (found_20 : (List (Int × Int))) =>
  T.ret found_20) >>= fun (s22 : ((List (Int × Int)))) =>
  T.ret s22

theorem ref__law_pairs (many0 : Int) (islooped0 : Bool) : RE (d__law_pairs [pu eI many0, pu eB islooped0]) (t__law_pairs many0 islooped0) (ls (e2 eI eI)) := by
  unfold d__law_pairs t__law_pairs
  refine bodyR ?_
  unfold b_D__law_pairs
  exact (sEq (st' := [some ((pu eI) many0), some ((pu eB) islooped0), none, none, none]) rfl (sAsgM (e := (ls (e2 eI eI))) (st' := fun found_15 => [some ((pu eI) many0), some ((pu eB) islooped0), some ((ls (e2 eI eI)) found_15), none, none]) (RR.of (vLst (cNE (dispL (ls (e2 eI eI) ([] : List (Int × Int))) rfl (Nat.le_of_ble_eq_true rfl) rfl)))) (fun _ => rfl) fun found_15 => (sSeqKill (sKill (st' := [some ((pu eI) many0), some ((pu eB) islooped0), some ((ls (e2 eI eI)) found_15), none, none]) (wipeE rfl) (sForM eI (S := fun (s16 : ((List (Int × Int)))) => [some ((pu eI) many0), some ((pu eB) islooped0), some ((ls (e2 eI eI)) s16), none, none]) (s0 := found_15) (cP (nmE rfl) (cN (range1G _))) (wipeE rfl) (fun x17 s16 => (RR.bP (a := [some ((pu eI) many0), some ((pu eB) islooped0), some ((ls (e2 eI eI)) s16), some ((pu eI) x17), none]) rfl (sExtM (st' := fun found_20 => [some ((pu eI) many0), some ((pu eB) islooped0), some ((ls (e2 eI eI)) found_20), some ((pu eI) x17), none]) rfl (lcEM1 eI (S := fun x18 => [some ((pu eI) many0), some ((pu eB) islooped0), some ((ls (e2 eI eI)) s16), some ((pu eI) x17), some ((pu eI) x18)]) (v := fun (x18 : Int) => (x17, x18)) (ev := (e2 eI eI)) (cP (iteE2 (em := (pu eI)) (cTM (nmE rfl)) (nmPE rfl rfl) (vUn (bE (vBin (bE (nmE rfl) (bE (kME _) (addII _ _)))) rfl))) (cP (nmE rfl) (cN (range2G _ _)))) (fun _ => rfl) fun x18 => (vTup (cE (nmE rfl) (cE (nmE rfl) (cNE (dispT (pu (e2 eI eI) (x17, x18)) rfl (Nat.le_of_ble_eq_true rfl) rfl)))))) (fun _ => rfl) (fun _ => rfl) fun found_20 => (sKill (wipeE rfl) (sLeaf ⟨.inl rfl, rfl⟩))))) fun s22 => (sKill (st' := [none, none, some ((ls (e2 eI eI)) s22), none, none]) (wipeE rfl) (sRetP (nmE rfl) (.inl rfl))))))))

@[irreducible] noncomputable def t__law_parted (many0 : Int) (lots0 : Int) : T (Int × (List (Int × Int))) :=
  T.ret ([] : List Int) >>= fun (where_4 : (List Int)) =>
  rangeT lots0 >>= fun r30 => forT r30 where_4 (fun (s5 : ((List Int))) (x6 : Int) =>
  (divT many0 lots0 >>= fun a9 => (((modT many0 lots0 >>= fun a7 => T.ret (decide (x6 < a7))) >>= fun a8 => T.ret (b2i a8)) >>= fun a10 => T.ret (a9 + a10))) >>= fun (size_11 : Int) =>
  repT ([x6] : List Int) size_11 >>= fun a13 => catT s5 a13 >>= fun (where_12 : (List Int)) =>
  T.ret where_12) >>= fun (s14 : ((List Int))) =>
  (((t__law_pairs many0 false >>= fun a27 => lcT a27 (fun (x24 : (Int × Int)) => (getI s14 x24.1 >>= fun a25 => (getI s14 x24.2 >>= fun a26 => T.ret (!decide (a25 = a26))))) (fun (x24 : (Int × Int)) => T.ret (x24.1, x24.2))) >>= fun a28 => T.ret a28) >>= fun a29 => T.ret (many0, a29))

theorem ref__law_parted (many0 : Int) (lots0 : Int) : RE (d__law_parted [pu eI many0, pu eI lots0]) (t__law_parted many0 lots0) (pu (e2 eI (eV (e2 eI eI)))) := by
  unfold d__law_parted t__law_parted
  refine bodyR ?_
  unfold b_D__law_parted
  exact (sEq (st' := [some ((pu eI) many0), some ((pu eI) lots0), none, none, none, none, none]) rfl (sAsgM (e := (ls eI)) (st' := fun where_4 => [some ((pu eI) many0), some ((pu eI) lots0), some ((ls eI) where_4), none, none, none, none]) (RR.of (vLst (cNE (dispL (ls eI ([] : List Int)) rfl (Nat.le_of_ble_eq_true rfl) rfl)))) (fun _ => rfl) fun where_4 => (sSeqKill (sKill (st' := [some ((pu eI) many0), some ((pu eI) lots0), some ((ls eI) where_4), none, none, none, none]) (wipeE rfl) (sForM eI (S := fun (s5 : ((List Int))) => [some ((pu eI) many0), some ((pu eI) lots0), some ((ls eI) s5), none, none, none, none]) (s0 := where_4) (cP (nmE rfl) (cN (range1G _))) (wipeE rfl) (fun x6 s5 => (RR.bP (a := [some ((pu eI) many0), some ((pu eI) lots0), some ((ls eI) s5), some ((pu eI) x6), none, none, none]) rfl (sAsgM (e := (pu eI)) (st' := fun size_11 => [some ((pu eI) many0), some ((pu eI) lots0), some ((ls eI) s5), some ((pu eI) x6), some ((pu eI) size_11), none, none]) (uUn (frzR (uBin (RR.bM (uBin (RR.bP (nmE rfl) (RR.bP (nmE rfl) (divII _ _)))) fun a9 => (RR.bM (uCall (cM (uBin (RR.bP (nmE rfl) (RR.bM (uBin (RR.bP (vCall (cE (nmE rfl) (cNE (a1E (intI _))))) (RR.bP (nmE rfl) (modII _ _)))) fun a7 => (RR.of (ltII _ _))))) fun a8 => (cN (RR.of (a1E (intB _)))))) fun a10 => (RR.of (addII _ _))))))) (fun _ => rfl) fun size_11 => (sExtM (st' := fun where_12 => [some ((pu eI) many0), some ((pu eI) lots0), some ((ls eI) where_12), some ((pu eI) x6), some ((pu eI) size_11), none, none]) rfl (uBin (RR.bP (vLst (cE (nmE rfl) (cNE (dispL (ls eI ([x6] : List Int)) rfl (Nat.le_of_ble_eq_true rfl) rfl)))) (RR.bP (nmE rfl) (repG (xs := ([x6] : List Int)) rfl)))) (fun _ => rfl) (fun _ => rfl) fun where_12 => (sKill (wipeE rfl) (sLeaf ⟨.inl rfl, rfl⟩)))))) fun s14 => (sKill (st' := [some ((pu eI) many0), none, some ((ls eI) s14), none, none, none, none]) (wipeE rfl) (sRetM0 (uTup (cP (nmE rfl) (cM (uCall (cM (lcM (e2 eI eI) (S := fun x24 => [some ((pu eI) many0), none, some ((ls eI) s14), none, none, some ((pu eI) x24.1), some ((pu eI) x24.2)]) (tc := (fun (x24 : (Int × Int)) => (getI s14 x24.1 >>= fun a25 => (getI s14 x24.2 >>= fun a26 => T.ret (!decide (a25 = a26)))))) (tv := (fun (x24 : (Int × Int)) => T.ret (x24.1, x24.2))) (ev := (e2 eI eI)) (itEM (uCallD (cP (nmE rfl) (cP (kME _) (cN (cIf ⟨rfl, rfl⟩ (ref__law_pairs many0 false)))))) fun _ => rfl) (fun _ => rfl) (fun x24 => (cBMm (uBin (RR.bM (uBin (RR.bP (nmE rfl) (RR.bP (nmE rfl) (getG (xs := s14) rfl)))) fun a25 => (RR.bM (uBin (RR.bP (nmE rfl) (RR.bP (nmE rfl) (getG (xs := s14) rfl)))) fun a26 => (RR.of (neG (a := a25) (b := a26) qI rfl rfl (by decide)))))))) fun x24 => (RR.of (vTup (cE (nmE rfl) (cE (nmE rfl) (cNE (dispT (pu (e2 eI eI) (x24.1, x24.2)) rfl (Nat.le_of_ble_eq_true rfl) rfl))))))) fun a28 => (cN (RR.of (a1E (tupG (e := (e2 eI eI)) (xs := a28) rfl)))))) fun a29 => (cN (RR.of (dispT (pu (e2 eI (eV (e2 eI eI))) (many0, a29)) rfl (Nat.le_of_ble_eq_true rfl) rfl)))))) fun _ => .inl rfl)))))))

@[irreducible] noncomputable def t_parted_web (m0 : Int) (k0 : Int) : T (Int × (List (Int × Int))) :=
  T.ret ([] : List Int) >>= fun (names_32 : (List Int)) =>
  rangeT k0 >>= fun r54 => forT r54 names_32 (fun (s33 : ((List Int))) (x34 : Int) =>
  ((divT m0 k0 >>= fun a37 => (((modT m0 k0 >>= fun a35 => T.ret (decide (x34 < a35))) >>= fun a36 => T.ret (b2i a36)) >>= fun a38 => T.ret (a37 + a38))) >>= fun a39 => repT ([x34] : List Int) a39) >>= fun a41 => catT s33 a41 >>= fun (names_40 : (List Int)) =>
  T.ret names_40) >>= fun (s42 : ((List Int))) =>
  T.ret ([] : List (Int × Int)) >>= fun (roads_43 : (List (Int × Int))) =>
  rangeT m0 >>= fun r53 => forT r53 roads_43 (fun (s44 : ((List (Int × Int)))) (x45 : Int) =>
  (rangeT2 (x45 + (1 : Int)) m0 >>= fun a49 => lcT a49 (fun (x46 : Int) => (getI s42 x45 >>= fun a47 => (getI s42 x46 >>= fun a48 => T.ret (!decide (a47 = a48))))) (fun (x46 : Int) => T.ret (x45, x46))) >>= fun a51 => catT s44 a51 >>= fun (roads_50 : (List (Int × Int))) =>
  T.ret roads_50) >>= fun (s52 : ((List (Int × Int)))) =>
  T.ret (m0, s52)

theorem ref_parted_web (m0 : Int) (k0 : Int) : RE (d_parted_web [pu eI m0, pu eI k0]) (t_parted_web m0 k0) (pu (e2 eI (eV (e2 eI eI)))) := by
  unfold d_parted_web t_parted_web
  refine bodyR ?_
  unfold b_D_parted_web
  exact (sEq (st' := [some ((pu eI) m0), some ((pu eI) k0), none, none, none, none, none]) rfl (sAsgM (e := (ls eI)) (st' := fun names_32 => [some ((pu eI) m0), some ((pu eI) k0), some ((ls eI) names_32), none, none, none, none]) (RR.of (vLst (cNE (dispL (ls eI ([] : List Int)) rfl (Nat.le_of_ble_eq_true rfl) rfl)))) (fun _ => rfl) fun names_32 => (sSeqKill (sKill (st' := [some ((pu eI) m0), some ((pu eI) k0), some ((ls eI) names_32), none, none, none, none]) (wipeE rfl) (sForM eI (S := fun (s33 : ((List Int))) => [some ((pu eI) m0), some ((pu eI) k0), some ((ls eI) s33), none, none, none, none]) (s0 := names_32) (cP (nmE rfl) (cN (range1G _))) (wipeE rfl) (fun x34 s33 => (RR.bP (a := [some ((pu eI) m0), some ((pu eI) k0), some ((ls eI) s33), some ((pu eI) x34), none, none, none]) rfl (sExtM (st' := fun names_40 => [some ((pu eI) m0), some ((pu eI) k0), some ((ls eI) names_40), some ((pu eI) x34), none, none, none]) rfl (uBin (RR.bP (vLst (cE (nmE rfl) (cNE (dispL (ls eI ([x34] : List Int)) rfl (Nat.le_of_ble_eq_true rfl) rfl)))) (RR.bM (uBin (RR.bM (uBin (RR.bP (nmE rfl) (RR.bP (nmE rfl) (divII _ _)))) fun a37 => (RR.bM (uCall (cM (uBin (RR.bP (nmE rfl) (RR.bM (uBin (RR.bP (nmE rfl) (RR.bP (nmE rfl) (modII _ _)))) fun a35 => (RR.of (ltII _ _))))) fun a36 => (cN (RR.of (a1E (intB _)))))) fun a38 => (RR.of (addII _ _))))) fun a39 => (repG (xs := ([x34] : List Int)) rfl)))) (fun _ => rfl) (fun _ => rfl) fun names_40 => (sKill (wipeE rfl) (sLeaf ⟨.inl rfl, rfl⟩))))) fun s42 => (sKill (st' := [some ((pu eI) m0), none, some ((ls eI) s42), none, none, none, none]) (wipeE rfl) (sAsgM (e := (ls (e2 eI eI))) (st' := fun roads_43 => [some ((pu eI) m0), none, some ((ls eI) s42), none, some ((ls (e2 eI eI)) roads_43), none, none]) (RR.of (vLst (cNE (dispL (ls (e2 eI eI) ([] : List (Int × Int))) rfl (Nat.le_of_ble_eq_true rfl) rfl)))) (fun _ => rfl) fun roads_43 => (sSeqKill (sKill (st' := [some ((pu eI) m0), none, some ((ls eI) s42), none, some ((ls (e2 eI eI)) roads_43), none, none]) (wipeE rfl) (sForM eI (S := fun (s44 : ((List (Int × Int)))) => [some ((pu eI) m0), none, some ((ls eI) s42), none, some ((ls (e2 eI eI)) s44), none, none]) (s0 := roads_43) (cP (nmE rfl) (cN (range1G _))) (wipeE rfl) (fun x45 s44 => (RR.bP (a := [some ((pu eI) m0), none, some ((ls eI) s42), none, some ((ls (e2 eI eI)) s44), some ((pu eI) x45), none]) rfl (sExtM (st' := fun roads_50 => [some ((pu eI) m0), none, some ((ls eI) s42), none, some ((ls (e2 eI eI)) roads_50), some ((pu eI) x45), none]) rfl (lcM eI (S := fun x46 => [some ((pu eI) m0), none, some ((ls eI) s42), none, some ((ls (e2 eI eI)) s44), some ((pu eI) x45), some ((pu eI) x46)]) (tc := (fun (x46 : Int) => (getI s42 x45 >>= fun a47 => (getI s42 x46 >>= fun a48 => T.ret (!decide (a47 = a48)))))) (tv := (fun (x46 : Int) => T.ret (x45, x46))) (ev := (e2 eI eI)) (cP (vBin (bE (nmE rfl) (bE (kME _) (addII _ _)))) (cP (nmE rfl) (cN (range2G _ _)))) (fun _ => rfl) (fun x46 => (cBMm (uBin (RR.bM (uBin (RR.bP (nmE rfl) (RR.bP (nmE rfl) (getG (xs := s42) rfl)))) fun a47 => (RR.bM (uBin (RR.bP (nmE rfl) (RR.bP (nmE rfl) (getG (xs := s42) rfl)))) fun a48 => (RR.of (neG (a := a47) (b := a48) qI rfl rfl (by decide)))))))) fun x46 => (RR.of (vTup (cE (nmE rfl) (cE (nmE rfl) (cNE (dispT (pu (e2 eI eI) (x45, x46)) rfl (Nat.le_of_ble_eq_true rfl) rfl))))))) (fun _ => rfl) (fun _ => rfl) fun roads_50 => (sKill (wipeE rfl) (sLeaf ⟨.inl rfl, rfl⟩))))) fun s52 => (sKill (st' := [some ((pu eI) m0), none, none, none, some ((ls (e2 eI eI)) s52), none, none]) (wipeE rfl) (sRetP (vTup (cE (nmE rfl) (cE (vCall (cE (nmE rfl) (cNE (a1E (tupG (e := (e2 eI eI)) (xs := s52) rfl))))) (cNE (dispT (pu (e2 eI (eV (e2 eI eI))) (m0, s52)) rfl (Nat.le_of_ble_eq_true rfl) rfl))))) (.inl rfl)))))))))))))

@[irreducible] noncomputable def t_most_roads (m0 : Int) (k0 : Int) : T Int :=
  ((t_parted_web m0 k0 >>= fun a55 => T.ret a55.2) >>= fun a56 => T.ret (Int.ofNat (List.length a56)))

theorem ref_most_roads (m0 : Int) (k0 : Int) : RE (d_most_roads [pu eI m0, pu eI k0]) (t_most_roads m0 k0) (pu eI) := by
  unfold d_most_roads t_most_roads
  refine bodyR ?_
  unfold b_D_most_roads
  exact (sEq (st' := [some ((pu eI) m0), some ((pu eI) k0)]) rfl (sRetM0 (uCall (cM (uBin (RR.bM (uCallD (cP (nmE rfl) (cP (nmE rfl) (cN (cIf ⟨rfl, rfl⟩ (ref_parted_web m0 k0)))))) fun a55 => (RR.bP (kME _) (RR.of (ix21 _))))) fun a56 => (cN (RR.of (a1E (lenV _)))))) fun _ => .inl rfl))

@[irreducible] noncomputable def t__law_web (many0 : Int) (islooped0 : Bool) : T (Int × (List (Int × Int))) :=
  (t__law_draw (4 : Int) >>= fun a77 => T.ret ((1 : Int) + a77)) >>= fun (share_78 : Int) =>
  (((t__law_pairs many0 islooped0 >>= fun a81 => lcT a81 (fun (x79 : (Int × Int)) => (t__law_draw (5 : Int) >>= fun a80 => T.ret (decide (a80 < share_78)))) (fun (x79 : (Int × Int)) => T.ret x79)) >>= fun a82 => T.ret a82) >>= fun a83 => T.ret (many0, a83))

theorem ref__law_web (many0 : Int) (islooped0 : Bool) : RE (d__law_web [.pot, pu eI many0, pu eB islooped0]) (t__law_web many0 islooped0) (pu (e2 eI (eV (e2 eI eI)))) := by
  unfold d__law_web t__law_web
  refine bodyR ?_
  unfold b_D__law_web
  exact (sEq (st' := [some .pot, some ((pu eI) many0), some ((pu eB) islooped0), none, none]) rfl (sAsgM (e := (pu eI)) (st' := fun share_78 => [some .pot, some ((pu eI) many0), some ((pu eB) islooped0), some ((pu eI) share_78), none]) (uUn (frzR (uBin (RR.bP (kME _) (RR.bM (uCallD (cP (nmE rfl) (cP (kME _) (cN (cIf ⟨rfl, rfl⟩ (ref__law_draw (4 : Int))))))) fun a77 => (RR.of (addII _ _))))))) (fun _ => rfl) fun share_78 => (sRetM0 (uTup (cP (nmE rfl) (cM (uCall (cM (lcM (e2 eI eI) (S := fun x79 => [some .pot, some ((pu eI) many0), some ((pu eB) islooped0), some ((pu eI) share_78), some ((pu (e2 eI eI)) x79)]) (tc := (fun (x79 : (Int × Int)) => (t__law_draw (5 : Int) >>= fun a80 => T.ret (decide (a80 < share_78))))) (tv := (fun (x79 : (Int × Int)) => T.ret x79)) (ev := (e2 eI eI)) (itEM (uCallD (cP (nmE rfl) (cP (nmE rfl) (cN (cIf ⟨rfl, rfl⟩ (ref__law_pairs many0 islooped0)))))) fun _ => rfl) (fun _ => rfl) (fun x79 => (cBMm (uBin (RR.bM (uCallD (cP (nmE rfl) (cP (kME _) (cN (cIf ⟨rfl, rfl⟩ (ref__law_draw (5 : Int))))))) fun a80 => (RR.bP (nmE rfl) (RR.of (ltII _ _))))))) fun x79 => (RR.of (nmPE rfl rfl))) fun a82 => (cN (RR.of (a1E (tupG (e := (e2 eI eI)) (xs := a82) rfl)))))) fun a83 => (cN (RR.of (dispT (pu (e2 eI (eV (e2 eI eI))) (many0, a83)) rfl (Nat.le_of_ble_eq_true rfl) rfl)))))) fun _ => .inl rfl)))

@[irreducible] noncomputable def t__law_pick (some0 : (List (Int × Int))) : T (Int × Int) :=
  (t__law_draw (Int.ofNat (List.length some0)) >>= fun a90 => getI some0 a90)

theorem ref__law_pick (some0 : (List (Int × Int))) : RE (d__law_pick [.pot, pu (eL (e2 eI eI)) some0]) (t__law_pick some0) (pu (e2 eI eI)) := by
  unfold d__law_pick t__law_pick
  refine bodyR ?_
  unfold b_D__law_pick
  exact (sEq (st' := [some .pot, some ((pu (eL (e2 eI eI))) some0)]) rfl (sRetM0 (uBin (RR.bP (nmE rfl) (RR.bM (uCallD (cP (nmE rfl) (cP (vCall (cE (nmE rfl) (cNE (a1E (lenL _))))) (cN (cIf ⟨rfl, rfl⟩ (ref__law_draw (Int.ofNat (List.length some0)))))))) fun a90 => (getG (xs := some0) rfl)))) fun _ => .inl rfl))

@[irreducible] noncomputable def t__law_mixed (some0 : (List Int)) : T (List Int) :=
  T.ret ([] : List Int) >>= fun (found_95 : (List Int)) =>
  whlT (fun (s96 : ((List Int) × (List Int))) => T.ret (!decide (s96.1 = ([] : List Int)))) (fun (s96 : ((List Int) × (List Int))) =>
  t__law_draw (Int.ofNat (List.length s96.1)) >>= fun k98 => appPopT s96.2 s96.1 k98 >>= fun (p97 : (List Int) × (List Int)) =>
  T.ret (p97.2, p97.1)) (some0, found_95) >>= fun (s99 : ((List Int) × (List Int))) =>
  T.ret s99.2

theorem ref__law_mixed (some0 : (List Int)) : RE (d__law_mixed [.pot, pu (eL eI) some0]) (t__law_mixed some0) (ls eI) := by
  unfold d__law_mixed t__law_mixed
  refine bodyR ?_
  unfold b_D__law_mixed
  exact (sEq (st' := [some .pot, some ((pu (eL eI)) some0), none, none]) rfl (uPar2 (RR.bP (vCall (cE (nmE rfl) (cNE (a1E (listG (e := eI) (xs := some0) rfl))))) (RR.bM (e := (ls eI)) (RR.of (vLst (cNE (dispL (ls eI ([] : List Int)) rfl (Nat.le_of_ble_eq_true rfl) rfl)))) fun found_95 => (sEq (st' := [some .pot, some ((pu (eL eI)) some0), some ((ls eI) some0), some ((ls eI) found_95)]) rfl (sSeqKill (sKill (st' := [some .pot, none, some ((ls eI) some0), some ((ls eI) found_95)]) (wipeE rfl) (sWhl (S := fun (s96 : ((List Int) × (List Int))) => [some .pot, none, some ((ls eI) s96.1), some ((ls eI) s96.2)]) (tc := (fun (s96 : ((List Int) × (List Int))) => T.ret (!decide (s96.1 = ([] : List Int))))) (tb := (fun (s96 : ((List Int) × (List Int))) =>
  t__law_draw (Int.ofNat (List.length s96.1)) >>= fun k98 => appPopT s96.2 s96.1 k98 >>= fun (p97 : (List Int) × (List Int)) =>
  T.ret (p97.2, p97.1))) (s0 := (some0, found_95)) rfl (fun s96 => (RR.of (cBM (vBin (bE (nmE rfl) (bE (vLst (cNE (dispL (ls eI ([] : List Int)) rfl (Nat.le_of_ble_eq_true rfl) rfl))) (neG (a := s96.1) (b := ([] : List Int)) (qL qI) rfl rfl (by decide)))))))) (fun s96 => (sAppPop (st' := fun p97 => [some .pot, none, some ((ls eI) p97.2), some ((ls eI) p97.1)]) rfl rfl (uCallD (cP (nmE rfl) (cP (vCall (cE (nmE rfl) (cNE (a1E (lenO _))))) (cN (cIf ⟨rfl, rfl⟩ (ref__law_draw (Int.ofNat (List.length s96.1)))))))) (fun _ _ => rfl) fun p97 => (sKill (wipeE rfl) (sLeaf ⟨.inl rfl, rfl⟩)))) fun s99 => (sKill (st' := [none, none, none, some ((ls eI) s99.2)]) (wipeE rfl) (sRetP (nmE rfl) (.inl rfl)))))))))))

@[irreducible] noncomputable def t__law_renamed (web0 : (Int × (List (Int × Int)))) (names0 : (List Int)) : T (Int × (List (Int × Int))) :=
  lcT web0.2 (fun (x101 : (Int × Int)) => T.ret true) (fun (x101 : (Int × Int)) => ((getI names0 x101.1 >>= fun a102 => (getI names0 x101.2 >>= fun a103 => T.ret (min a102 a103))) >>= fun a106 => ((getI names0 x101.1 >>= fun a104 => (getI names0 x101.2 >>= fun a105 => T.ret (max a104 a105))) >>= fun a107 => T.ret (a106, a107)))) >>= fun (roads_108 : (List (Int × Int))) =>
  T.ret (web0.1, (isort (lt2 ltI ltI) roads_108))

theorem ref__law_renamed (web0 : (Int × (List (Int × Int)))) (names0 : (List Int)) : RE (d__law_renamed [pu (e2 eI (eV (e2 eI eI))) web0, pu (eL eI) names0]) (t__law_renamed web0 names0) (pu (e2 eI (eV (e2 eI eI)))) := by
  unfold d__law_renamed t__law_renamed
  refine bodyR ?_
  unfold b_D__law_renamed
  exact (sEq (st' := [some ((pu (e2 eI (eV (e2 eI eI)))) web0), some ((pu (eL eI)) names0), none, none, none]) rfl (sAsgM (e := (ls (e2 eI eI))) (st' := fun roads_108 => [some ((pu (e2 eI (eV (e2 eI eI)))) web0), some ((pu (eL eI)) names0), some ((ls (e2 eI eI)) roads_108), none, none]) (lcMP (e2 eI eI) (S := fun x101 => [some ((pu (e2 eI (eV (e2 eI eI)))) web0), some ((pu (eL eI)) names0), none, some ((pu eI) x101.1), some ((pu eI) x101.2)]) (tc := (fun (x101 : (Int × Int)) => T.ret true)) (tv := (fun (x101 : (Int × Int)) => ((getI names0 x101.1 >>= fun a102 => (getI names0 x101.2 >>= fun a103 => T.ret (min a102 a103))) >>= fun a106 => ((getI names0 x101.1 >>= fun a104 => (getI names0 x101.2 >>= fun a105 => T.ret (max a104 a105))) >>= fun a107 => T.ret (a106, a107))))) (ev := (e2 eI eI)) (itE (vBin (bE (nmE rfl) (bE (kME _) (ix21 _)))) rfl) (fun _ => rfl) (fun x101 => (RR.of (yesE _))) fun x101 => (uTup (cM (uCall (cM (uBin (RR.bP (nmE rfl) (RR.bP (nmE rfl) (getG (xs := names0) rfl)))) fun a102 => (cM (uBin (RR.bP (nmE rfl) (RR.bP (nmE rfl) (getG (xs := names0) rfl)))) fun a103 => (cN (RR.of (a2E (min2I _ _))))))) fun a106 => (cM (uCall (cM (uBin (RR.bP (nmE rfl) (RR.bP (nmE rfl) (getG (xs := names0) rfl)))) fun a104 => (cM (uBin (RR.bP (nmE rfl) (RR.bP (nmE rfl) (getG (xs := names0) rfl)))) fun a105 => (cN (RR.of (a2E (max2I _ _))))))) fun a107 => (cN (RR.of (dispT (pu (e2 eI eI) (a106, a107)) rfl (Nat.le_of_ble_eq_true rfl) rfl))))))) (fun _ => rfl) fun roads_108 => (sFrz (st' := [some ((pu (e2 eI (eV (e2 eI eI)))) web0), some ((pu (eL eI)) names0), some ((pu (eL (e2 eI eI))) roads_108), none, none]) (frzE rfl rfl rfl) (sRetP (vTup (cE (vBin (bE (nmE rfl) (bE (kME _) (ix20 _)))) (cE (vCall (cE (vCall (cE (nmE rfl) (cNE (a1E (sortG (o2 oI oI) (xs := roads_108) rfl (by decide) (sort_pairs _)))))) (cNE (a1E (tupG (e := (e2 eI eI)) (xs := (isort (lt2 ltI ltI) roads_108)) rfl))))) (cNE (dispT (pu (e2 eI (eV (e2 eI eI))) (web0.1, (isort (lt2 ltI ltI) roads_108))) rfl (Nat.le_of_ble_eq_true rfl) rfl))))) (.inl rfl)))))

@[irreducible] noncomputable def t__law_called (web0 : (Int × (List (Int × Int)))) : T (Int × (List (Int × Int))) :=
  ((rangeT web0.1 >>= fun a100 => t__law_mixed a100) >>= fun a109 => t__law_renamed web0 a109)

theorem ref__law_called (web0 : (Int × (List (Int × Int)))) : RE (d__law_called [.pot, pu (e2 eI (eV (e2 eI eI))) web0]) (t__law_called web0) (pu (e2 eI (eV (e2 eI eI)))) := by
  unfold d__law_called t__law_called
  refine bodyR ?_
  unfold b_D__law_called
  exact (sEq (st' := [some .pot, some ((pu (e2 eI (eV (e2 eI eI)))) web0)]) rfl (sRetM0 (uUn (frzR (uCallD (cP (nmE rfl) (cM (uUn (frzRl (uCallD (cP (nmE rfl) (cM (uUn (frzRl (uRgL (cP (vBin (bE (nmE rfl) (bE (kME _) (ix20 _)))) (cN (rgLG _)))))) fun a100 => (cN (cIf ⟨rfl, rfl⟩ (ref__law_mixed a100)))))))) fun a109 => (cN (cIf ⟨rfl, rfl⟩ (ref__law_renamed web0 a109)))))))) fun _ => .inl rfl))

@[irreducible] noncomputable def t__law_plain  : T (Int × (List (Int × Int))) :=
  (t__law_draw (2 : Int) >>= fun a76 => T.ret (decide (a76 = (0 : Int)))) >>= fun b110 => if b110 = true then ((t__law_draw (9 : Int) >>= fun a84 => t__law_web a84 false)) else ((t__law_draw (7 : Int) >>= fun a85 => T.ret ((2 : Int) + a85)) >>= fun (many_86 : Int) =>
  ((t__law_draw (4 : Int) >>= fun a87 => T.ret ((1 : Int) + a87)) >>= fun a88 => t__law_parted many_86 a88) >>= fun (web_89 : (Int × (List (Int × Int)))) =>
  (t__law_pairs many_86 false >>= fun a91 => t__law_pick a91) >>= fun (road_92 : (Int × Int)) =>
  catT (List.map (fun (x93 : (Int × Int)) => x93) (List.filter (fun (x93 : (Int × Int)) => (!decide (x93 = road_92))) web_89.2)) (if (!decide (road_92 ∈ web_89.2)) = true then ([road_92] : List (Int × Int)) else ([] : List (Int × Int))) >>= fun (roads_94 : (List (Int × Int))) =>
  t__law_called (many_86, (isort (lt2 ltI ltI) roads_94)))

theorem ref__law_plain  : RE (d__law_plain [.pot]) (t__law_plain ) (pu (e2 eI (eV (e2 eI eI)))) := by
  unfold d__law_plain t__law_plain
  refine bodyR ?_
  unfold b_D__law_plain
  exact (sEq (st' := [some .pot, none, none, none, none, none]) rfl (sIteM (cBMm (uBin (RR.bM (uCallD (cP (nmE rfl) (cP (kME _) (cN (cIf ⟨rfl, rfl⟩ (ref__law_draw (2 : Int))))))) fun a76 => (RR.bP (kME _) (RR.of (eqG (a := a76) (b := (0 : Int)) qI rfl rfl (by decide))))))) (sDead (sRetM0 (uUn (frzR (uCallD (cP (nmE rfl) (cM (uUn (frzR (uCallD (cP (nmE rfl) (cP (kME _) (cN (cIf ⟨rfl, rfl⟩ (ref__law_draw (9 : Int))))))))) fun a84 => (cP (kME _) (cN (cIf ⟨rfl, rfl⟩ (ref__law_web a84 false))))))))) fun _ => .inl rfl)) (sSk (sKill (st' := [some .pot, none, none, none, none, none]) (wipeE rfl) (sAsgM (e := (pu eI)) (st' := fun many_86 => [some .pot, some ((pu eI) many_86), none, none, none, none]) (uUn (frzR (uBin (RR.bP (kME _) (RR.bM (uCallD (cP (nmE rfl) (cP (kME _) (cN (cIf ⟨rfl, rfl⟩ (ref__law_draw (7 : Int))))))) fun a85 => (RR.of (addII _ _))))))) (fun _ => rfl) fun many_86 => (sAsgM (e := (pu (e2 eI (eV (e2 eI eI))))) (st' := fun web_89 => [some .pot, some ((pu eI) many_86), some ((pu (e2 eI (eV (e2 eI eI)))) web_89), none, none, none]) (uUn (frzR (uCallD (cP (nmE rfl) (cM (uUn (frzR (uBin (RR.bP (kME _) (RR.bM (uCallD (cP (nmE rfl) (cP (kME _) (cN (cIf ⟨rfl, rfl⟩ (ref__law_draw (4 : Int))))))) fun a87 => (RR.of (addII _ _))))))) fun a88 => (cN (cIf ⟨rfl, rfl⟩ (ref__law_parted many_86 a88)))))))) (fun _ => rfl) fun web_89 => (sAsgM (e := (pu (e2 eI eI))) (st' := fun road_92 => [some .pot, some ((pu eI) many_86), some ((pu (e2 eI (eV (e2 eI eI)))) web_89), some ((pu (e2 eI eI)) road_92), none, none]) (uUn (frzR (uCallD (cP (nmE rfl) (cM (uUn (frzRl (uCallD (cP (nmE rfl) (cP (kME _) (cN (cIf ⟨rfl, rfl⟩ (ref__law_pairs many_86 false)))))))) fun a91 => (cN (cIf ⟨rfl, rfl⟩ (ref__law_pick a91)))))))) (fun _ => rfl) fun road_92 => (sAsgM (e := (pu (eL (e2 eI eI)))) (st' := fun roads_94 => [some .pot, some ((pu eI) many_86), some ((pu (e2 eI (eV (e2 eI eI)))) web_89), some ((pu (e2 eI eI)) road_92), some ((pu (eL (e2 eI eI))) roads_94), none]) (uUn (frzRl (uBin (RR.bP (lcE (e2 eI eI) (S := fun x93 => [some .pot, some ((pu eI) many_86), some ((pu (e2 eI (eV (e2 eI eI)))) web_89), some ((pu (e2 eI eI)) road_92), none, some ((pu (e2 eI eI)) x93)]) (cb := fun (x93 : (Int × Int)) => (!decide (x93 = road_92))) (v := fun (x93 : (Int × Int)) => x93) (ev := (e2 eI eI)) (itE (vBin (bE (nmE rfl) (bE (kME _) (ix21 _)))) rfl) (fun _ => rfl) (fun x93 => (cBM (vBin (bE (nmE rfl) (bE (nmE rfl) (neG (a := x93) (b := road_92) (q2 qI qI) rfl rfl (by decide))))))) fun x93 => (nmPE rfl rfl)) (RR.bP (iteE2 (em := (pu (eL (e2 eI eI)))) (cBM (vBin (bE (nmE rfl) (bE (vBin (bE (nmE rfl) (bE (kME _) (ix21 _)))) (ninG (a := road_92) (xs := web_89.2) (q2 qI qI) rfl rfl (by decide)))))) (vUn (bE (vLst (cE (nmE rfl) (cNE (dispL (ls (e2 eI eI) ([road_92] : List (Int × Int))) rfl (Nat.le_of_ble_eq_true rfl) rfl)))) rfl)) (vUn (bE (vLst (cNE (dispL (ls (e2 eI eI) ([] : List (Int × Int))) rfl (Nat.le_of_ble_eq_true rfl) rfl))) rfl))) (catLL (xs := (List.map (fun (x93 : (Int × Int)) => x93) (List.filter (fun (x93 : (Int × Int)) => (!decide (x93 = road_92))) web_89.2))) (ys := (if (!decide (road_92 ∈ web_89.2)) = true then ([road_92] : List (Int × Int)) else ([] : List (Int × Int)))) rfl rfl)))))) (fun _ => rfl) fun roads_94 => (sRetM0 (uUn (frzR (uCallD (cP (nmE rfl) (cP (vTup (cE (nmE rfl) (cE (vCall (cE (vCall (cE (nmE rfl) (cNE (a1E (sortG (o2 oI oI) (xs := roads_94) rfl (by decide) (sort_pairs _)))))) (cNE (a1E (tupG (e := (e2 eI eI)) (xs := (isort (lt2 ltI ltI) roads_94)) rfl))))) (cNE (dispT (pu (e2 eI (eV (e2 eI eI))) (many_86, (isort (lt2 ltI ltI) roads_94))) rfl (Nat.le_of_ble_eq_true rfl) rfl))))) (cN (cIf ⟨rfl, rfl⟩ (ref__law_called (many_86, (isort (lt2 ltI ltI) roads_94)))))))))) fun _ => .inl rfl)))))))))

@[irreducible] noncomputable def t__law_pick_1 (some0 : (List Int)) : T Int :=
  (t__law_draw (Int.ofNat (List.length some0)) >>= fun a111 => getI some0 a111)

theorem ref__law_pick_1 (some0 : (List Int)) : RE (d__law_pick [.pot, pu (eL eI) some0]) (t__law_pick_1 some0) (pu eI) := by
  unfold d__law_pick t__law_pick_1
  refine bodyR ?_
  unfold b_D__law_pick
  exact (sEq (st' := [some .pot, some ((pu (eL eI)) some0)]) rfl (sRetM0 (uBin (RR.bP (nmE rfl) (RR.bM (uCallD (cP (nmE rfl) (cP (vCall (cE (nmE rfl) (cNE (a1E (lenL _))))) (cN (cIf ⟨rfl, rfl⟩ (ref__law_draw (Int.ofNat (List.length some0)))))))) fun a111 => (getG (xs := some0) rfl)))) fun _ => .inl rfl))

@[irreducible] noncomputable def t_is_plain (web0 : (Int × (List (Int × Int)))) : T Bool :=
  T.ret (List.all (List.map (fun (x117 : (Int × Int)) => (!decide (x117.1 = x117.2))) web0.2) id)

theorem ref_is_plain (web0 : (Int × (List (Int × Int)))) : RE (d_is_plain [pu (e2 eI (eV (e2 eI eI))) web0]) (t_is_plain web0) (pu eB) := by
  unfold d_is_plain t_is_plain
  refine bodyR ?_
  unfold b_D_is_plain
  exact (sEq (st' := [some ((pu (e2 eI (eV (e2 eI eI)))) web0), none, none]) rfl (sRetP (vCall (cE (lcE1 (e2 eI eI) (S := fun x117 => [some ((pu (e2 eI (eV (e2 eI eI)))) web0), some ((pu eI) x117.1), some ((pu eI) x117.2)]) (v := fun (x117 : (Int × Int)) => (!decide (x117.1 = x117.2))) (ev := eB) (itE (vBin (bE (nmE rfl) (bE (kME _) (ix21 _)))) rfl) (fun _ => rfl) fun x117 => (vBin (bE (nmE rfl) (bE (nmE rfl) (neG (a := x117.1) (b := x117.2) qI rfl rfl (by decide)))))) (cNE (a1E (allG (xs := (List.map (fun (x117 : (Int × Int)) => (!decide (x117.1 = x117.2))) web0.2)) rfl))))) (.inl rfl)))

@[irreducible] noncomputable def t_neighbour_lists (web0 : (Int × (List (Int × Int)))) : T (List (List Int)) :=
  (rangeT web0.1 >>= fun a120 => T.ret (List.map (fun (x119 : Int) => ([] : List Int)) a120)) >>= fun (found_121 : (List (List Int))) =>
  forT web0.2 found_121 (fun (s122 : ((List (List Int)))) (x123 : (Int × Int)) =>
  appRT s122 x123.1 x123.2 >>= fun (found_124 : (List (List Int))) =>
  (if (!decide (x123.2 = x123.1)) = true then (appRT found_124 x123.2 x123.1 >>= fun (found_125 : (List (List Int))) =>
  T.ret found_125) else (T.ret found_124)) >>= fun (u126 : (List (List Int))) =>
  T.ret u126) >>= fun (s127 : ((List (List Int)))) =>
  T.ret (List.map (fun (x128 : (List Int)) => (isort ltI x128)) s127)

theorem ref_neighbour_lists (web0 : (Int × (List (Int × Int)))) : RE (d_neighbour_lists [pu (e2 eI (eV (e2 eI eI))) web0]) (t_neighbour_lists web0) (pu (eL (eL eI))) := by
  unfold d_neighbour_lists t_neighbour_lists
  refine bodyR ?_
  unfold b_D_neighbour_lists
  exact (sEq (st' := [some ((pu (e2 eI (eV (e2 eI eI)))) web0), none, none, none, none, none]) rfl (sAsgM (e := (l2 eI)) (st' := fun found_121 => [some ((pu (e2 eI (eV (e2 eI eI)))) web0), some ((l2 eI) found_121), none, none, none, none]) (lcLEM1 eI (S := fun x119 => [some ((pu (e2 eI (eV (e2 eI eI)))) web0), none, none, none, some ((pu eI) x119), none]) (v := fun (x119 : Int) => ([] : List Int)) (ev := eI) (cP (vBin (bE (nmE rfl) (bE (kME _) (ix20 _)))) (cN (range1G _))) (fun _ => rfl) fun x119 => (vLst (cNE (dispL (ls eI ([] : List Int)) rfl (Nat.le_of_ble_eq_true rfl) rfl)))) (fun _ => rfl) fun found_121 => (sSeqKill (sKill (st' := [some ((pu (e2 eI (eV (e2 eI eI)))) web0), some ((l2 eI) found_121), none, none, none, none]) (wipeE rfl) (sForP (e2 eI eI) (S := fun (s122 : ((List (List Int)))) => [none, some ((l2 eI) s122), none, none, none, none]) (s0 := found_121) (itP (vBin (bE (nmE rfl) (bE (kME _) (ix21 _)))) rfl) (wipeE rfl) (fun x123 s122 => (RR.bP (a := [none, some ((l2 eI) s122), some ((pu eI) x123.1), some ((pu eI) x123.2), none, none]) rfl (sAppRP (st' := fun found_124 => [none, some ((l2 eI) found_124), some ((pu eI) x123.1), some ((pu eI) x123.2), none, none]) rfl (nmE rfl) (nmPE rfl rfl) (fun _ => rfl) fun found_124 => (sJoin (P := fun st u126 => wipeD st [0, 2, 3] = [none, some ((l2 eI) u126), none, none, none, none]) (sIteP1 (cBM (vBin (bE (nmE rfl) (bE (nmE rfl) (neG (a := x123.2) (b := x123.1) qI rfl rfl (by decide)))))) (fun _ => (sOne (sAppRP (st' := fun found_125 => [none, some ((l2 eI) found_125), some ((pu eI) x123.1), some ((pu eI) x123.2), none, none]) rfl (nmE rfl) (nmPE rfl rfl) (fun _ => rfl) fun found_125 => (sLeaf ⟨rfl, wipeE rfl⟩)))) fun _ => (sLeaf ⟨rfl, wipeE rfl⟩)) fun _ u126 hu126 => (sKill (st' := [none, some ((l2 eI) u126), none, none, none, none]) hu126 (sKill (wipeE rfl) (sLeaf ⟨.inl rfl, rfl⟩))))))) fun s127 => (sKill (st' := [none, some ((l2 eI) s127), none, none, none, none]) (wipeE rfl) (sFrz (st' := [none, some ((pu (eL (eL eI))) s127), none, none, none, none]) (frzE rfl (frzL2 _) rfl) (sRetP (vUn (bE (lcE1 (eL eI) (S := fun x128 => [none, some ((pu (eL (eL eI))) s127), none, none, none, some ((pu (eL eI)) x128)]) (v := fun (x128 : (List Int)) => (isort ltI x128)) (ev := (eL eI)) (itE (nmE rfl) rfl) (fun _ => rfl) fun x128 => (vUn (bE (vCall (cE (nmE rfl) (cNE (a1E (sortG oI (xs := x128) rfl (by decide) (sort_ints _)))))) rfl))) rfl)) (.inl rfl)))))))))

@[irreducible] noncomputable def t_full_size (web0 : (Int × (List (Int × Int)))) : T Int :=
  (t_is_plain web0 >>= fun b118 => T.ret (!b118)) >>= fun b148 => if b148 = true then (T.bad) else (t_neighbour_lists web0 >>= fun (near_131 : (List (List Int))) =>
  ((rangeT web0.1 >>= fun a129 => T.ret (([] : List Int), a129)) >>= fun a130 => T.ret ([a130] : List ((List Int) × (List Int)))) >>= fun (waiting_132 : (List ((List Int) × (List Int)))) =>
  whlT (fun (s133 : (Int × (List ((List Int) × (List Int))))) => T.ret (!decide (s133.2 = ([] : List ((List Int) × (List Int)))))) (fun (s133 : (Int × (List ((List Int) × (List Int))))) =>
  popT s133.2 >>= fun (p134 : (List ((List Int) × (List Int))) × ((List Int) × (List Int))) =>
  T.ret (max s133.1 (Int.ofNat (List.length p134.2.1))) >>= fun (best_135 : Int) =>
  forT (enumI p134.2.2) p134.1 (fun (s136 : ((List ((List Int) × (List Int))))) (x137 : (Int × Int)) =>
  (catT p134.2.1 ([x137.2] : List Int) >>= fun a140 => (lcT (cutI p134.2.2 (some (x137.1 + (1 : Int))) none) (fun (x138 : Int) => (getI near_131 x137.2 >>= fun a139 => T.ret (decide (x138 ∈ a139)))) (fun (x138 : Int) => T.ret x138) >>= fun a141 => T.ret (a140, a141))) >>= fun a143 => appT s136 a143 >>= fun (waiting_142 : (List ((List Int) × (List Int)))) =>
  T.ret waiting_142) >>= fun (s144 : ((List ((List Int) × (List Int))))) =>
  T.ret (best_135, s144)) ((0 : Int), waiting_132) >>= fun (s147 : (Int × (List ((List Int) × (List Int))))) =>
  T.ret s147.1)

theorem ref_full_size (web0 : (Int × (List (Int × Int)))) : RE (d_full_size [pu (e2 eI (eV (e2 eI eI))) web0]) (t_full_size web0) (pu eI) := by
  unfold d_full_size t_full_size
  refine bodyR ?_
  unfold b_D_full_size
  exact (sEq (st' := [some ((pu (e2 eI (eV (e2 eI eI)))) web0), none, none, none, none, none, none, none, none]) rfl (sIteM (notM (cTMm (uCallD (cP (nmE rfl) (cN (cIf ⟨rfl, rfl⟩ (ref_is_plain web0))))))) RR.bad (sSk (sKill (st' := [some ((pu (e2 eI (eV (e2 eI eI)))) web0), none, none, none, none, none, none, none, none]) (wipeE rfl) (uPar3 (RR.bM (e := (pu (eL (eL eI)))) (uUn (frzR (uCallD (cP (nmE rfl) (cN (cIf ⟨rfl, rfl⟩ (ref_neighbour_lists web0))))))) fun near_131 => (RR.bP (kME _) (RR.bM (e := (ls (e2 (eV eI) (eL eI)))) (uLst (cM (uTup (cP (vTup (cNE (dispT (pu (eV eI) ([] : List Int)) rfl (Nat.le_of_ble_eq_true rfl) rfl))) (cM (uUn (frzRl (uRgL (cP (vBin (bE (nmE rfl) (bE (kME _) (ix20 _)))) (cN (rgLG _)))))) fun a129 => (cN (RR.of (dispT (pu (e2 (eV eI) (eL eI)) (([] : List Int), a129)) rfl (Nat.le_of_ble_eq_true rfl) rfl)))))) fun a130 => (cN (RR.of (dispL (ls (e2 (eV eI) (eL eI)) ([a130] : List ((List Int) × (List Int)))) rfl (Nat.le_of_ble_eq_true rfl) rfl))))) fun waiting_132 => (sEq (st' := [some ((pu (e2 eI (eV (e2 eI eI)))) web0), some ((pu (eL (eL eI))) near_131), some ((pu eI) (0 : Int)), some ((ls (e2 (eV eI) (eL eI))) waiting_132), none, none, none, none, none]) rfl (sSeqKill (sKill (st' := [none, some ((pu (eL (eL eI))) near_131), some ((pu eI) (0 : Int)), some ((ls (e2 (eV eI) (eL eI))) waiting_132), none, none, none, none, none]) (wipeE rfl) (sWhl (S := fun (s133 : (Int × (List ((List Int) × (List Int))))) => [none, some ((pu (eL (eL eI))) near_131), some ((pu eI) s133.1), some ((ls (e2 (eV eI) (eL eI))) s133.2), none, none, none, none, none]) (tc := (fun (s133 : (Int × (List ((List Int) × (List Int))))) => T.ret (!decide (s133.2 = ([] : List ((List Int) × (List Int))))))) (tb := (fun (s133 : (Int × (List ((List Int) × (List Int))))) =>
  popT s133.2 >>= fun (p134 : (List ((List Int) × (List Int))) × ((List Int) × (List Int))) =>
  T.ret (max s133.1 (Int.ofNat (List.length p134.2.1))) >>= fun (best_135 : Int) =>
  forT (enumI p134.2.2) p134.1 (fun (s136 : ((List ((List Int) × (List Int))))) (x137 : (Int × Int)) =>
  (catT p134.2.1 ([x137.2] : List Int) >>= fun a140 => (lcT (cutI p134.2.2 (some (x137.1 + (1 : Int))) none) (fun (x138 : Int) => (getI near_131 x137.2 >>= fun a139 => T.ret (decide (x138 ∈ a139)))) (fun (x138 : Int) => T.ret x138) >>= fun a141 => T.ret (a140, a141))) >>= fun a143 => appT s136 a143 >>= fun (waiting_142 : (List ((List Int) × (List Int)))) =>
  T.ret waiting_142) >>= fun (s144 : ((List ((List Int) × (List Int))))) =>
  T.ret (best_135, s144))) (s0 := ((0 : Int), waiting_132)) rfl (fun s133 => (RR.of (cBM (vBin (bE (nmE rfl) (bE (vLst (cNE (dispL (ls (e2 (eV eI) (eL eI)) ([] : List ((List Int) × (List Int)))) rfl (Nat.le_of_ble_eq_true rfl) rfl))) (neG (a := s133.2) (b := ([] : List ((List Int) × (List Int)))) (qL (q2 (qV qI) (qL qI))) rfl rfl (by decide)))))))) (fun s133 => (sPopG (st' := fun y145 a146 => [none, some ((pu (eL (eL eI))) near_131), some ((pu eI) s133.1), some ((ls (e2 (eV eI) (eL eI))) y145), some ((pu (eV eI)) a146.1), some ((pu (eL eI)) a146.2), none, none, none]) rfl (fun _ _ => rfl) fun p134 => (sAsgM (e := (pu eI)) (st' := fun best_135 => [none, some ((pu (eL (eL eI))) near_131), some ((pu eI) best_135), some ((ls (e2 (eV eI) (eL eI))) p134.1), some ((pu (eV eI)) p134.2.1), some ((pu (eL eI)) p134.2.2), none, none, none]) (RR.of (vCall (cE (nmE rfl) (cE (vCall (cE (nmE rfl) (cNE (a1E (lenV _))))) (cNE (a2E (max2I _ _))))))) (fun _ => rfl) fun best_135 => (sSeqKill (sKill (st' := [none, some ((pu (eL (eL eI))) near_131), some ((pu eI) best_135), some ((ls (e2 (eV eI) (eL eI))) p134.1), some ((pu (eV eI)) p134.2.1), some ((pu (eL eI)) p134.2.2), none, none, none]) (wipeE rfl) (sForP (e2 eI eI) (S := fun (s136 : ((List ((List Int) × (List Int))))) => [none, some ((pu (eL (eL eI))) near_131), some ((pu eI) best_135), some ((ls (e2 (eV eI) (eL eI))) s136), some ((pu (eV eI)) p134.2.1), some ((pu (eL eI)) p134.2.2), none, none, none]) (s0 := p134.1) (enumPE (nmE rfl) rfl) (wipeE rfl) (fun x137 s136 => (RR.bP (a := [none, some ((pu (eL (eL eI))) near_131), some ((pu eI) best_135), some ((ls (e2 (eV eI) (eL eI))) s136), some ((pu (eV eI)) p134.2.1), some ((pu (eL eI)) p134.2.2), some ((pu eI) x137.1), some ((pu eI) x137.2), none]) rfl (sAppM (st' := fun waiting_142 => [none, some ((pu (eL (eL eI))) near_131), some ((pu eI) best_135), some ((ls (e2 (eV eI) (eL eI))) waiting_142), some ((pu (eV eI)) p134.2.1), some ((pu (eL eI)) p134.2.2), some ((pu eI) x137.1), some ((pu eI) x137.2), none]) rfl (uTup (cM (uUn (frzR (uBin (RR.bP (nmE rfl) (RR.bP (vTup (cE (nmE rfl) (cNE (dispT (pu (eV eI) ([x137.2] : List Int)) rfl (Nat.le_of_ble_eq_true rfl) rfl)))) (catV _ _)))))) fun a140 => (cM (uUn (frzRl (lcMP eI (S := fun x138 => [none, some ((pu (eL (eL eI))) near_131), some ((pu eI) best_135), some ((ls (e2 (eV eI) (eL eI))) s136), some ((pu (eV eI)) p134.2.1), some ((pu (eL eI)) p134.2.2), some ((pu eI) x137.1), some ((pu eI) x137.2), some ((pu eI) x138)]) (tc := (fun (x138 : Int) => (getI near_131 x137.2 >>= fun a139 => T.ret (decide (x138 ∈ a139))))) (tv := (fun (x138 : Int) => T.ret x138)) (ev := eI) (itE (cutLE (nmE rfl) rfl (someOE (vBin (bE (nmE rfl) (bE (kME _) (addII _ _))))) noOE) rfl) (fun _ => rfl) (fun x138 => (cBMm (uBin (RR.bP (nmE rfl) (RR.bM (uBin (RR.bP (nmE rfl) (RR.bP (nmE rfl) (getG (xs := near_131) rfl)))) fun a139 => (RR.of (inG (a := x138) (xs := a139) qI rfl rfl (by decide)))))))) fun x138 => (RR.of (nmPE rfl rfl))))) fun a141 => (cN (RR.of (dispT (pu (e2 (eV eI) (eL eI)) (a140, a141)) rfl (Nat.le_of_ble_eq_true rfl) rfl)))))) (fun _ => rfl) fun waiting_142 => (sKill (wipeE rfl) (sLeaf ⟨.inl rfl, rfl⟩))))) fun s144 => (sKill (st' := [none, some ((pu (eL (eL eI))) near_131), some ((pu eI) best_135), some ((ls (e2 (eV eI) (eL eI))) s144), none, none, none, none, none]) (wipeE rfl) (sKill (wipeE rfl) (sLeaf ⟨.inl rfl, rfl⟩))))))))) fun s147 => (sKill (st' := [none, none, some ((pu eI) s147.1), none, none, none, none, none, none]) (wipeE rfl) (sRetP (nmPE rfl rfl) (.inl rfl)))))))))))))))

@[irreducible] noncomputable def t_has_road (web0 : (Int × (List (Int × Int)))) (one0 : Int) (other0 : Int) : T Bool :=
  T.ret (decide (((min one0 other0), (max one0 other0)) ∈ web0.2))

theorem ref_has_road (web0 : (Int × (List (Int × Int)))) (one0 : Int) (other0 : Int) : RE (d_has_road [pu (e2 eI (eV (e2 eI eI))) web0, pu eI one0, pu eI other0]) (t_has_road web0 one0 other0) (pu eB) := by
  unfold d_has_road t_has_road
  refine bodyR ?_
  unfold b_D_has_road
  exact (sEq (st' := [some ((pu (e2 eI (eV (e2 eI eI)))) web0), some ((pu eI) one0), some ((pu eI) other0)]) rfl (sRetP (vBin (bE (vTup (cE (vCall (cE (nmE rfl) (cE (nmE rfl) (cNE (a2E (min2I _ _)))))) (cE (vCall (cE (nmE rfl) (cE (nmE rfl) (cNE (a2E (max2I _ _)))))) (cNE (dispT (pu (e2 eI eI) ((min one0 other0), (max one0 other0))) rfl (Nat.le_of_ble_eq_true rfl) rfl))))) (bE (vBin (bE (nmE rfl) (bE (kME _) (ix21 _)))) (inG (a := ((min one0 other0), (max one0 other0))) (xs := web0.2) (q2 qI qI) rfl rfl (by decide))))) (.inl rfl)))

@[irreducible] noncomputable def t_some_full (web0 : (Int × (List (Int × Int)))) (size0 : Int) : T (Option (List Int)) :=
  T.ret ([([] : List Int)] : List (List Int)) >>= fun (waiting_150 : (List (List Int))) =>
  whlX (fun (s151 : ((List (List Int)))) => T.ret (!decide (s151 = ([] : List (List Int))))) (fun (s151 : ((List (List Int)))) =>
  (popT s151 >>= fun (p152 : (List (List Int)) × (List Int)) =>
  if (decide ((Int.ofNat (List.length p152.2)) = size0)) = true then (T.ret (Stp.rt (some p152.2))) else ((if (!decide (p152.2 = ([] : List Int))) = true then (getI p152.2 (-(1 : Int)) >>= fun a153 => T.ret (a153 + (1 : Int))) else T.ret (0 : Int)) >>= fun (start_154 : Int) =>
  rangeT3 (web0.1 - (1 : Int)) (start_154 - (1 : Int)) (-(1 : Int)) >>= fun r164 => forT r164 p152.1 (fun (s155 : ((List (List Int)))) (x156 : Int) =>
  ((lcT p152.2 (fun (x157 : Int) => T.ret true) (fun (x157 : Int) => t_has_road web0 x157 x156) >>= fun a158 => T.ret (List.all a158 id)) >>= fun b162 => if b162 = true then (catT p152.2 ([x156] : List Int) >>= fun a160 => appT s155 a160 >>= fun (waiting_159 : (List (List Int))) =>
  T.ret waiting_159) else (T.ret s155)) >>= fun (u161 : (List (List Int))) =>
  T.ret u161) >>= fun (s163 : ((List (List Int)))) =>
  T.ret (Stp.nx s163)) : T (Stp (Option (List Int)) ((List (List Int))) Unit))) (fun (s151 : ((List (List Int)))) => ()) waiting_150 >>= sumK (fun r168 => T.ret (r168)) (fun (u167 : Unit) =>
  T.ret (none : (Option (List Int))))

theorem ref_some_full (web0 : (Int × (List (Int × Int)))) (size0 : Int) : RE (d_some_full [pu (e2 eI (eV (e2 eI eI))) web0, pu eI size0]) (t_some_full web0 size0) (pu (eO (eV eI))) := by
  unfold d_some_full t_some_full
  refine bodyR ?_
  unfold b_D_some_full
  exact (sEq (st' := [some ((pu (e2 eI (eV (e2 eI eI)))) web0), some ((pu eI) size0), none, none, none, none, none]) rfl (sAsgM (e := (ls (eV eI))) (st' := fun waiting_150 => [some ((pu (e2 eI (eV (e2 eI eI)))) web0), some ((pu eI) size0), some ((ls (eV eI)) waiting_150), none, none, none, none]) (RR.of (vLst (cE (vTup (cNE (dispT (pu (eV eI) ([] : List Int)) rfl (Nat.le_of_ble_eq_true rfl) rfl))) (cNE (dispL (ls (eV eI) ([([] : List Int)] : List (List Int))) rfl (Nat.le_of_ble_eq_true rfl) rfl))))) (fun _ => rfl) fun waiting_150 => (sSeqKill (sKill (st' := [some ((pu (e2 eI (eV (e2 eI eI)))) web0), some ((pu eI) size0), some ((ls (eV eI)) waiting_150), none, none, none, none]) (wipeE rfl) (sWhlX (S := fun (s151 : ((List (List Int)))) => [some ((pu (e2 eI (eV (e2 eI eI)))) web0), some ((pu eI) size0), some ((ls (eV eI)) s151), none, none, none, none]) (P := fun st u167 => wipeD st [0, 1, 2, 3, 4, 5] = [none, none, none, none, none, none, none]) (Rr := fun y r => y.1 = .rt ((pu (eO (eV eI))) r)) (tc := (fun (s151 : ((List (List Int)))) => T.ret (!decide (s151 = ([] : List (List Int)))))) (tb := (fun (s151 : ((List (List Int)))) =>
  (popT s151 >>= fun (p152 : (List (List Int)) × (List Int)) =>
  if (decide ((Int.ofNat (List.length p152.2)) = size0)) = true then (T.ret (Stp.rt (some p152.2))) else ((if (!decide (p152.2 = ([] : List Int))) = true then (getI p152.2 (-(1 : Int)) >>= fun a153 => T.ret (a153 + (1 : Int))) else T.ret (0 : Int)) >>= fun (start_154 : Int) =>
  rangeT3 (web0.1 - (1 : Int)) (start_154 - (1 : Int)) (-(1 : Int)) >>= fun r164 => forT r164 p152.1 (fun (s155 : ((List (List Int)))) (x156 : Int) =>
  ((lcT p152.2 (fun (x157 : Int) => T.ret true) (fun (x157 : Int) => t_has_road web0 x157 x156) >>= fun a158 => T.ret (List.all a158 id)) >>= fun b162 => if b162 = true then (catT p152.2 ([x156] : List Int) >>= fun a160 => appT s155 a160 >>= fun (waiting_159 : (List (List Int))) =>
  T.ret waiting_159) else (T.ret s155)) >>= fun (u161 : (List (List Int))) =>
  T.ret u161) >>= fun (s163 : ((List (List Int)))) =>
  T.ret (Stp.nx s163)) : T (Stp (Option (List Int)) ((List (List Int))) Unit)))) (fin := (fun (s151 : ((List (List Int)))) => ())) (s0 := waiting_150) (inj := fun r168 => r168) rfl (fun s151 => (RR.of (cBM (vBin (bE (nmE rfl) (bE (vLst (cNE (dispL (ls (eV eI) ([] : List (List Int))) rfl (Nat.le_of_ble_eq_true rfl) rfl))) (neG (a := s151) (b := ([] : List (List Int))) (qL (qV qI)) rfl rfl (by decide)))))))) (fun _ => wipeE rfl) (fun s151 => (sPopTo (st' := fun y165 a166 => [some ((pu (e2 eI (eV (e2 eI eI)))) web0), some ((pu eI) size0), some ((ls (eV eI)) y165), some ((pu (eV eI)) a166), none, none, none]) rfl (fun _ _ => rfl) fun p152 => (sIteP (cBM (vBin (bE (vCall (cE (nmE rfl) (cNE (a1E (lenV _))))) (bE (nmE rfl) (eqG (a := (Int.ofNat (List.length p152.2))) (b := size0) qI rfl rfl (by decide)))))) (fun _ => (sDead (sRetP (a := Stp.rt (some p152.2)) (coP some (nmPE rfl rfl) (fun _ => rfl)) ⟨⟨_, rfl⟩, rfl⟩))) fun _ => (sSk (sKill (st' := [some ((pu (e2 eI (eV (e2 eI eI)))) web0), some ((pu eI) size0), some ((ls (eV eI)) p152.1), some ((pu (eV eI)) p152.2), none, none, none]) (wipeE rfl) (sAsgM (e := (pu eI)) (st' := fun start_154 => [some ((pu (e2 eI (eV (e2 eI eI)))) web0), some ((pu eI) size0), some ((ls (eV eI)) p152.1), some ((pu (eV eI)) p152.2), some ((pu eI) start_154), none, none]) (uUn (frzR (iteP (cBM (vBin (bE (nmE rfl) (bE (vTup (cNE (dispT (pu (eV eI) ([] : List Int)) rfl (Nat.le_of_ble_eq_true rfl) rfl))) (neG (a := p152.2) (b := ([] : List Int)) (qV qI) rfl rfl (by decide)))))) (uUn (frzR (uBin (RR.bM (uBin (RR.bP (nmE rfl) (RR.bP (vUn (bE (kME _) (negI _))) (getG (xs := p152.2) rfl)))) fun a153 => (RR.bP (kME _) (RR.of (addII _ _))))))) (RR.of (kME _))))) (fun _ => rfl) fun start_154 => (sSeqKill (sKill (st' := [some ((pu (e2 eI (eV (e2 eI eI)))) web0), some ((pu eI) size0), some ((ls (eV eI)) p152.1), some ((pu (eV eI)) p152.2), some ((pu eI) start_154), none, none]) (wipeE rfl) (sForM eI (S := fun (s155 : ((List (List Int)))) => [some ((pu (e2 eI (eV (e2 eI eI)))) web0), some ((pu eI) size0), some ((ls (eV eI)) s155), some ((pu (eV eI)) p152.2), none, none, none]) (s0 := p152.1) (cP (vBin (bE (vBin (bE (nmE rfl) (bE (kME _) (ix20 _)))) (bE (kME _) (subII _ _)))) (cP (vBin (bE (nmE rfl) (bE (kME _) (subII _ _)))) (cP (vUn (bE (kME _) (negI _))) (cN (range3G _ _ _))))) (wipeE rfl) (fun x156 s155 => (RR.bP (a := [some ((pu (e2 eI (eV (e2 eI eI)))) web0), some ((pu eI) size0), some ((ls (eV eI)) s155), some ((pu (eV eI)) p152.2), none, some ((pu eI) x156), none]) rfl (sJoin (P := fun st u161 => wipeD st [4, 5] = [some ((pu (e2 eI (eV (e2 eI eI)))) web0), some ((pu eI) size0), some ((ls (eV eI)) u161), some ((pu (eV eI)) p152.2), none, none, none]) (sIteM1 (cTMm (uCall (cM (lcMP eI (S := fun x157 => [some ((pu (e2 eI (eV (e2 eI eI)))) web0), some ((pu eI) size0), some ((ls (eV eI)) s155), some ((pu (eV eI)) p152.2), none, some ((pu eI) x156), some ((pu eI) x157)]) (tc := (fun (x157 : Int) => T.ret true)) (tv := (fun (x157 : Int) => t_has_road web0 x157 x156)) (ev := eB) (itE (nmE rfl) rfl) (fun _ => rfl) (fun x157 => (RR.of (yesE _))) fun x157 => (uUn (frzR (uCallD (cP (nmE rfl) (cP (nmE rfl) (cP (nmE rfl) (cN (cIf ⟨rfl, rfl⟩ (ref_has_road web0 x157 x156)))))))))) fun a158 => (cN (RR.of (a1E (allG (xs := a158) rfl))))))) (sOne (sAppM (st' := fun waiting_159 => [some ((pu (e2 eI (eV (e2 eI eI)))) web0), some ((pu eI) size0), some ((ls (eV eI)) waiting_159), some ((pu (eV eI)) p152.2), none, some ((pu eI) x156), none]) rfl (uUn (frzR (uBin (RR.bP (nmE rfl) (RR.bP (vTup (cE (nmE rfl) (cNE (dispT (pu (eV eI) ([x156] : List Int)) rfl (Nat.le_of_ble_eq_true rfl) rfl)))) (catV _ _)))))) (fun _ => rfl) fun waiting_159 => (sLeaf ⟨rfl, wipeE rfl⟩))) (sLeaf ⟨rfl, wipeE rfl⟩)) fun _ u161 hu161 => (sKill (st' := [some ((pu (e2 eI (eV (e2 eI eI)))) web0), some ((pu eI) size0), some ((ls (eV eI)) u161), some ((pu (eV eI)) p152.2), none, none, none]) hu161 (sKill (wipeE rfl) (sLeaf ⟨.inl rfl, rfl⟩)))))) fun s163 => (sKill (st' := [some ((pu (e2 eI (eV (e2 eI eI)))) web0), some ((pu eI) size0), some ((ls (eV eI)) s163), none, none, none, none]) (wipeE rfl) (sKill (wipeE rfl) (sLeaf (a := (Stp.nx s163)) ⟨.inl rfl, rfl⟩)))))))))))) (fun _ _ _ _ h => .inl h) fun _ u167 hu167 => (sKill (st' := [none, none, none, none, none, none, none]) hu167 (sRetP (kME _) (.inl rfl))))))))

@[irreducible] noncomputable def t_roads_paper (web0 : (Int × (List (Int × Int)))) (k0 : Int) : T D :=
  ((t_full_size web0 >>= fun a149 => T.ret (decide ((k0 + (1 : Int)) ≤ a149))) >>= fun b169 => if b169 = true then t_some_full web0 (k0 + (1 : Int)) else T.ret (none : (Option (List Int)))) >>= fun (found_170 : (Option (List Int))) =>
  T.ret (if (Option.isSome found_170) = true then ((e2 eS (eO (eV eI))) (("full" : Str), found_170)) else ((e2 eS eI) (("few" : Str), (Int.ofNat (List.length web0.2)))))

theorem ref_roads_paper (web0 : (Int × (List (Int × Int)))) (k0 : Int) : RE (d_roads_paper [pu (e2 eI (eV (e2 eI eI))) web0, pu eI k0]) (t_roads_paper web0 k0) (pu eD) := by
  unfold d_roads_paper t_roads_paper
  refine bodyR ?_
  unfold b_D_roads_paper
  exact (sEq (st' := [some ((pu (e2 eI (eV (e2 eI eI)))) web0), some ((pu eI) k0), none]) rfl (sAsgM (e := (pu (eO (eV eI)))) (st' := fun found_170 => [some ((pu (e2 eI (eV (e2 eI eI)))) web0), some ((pu eI) k0), some ((pu (eO (eV eI))) found_170)]) (uUn (frzR (iteMm (cBMm (uBin (RR.bP (vBin (bE (nmE rfl) (bE (kME _) (addII _ _)))) (RR.bM (uCallD (cP (nmE rfl) (cN (cIf ⟨rfl, rfl⟩ (ref_full_size web0))))) fun a149 => (RR.of (leAI _ _)))))) (uUn (frzR (uCallD (cP (nmE rfl) (cP (vUn (bE (vBin (bE (nmE rfl) (bE (kME _) (addII _ _)))) rfl)) (cN (cIf ⟨rfl, rfl⟩ (ref_some_full web0 (k0 + (1 : Int)))))))))) (RR.of (kME _))))) (fun _ => rfl) fun found_170 => (sRetP (iteE2 (em := (pu eD)) (cBM (vBin (bE (nmE rfl) (bE (kME _) (isnO _ fun _ => rfl))))) (coP (e2 eS (eO (eV eI))) (vTup (cE (kME _) (cE (nmE rfl) (cNE (dispT (pu (e2 eS (eO (eV eI))) (("full" : Str), found_170)) rfl (Nat.le_of_ble_eq_true rfl) rfl))))) (fun _ => rfl)) (coP (e2 eS eI) (vTup (cE (kME _) (cE (vCall (cE (vBin (bE (nmE rfl) (bE (kME _) (ix21 _)))) (cNE (a1E (lenV _))))) (cNE (dispT (pu (e2 eS eI) (("few" : Str), (Int.ofNat (List.length web0.2)))) rfl (Nat.le_of_ble_eq_true rfl) rfl))))) (fun _ => rfl))) (.inl rfl))))

@[irreducible] noncomputable def t__law_is_integer (value0 : D) : T Bool :=
  (isT .int value0 >>= fun b193 => andK b193 ((isT .bool value0 >>= fun b192 => T.ret (!b192))))

theorem ref__law_is_integer (value0 : D) : RE (d__law_is_integer [pu eD value0]) (t__law_is_integer value0) (pu eB) := by
  unfold d__law_is_integer t__law_is_integer
  refine bodyR ?_
  unfold b_D__law_is_integer
  exact (sEq (st' := [some ((pu eD) value0)]) rfl (sRetM0 (uAnd (uUn (RR.bP (nmE rfl) (isiG _))) (uNot (uUn (RR.bP (nmE rfl) (isiG _))))) fun _ => .inl rfl))

@[irreducible] noncomputable def t__law_table (web0 : (Int × (List (Int × Int)))) : T (List (List Bool)) :=
  (rangeT web0.1 >>= fun a211 => lcT a211 (fun (x210 : Int) => T.ret true) (fun (x210 : Int) => repT ([false] : List Bool) web0.1)) >>= fun (found_212 : (List (List Bool))) =>
  forT web0.2 found_212 (fun (s213 : ((List (List Bool)))) (x214 : (Int × Int)) =>
  setRT s213 x214.1 x214.2 true >>= fun (found_215 : (List (List Bool))) =>
  setRT found_215 x214.2 x214.1 true >>= fun (found_216 : (List (List Bool))) =>
  T.ret found_216) >>= fun (s217 : ((List (List Bool)))) =>
  T.ret s217

theorem ref__law_table (web0 : (Int × (List (Int × Int)))) : RE (d__law_table [pu (e2 eI (eV (e2 eI eI))) web0]) (t__law_table web0) (l2 eB) := by
  unfold d__law_table t__law_table
  refine bodyR ?_
  unfold b_D__law_table
  exact (sEq (st' := [some ((pu (e2 eI (eV (e2 eI eI)))) web0), none, none, none]) rfl (sAsgM (e := (l2 eB)) (st' := fun found_212 => [some ((pu (e2 eI (eV (e2 eI eI)))) web0), some ((l2 eB) found_212), none, none]) (lcLM eI (S := fun x210 => [some ((pu (e2 eI (eV (e2 eI eI)))) web0), none, some ((pu eI) x210), none]) (tc := (fun (x210 : Int) => T.ret true)) (tv := (fun (x210 : Int) => repT ([false] : List Bool) web0.1)) (ev := eB) (cP (vBin (bE (nmE rfl) (bE (kME _) (ix20 _)))) (cN (range1G _))) (fun _ => rfl) (fun x210 => (RR.of (yesE _))) fun x210 => (uBin (RR.bP (vLst (cE (kME _) (cNE (dispL (ls eB ([false] : List Bool)) rfl (Nat.le_of_ble_eq_true rfl) rfl)))) (RR.bP (vBin (bE (nmE rfl) (bE (kME _) (ix20 _)))) (repG (xs := ([false] : List Bool)) rfl))))) (fun _ => rfl) fun found_212 => (sSeqKill (sKill (st' := [some ((pu (e2 eI (eV (e2 eI eI)))) web0), some ((l2 eB) found_212), none, none]) (wipeE rfl) (sForP (e2 eI eI) (S := fun (s213 : ((List (List Bool)))) => [none, some ((l2 eB) s213), none, none]) (s0 := found_212) (itP (vBin (bE (nmE rfl) (bE (kME _) (ix21 _)))) rfl) (wipeE rfl) (fun x214 s213 => (RR.bP (a := [none, some ((l2 eB) s213), some ((pu eI) x214.1), some ((pu eI) x214.2)]) rfl (sSetRP (a := true) (st' := fun found_215 => [none, some ((l2 eB) found_215), some ((pu eI) x214.1), some ((pu eI) x214.2)]) rfl (nmE rfl) (nmE rfl) (kME _) (fun _ => rfl) fun found_215 => (sSetRP (a := true) (st' := fun found_216 => [none, some ((l2 eB) found_216), some ((pu eI) x214.1), some ((pu eI) x214.2)]) rfl (nmE rfl) (nmE rfl) (kME _) (fun _ => rfl) fun found_216 => (sKill (wipeE rfl) (sLeaf ⟨.inl rfl, rfl⟩)))))) fun s217 => (sKill (st' := [none, some ((l2 eB) s217), none, none]) (wipeE rfl) (sRetP (nmE rfl) (.inl rfl))))))))

@[irreducible] noncomputable def t__law_full_fault (web0 : (Int × (List (Int × Int)))) (size0 : Int) (value0 : D) : T D :=
  ((isT .tuple value0 >>= fun b189 => T.ret (!b189)) >>= fun b190 => orK b190 (((castT (dcV some) value0 >>= fun a187 => T.ret (Int.ofNat (List.length a187))) >>= fun a188 => T.ret (!decide (a188 = (size0 + (1 : Int))))))) >>= fun b240 => if b240 = true then (T.ret (eS ("form" : Str))) else ((((castT (dcV some) value0 >>= fun a198 => lcT a198 (fun (x191 : D) => T.ret true) (fun (x191 : D) => (t__law_is_integer x191 >>= fun b197 => andK b197 ((T.ret (0 : Int) >>= fun k194 => castT dcI x191 >>= fun k195 => if decide (k194 ≤ k195) = true then T.ret web0.1 >>= fun k196 => T.ret (decide (k195 < k196)) else T.ret false))))) >>= fun a199 => T.ret (List.all a199 id)) >>= fun b200 => T.ret (!b200)) >>= fun b239 => if b239 = true then (T.ret (eS ("form" : Str))) else ((((castT (dcV some) value0 >>= fun a204 => (castT (dcV dcI) value0 >>= fun c201 => T.ret (some (1 : Int)) >>= fun c202 => T.ret none >>= fun c203 => T.ret (cutI c201 c202 c203)) >>= fun a205 => T.ret (List.zip a204 a205)) >>= fun a208 => lcT a208 (fun (x206 : (D × Int)) => T.ret true) (fun (x206 : (D × Int)) => (castT dcI x206.1 >>= fun a207 => T.ret (decide (x206.2 ≤ a207))))) >>= fun a209 => T.ret (List.any a209 id)) >>= fun b238 => if b238 = true then (T.ret (eS ("form" : Str))) else (t__law_table web0 >>= fun (near_218 : (List (List Bool))) =>
  (castT (dcV some) value0 >>= fun a219 => T.ret (enumI a219)) >>= fun r237 => forX r237 () (fun (s220 : Unit) (x221 : (Int × D)) =>
  (((castT (dcV dcI) value0 >>= fun c222 => T.ret (some (x221.1 + (1 : Int))) >>= fun c223 => T.ret none >>= fun c224 => T.ret (cutI c222 c223 c224)) >>= fun a229 => lcT a229 (fun (x225 : Int) => (((castT dcI x221.2 >>= fun a226 => getI near_218 a226) >>= fun a227 => getI a227 x225) >>= fun b228 => T.ret (!b228))) (fun (x225 : Int) => T.ret x225)) >>= fun (some_230 : (List Int)) =>
  if (!decide (some_230 = ([] : List Int))) = true then (((getI some_230 (0 : Int) >>= fun a231 => T.ret (("apart" : Str), x221.2, a231)) >>= fun c232 => T.ret ((e3 eS eD eI) c232)) >>= fun r233 => T.ret (Stp.rt r233)) else (T.ret (Stp.nx ())) : T (Stp D Unit Unit))) (fun (s220 : Unit) => ()) >>= sumK (fun r236 => T.ret (r236)) (fun (u234 : Unit) =>
  T.ret (eN ())))))

theorem ref__law_full_fault (web0 : (Int × (List (Int × Int)))) (size0 : Int) (value0 : D) : RE (d__law_full_fault [pu (e2 eI (eV (e2 eI eI))) web0, pu eI size0, pu eD value0]) (t__law_full_fault web0 size0 value0) (pu eD) := by
  unfold d__law_full_fault t__law_full_fault
  refine bodyR ?_
  unfold b_D__law_full_fault
  exact (sEq (st' := [some ((pu (e2 eI (eV (e2 eI eI)))) web0), some ((pu eI) size0), some ((pu eD) value0), none, none, none, none, none, none, none, none]) rfl (sIteM (orM' (notM (cTMm (uUn (RR.bP (nmE rfl) (isiG _))))) (cBMm (uBin (RR.bM (uCall (cM (castP (nmE rfl) (deV deD).out) fun a187 => (cN (RR.of (a1E (lenV _)))))) fun a188 => (RR.bP (vBin (bE (nmE rfl) (bE (kME _) (addII _ _)))) (RR.of (neG (a := a188) (b := (size0 + (1 : Int))) qI rfl rfl (by decide)))))))) (sDead (sRetP (coP eS (kME _) (fun _ => rfl)) (.inl rfl))) (sSk (sKill (st' := [some ((pu (e2 eI (eV (e2 eI eI)))) web0), none, some ((pu eD) value0), none, none, none, none, none, none, none, none]) (wipeE rfl) (sIteM (notM (cTMm (uCall (cM (lcM eD (S := fun x191 => [some ((pu (e2 eI (eV (e2 eI eI)))) web0), none, some ((pu eD) value0), none, none, none, none, some ((pu eD) x191), none, none, none]) (tc := (fun (x191 : D) => T.ret true)) (tv := (fun (x191 : D) => (t__law_is_integer x191 >>= fun b197 => andK b197 ((T.ret (0 : Int) >>= fun k194 => castT dcI x191 >>= fun k195 => if decide (k194 ≤ k195) = true then T.ret web0.1 >>= fun k196 => T.ret (decide (k195 < k196)) else T.ret false))))) (ev := eB) (itEM (castP (nmE rfl) (deV deD).out) fun _ => rfl) (fun _ => rfl) (fun x191 => (RR.of (yesE _))) fun x191 => (uAnd (uCallD (cP (nmE rfl) (cN (cIf ⟨rfl, rfl⟩ (ref__law_is_integer x191))))) (chainR (RR.of (kME _)) (castP (nmE rfl) deI.out) (fun k194 k195 => (leAI _ _)) (RR.of (vBin (bE (nmE rfl) (bE (kME _) (ix20 _))))) (fun k195 k196 => (ltII _ _))))) fun a199 => (cN (RR.of (a1E (allG (xs := a199) rfl)))))))) (sDead (sRetP (coP eS (kME _) (fun _ => rfl)) (.inl rfl))) (sSk (sKill (st' := [some ((pu (e2 eI (eV (e2 eI eI)))) web0), none, some ((pu eD) value0), none, none, none, none, none, none, none, none]) (wipeE rfl) (sIteM (cTMm (uCall (cM (lcM (e2 eD eI) (S := fun x206 => [some ((pu (e2 eI (eV (e2 eI eI)))) web0), none, some ((pu eD) value0), none, none, none, none, none, some ((pu eD) x206.1), some ((pu eI) x206.2), none]) (tc := (fun (x206 : (D × Int)) => T.ret true)) (tv := (fun (x206 : (D × Int)) => (castT dcI x206.1 >>= fun a207 => T.ret (decide (x206.2 ≤ a207))))) (ev := eB) (zipEM (castP (nmE rfl) (deV deD).out) (cutVR (castP (nmE rfl) (deV deI).out) (RR.of (someOE (kME _))) (RR.of noOE)) (fun _ => rfl) (fun _ => rfl)) (fun _ => rfl) (fun x206 => (RR.of (yesE _))) fun x206 => (uBin (RR.bM (castP (nmE rfl) deI.out) fun a207 => (RR.bP (nmE rfl) (RR.of (geII _ _)))))) fun a209 => (cN (RR.of (a1E (anyG (xs := a209) rfl))))))) (sDead (sRetP (coP eS (kME _) (fun _ => rfl)) (.inl rfl))) (sSk (sKill (st' := [some ((pu (e2 eI (eV (e2 eI eI)))) web0), none, some ((pu eD) value0), none, none, none, none, none, none, none, none]) (wipeE rfl) (sAsgM (e := (pu (eL (eL eB)))) (st' := fun near_218 => [some ((pu (e2 eI (eV (e2 eI eI)))) web0), none, some ((pu eD) value0), some ((pu (eL (eL eB))) near_218), none, none, none, none, none, none, none]) (uUn (frzRll (uCallD (cP (nmE rfl) (cN (cIf ⟨rfl, rfl⟩ (ref__law_table web0))))))) (fun _ => rfl) fun near_218 => (sSeqKill (sKill (st' := [none, none, some ((pu eD) value0), some ((pu (eL (eL eB))) near_218), none, none, none, none, none, none, none]) (wipeE rfl) (sForXM (e2 eI eD) (S := fun (s220 : Unit) => [none, none, some ((pu eD) value0), some ((pu (eL (eL eB))) near_218), none, none, none, none, none, none, none]) (P := fun st u234 => wipeD st [0, 1, 2, 3, 4, 5, 6] = [none, none, none, none, none, none, none, none, none, none, none]) (Rr := fun y r => y.1 = .rt ((pu eD) r)) (body := (fun (s220 : Unit) (x221 : (Int × D)) =>
  (((castT (dcV dcI) value0 >>= fun c222 => T.ret (some (x221.1 + (1 : Int))) >>= fun c223 => T.ret none >>= fun c224 => T.ret (cutI c222 c223 c224)) >>= fun a229 => lcT a229 (fun (x225 : Int) => (((castT dcI x221.2 >>= fun a226 => getI near_218 a226) >>= fun a227 => getI a227 x225) >>= fun b228 => T.ret (!b228))) (fun (x225 : Int) => T.ret x225)) >>= fun (some_230 : (List Int)) =>
  if (!decide (some_230 = ([] : List Int))) = true then (((getI some_230 (0 : Int) >>= fun a231 => T.ret (("apart" : Str), x221.2, a231)) >>= fun c232 => T.ret ((e3 eS eD eI) c232)) >>= fun r233 => T.ret (Stp.rt r233)) else (T.ret (Stp.nx ())) : T (Stp D Unit Unit)))) (fin := (fun (s220 : Unit) => ())) (s0 := ()) (inj := fun r236 => r236) (enumPM (castP (nmE rfl) (deV deD).out) fun _ => rfl) (wipeE rfl) (fun _ => wipeE rfl) (fun x221 s220 => (RR.bP (a := [none, none, some ((pu eD) value0), some ((pu (eL (eL eB))) near_218), some ((pu eI) x221.1), some ((pu eD) x221.2), none, none, none, none, none]) rfl (sAsgM (e := (ls eI)) (st' := fun some_230 => [none, none, some ((pu eD) value0), some ((pu (eL (eL eB))) near_218), some ((pu eI) x221.1), some ((pu eD) x221.2), some ((ls eI) some_230), none, none, none, none]) (lcM eI (S := fun x225 => [none, none, some ((pu eD) value0), some ((pu (eL (eL eB))) near_218), some ((pu eI) x221.1), some ((pu eD) x221.2), none, none, none, none, some ((pu eI) x225)]) (tc := (fun (x225 : Int) => (((castT dcI x221.2 >>= fun a226 => getI near_218 a226) >>= fun a227 => getI a227 x225) >>= fun b228 => T.ret (!b228)))) (tv := (fun (x225 : Int) => T.ret x225)) (ev := eI) (itEM (cutVR (castP (nmE rfl) (deV deI).out) (RR.of (someOE (vBin (bE (nmE rfl) (bE (kME _) (addII _ _)))))) (RR.of noOE)) fun _ => rfl) (fun _ => rfl) (fun x225 => (notM (cTMm (uBin (RR.bM (uBin (RR.bP (nmE rfl) (RR.bM (castP (nmE rfl) deI.out) fun a226 => (getG (xs := near_218) rfl)))) fun a227 => (RR.bP (nmE rfl) (getG (xs := a227) rfl))))))) fun x225 => (RR.of (nmPE rfl rfl))) (fun _ => rfl) fun some_230 => (sFrz (st' := [none, none, some ((pu eD) value0), some ((pu (eL (eL eB))) near_218), some ((pu eI) x221.1), some ((pu eD) x221.2), some ((pu (eL eI)) some_230), none, none, none, none]) (frzE rfl rfl rfl) (sIteP (cBM (vBin (bE (nmE rfl) (bE (vLst (cNE (dispL (ls eI ([] : List Int)) rfl (Nat.le_of_ble_eq_true rfl) rfl))) (neG (a := some_230) (b := ([] : List Int)) (qL qI) rfl rfl (by decide)))))) (fun _ => (sDead (sRetM (g := fun r233 => Stp.rt r233) (coM (e3 eS eD eI) (uTup (cP (kME _) (cP (nmE rfl) (cM (uBin (RR.bP (nmE rfl) (RR.bP (kME _) (getG (xs := some_230) rfl)))) fun a231 => (cN (RR.of (dispT (pu (e3 eS eD eI) (("apart" : Str), x221.2, a231)) rfl (Nat.le_of_ble_eq_true rfl) rfl))))))) (fun _ => rfl)) fun _ => ⟨⟨_, rfl⟩, rfl⟩))) fun _ => (sSk (sKill (st' := [none, none, some ((pu eD) value0), some ((pu (eL (eL eB))) near_218), none, none, none, none, none, none, none]) (wipeE rfl) (sKill (wipeE rfl) (sLeaf (a := (Stp.nx ())) ⟨.inl rfl, rfl⟩))))))))) (fun _ _ _ _ h => .inl h) fun _ u234 hu234 => (sKill (st' := [none, none, none, none, none, none, none, none, none, none, none]) hu234 (sRetP (coP eN (kME _) (fun _ => rfl)) (.inl rfl)))))))))))))))))

@[irreducible] noncomputable def t__law_fault (web0 : (Int × (List (Int × Int)))) (size0 : Int) (value0 : D) : T D :=
  ((isT .tuple value0 >>= fun b181 => T.ret (!b181)) >>= fun b182 => orK b182 ((((castT (dcV some) value0 >>= fun a178 => T.ret (Int.ofNat (List.length a178))) >>= fun a179 => T.ret (!decide (a179 = (2 : Int)))) >>= fun b180 => orK b180 ((((castT (dcV some) value0 >>= fun a175 => getI a175 (0 : Int)) >>= fun a176 => isT .str a176) >>= fun b177 => T.ret (!b177)))))) >>= fun b258 => if b258 = true then (T.ret (eS ("form" : Str))) else ((((castT (dcV some) value0 >>= fun a183 => getI a183 (0 : Int)) >>= fun c184 => castT dcS c184) >>= fun a185 => T.ret (decide (a185 = ("full" : Str)))) >>= fun b257 => if b257 = true then (((castT (dcV some) value0 >>= fun a186 => getI a186 (1 : Int)) >>= fun a241 => t__law_full_fault web0 size0 a241)) else ((((castT (dcV some) value0 >>= fun a242 => getI a242 (0 : Int)) >>= fun c243 => castT dcS c243) >>= fun a244 => T.ret (!decide (a244 = ("few" : Str)))) >>= fun b256 => if b256 = true then (T.ret (eS ("form" : Str))) else (((((castT (dcV some) value0 >>= fun a248 => getI a248 (1 : Int)) >>= fun a249 => t__law_is_integer a249) >>= fun b250 => T.ret (!b250)) >>= fun b251 => orK b251 ((((castT (dcV some) value0 >>= fun a245 => getI a245 (1 : Int)) >>= fun c246 => castT dcI c246) >>= fun a247 => T.ret (!decide (a247 = (Int.ofNat (List.length web0.2))))))) >>= fun b255 => if b255 = true then (T.ret (eS ("number" : Str))) else (((t__law_parted web0.1 size0 >>= fun a252 => T.ret a252.2) >>= fun a253 => T.ret (Int.ofNat (List.length a253))) >>= fun (most_254 : Int) =>
  T.ret ((eO (e2 eS eI)) (if (decide (most_254 < (Int.ofNat (List.length web0.2)))) = true then (some (("many" : Str), most_254)) else (none : (Option (Str × Int)))))))))

theorem ref__law_fault (web0 : (Int × (List (Int × Int)))) (size0 : Int) (value0 : D) : RE (d__law_fault [pu (e2 eI (eV (e2 eI eI))) web0, pu eI size0, pu eD value0]) (t__law_fault web0 size0 value0) (pu eD) := by
  unfold d__law_fault t__law_fault
  refine bodyR ?_
  unfold b_D__law_fault
  exact (sEq (st' := [some ((pu (e2 eI (eV (e2 eI eI)))) web0), some ((pu eI) size0), some ((pu eD) value0), none]) rfl (sIteM (orM' (notM (cTMm (uUn (RR.bP (nmE rfl) (isiG _))))) (orM' (cBMm (uBin (RR.bM (uCall (cM (castP (nmE rfl) (deV deD).out) fun a178 => (cN (RR.of (a1E (lenV _)))))) fun a179 => (RR.bP (kME _) (RR.of (neG (a := a179) (b := (2 : Int)) qI rfl rfl (by decide))))))) (notM (cTMm (uUn (RR.bM (uBin (RR.bM (castP (nmE rfl) (deV deD).out) fun a175 => (RR.bP (kME _) (getG (xs := a175) rfl)))) fun a176 => (isiG _))))))) (sDead (sRetP (coP eS (kME _) (fun _ => rfl)) (.inl rfl))) (sSk (sKill (st' := [some ((pu (e2 eI (eV (e2 eI eI)))) web0), some ((pu eI) size0), some ((pu eD) value0), none]) (wipeE rfl) (sIteM (cBMm (uBin (RR.bM (castM (uBin (RR.bM (castP (nmE rfl) (deV deD).out) fun a183 => (RR.bP (kME _) (getG (xs := a183) rfl)))) deS.out) fun a185 => (RR.bP (kME _) (RR.of (eqSS _ _)))))) (sDead (sRetM0 (uUn (frzR (uCallD (cP (nmE rfl) (cP (nmE rfl) (cM (uBin (RR.bM (castP (nmE rfl) (deV deD).out) fun a186 => (RR.bP (kME _) (getG (xs := a186) rfl)))) fun a241 => (cN (cIf ⟨rfl, rfl⟩ (ref__law_full_fault web0 size0 a241))))))))) fun _ => .inl rfl)) (sSk (sKill (st' := [some ((pu (e2 eI (eV (e2 eI eI)))) web0), some ((pu eI) size0), some ((pu eD) value0), none]) (wipeE rfl) (sIteM (cBMm (uBin (RR.bM (castM (uBin (RR.bM (castP (nmE rfl) (deV deD).out) fun a242 => (RR.bP (kME _) (getG (xs := a242) rfl)))) deS.out) fun a244 => (RR.bP (kME _) (RR.of (neSS _ _)))))) (sDead (sRetP (coP eS (kME _) (fun _ => rfl)) (.inl rfl))) (sSk (sKill (st' := [some ((pu (e2 eI (eV (e2 eI eI)))) web0), some ((pu eI) size0), some ((pu eD) value0), none]) (wipeE rfl) (sIteM (orM' (notM (cTMm (uCallD (cM (uBin (RR.bM (castP (nmE rfl) (deV deD).out) fun a248 => (RR.bP (kME _) (getG (xs := a248) rfl)))) fun a249 => (cN (cIf ⟨rfl, rfl⟩ (ref__law_is_integer a249))))))) (cBMm (uBin (RR.bM (castM (uBin (RR.bM (castP (nmE rfl) (deV deD).out) fun a245 => (RR.bP (kME _) (getG (xs := a245) rfl)))) deI.out) fun a247 => (RR.bP (vCall (cE (vBin (bE (nmE rfl) (bE (kME _) (ix21 _)))) (cNE (a1E (lenV _))))) (RR.of (neG (a := a247) (b := (Int.ofNat (List.length web0.2))) qI rfl rfl (by decide)))))))) (sDead (sRetP (coP eS (kME _) (fun _ => rfl)) (.inl rfl))) (sSk (sKill (st' := [some ((pu (e2 eI (eV (e2 eI eI)))) web0), some ((pu eI) size0), none, none]) (wipeE rfl) (sAsgM (e := (pu eI)) (st' := fun most_254 => [some ((pu (e2 eI (eV (e2 eI eI)))) web0), some ((pu eI) size0), none, some ((pu eI) most_254)]) (uCall (cM (uBin (RR.bM (uCallD (cP (vBin (bE (nmE rfl) (bE (kME _) (ix20 _)))) (cP (nmE rfl) (cN (cIf ⟨rfl, rfl⟩ (ref__law_parted web0.1 size0)))))) fun a252 => (RR.bP (kME _) (RR.of (ix21 _))))) fun a253 => (cN (RR.of (a1E (lenV _)))))) (fun _ => rfl) fun most_254 => (sRetP (coP (eO (e2 eS eI)) (iteE2 (em := (pu (eO (e2 eS eI)))) (cBM (vBin (bE (vCall (cE (vBin (bE (nmE rfl) (bE (kME _) (ix21 _)))) (cNE (a1E (lenV _))))) (bE (nmE rfl) (gtII _ _))))) (coP some (vTup (cE (kME _) (cE (nmE rfl) (cNE (dispT (pu (e2 eS eI) (("many" : Str), most_254)) rfl (Nat.le_of_ble_eq_true rfl) rfl))))) (fun _ => rfl)) (kME _)) (fun _ => rfl)) (.inl rfl))))))))))))))))

@[irreducible] noncomputable def t__law_full_lots (web0 : (Int × (List (Int × Int)))) (size0 : Int) : T (List (List Int)) :=
  t__law_table web0 >>= fun (near_264 : (List (List Bool))) =>
  T.ret ([([] : List Int)] : List (List Int)) >>= fun (found_265 : (List (List Int))) =>
  rangeT size0 >>= fun r282 => forT r282 found_265 (fun (s266 : ((List (List Int)))) (x267 : Int) =>
  T.ret ([] : List (List Int)) >>= fun (longer_268 : (List (List Int))) =>
  forT s266 longer_268 (fun (s269 : ((List (List Int)))) (x270 : (List Int)) =>
  (if (!decide (x270 = ([] : List Int))) = true then (getI x270 (-(1 : Int)) >>= fun a271 => T.ret (a271 + (1 : Int))) else T.ret (0 : Int)) >>= fun (begin_272 : Int) =>
  (rangeT2 begin_272 web0.1 >>= fun a277 => lcT a277 (fun (x273 : Int) => (lcT x270 (fun (x274 : Int) => T.ret true) (fun (x274 : Int) => (getI near_264 x273 >>= fun a275 => getI a275 x274)) >>= fun a276 => T.ret (List.all a276 id))) (fun (x273 : Int) => catT x270 ([x273] : List Int))) >>= fun a279 => catT s269 a279 >>= fun (longer_278 : (List (List Int))) =>
  T.ret longer_278) >>= fun (s280 : ((List (List Int)))) =>
  T.ret s280) >>= fun (s281 : ((List (List Int)))) =>
  T.ret s281

theorem ref__law_full_lots (web0 : (Int × (List (Int × Int)))) (size0 : Int) : RE (d__law_full_lots [pu (e2 eI (eV (e2 eI eI))) web0, pu eI size0]) (t__law_full_lots web0 size0) (pu (eL (eV eI))) := by
  unfold d__law_full_lots t__law_full_lots
  refine bodyR ?_
  unfold b_D__law_full_lots
  exact (sEq (st' := [some ((pu (e2 eI (eV (e2 eI eI)))) web0), some ((pu eI) size0), none, none, none, none, none, none, none, none]) rfl (uPar2 (RR.bM (e := (pu (eL (eL eB)))) (uUn (frzRll (uCallD (cP (nmE rfl) (cN (cIf ⟨rfl, rfl⟩ (ref__law_table web0))))))) fun near_264 => (RR.bM (e := (pu (eL (eV eI)))) (RR.of (vUn (bE (vLst (cE (vTup (cNE (dispT (pu (eV eI) ([] : List Int)) rfl (Nat.le_of_ble_eq_true rfl) rfl))) (cNE (dispL (ls (eV eI) ([([] : List Int)] : List (List Int))) rfl (Nat.le_of_ble_eq_true rfl) rfl)))) rfl))) fun found_265 => (sEq (st' := [some ((pu (e2 eI (eV (e2 eI eI)))) web0), some ((pu eI) size0), some ((pu (eL (eL eB))) near_264), some ((pu (eL (eV eI))) found_265), none, none, none, none, none, none]) rfl (sSeqKill (sKill (st' := [some ((pu (e2 eI (eV (e2 eI eI)))) web0), some ((pu eI) size0), some ((pu (eL (eL eB))) near_264), some ((pu (eL (eV eI))) found_265), none, none, none, none, none, none]) (wipeE rfl) (sForM eI (S := fun (s266 : ((List (List Int)))) => [some ((pu (e2 eI (eV (e2 eI eI)))) web0), none, some ((pu (eL (eL eB))) near_264), some ((pu (eL (eV eI))) s266), none, none, none, none, none, none]) (s0 := found_265) (cP (nmE rfl) (cN (range1G _))) (wipeE rfl) (fun x267 s266 => (RR.bP (a := [some ((pu (e2 eI (eV (e2 eI eI)))) web0), none, some ((pu (eL (eL eB))) near_264), some ((pu (eL (eV eI))) s266), some ((pu eI) x267), none, none, none, none, none]) rfl (sAsgM (e := (ls (eV eI))) (st' := fun longer_268 => [some ((pu (e2 eI (eV (e2 eI eI)))) web0), none, some ((pu (eL (eL eB))) near_264), some ((pu (eL (eV eI))) s266), some ((pu eI) x267), some ((ls (eV eI)) longer_268), none, none, none, none]) (RR.of (vLst (cNE (dispL (ls (eV eI) ([] : List (List Int))) rfl (Nat.le_of_ble_eq_true rfl) rfl)))) (fun _ => rfl) fun longer_268 => (sSeqKill (sKill (st' := [some ((pu (e2 eI (eV (e2 eI eI)))) web0), none, some ((pu (eL (eL eB))) near_264), some ((pu (eL (eV eI))) s266), none, some ((ls (eV eI)) longer_268), none, none, none, none]) (wipeE rfl) (sForP (eV eI) (S := fun (s269 : ((List (List Int)))) => [some ((pu (e2 eI (eV (e2 eI eI)))) web0), none, some ((pu (eL (eL eB))) near_264), none, none, some ((ls (eV eI)) s269), none, none, none, none]) (s0 := longer_268) (itP (nmE rfl) rfl) (wipeE rfl) (fun x270 s269 => (RR.bP (a := [some ((pu (e2 eI (eV (e2 eI eI)))) web0), none, some ((pu (eL (eL eB))) near_264), none, none, some ((ls (eV eI)) s269), some ((pu (eV eI)) x270), none, none, none]) rfl (sAsgM (e := (pu eI)) (st' := fun begin_272 => [some ((pu (e2 eI (eV (e2 eI eI)))) web0), none, some ((pu (eL (eL eB))) near_264), none, none, some ((ls (eV eI)) s269), some ((pu (eV eI)) x270), some ((pu eI) begin_272), none, none]) (uUn (frzR (iteP (cBM (vBin (bE (nmE rfl) (bE (vTup (cNE (dispT (pu (eV eI) ([] : List Int)) rfl (Nat.le_of_ble_eq_true rfl) rfl))) (neG (a := x270) (b := ([] : List Int)) (qV qI) rfl rfl (by decide)))))) (uUn (frzR (uBin (RR.bM (uBin (RR.bP (nmE rfl) (RR.bP (vUn (bE (kME _) (negI _))) (getG (xs := x270) rfl)))) fun a271 => (RR.bP (kME _) (RR.of (addII _ _))))))) (RR.of (kME _))))) (fun _ => rfl) fun begin_272 => (sExtM (st' := fun longer_278 => [some ((pu (e2 eI (eV (e2 eI eI)))) web0), none, some ((pu (eL (eL eB))) near_264), none, none, some ((ls (eV eI)) longer_278), some ((pu (eV eI)) x270), some ((pu eI) begin_272), none, none]) rfl (lcM eI (S := fun x273 => [some ((pu (e2 eI (eV (e2 eI eI)))) web0), none, some ((pu (eL (eL eB))) near_264), none, none, some ((ls (eV eI)) s269), some ((pu (eV eI)) x270), some ((pu eI) begin_272), some ((pu eI) x273), none]) (tc := (fun (x273 : Int) => (lcT x270 (fun (x274 : Int) => T.ret true) (fun (x274 : Int) => (getI near_264 x273 >>= fun a275 => getI a275 x274)) >>= fun a276 => T.ret (List.all a276 id)))) (tv := (fun (x273 : Int) => catT x270 ([x273] : List Int))) (ev := (eV eI)) (cP (nmE rfl) (cP (vBin (bE (nmE rfl) (bE (kME _) (ix20 _)))) (cN (range2G _ _)))) (fun _ => rfl) (fun x273 => (cTMm (uCall (cM (lcMP eI (S := fun x274 => [some ((pu (e2 eI (eV (e2 eI eI)))) web0), none, some ((pu (eL (eL eB))) near_264), none, none, some ((ls (eV eI)) s269), some ((pu (eV eI)) x270), some ((pu eI) begin_272), some ((pu eI) x273), some ((pu eI) x274)]) (tc := (fun (x274 : Int) => T.ret true)) (tv := (fun (x274 : Int) => (getI near_264 x273 >>= fun a275 => getI a275 x274))) (ev := eB) (itE (nmE rfl) rfl) (fun _ => rfl) (fun x274 => (RR.of (yesE _))) fun x274 => (uBin (RR.bM (uBin (RR.bP (nmE rfl) (RR.bP (nmE rfl) (getG (xs := near_264) rfl)))) fun a275 => (RR.bP (nmE rfl) (getG (xs := a275) rfl))))) fun a276 => (cN (RR.of (a1E (allG (xs := a276) rfl)))))))) fun x273 => (uUn (frzR (uBin (RR.bP (nmE rfl) (RR.bP (vTup (cE (nmE rfl) (cNE (dispT (pu (eV eI) ([x273] : List Int)) rfl (Nat.le_of_ble_eq_true rfl) rfl)))) (catV _ _))))))) (fun _ => rfl) (fun _ => rfl) fun longer_278 => (sKill (wipeE rfl) (sLeaf ⟨.inl rfl, rfl⟩)))))) fun s280 => (sKill (st' := [some ((pu (e2 eI (eV (e2 eI eI)))) web0), none, some ((pu (eL (eL eB))) near_264), none, none, some ((ls (eV eI)) s280), none, none, none, none]) (wipeE rfl) (sAsgP (st' := [some ((pu (e2 eI (eV (e2 eI eI)))) web0), none, some ((pu (eL (eL eB))) near_264), some ((pu (eL (eV eI))) s280), none, some ((ls (eV eI)) s280), none, none, none, none]) (vUn (bE (vCall (cE (nmE rfl) (cNE (a1E (listG (e := (eV eI)) (xs := s280) rfl))))) rfl)) rfl (sKill (wipeE rfl) (sLeaf ⟨.inl rfl, rfl⟩)))))))))) fun s281 => (sKill (st' := [none, none, none, some ((pu (eL (eV eI))) s281), none, none, none, none, none, none]) (wipeE rfl) (sRetP (nmPE rfl rfl) (.inl rfl)))))))))))

@[irreducible] noncomputable def t__law_pick_2 (some0 : (List (List Int))) : T (List Int) :=
  (t__law_draw (Int.ofNat (List.length some0)) >>= fun a286 => getI some0 a286)

theorem ref__law_pick_2 (some0 : (List (List Int))) : RE (d__law_pick [.pot, pu (eL (eV eI)) some0]) (t__law_pick_2 some0) (pu (eV eI)) := by
  unfold d__law_pick t__law_pick_2
  refine bodyR ?_
  unfold b_D__law_pick
  exact (sEq (st' := [some .pot, some ((pu (eL (eV eI))) some0)]) rfl (sRetM0 (uBin (RR.bP (nmE rfl) (RR.bM (uCallD (cP (nmE rfl) (cP (vCall (cE (nmE rfl) (cNE (a1E (lenL _))))) (cN (cIf ⟨rfl, rfl⟩ (ref__law_draw (Int.ofNat (List.length some0)))))))) fun a286 => (getG (xs := some0) rfl)))) fun _ => .inl rfl))

@[irreducible] noncomputable def t__law_pick_3 (some0 : (List D)) : T D :=
  (t__law_draw (Int.ofNat (List.length some0)) >>= fun a300 => getI some0 a300)

theorem ref__law_pick_3 (some0 : (List D)) : RE (d__law_pick [.pot, pu (eL eD) some0]) (t__law_pick_3 some0) (pu eD) := by
  unfold d__law_pick t__law_pick_3
  refine bodyR ?_
  unfold b_D__law_pick
  exact (sEq (st' := [some .pot, some ((pu (eL eD)) some0)]) rfl (sRetM0 (uBin (RR.bP (nmE rfl) (RR.bM (uCallD (cP (nmE rfl) (cP (vCall (cE (nmE rfl) (cNE (a1E (lenL _))))) (cN (cIf ⟨rfl, rfl⟩ (ref__law_draw (Int.ofNat (List.length some0)))))))) fun a300 => (getG (xs := some0) rfl)))) fun _ => .inl rfl))

@[irreducible] noncomputable def t__law_odd  : T D :=
  T.ret ([(eN ()), (eI (0 : Int)), ((eV eI) ([] : List Int)), ((eL eI) ([] : List Int)), ((eV eI) ([(0 : Int)] : List Int)), (eS ("" : Str)), (eS ("a" : Str)), (PyData.dict []), ((eV (e2 eI eI)) ([((0 : Int), (0 : Int))] : List (Int × Int))), ((e2 eI eI) ((1 : Int), (2 : Int))), (eI (3 : Int)), ((eL (eL eI)) ([([] : List Int)] : List (List Int))), (eB true), ((e2 eN eN) ((), ())), ((e2 eI eN) ((0 : Int), ()))] : List D) >>= fun (some_299 : (List D)) =>
  t__law_pick_3 some_299

theorem ref__law_odd  : RE (d__law_odd [.pot]) (t__law_odd ) (pu eD) := by
  unfold d__law_odd t__law_odd
  refine bodyR ?_
  unfold b_D__law_odd
  exact (sEq (st' := [some .pot, none]) rfl (sAsgM (e := (pu (eL eD))) (st' := fun some_299 => [some .pot, some ((pu (eL eD)) some_299)]) (RR.of (vUn (bE (vLst (cE (kME _) (cE (kME _) (cE (vTup (cNE (dispT (pu (eV eI) ([] : List Int)) rfl (Nat.le_of_ble_eq_true rfl) rfl))) (cE (vUn (bE (vLst (cNE (dispL (ls eI ([] : List Int)) rfl (Nat.le_of_ble_eq_true rfl) rfl))) rfl)) (cE (vTup (cE (kME _) (cNE (dispT (pu (eV eI) ([(0 : Int)] : List Int)) rfl (Nat.le_of_ble_eq_true rfl) rfl)))) (cE (kME _) (cE (kME _) (cE dct0E (cE (vTup (cE (vTup (cE (kME _) (cE (kME _) (cNE (dispT (pu (e2 eI eI) ((0 : Int), (0 : Int))) rfl (Nat.le_of_ble_eq_true rfl) rfl))))) (cNE (dispT (pu (eV (e2 eI eI)) ([((0 : Int), (0 : Int))] : List (Int × Int))) rfl (Nat.le_of_ble_eq_true rfl) rfl)))) (cE (vTup (cE (kME _) (cE (kME _) (cNE (dispT (pu (e2 eI eI) ((1 : Int), (2 : Int))) rfl (Nat.le_of_ble_eq_true rfl) rfl))))) (cE (kME _) (cE (vUn (bE (vLst (cE (vUn (bE (vLst (cNE (dispL (ls eI ([] : List Int)) rfl (Nat.le_of_ble_eq_true rfl) rfl))) rfl)) (cNE (dispL (ls (eL eI) ([([] : List Int)] : List (List Int))) rfl (Nat.le_of_ble_eq_true rfl) rfl)))) rfl)) (cE (kME _) (cE (vTup (cE (kME _) (cE (kME _) (cNE (dispT (pu (e2 eN eN) ((), ())) rfl (Nat.le_of_ble_eq_true rfl) rfl))))) (cE (vTup (cE (kME _) (cE (kME _) (cNE (dispT (pu (e2 eI eN) ((0 : Int), ())) rfl (Nat.le_of_ble_eq_true rfl) rfl))))) (cNE (dispL (ls eD ([(eN ()), (eI (0 : Int)), ((eV eI) ([] : List Int)), ((eL eI) ([] : List Int)), ((eV eI) ([(0 : Int)] : List Int)), (eS ("" : Str)), (eS ("a" : Str)), (PyData.dict []), ((eV (e2 eI eI)) ([((0 : Int), (0 : Int))] : List (Int × Int))), ((e2 eI eI) ((1 : Int), (2 : Int))), (eI (3 : Int)), ((eL (eL eI)) ([([] : List Int)] : List (List Int))), (eB true), ((e2 eN eN) ((), ())), ((e2 eI eN) ((0 : Int), ()))] : List D)) rfl (Nat.le_of_ble_eq_true rfl) rfl)))))))))))))))))) rfl))) (fun _ => rfl) fun some_299 => (sRetM0 (uUn (frzR (uCallD (cP (nmE rfl) (cP (nmE rfl) (cN (cIf ⟨rfl, rfl⟩ (ref__law_pick_3 some_299)))))))) fun _ => .inl rfl)))

@[irreducible] noncomputable def t__law_values (web0 : (Int × (List (Int × Int)))) (size0 : Int) : T ((List D) × (List D)) :=
  (if (decide (size0 < (5 : Int))) = true then t__law_full_lots web0 (size0 + (1 : Int)) else T.ret ([] : List (List Int))) >>= fun (lots_285 : (List (List Int))) =>
  (if (!decide (lots_285 = ([] : List (List Int)))) = true then t__law_pick_2 lots_285 else rangeT (size0 + (1 : Int))) >>= fun (lot_287 : (List Int)) =>
  ((((rangeT web0.1 >>= fun a288 => t__law_mixed a288) >>= fun c289 => T.ret none >>= fun c290 => T.ret (some (size0 + (1 : Int))) >>= fun c291 => T.ret (cutI c289 c290 c291)) >>= fun a292 => T.ret (isort ltI a292)) >>= fun a293 => T.ret a293) >>= fun (other_294 : (List Int)) =>
  (catT lot_287 ([web0.1] : List Int) >>= fun a295 => (catT ((List.map eI) (cutI lot_287 none (some (-(1 : Int))))) ((List.map eB) ([true] : List Bool)) >>= fun a296 => (repVT ([(0 : Int)] : List Int) (size0 + (1 : Int)) >>= fun a297 => T.ret ([((eV eI) lot_287), ((eV eI) other_294), ((eV eI) (cutI lot_287 none (some (-(1 : Int))))), ((eV eI) (List.reverse lot_287)), ((eV eI) a295), ((eV eD) a296), ((eL eI) lot_287), ((eV eI) a297)] : List D)))) >>= fun (some_298 : (List D)) =>
  t__law_odd >>= fun a314 => appT some_298 a314 >>= fun (some_301 : (List D)) =>
  T.ret (List.map (fun (x302 : D) => (("full" : Str), x302)) some_301) >>= fun (values_303 : (List (Str × D))) =>
  T.ret (Int.ofNat (List.length web0.2)) >>= fun (number_304 : Int) =>
  (strT number_304 >>= fun a305 => T.ret ([(eI number_304), (eI (number_304 + (1 : Int))), (eI (number_304 - (1 : Int))), (eB (!decide (number_304 = (0 : Int)))), (eS a305), (eN ())] : List D)) >>= fun r313 => forT r313 values_303 (fun (s306 : ((List (Str × D)))) (x307 : D) =>
  appT s306 (("few" : Str), x307) >>= fun (values_308 : (List (Str × D))) =>
  T.ret values_308) >>= fun (s309 : ((List (Str × D)))) =>
  (((t__law_odd >>= fun a310 => T.ret ([((eV eS) ([("full" : Str)] : List Str)), ((eL eD) ([(eS ("few" : Str)), (eI number_304)] : List D)), ((e2 eS eI) (("roads" : Str), number_304)), ((e3 eS eI eI) (("few" : Str), number_304, (0 : Int))), a310] : List D)) >>= fun a311 => catT (List.map (e2 eS eD) s309) a311) >>= fun a312 => T.ret (a312, some_301))

theorem ref__law_values (web0 : (Int × (List (Int × Int)))) (size0 : Int) : RE (d__law_values [.pot, pu (e2 eI (eV (e2 eI eI))) web0, pu eI size0]) (t__law_values web0 size0) (pu (e2 (eL eD) (eL eD))) := by
  unfold d__law_values t__law_values
  refine bodyR ?_
  unfold b_D__law_values
  exact (sEq (st' := [some .pot, some ((pu (e2 eI (eV (e2 eI eI)))) web0), some ((pu eI) size0), none, none, none, none, none, none, none]) rfl (sAsgM (e := (pu (eL (eV eI)))) (st' := fun lots_285 => [some .pot, some ((pu (e2 eI (eV (e2 eI eI)))) web0), some ((pu eI) size0), some ((pu (eL (eV eI))) lots_285), none, none, none, none, none, none]) (uUn (frzR (iteP (cBM (vBin (bE (nmE rfl) (bE (kME _) (ltII _ _))))) (uUn (frzR (uCallD (cP (nmE rfl) (cP (vUn (bE (vBin (bE (nmE rfl) (bE (kME _) (addII _ _)))) rfl)) (cN (cIf ⟨rfl, rfl⟩ (ref__law_full_lots web0 (size0 + (1 : Int)))))))))) (RR.of (vUn (bE (vLst (cNE (dispL (ls (eV eI) ([] : List (List Int))) rfl (Nat.le_of_ble_eq_true rfl) rfl))) rfl)))))) (fun _ => rfl) fun lots_285 => (sAsgM (e := (pu (eV eI))) (st' := fun lot_287 => [some .pot, some ((pu (e2 eI (eV (e2 eI eI)))) web0), some ((pu eI) size0), some ((pu (eL (eV eI))) lots_285), some ((pu (eV eI)) lot_287), none, none, none, none, none]) (uUn (frzR (iteP (cBM (vBin (bE (nmE rfl) (bE (vLst (cNE (dispL (ls (eV eI) ([] : List (List Int))) rfl (Nat.le_of_ble_eq_true rfl) rfl))) (neG (a := lots_285) (b := ([] : List (List Int))) (qL (qV qI)) rfl rfl (by decide)))))) (uUn (frzR (uCallD (cP (nmE rfl) (cP (nmE rfl) (cN (cIf ⟨rfl, rfl⟩ (ref__law_pick_2 lots_285)))))))) (uRgT (cP (vBin (bE (nmE rfl) (bE (kME _) (addII _ _)))) (cN (rgTG _))))))) (fun _ => rfl) fun lot_287 => (sAsgM (e := (pu (eV eI))) (st' := fun other_294 => [some .pot, some ((pu (e2 eI (eV (e2 eI eI)))) web0), some ((pu eI) size0), some ((pu (eL (eV eI))) lots_285), some ((pu (eV eI)) lot_287), some ((pu (eV eI)) other_294), none, none, none, none]) (uCall (cM (uCall (cM (cutLR (uCallD (cP (nmE rfl) (cM (uUn (frzRl (uRgL (cP (vBin (bE (nmE rfl) (bE (kME _) (ix20 _)))) (cN (rgLG _)))))) fun a288 => (cN (cIf ⟨rfl, rfl⟩ (ref__law_mixed a288)))))) (fun _ => rfl) (RR.of noOE) (RR.of (someOE (vBin (bE (nmE rfl) (bE (kME _) (addII _ _))))))) fun a292 => (cN (RR.of (a1E (sortG oI (xs := a292) rfl (by decide) (sort_ints _))))))) fun a293 => (cN (RR.of (a1E (tupG (e := eI) (xs := a293) rfl)))))) (fun _ => rfl) fun other_294 => (sAsgM (e := (ls eD)) (st' := fun some_298 => [some .pot, some ((pu (e2 eI (eV (e2 eI eI)))) web0), some ((pu eI) size0), some ((pu (eL (eV eI))) lots_285), some ((pu (eV eI)) lot_287), some ((pu (eV eI)) other_294), some ((ls eD) some_298), none, none, none]) (uLst (cP (nmE rfl) (cP (nmE rfl) (cP (vUn (bE (cutVE (nmE rfl) noOE (someOE (vUn (bE (kME _) (negI _))))) rfl)) (cP (vUn (bE (vUn (bE (nmE rfl) revAV)) rfl)) (cM (uUn (frzR (uBin (RR.bP (nmE rfl) (RR.bP (vTup (cE (vBin (bE (nmE rfl) (bE (kME _) (ix20 _)))) (cNE (dispT (pu (eV eI) ([web0.1] : List Int)) rfl (Nat.le_of_ble_eq_true rfl) rfl)))) (catV _ _)))))) fun a295 => (cM (uUn (frzR (uBin (RR.bP (coP (List.map eI) (cutVE (nmE rfl) noOE (someOE (vUn (bE (kME _) (negI _))))) (mapV (fun _ => rfl))) (RR.bP (coP (List.map eB) (vTup (cE (kME _) (cNE (dispT (pu (eV eB) ([true] : List Bool)) rfl (Nat.le_of_ble_eq_true rfl) rfl)))) (mapV (fun _ => rfl))) (catV _ _)))))) fun a296 => (cP (vUn (bE (vCall (cE (nmE rfl) (cNE (a1E (listG (e := eI) (xs := lot_287) rfl))))) rfl)) (cM (uUn (frzR (uBin (RR.bP (vTup (cE (kME _) (cNE (dispT (pu (eV eI) ([(0 : Int)] : List Int)) rfl (Nat.le_of_ble_eq_true rfl) rfl)))) (RR.bP (vBin (bE (nmE rfl) (bE (kME _) (addII _ _)))) (repVG _ _)))))) fun a297 => (cN (RR.of (dispL (ls eD ([((eV eI) lot_287), ((eV eI) other_294), ((eV eI) (cutI lot_287 none (some (-(1 : Int))))), ((eV eI) (List.reverse lot_287)), ((eV eI) a295), ((eV eD) a296), ((eL eI) lot_287), ((eV eI) a297)] : List D)) rfl (Nat.le_of_ble_eq_true rfl) rfl)))))))))))) (fun _ => rfl) fun some_298 => (sAppM (st' := fun some_301 => [some .pot, some ((pu (e2 eI (eV (e2 eI eI)))) web0), some ((pu eI) size0), some ((pu (eL (eV eI))) lots_285), some ((pu (eV eI)) lot_287), some ((pu (eV eI)) other_294), some ((ls eD) some_301), none, none, none]) rfl (uUn (frzR (uCallD (cP (nmE rfl) (cN (cIf ⟨rfl, rfl⟩ (ref__law_odd))))))) (fun _ => rfl) fun some_301 => (sAsgM (e := (ls (e2 eS eD))) (st' := fun values_303 => [some .pot, some ((pu (e2 eI (eV (e2 eI eI)))) web0), some ((pu eI) size0), some ((pu (eL (eV eI))) lots_285), some ((pu (eV eI)) lot_287), some ((pu (eV eI)) other_294), some ((ls eD) some_301), some ((ls (e2 eS eD)) values_303), none, none]) (RR.of (lcE1 eD (S := fun x302 => [some .pot, some ((pu (e2 eI (eV (e2 eI eI)))) web0), some ((pu eI) size0), some ((pu (eL (eV eI))) lots_285), some ((pu (eV eI)) lot_287), some ((pu (eV eI)) other_294), some ((ls eD) some_301), none, none, some ((pu eD) x302)]) (v := fun (x302 : D) => (("full" : Str), x302)) (ev := (e2 eS eD)) (itE (nmE rfl) rfl) (fun _ => rfl) fun x302 => (vTup (cE (kME _) (cE (nmE rfl) (cNE (dispT (pu (e2 eS eD) (("full" : Str), x302)) rfl (Nat.le_of_ble_eq_true rfl) rfl))))))) (fun _ => rfl) fun values_303 => (sAsgM (e := (pu eI)) (st' := fun number_304 => [some .pot, some ((pu (e2 eI (eV (e2 eI eI)))) web0), some ((pu eI) size0), some ((pu (eL (eV eI))) lots_285), some ((pu (eV eI)) lot_287), some ((pu (eV eI)) other_294), some ((ls eD) some_301), some ((ls (e2 eS eD)) values_303), some ((pu eI) number_304), none]) (RR.of (vCall (cE (vBin (bE (nmE rfl) (bE (kME _) (ix21 _)))) (cNE (a1E (lenV _)))))) (fun _ => rfl) fun number_304 => (sSeqKill (sKill (st' := [some .pot, none, none, none, none, none, some ((ls eD) some_301), some ((ls (e2 eS eD)) values_303), some ((pu eI) number_304), none]) (wipeE rfl) (sForM eD (S := fun (s306 : ((List (Str × D)))) => [some .pot, none, none, none, none, none, some ((ls eD) some_301), some ((ls (e2 eS eD)) s306), some ((pu eI) number_304), none]) (s0 := values_303) (itPM (uUn (frzRl (uLst (cP (nmE rfl) (cP (vUn (bE (vBin (bE (nmE rfl) (bE (kME _) (addII _ _)))) rfl)) (cP (vBin (bE (nmE rfl) (bE (kME _) (subII _ _)))) (cP (vCall (cE (nmE rfl) (cNE (a1E (boolI _))))) (cM (uCall (cP (nmE rfl) (cN (a1R (strG _))))) fun a305 => (cP (kME _) (cN (RR.of (dispL (ls eD ([(eI number_304), (eI (number_304 + (1 : Int))), (eI (number_304 - (1 : Int))), (eB (!decide (number_304 = (0 : Int)))), (eS a305), (eN ())] : List D)) rfl (Nat.le_of_ble_eq_true rfl) rfl)))))))))))) fun _ => rfl) (wipeE rfl) (fun x307 s306 => (RR.bP (a := [some .pot, none, none, none, none, none, some ((ls eD) some_301), some ((ls (e2 eS eD)) s306), some ((pu eI) number_304), some ((pu eD) x307)]) rfl (sAppP (a := (("few" : Str), x307)) (st' := fun values_308 => [some .pot, none, none, none, none, none, some ((ls eD) some_301), some ((ls (e2 eS eD)) values_308), some ((pu eI) number_304), some ((pu eD) x307)]) rfl (vTup (cE (kME _) (cE (nmE rfl) (cNE (dispT (pu (e2 eS eD) (("few" : Str), x307)) rfl (Nat.le_of_ble_eq_true rfl) rfl))))) (fun _ => rfl) fun values_308 => (sKill (wipeE rfl) (sLeaf ⟨.inl rfl, rfl⟩))))) fun s309 => (sKill (st' := [some .pot, none, none, none, none, none, some ((ls eD) some_301), some ((ls (e2 eS eD)) s309), some ((pu eI) number_304), none]) (wipeE rfl) (sFrz (st' := [some .pot, none, none, none, none, none, some ((pu (eL eD)) some_301), some ((ls (e2 eS eD)) s309), some ((pu eI) number_304), none]) (frzE rfl rfl rfl) (sRetM0 (uTup (cM (uUn (frzRl (uBin (RR.bP (coLP (e2 eS eD) (nmE rfl) (fun _ => rfl)) (RR.bM (uLst (cP (vTup (cE (kME _) (cNE (dispT (pu (eV eS) ([("full" : Str)] : List Str)) rfl (Nat.le_of_ble_eq_true rfl) rfl)))) (cP (vUn (bE (vLst (cE (kME _) (cE (nmE rfl) (cNE (dispL (ls eD ([(eS ("few" : Str)), (eI number_304)] : List D)) rfl (Nat.le_of_ble_eq_true rfl) rfl))))) rfl)) (cP (vTup (cE (kME _) (cE (nmE rfl) (cNE (dispT (pu (e2 eS eI) (("roads" : Str), number_304)) rfl (Nat.le_of_ble_eq_true rfl) rfl))))) (cP (vTup (cE (kME _) (cE (nmE rfl) (cE (kME _) (cNE (dispT (pu (e3 eS eI eI) (("few" : Str), number_304, (0 : Int))) rfl (Nat.le_of_ble_eq_true rfl) rfl)))))) (cM (uUn (frzR (uCallD (cP (nmE rfl) (cN (cIf ⟨rfl, rfl⟩ (ref__law_odd))))))) fun a310 => (cN (RR.of (dispL (ls eD ([((eV eS) ([("full" : Str)] : List Str)), ((eL eD) ([(eS ("few" : Str)), (eI number_304)] : List D)), ((e2 eS eI) (("roads" : Str), number_304)), ((e3 eS eI eI) (("few" : Str), number_304, (0 : Int))), a310] : List D)) rfl (Nat.le_of_ble_eq_true rfl) rfl))))))))) fun a311 => (catLL (xs := (List.map (e2 eS eD) s309)) (ys := a311) rfl rfl)))))) fun a312 => (cP (nmE rfl) (cN (RR.of (dispT (pu (e2 (eL eD) (eL eD)) (a312, some_301)) rfl (Nat.le_of_ble_eq_true rfl) rfl)))))) fun _ => .inl rfl))))))))))))))

@[irreducible] noncomputable def t_is_number (value0 : D) : T Bool :=
  (isT .int value0 >>= fun b333 => andK b333 ((isT .bool value0 >>= fun b332 => T.ret (!b332))))

theorem ref_is_number (value0 : D) : RE (d_is_number [pu eD value0]) (t_is_number value0) (pu eB) := by
  unfold d_is_number t_is_number
  refine bodyR ?_
  unfold b_D_is_number
  exact (sEq (st' := [some ((pu eD) value0)]) rfl (sRetM0 (uAnd (uUn (RR.bP (nmE rfl) (isiG _))) (uNot (uUn (RR.bP (nmE rfl) (isiG _))))) fun _ => .inl rfl))

@[irreducible] noncomputable def t_is_within (value0 : D) (least0 : Int) (most0 : Int) : T Bool :=
  (t_is_number value0 >>= fun b337 => andK b337 ((T.ret least0 >>= fun k334 => castT dcI value0 >>= fun k335 => if decide (k334 ≤ k335) = true then T.ret most0 >>= fun k336 => T.ret (decide (k335 ≤ k336)) else T.ret false)))

theorem ref_is_within (value0 : D) (least0 : Int) (most0 : Int) : RE (d_is_within [pu eD value0, pu eI least0, pu eI most0]) (t_is_within value0 least0 most0) (pu eB) := by
  unfold d_is_within t_is_within
  refine bodyR ?_
  unfold b_D_is_within
  exact (sEq (st' := [some ((pu eD) value0), some ((pu eI) least0), some ((pu eI) most0)]) rfl (sRetM0 (uAnd (uCallD (cP (nmE rfl) (cN (cIf ⟨rfl, rfl⟩ (ref_is_number value0))))) (chainR (RR.of (nmE rfl)) (castP (nmE rfl) deI.out) (fun k334 k335 => (leAI _ _)) (RR.of (nmE rfl)) (fun k335 k336 => (leAI _ _)))) fun _ => .inl rfl))

@[irreducible] noncomputable def t_is_house_row (web0 : (Int × (List (Int × Int)))) (value0 : D) (size0 : Int) : T Bool :=
  ((isT .tuple value0 >>= fun b329 => T.ret (!b329)) >>= fun b330 => orK b330 (((castT (dcV some) value0 >>= fun a327 => T.ret (Int.ofNat (List.length a327))) >>= fun a328 => T.ret (!decide (a328 = size0))))) >>= fun b351 => if b351 = true then (T.ret false) else ((((castT (dcV some) value0 >>= fun a338 => lcT a338 (fun (x331 : D) => T.ret true) (fun (x331 : D) => t_is_within x331 (0 : Int) (web0.1 - (1 : Int)))) >>= fun a339 => T.ret (List.all a339 id)) >>= fun b340 => T.ret (!b340)) >>= fun b350 => if b350 = true then (T.ret false) else ((((castT (dcV some) value0 >>= fun a344 => (castT (dcV dcI) value0 >>= fun c341 => T.ret (some (1 : Int)) >>= fun c342 => T.ret none >>= fun c343 => T.ret (cutI c341 c342 c343)) >>= fun a345 => T.ret (List.zip a344 a345)) >>= fun a348 => lcT a348 (fun (x346 : (D × Int)) => T.ret true) (fun (x346 : (D × Int)) => (castT dcI x346.1 >>= fun a347 => T.ret (decide (a347 < x346.2))))) >>= fun a349 => T.ret (List.all a349 id))))

theorem ref_is_house_row (web0 : (Int × (List (Int × Int)))) (value0 : D) (size0 : Int) : RE (d_is_house_row [pu (e2 eI (eV (e2 eI eI))) web0, pu eD value0, pu eI size0]) (t_is_house_row web0 value0 size0) (pu eB) := by
  unfold d_is_house_row t_is_house_row
  refine bodyR ?_
  unfold b_D_is_house_row
  exact (sEq (st' := [some ((pu (e2 eI (eV (e2 eI eI)))) web0), some ((pu eD) value0), some ((pu eI) size0), none, none, none]) rfl (sIteM (orM' (notM (cTMm (uUn (RR.bP (nmE rfl) (isiG _))))) (cBMm (uBin (RR.bM (uCall (cM (castP (nmE rfl) (deV deD).out) fun a327 => (cN (RR.of (a1E (lenV _)))))) fun a328 => (RR.bP (nmE rfl) (RR.of (neG (a := a328) (b := size0) qI rfl rfl (by decide)))))))) (sDead (sRetP (kME _) (.inl rfl))) (sSk (sKill (st' := [some ((pu (e2 eI (eV (e2 eI eI)))) web0), some ((pu eD) value0), none, none, none, none]) (wipeE rfl) (sIteM (notM (cTMm (uCall (cM (lcM eD (S := fun x331 => [some ((pu (e2 eI (eV (e2 eI eI)))) web0), some ((pu eD) value0), none, some ((pu eD) x331), none, none]) (tc := (fun (x331 : D) => T.ret true)) (tv := (fun (x331 : D) => t_is_within x331 (0 : Int) (web0.1 - (1 : Int)))) (ev := eB) (itEM (castP (nmE rfl) (deV deD).out) fun _ => rfl) (fun _ => rfl) (fun x331 => (RR.of (yesE _))) fun x331 => (uUn (frzR (uCallD (cP (nmE rfl) (cP (kME _) (cP (vBin (bE (vBin (bE (nmE rfl) (bE (kME _) (ix20 _)))) (bE (kME _) (subII _ _)))) (cN (cIf ⟨rfl, rfl⟩ (ref_is_within x331 (0 : Int) (web0.1 - (1 : Int)))))))))))) fun a339 => (cN (RR.of (a1E (allG (xs := a339) rfl)))))))) (sDead (sRetP (kME _) (.inl rfl))) (sSk (sKill (st' := [none, some ((pu eD) value0), none, none, none, none]) (wipeE rfl) (sRetM0 (uCall (cM (lcM (e2 eD eI) (S := fun x346 => [none, some ((pu eD) value0), none, none, some ((pu eD) x346.1), some ((pu eI) x346.2)]) (tc := (fun (x346 : (D × Int)) => T.ret true)) (tv := (fun (x346 : (D × Int)) => (castT dcI x346.1 >>= fun a347 => T.ret (decide (a347 < x346.2))))) (ev := eB) (zipEM (castP (nmE rfl) (deV deD).out) (cutVR (castP (nmE rfl) (deV deI).out) (RR.of (someOE (kME _))) (RR.of noOE)) (fun _ => rfl) (fun _ => rfl)) (fun _ => rfl) (fun x346 => (RR.of (yesE _))) fun x346 => (uBin (RR.bM (castP (nmE rfl) deI.out) fun a347 => (RR.bP (nmE rfl) (RR.of (ltII _ _)))))) fun a349 => (cN (RR.of (a1E (allG (xs := a349) rfl)))))) fun _ => .inl rfl))))))))

@[irreducible] noncomputable def t_full_error (web0 : (Int × (List (Int × Int)))) (k0 : Int) (value0 : D) : T D :=
  (t_is_house_row web0 value0 (k0 + (1 : Int)) >>= fun b352 => T.ret (!b352)) >>= fun b372 => if b372 = true then (T.ret (eS ("form" : Str))) else ((castT (dcV some) value0 >>= fun a353 => T.ret (enumI a353)) >>= fun r371 => forX r371 () (fun (s354 : Unit) (x355 : (Int × D)) =>
  ((castT (dcV dcI) value0 >>= fun c356 => T.ret (some (x355.1 + (1 : Int))) >>= fun c357 => T.ret none >>= fun c358 => T.ret (cutI c356 c357 c358)) >>= fun r367 => forX r367 () (fun (s359 : Unit) (x360 : Int) =>
  (((castT dcI x355.2 >>= fun a361 => t_has_road web0 a361 x360) >>= fun b362 => T.ret (!b362)) >>= fun b363 => if b363 = true then (T.ret (Stp.rt ((e3 eS eD eI) (("apart" : Str), x355.2, x360)))) else (T.ret (Stp.nx ())) : T (Stp D Unit Unit))) (fun (s359 : Unit) => ()) >>= sumK (fun r366 => T.ret (Stp.rt r366)) (fun (u364 : Unit) =>
  T.ret (Stp.nx ())) : T (Stp D Unit Unit))) (fun (s354 : Unit) => ()) >>= sumK (fun r370 => T.ret (r370)) (fun (u368 : Unit) =>
  T.ret (eN ())))

theorem ref_full_error (web0 : (Int × (List (Int × Int)))) (k0 : Int) (value0 : D) : RE (d_full_error [pu (e2 eI (eV (e2 eI eI))) web0, pu eI k0, pu eD value0]) (t_full_error web0 k0 value0) (pu eD) := by
  unfold d_full_error t_full_error
  refine bodyR ?_
  unfold b_D_full_error
  exact (sEq (st' := [some ((pu (e2 eI (eV (e2 eI eI)))) web0), some ((pu eI) k0), some ((pu eD) value0), none, none, none]) rfl (sIteM (notM (cTMm (uCallD (cP (nmE rfl) (cP (nmE rfl) (cP (vUn (bE (vBin (bE (nmE rfl) (bE (kME _) (addII _ _)))) rfl)) (cN (cIf ⟨rfl, rfl⟩ (ref_is_house_row web0 value0 (k0 + (1 : Int))))))))))) (sDead (sRetP (coP eS (kME _) (fun _ => rfl)) (.inl rfl))) (sSk (sKill (st' := [some ((pu (e2 eI (eV (e2 eI eI)))) web0), none, some ((pu eD) value0), none, none, none]) (wipeE rfl) (sSeqKill (sKill (st' := [some ((pu (e2 eI (eV (e2 eI eI)))) web0), none, some ((pu eD) value0), none, none, none]) (wipeE rfl) (sForXM (e2 eI eD) (S := fun (s354 : Unit) => [some ((pu (e2 eI (eV (e2 eI eI)))) web0), none, some ((pu eD) value0), none, none, none]) (P := fun st u368 => wipeD st [0, 1, 2, 3, 4, 5] = [none, none, none, none, none, none]) (Rr := fun y r => y.1 = .rt ((pu eD) r)) (body := (fun (s354 : Unit) (x355 : (Int × D)) =>
  ((castT (dcV dcI) value0 >>= fun c356 => T.ret (some (x355.1 + (1 : Int))) >>= fun c357 => T.ret none >>= fun c358 => T.ret (cutI c356 c357 c358)) >>= fun r367 => forX r367 () (fun (s359 : Unit) (x360 : Int) =>
  (((castT dcI x355.2 >>= fun a361 => t_has_road web0 a361 x360) >>= fun b362 => T.ret (!b362)) >>= fun b363 => if b363 = true then (T.ret (Stp.rt ((e3 eS eD eI) (("apart" : Str), x355.2, x360)))) else (T.ret (Stp.nx ())) : T (Stp D Unit Unit))) (fun (s359 : Unit) => ()) >>= sumK (fun r366 => T.ret (Stp.rt r366)) (fun (u364 : Unit) =>
  T.ret (Stp.nx ())) : T (Stp D Unit Unit)))) (fin := (fun (s354 : Unit) => ())) (s0 := ()) (inj := fun r370 => r370) (enumPM (castP (nmE rfl) (deV deD).out) fun _ => rfl) (wipeE rfl) (fun _ => wipeE rfl) (fun x355 s354 => (RR.bP (a := [some ((pu (e2 eI (eV (e2 eI eI)))) web0), none, some ((pu eD) value0), some ((pu eI) x355.1), some ((pu eD) x355.2), none]) rfl (sSeqKill (sKill (st' := [some ((pu (e2 eI (eV (e2 eI eI)))) web0), none, some ((pu eD) value0), some ((pu eI) x355.1), some ((pu eD) x355.2), none]) (wipeE rfl) (sForXM eI (S := fun (s359 : Unit) => [some ((pu (e2 eI (eV (e2 eI eI)))) web0), none, some ((pu eD) value0), none, some ((pu eD) x355.2), none]) (P := fun st u364 => wipeD st [1, 3, 4, 5] = [some ((pu (e2 eI (eV (e2 eI eI)))) web0), none, some ((pu eD) value0), none, none, none]) (Rr := fun y r => y.1 = .rt ((pu eD) r)) (body := (fun (s359 : Unit) (x360 : Int) =>
  (((castT dcI x355.2 >>= fun a361 => t_has_road web0 a361 x360) >>= fun b362 => T.ret (!b362)) >>= fun b363 => if b363 = true then (T.ret (Stp.rt ((e3 eS eD eI) (("apart" : Str), x355.2, x360)))) else (T.ret (Stp.nx ())) : T (Stp D Unit Unit)))) (fin := (fun (s359 : Unit) => ())) (s0 := ()) (inj := fun r366 => Stp.rt r366) (itPM (uUn (frzR (cutVR (castP (nmE rfl) (deV deI).out) (RR.of (someOE (vBin (bE (nmE rfl) (bE (kME _) (addII _ _)))))) (RR.of noOE)))) fun _ => rfl) (wipeE rfl) (fun _ => wipeE rfl) (fun x360 s359 => (RR.bP (a := [some ((pu (e2 eI (eV (e2 eI eI)))) web0), none, some ((pu eD) value0), none, some ((pu eD) x355.2), some ((pu eI) x360)]) rfl (sIteM (notM (cTMm (uCallD (cP (nmE rfl) (cM (castP (nmE rfl) deI.out) fun a361 => (cP (nmE rfl) (cN (cIf ⟨rfl, rfl⟩ (ref_has_road web0 a361 x360))))))))) (sDead (sRetP (a := Stp.rt ((e3 eS eD eI) (("apart" : Str), x355.2, x360))) (coP (e3 eS eD eI) (vTup (cE (kME _) (cE (nmE rfl) (cE (nmE rfl) (cNE (dispT (pu (e3 eS eD eI) (("apart" : Str), x355.2, x360)) rfl (Nat.le_of_ble_eq_true rfl) rfl)))))) (fun _ => rfl)) ⟨⟨_, rfl⟩, rfl⟩)) (sSk (sKill (st' := [some ((pu (e2 eI (eV (e2 eI eI)))) web0), none, some ((pu eD) value0), none, some ((pu eD) x355.2), none]) (wipeE rfl) (sKill (wipeE rfl) (sLeaf (a := (Stp.nx ())) ⟨.inl rfl, rfl⟩))))))) (fun m _ _ _ h => ⟨⟨m, rfl⟩, h⟩) fun _ u364 hu364 => (sKill (st' := [some ((pu (e2 eI (eV (e2 eI eI)))) web0), none, some ((pu eD) value0), none, none, none]) hu364 (sKill (wipeE rfl) (sLeaf (a := (Stp.nx ())) ⟨.inl rfl, rfl⟩)))))))) (fun _ _ _ _ h => .inl h) fun _ u368 hu368 => (sKill (st' := [none, none, none, none, none, none]) hu368 (sRetP (coP eN (kME _) (fun _ => rfl)) (.inl rfl))))))))))

@[irreducible] noncomputable def t_roads_paper_error (web0 : (Int × (List (Int × Int)))) (k0 : Int) (value0 : D) : T D :=
  ((isT .tuple value0 >>= fun b324 => T.ret (!b324)) >>= fun b325 => orK b325 ((((castT (dcV some) value0 >>= fun a321 => T.ret (Int.ofNat (List.length a321))) >>= fun a322 => T.ret (!decide (a322 = (2 : Int)))) >>= fun b323 => orK b323 ((((castT (dcV some) value0 >>= fun a318 => getI a318 (0 : Int)) >>= fun a319 => isT .str a319) >>= fun b320 => T.ret (!b320)))))) >>= fun b381 => if b381 = true then (T.ret (eS ("form" : Str))) else (castT (dc2 dcS some) value0 >>= fun (p326 : (Str × D)) =>
  if (decide (p326.1 = ("full" : Str))) = true then (t_full_error web0 k0 p326.2) else (if (!decide (p326.1 = ("few" : Str))) = true then (T.ret (eS ("form" : Str))) else (((t_is_number p326.2 >>= fun b374 => T.ret (!b374)) >>= fun b375 => orK b375 ((castT dcI p326.2 >>= fun a373 => T.ret (!decide (a373 = (Int.ofNat (List.length web0.2))))))) >>= fun b380 => if b380 = true then (T.ret (eS ("number" : Str))) else (t_most_roads web0.1 k0 >>= fun (most_376 : Int) =>
  (((castT dcI p326.2 >>= fun a377 => T.ret (decide (most_376 < a377))) >>= fun b378 => if b378 = true then T.ret (some (("many" : Str), most_376)) else T.ret (none : (Option (Str × Int)))) >>= fun c379 => T.ret ((eO (e2 eS eI)) c379))))))

theorem ref_roads_paper_error (web0 : (Int × (List (Int × Int)))) (k0 : Int) (value0 : D) : RE (d_roads_paper_error [pu (e2 eI (eV (e2 eI eI))) web0, pu eI k0, pu eD value0]) (t_roads_paper_error web0 k0 value0) (pu eD) := by
  unfold d_roads_paper_error t_roads_paper_error
  refine bodyR ?_
  unfold b_D_roads_paper_error
  exact (sEq (st' := [some ((pu (e2 eI (eV (e2 eI eI)))) web0), some ((pu eI) k0), some ((pu eD) value0), none, none, none]) rfl (sIteM (orM' (notM (cTMm (uUn (RR.bP (nmE rfl) (isiG _))))) (orM' (cBMm (uBin (RR.bM (uCall (cM (castP (nmE rfl) (deV deD).out) fun a321 => (cN (RR.of (a1E (lenV _)))))) fun a322 => (RR.bP (kME _) (RR.of (neG (a := a322) (b := (2 : Int)) qI rfl rfl (by decide))))))) (notM (cTMm (uUn (RR.bM (uBin (RR.bM (castP (nmE rfl) (deV deD).out) fun a318 => (RR.bP (kME _) (getG (xs := a318) rfl)))) fun a319 => (isiG _))))))) (sDead (sRetP (coP eS (kME _) (fun _ => rfl)) (.inl rfl))) (sSk (sKill (st' := [some ((pu (e2 eI (eV (e2 eI eI)))) web0), some ((pu eI) k0), some ((pu eD) value0), none, none, none]) (wipeE rfl) (uUnp (RR.bM (e := (pu (e2 eS eD))) (castP (nmPE rfl rfl) (de2 deS deD).out) fun p326 => (RR.bP (a := (e2 eS eD) p326) rfl (RR.bP (a := [some ((pu (e2 eI (eV (e2 eI eI)))) web0), some ((pu eI) k0), some ((pu eD) value0), some ((pu eS) p326.1), some ((pu eD) p326.2), none]) rfl (sIteP (cBM (vBin (bE (nmE rfl) (bE (kME _) (eqSS _ _))))) (fun _ => (sDead (sRetM0 (uUn (frzR (uCallD (cP (nmE rfl) (cP (nmE rfl) (cP (nmE rfl) (cN (cIf ⟨rfl, rfl⟩ (ref_full_error web0 k0 p326.2))))))))) fun _ => .inl rfl))) fun _ => (sSk (sKill (st' := [some ((pu (e2 eI (eV (e2 eI eI)))) web0), some ((pu eI) k0), none, some ((pu eS) p326.1), some ((pu eD) p326.2), none]) (wipeE rfl) (sIteP (cBM (vBin (bE (nmE rfl) (bE (kME _) (neSS _ _))))) (fun _ => (sDead (sRetP (coP eS (kME _) (fun _ => rfl)) (.inl rfl)))) fun _ => (sSk (sKill (st' := [some ((pu (e2 eI (eV (e2 eI eI)))) web0), some ((pu eI) k0), none, none, some ((pu eD) p326.2), none]) (wipeE rfl) (sIteM (orM' (notM (cTMm (uCallD (cP (nmE rfl) (cN (cIf ⟨rfl, rfl⟩ (ref_is_number p326.2))))))) (cBMm (uBin (RR.bM (castP (nmE rfl) deI.out) fun a373 => (RR.bP (vCall (cE (vBin (bE (nmE rfl) (bE (kME _) (ix21 _)))) (cNE (a1E (lenV _))))) (RR.of (neG (a := a373) (b := (Int.ofNat (List.length web0.2))) qI rfl rfl (by decide)))))))) (sDead (sRetP (coP eS (kME _) (fun _ => rfl)) (.inl rfl))) (sSk (sKill (st' := [some ((pu (e2 eI (eV (e2 eI eI)))) web0), some ((pu eI) k0), none, none, some ((pu eD) p326.2), none]) (wipeE rfl) (sAsgM (e := (pu eI)) (st' := fun most_376 => [some ((pu (e2 eI (eV (e2 eI eI)))) web0), some ((pu eI) k0), none, none, some ((pu eD) p326.2), some ((pu eI) most_376)]) (uUn (frzR (uCallD (cP (vBin (bE (nmE rfl) (bE (kME _) (ix20 _)))) (cP (nmE rfl) (cN (cIf ⟨rfl, rfl⟩ (ref_most_roads web0.1 k0)))))))) (fun _ => rfl) fun most_376 => (sRetM0 (coM (eO (e2 eS eI)) (iteMm (cBMm (uBin (RR.bM (castP (nmE rfl) deI.out) fun a377 => (RR.bP (nmE rfl) (RR.of (gtII _ _)))))) (RR.of (coP some (vTup (cE (kME _) (cE (nmE rfl) (cNE (dispT (pu (e2 eS eI) (("many" : Str), most_376)) rfl (Nat.le_of_ble_eq_true rfl) rfl))))) (fun _ => rfl))) (RR.of (kME _))) (fun _ => rfl)) fun _ => .inl rfl)))))))))))))))))))

noncomputable def t_law (ns0 : List Int) : T Bool :=
  t__law_draw (13 : Int) >>= fun (many_2 : Int) =>
  (t__law_draw (12 : Int) >>= fun a1 => T.ret ((1 : Int) + a1)) >>= fun (lots_3 : Int) =>
  t__law_parted many_2 lots_3 >>= fun (due_31 : (Int × (List (Int × Int)))) =>
  (t_parted_web many_2 lots_3 >>= fun a57 => (t_most_roads many_2 lots_3 >>= fun a58 => (t_parted_web many_2 lots_3 >>= fun a59 => (t_most_roads many_2 lots_3 >>= fun a60 => T.ret ([((e2 eI (eV (e2 eI eI))) a57), (eI a58), ((e2 eI (eV (e2 eI eI))) a59), (eI a60)] : List D))))) >>= fun (told_61 : (List D)) =>
  ((reprT (eL eD) told_61 >>= fun a66 => ((repT ([((e2 eI (eV (e2 eI eI))) due_31), (eI (Int.ofNat (List.length due_31.2)))] : List D) (2 : Int) >>= fun a65 => reprT (eL eD) a65) >>= fun a67 => T.ret (!decide (a66 = a67)))) >>= fun b68 => orK b68 ((mulT ((2 : Int) * lots_3) (Int.ofNat (List.length due_31.2)) >>= fun a63 => ((mulT (lots_3 - (1 : Int)) many_2 >>= fun a62 => mulT a62 many_2) >>= fun a64 => T.ret (decide (a64 < a63)))))) >>= fun b409 => if b409 = true then (T.ret false) else (((modT many_2 lots_3 >>= fun a72 => T.ret (decide (a72 = (0 : Int)))) >>= fun b73 => andK b73 ((mulT ((2 : Int) * lots_3) (Int.ofNat (List.length due_31.2)) >>= fun a70 => ((mulT (lots_3 - (1 : Int)) many_2 >>= fun a69 => mulT a69 many_2) >>= fun a71 => T.ret (!decide (a70 = a71)))))) >>= fun b408 => if b408 = true then (T.ret false) else (rangeT (2 : Int) >>= fun r407 => forX r407 () (fun (s74 : Unit) (x75 : Int) =>
  (t__law_plain >>= fun (web_114 : (Int × (List (Int × Int)))) =>
  ((t__law_pick_1 ([(3 : Int), (5 : Int), (12 : Int)] : List Int) >>= fun a112 => t__law_draw a112) >>= fun a113 => T.ret ((1 : Int) + a113)) >>= fun (size_115 : Int) =>
  reprT (e2 eI (eV (e2 eI eI))) web_114 >>= fun (kept_116 : Str) =>
  (if (decide (x75 = (1 : Int))) = true then t_roads_paper web_114 size_115 else t_roads_paper web_114 size_115) >>= fun (told_171 : D) =>
  ((t__law_fault web_114 size_115 told_171 >>= fun a259 => T.ret (!noD a259)) >>= fun b260 => orK b260 (((t_roads_paper web_114 size_115 >>= fun a172 => reprT eD a172) >>= fun a173 => (reprT eD told_171 >>= fun a174 => T.ret (!decide (a173 = a174)))))) >>= fun b403 => if b403 = true then (T.ret (Stp.rt false)) else ((andK (decide (size_115 < (5 : Int))) (((t__law_full_lots web_114 (size_115 + (1 : Int)) >>= fun a283 => T.ret (decide (a283 = ([] : List (List Int))))) >>= fun b284 => andK b284 ((((t__law_parted web_114.1 size_115 >>= fun a261 => T.ret a261.2) >>= fun a262 => T.ret (Int.ofNat (List.length a262))) >>= fun a263 => T.ret (decide (a263 < (Int.ofNat (List.length web_114.2))))))))) >>= fun b402 => if b402 = true then (T.ret (Stp.rt false)) else (t__law_values web_114 size_115 >>= fun (p315 : ((List D) × (List D))) =>
  forX (enumI p315.1) () (fun (s316 : Unit) (x317 : (Int × D)) =>
  ((if (decide (x317.1 = (1 : Int))) = true then t_roads_paper_error web_114 size_115 x317.2 else t_roads_paper_error web_114 size_115 x317.2) >>= fun (error_382 : D) =>
  (reprT eD error_382 >>= fun a384 => ((t__law_fault web_114 size_115 x317.2 >>= fun a383 => reprT eD a383) >>= fun a385 => T.ret (!decide (a384 = a385)))) >>= fun b386 => if b386 = true then (T.ret (Stp.rt false)) else (T.ret (Stp.nx ())) : T (Stp Bool Unit Unit))) (fun (s316 : Unit) => ()) >>= sumK (fun r401 => T.ret (Stp.rt r401)) (fun (u387 : Unit) =>
  forX (enumI p315.2) () (fun (s388 : Unit) (x389 : (Int × D)) =>
  ((if (decide (x389.1 = (1 : Int))) = true then t_full_error web_114 size_115 x389.2 else t_full_error web_114 size_115 x389.2) >>= fun (error_390 : D) =>
  (reprT eD error_390 >>= fun a392 => ((t__law_full_fault web_114 size_115 x389.2 >>= fun a391 => reprT eD a391) >>= fun a393 => T.ret (!decide (a392 = a393)))) >>= fun b394 => if b394 = true then (T.ret (Stp.rt false)) else (T.ret (Stp.nx ())) : T (Stp Bool Unit Unit))) (fun (s388 : Unit) => ()) >>= sumK (fun r399 => T.ret (Stp.rt r399)) (fun (u395 : Unit) =>
  (reprT (e2 eI (eV (e2 eI eI))) web_114 >>= fun a396 => T.ret (!decide (a396 = kept_116))) >>= fun b397 => if b397 = true then (T.ret (Stp.rt false)) else (T.ret (Stp.nx ())))))) : T (Stp Bool Unit Unit))) (fun (s74 : Unit) => ()) >>= sumK (fun r406 => T.ret (r406)) (fun (u404 : Unit) =>
  T.ret true)))
theorem ref_law (ns0 : List Int) : RR (b_D_law [some ((pu (eL eI)) ns0), some .pot, none, none, none, none, none, none, none, none, none, none, none, none, none]) (t_law ns0) (TopR (pu eB)) := by
  unfold t_law b_D_law
  exact (uPar2 (RR.bM (e := (pu eI)) (uUn (frzR (uCallD (cP (nmE rfl) (cP (kME _) (cN (cIf ⟨rfl, rfl⟩ (ref__law_draw (13 : Int))))))))) fun many_2 => (RR.bM (e := (pu eI)) (uUn (frzR (uBin (RR.bP (kME _) (RR.bM (uCallD (cP (nmE rfl) (cP (kME _) (cN (cIf ⟨rfl, rfl⟩ (ref__law_draw (12 : Int))))))) fun a1 => (RR.of (addII _ _))))))) fun lots_3 => (sEq (st' := [some ((pu (eL eI)) ns0), some .pot, some ((pu eI) many_2), some ((pu eI) lots_3), none, none, none, none, none, none, none, none, none, none, none]) rfl (sAsgM (e := (pu (e2 eI (eV (e2 eI eI))))) (st' := fun due_31 => [some ((pu (eL eI)) ns0), some .pot, some ((pu eI) many_2), some ((pu eI) lots_3), some ((pu (e2 eI (eV (e2 eI eI)))) due_31), none, none, none, none, none, none, none, none, none, none]) (uUn (frzR (uCallD (cP (nmE rfl) (cP (nmE rfl) (cN (cIf ⟨rfl, rfl⟩ (ref__law_parted many_2 lots_3)))))))) (fun _ => rfl) fun due_31 => (sAsgM (e := (pu (eL eD))) (st' := fun told_61 => [some ((pu (eL eI)) ns0), some .pot, some ((pu eI) many_2), some ((pu eI) lots_3), some ((pu (e2 eI (eV (e2 eI eI)))) due_31), some ((pu (eL eD)) told_61), none, none, none, none, none, none, none, none, none]) (uUn (frzRl (uLst (cM (uUn (frzR (uCallD (cP (nmE rfl) (cP (nmE rfl) (cN (cIf ⟨rfl, rfl⟩ (ref_parted_web many_2 lots_3)))))))) fun a57 => (cM (uUn (frzR (uCallD (cP (nmE rfl) (cP (nmE rfl) (cN (cIf ⟨rfl, rfl⟩ (ref_most_roads many_2 lots_3)))))))) fun a58 => (cM (uUn (frzR (uCallK (cP (nmE rfl) (cP (nmE rfl) (cN (cIf ⟨rfl, rfl⟩ (ref_parted_web many_2 lots_3)))))))) fun a59 => (cM (uUn (frzR (uCallK (cP (nmE rfl) (cP (nmE rfl) (cN (cIf ⟨rfl, rfl⟩ (ref_most_roads many_2 lots_3)))))))) fun a60 => (cN (RR.of (dispL (ls eD ([((e2 eI (eV (e2 eI eI))) a57), (eI a58), ((e2 eI (eV (e2 eI eI))) a59), (eI a60)] : List D)) rfl (Nat.le_of_ble_eq_true rfl) rfl)))))))))) (fun _ => rfl) fun told_61 => (sIteM (orM' (cBMm (uBin (RR.bM (uCall (cP (nmE rfl) (cN (a1R (reprG (a := told_61) rfl))))) fun a66 => (RR.bM (uCall (cM (uBin (RR.bP (vLst (cE (nmE rfl) (cE (vCall (cE (vBin (bE (nmE rfl) (bE (kME _) (ix21 _)))) (cNE (a1E (lenV _))))) (cNE (dispL (ls eD ([((e2 eI (eV (e2 eI eI))) due_31), (eI (Int.ofNat (List.length due_31.2)))] : List D)) rfl (Nat.le_of_ble_eq_true rfl) rfl))))) (RR.bP (kME _) (repG (xs := ([((e2 eI (eV (e2 eI eI))) due_31), (eI (Int.ofNat (List.length due_31.2)))] : List D)) rfl)))) fun a65 => (cN (a1R (reprG (a := a65) rfl))))) fun a67 => (RR.of (neSS _ _)))))) (cBMm (uBin (RR.bM (uBin (RR.bP (vBin (bE (kME _) (bE (nmE rfl) (mulKl (by decide))))) (RR.bP (vCall (cE (vBin (bE (nmE rfl) (bE (kME _) (ix21 _)))) (cNE (a1E (lenV _))))) (mulII _ _)))) fun a63 => (RR.bM (uBin (RR.bM (uBin (RR.bP (vBin (bE (nmE rfl) (bE (kME _) (subII _ _)))) (RR.bP (nmE rfl) (mulII _ _)))) fun a62 => (RR.bP (nmE rfl) (mulII _ _)))) fun a64 => (RR.of (gtII _ _))))))) (sDead (sRetP (kME _) (.inl rfl))) (sSk (sKill (st' := [none, some .pot, some ((pu eI) many_2), some ((pu eI) lots_3), some ((pu (e2 eI (eV (e2 eI eI)))) due_31), none, none, none, none, none, none, none, none, none, none]) (wipeE rfl) (sIteM (andM' (cBMm (uBin (RR.bM (uBin (RR.bP (vCall (cE (nmE rfl) (cNE (a1E (intI _))))) (RR.bP (nmE rfl) (modII _ _)))) fun a72 => (RR.bP (kME _) (RR.of (eqG (a := a72) (b := (0 : Int)) qI rfl rfl (by decide))))))) (cBMm (uBin (RR.bM (uBin (RR.bP (vBin (bE (kME _) (bE (nmE rfl) (mulKl (by decide))))) (RR.bP (vCall (cE (vBin (bE (nmE rfl) (bE (kME _) (ix21 _)))) (cNE (a1E (lenV _))))) (mulII _ _)))) fun a70 => (RR.bM (uBin (RR.bM (uBin (RR.bP (vBin (bE (nmE rfl) (bE (kME _) (subII _ _)))) (RR.bP (nmE rfl) (mulII _ _)))) fun a69 => (RR.bP (nmE rfl) (mulII _ _)))) fun a71 => (RR.of (neG (a := a70) (b := a71) qI rfl rfl (by decide)))))))) (sDead (sRetP (kME _) (.inl rfl))) (sSk (sKill (st' := [none, some .pot, none, none, none, none, none, none, none, none, none, none, none, none, none]) (wipeE rfl) (sSeqKill (sKill (st' := [none, some .pot, none, none, none, none, none, none, none, none, none, none, none, none, none]) (wipeE rfl) (sForXM eI (S := fun (s74 : Unit) => [none, some .pot, none, none, none, none, none, none, none, none, none, none, none, none, none]) (P := fun st u404 => wipeD st [0, 1, 2, 3, 4, 5, 6, 7, 8, 9, 10, 11, 12, 13, 14] = [none, none, none, none, none, none, none, none, none, none, none, none, none, none, none]) (Rr := fun y r => y.1 = .rt ((pu eB) r)) (body := (fun (s74 : Unit) (x75 : Int) =>
  (t__law_plain >>= fun (web_114 : (Int × (List (Int × Int)))) =>
  ((t__law_pick_1 ([(3 : Int), (5 : Int), (12 : Int)] : List Int) >>= fun a112 => t__law_draw a112) >>= fun a113 => T.ret ((1 : Int) + a113)) >>= fun (size_115 : Int) =>
  reprT (e2 eI (eV (e2 eI eI))) web_114 >>= fun (kept_116 : Str) =>
  (if (decide (x75 = (1 : Int))) = true then t_roads_paper web_114 size_115 else t_roads_paper web_114 size_115) >>= fun (told_171 : D) =>
  ((t__law_fault web_114 size_115 told_171 >>= fun a259 => T.ret (!noD a259)) >>= fun b260 => orK b260 (((t_roads_paper web_114 size_115 >>= fun a172 => reprT eD a172) >>= fun a173 => (reprT eD told_171 >>= fun a174 => T.ret (!decide (a173 = a174)))))) >>= fun b403 => if b403 = true then (T.ret (Stp.rt false)) else ((andK (decide (size_115 < (5 : Int))) (((t__law_full_lots web_114 (size_115 + (1 : Int)) >>= fun a283 => T.ret (decide (a283 = ([] : List (List Int))))) >>= fun b284 => andK b284 ((((t__law_parted web_114.1 size_115 >>= fun a261 => T.ret a261.2) >>= fun a262 => T.ret (Int.ofNat (List.length a262))) >>= fun a263 => T.ret (decide (a263 < (Int.ofNat (List.length web_114.2))))))))) >>= fun b402 => if b402 = true then (T.ret (Stp.rt false)) else (t__law_values web_114 size_115 >>= fun (p315 : ((List D) × (List D))) =>
  forX (enumI p315.1) () (fun (s316 : Unit) (x317 : (Int × D)) =>
  ((if (decide (x317.1 = (1 : Int))) = true then t_roads_paper_error web_114 size_115 x317.2 else t_roads_paper_error web_114 size_115 x317.2) >>= fun (error_382 : D) =>
  (reprT eD error_382 >>= fun a384 => ((t__law_fault web_114 size_115 x317.2 >>= fun a383 => reprT eD a383) >>= fun a385 => T.ret (!decide (a384 = a385)))) >>= fun b386 => if b386 = true then (T.ret (Stp.rt false)) else (T.ret (Stp.nx ())) : T (Stp Bool Unit Unit))) (fun (s316 : Unit) => ()) >>= sumK (fun r401 => T.ret (Stp.rt r401)) (fun (u387 : Unit) =>
  forX (enumI p315.2) () (fun (s388 : Unit) (x389 : (Int × D)) =>
  ((if (decide (x389.1 = (1 : Int))) = true then t_full_error web_114 size_115 x389.2 else t_full_error web_114 size_115 x389.2) >>= fun (error_390 : D) =>
  (reprT eD error_390 >>= fun a392 => ((t__law_full_fault web_114 size_115 x389.2 >>= fun a391 => reprT eD a391) >>= fun a393 => T.ret (!decide (a392 = a393)))) >>= fun b394 => if b394 = true then (T.ret (Stp.rt false)) else (T.ret (Stp.nx ())) : T (Stp Bool Unit Unit))) (fun (s388 : Unit) => ()) >>= sumK (fun r399 => T.ret (Stp.rt r399)) (fun (u395 : Unit) =>
  (reprT (e2 eI (eV (e2 eI eI))) web_114 >>= fun a396 => T.ret (!decide (a396 = kept_116))) >>= fun b397 => if b397 = true then (T.ret (Stp.rt false)) else (T.ret (Stp.nx ())))))) : T (Stp Bool Unit Unit)))) (fin := (fun (s74 : Unit) => ())) (s0 := ()) (inj := fun r406 => r406) (cP (kME _) (cN (range1G _))) (wipeE rfl) (fun _ => wipeE rfl) (fun x75 s74 => (RR.bP (a := [none, some .pot, none, none, none, none, some ((pu eI) x75), none, none, none, none, none, none, none, none]) rfl (uPar2 (RR.bM (e := (pu (e2 eI (eV (e2 eI eI))))) (uUn (frzR (uCallD (cP (nmE rfl) (cN (cIf ⟨rfl, rfl⟩ (ref__law_plain))))))) fun web_114 => (RR.bM (e := (pu eI)) (uUn (frzR (uBin (RR.bP (kME _) (RR.bM (uCallD (cP (nmE rfl) (cM (uUn (frzR (uCallD (cP (nmE rfl) (cP (vUn (bE (vLst (cE (kME _) (cE (kME _) (cE (kME _) (cNE (dispL (ls eI ([(3 : Int), (5 : Int), (12 : Int)] : List Int)) rfl (Nat.le_of_ble_eq_true rfl) rfl)))))) rfl)) (cN (cIf ⟨rfl, rfl⟩ (ref__law_pick_1 ([(3 : Int), (5 : Int), (12 : Int)] : List Int))))))))) fun a112 => (cN (cIf ⟨rfl, rfl⟩ (ref__law_draw a112)))))) fun a113 => (RR.of (addII _ _))))))) fun size_115 => (sEq (st' := [none, some .pot, none, none, none, none, some ((pu eI) x75), some ((pu (e2 eI (eV (e2 eI eI)))) web_114), some ((pu eI) size_115), none, none, none, none, none, none]) rfl (sAsgM (e := (pu eS)) (st' := fun kept_116 => [none, some .pot, none, none, none, none, some ((pu eI) x75), some ((pu (e2 eI (eV (e2 eI eI)))) web_114), some ((pu eI) size_115), some ((pu eS) kept_116), none, none, none, none, none]) (uCall (cP (nmE rfl) (cN (a1R (reprG (a := web_114) rfl))))) (fun _ => rfl) fun kept_116 => (sAsgM (e := (pu eD)) (st' := fun told_171 => [none, some .pot, none, none, none, some ((pu eD) told_171), some ((pu eI) x75), some ((pu (e2 eI (eV (e2 eI eI)))) web_114), some ((pu eI) size_115), some ((pu eS) kept_116), none, none, none, none, none]) (uUn (frzR (iteP (cBM (vBin (bE (nmE rfl) (bE (kME _) (eqG (a := x75) (b := (1 : Int)) qI rfl rfl (by decide)))))) (uUn (frzR (uCallK (cP (nmE rfl) (cP (nmE rfl) (cN (cIf ⟨rfl, rfl⟩ (ref_roads_paper web_114 size_115)))))))) (uUn (frzR (uCallD (cP (nmE rfl) (cP (nmE rfl) (cN (cIf ⟨rfl, rfl⟩ (ref_roads_paper web_114 size_115))))))))))) (fun _ => rfl) fun told_171 => (sIteM (orM' (cBMm (uBin (RR.bM (uCallD (cP (nmE rfl) (cP (nmE rfl) (cP (nmE rfl) (cN (cIf ⟨rfl, rfl⟩ (ref__law_fault web_114 size_115 told_171))))))) fun a259 => (RR.bP (kME _) (RR.of (isnND _)))))) (cBMm (uBin (RR.bM (uCall (cM (uCallD (cP (nmE rfl) (cP (nmE rfl) (cN (cIf ⟨rfl, rfl⟩ (ref_roads_paper web_114 size_115)))))) fun a172 => (cN (a1R (reprG (a := a172) rfl))))) fun a173 => (RR.bM (uCall (cP (nmE rfl) (cN (a1R (reprG (a := told_171) rfl))))) fun a174 => (RR.of (neSS _ _))))))) (sDead (sRetP (a := Stp.rt false) (kME _) ⟨⟨_, rfl⟩, rfl⟩)) (sSk (sKill (st' := [none, some .pot, none, none, none, none, none, some ((pu (e2 eI (eV (e2 eI eI)))) web_114), some ((pu eI) size_115), some ((pu eS) kept_116), none, none, none, none, none]) (wipeE rfl) (sIteM (andP (cBM (vBin (bE (nmE rfl) (bE (kME _) (ltII _ _))))) (andM' (cBMm (uBin (RR.bM (uCallD (cP (nmE rfl) (cP (vUn (bE (vBin (bE (nmE rfl) (bE (kME _) (addII _ _)))) rfl)) (cN (cIf ⟨rfl, rfl⟩ (ref__law_full_lots web_114 (size_115 + (1 : Int)))))))) fun a283 => (RR.bP (vLst (cNE (dispL (ls (eV eI) ([] : List (List Int))) rfl (Nat.le_of_ble_eq_true rfl) rfl))) (RR.of (eqG (a := a283) (b := ([] : List (List Int))) (qL (qV qI)) rfl rfl (by decide))))))) (cBMm (uBin (RR.bP (vCall (cE (vBin (bE (nmE rfl) (bE (kME _) (ix21 _)))) (cNE (a1E (lenV _))))) (RR.bM (uCall (cM (uBin (RR.bM (uCallD (cP (vBin (bE (nmE rfl) (bE (kME _) (ix20 _)))) (cP (nmE rfl) (cN (cIf ⟨rfl, rfl⟩ (ref__law_parted web_114.1 size_115)))))) fun a261 => (RR.bP (kME _) (RR.of (ix21 _))))) fun a262 => (cN (RR.of (a1E (lenV _)))))) fun a263 => (RR.of (gtII _ _)))))))) (sDead (sRetP (a := Stp.rt false) (kME _) ⟨⟨_, rfl⟩, rfl⟩)) (sSk (sKill (st' := [none, some .pot, none, none, none, none, none, some ((pu (e2 eI (eV (e2 eI eI)))) web_114), some ((pu eI) size_115), some ((pu eS) kept_116), none, none, none, none, none]) (wipeE rfl) (uUnp (RR.bM (e := (pu (e2 (eL eD) (eL eD)))) (uUn (frzR (uCallD (cP (nmE rfl) (cP (nmE rfl) (cP (nmE rfl) (cN (cIf ⟨rfl, rfl⟩ (ref__law_values web_114 size_115))))))))) fun p315 => (RR.bP (a := (e2 (eL eD) (eL eD)) p315) rfl (RR.bP (a := [none, some .pot, none, none, none, none, none, some ((pu (e2 eI (eV (e2 eI eI)))) web_114), some ((pu eI) size_115), some ((pu eS) kept_116), some ((pu (eL eD)) p315.1), some ((pu (eL eD)) p315.2), none, none, none]) rfl (sSeqKill (sKill (st' := [none, some .pot, none, none, none, none, none, some ((pu (e2 eI (eV (e2 eI eI)))) web_114), some ((pu eI) size_115), some ((pu eS) kept_116), some ((pu (eL eD)) p315.1), some ((pu (eL eD)) p315.2), none, none, none]) (wipeE rfl) (sForXP (e2 eI eD) (S := fun (s316 : Unit) => [none, some .pot, none, none, none, none, none, some ((pu (e2 eI (eV (e2 eI eI)))) web_114), some ((pu eI) size_115), some ((pu eS) kept_116), none, some ((pu (eL eD)) p315.2), none, none, none]) (P := fun st u387 => wipeD st [0, 2, 3, 4, 5, 6, 10, 12, 13, 14] = [none, some .pot, none, none, none, none, none, some ((pu (e2 eI (eV (e2 eI eI)))) web_114), some ((pu eI) size_115), some ((pu eS) kept_116), none, some ((pu (eL eD)) p315.2), none, none, none]) (Rr := fun y r => y.1 = .rt ((pu eB) r)) (body := (fun (s316 : Unit) (x317 : (Int × D)) =>
  ((if (decide (x317.1 = (1 : Int))) = true then t_roads_paper_error web_114 size_115 x317.2 else t_roads_paper_error web_114 size_115 x317.2) >>= fun (error_382 : D) =>
  (reprT eD error_382 >>= fun a384 => ((t__law_fault web_114 size_115 x317.2 >>= fun a383 => reprT eD a383) >>= fun a385 => T.ret (!decide (a384 = a385)))) >>= fun b386 => if b386 = true then (T.ret (Stp.rt false)) else (T.ret (Stp.nx ())) : T (Stp Bool Unit Unit)))) (fin := (fun (s316 : Unit) => ())) (s0 := ()) (inj := fun r401 => Stp.rt r401) (enumPE (nmE rfl) rfl) (wipeE rfl) (fun _ => wipeE rfl) (fun x317 s316 => (RR.bP (a := [none, some .pot, none, none, none, none, none, some ((pu (e2 eI (eV (e2 eI eI)))) web_114), some ((pu eI) size_115), some ((pu eS) kept_116), none, some ((pu (eL eD)) p315.2), some ((pu eI) x317.1), some ((pu eD) x317.2), none]) rfl (sAsgM (e := (pu eD)) (st' := fun error_382 => [none, some .pot, none, none, none, none, none, some ((pu (e2 eI (eV (e2 eI eI)))) web_114), some ((pu eI) size_115), some ((pu eS) kept_116), none, some ((pu (eL eD)) p315.2), some ((pu eI) x317.1), some ((pu eD) x317.2), some ((pu eD) error_382)]) (uUn (frzR (iteP (cBM (vBin (bE (nmE rfl) (bE (kME _) (eqG (a := x317.1) (b := (1 : Int)) qI rfl rfl (by decide)))))) (uUn (frzR (uCallK (cP (nmE rfl) (cP (nmE rfl) (cP (nmE rfl) (cN (cIf ⟨rfl, rfl⟩ (ref_roads_paper_error web_114 size_115 x317.2))))))))) (uUn (frzR (uCallD (cP (nmE rfl) (cP (nmE rfl) (cP (nmE rfl) (cN (cIf ⟨rfl, rfl⟩ (ref_roads_paper_error web_114 size_115 x317.2)))))))))))) (fun _ => rfl) fun error_382 => (sIteM (cBMm (uBin (RR.bM (uCall (cP (nmE rfl) (cN (a1R (reprG (a := error_382) rfl))))) fun a384 => (RR.bM (uCall (cM (uCallD (cP (nmE rfl) (cP (nmE rfl) (cP (nmE rfl) (cN (cIf ⟨rfl, rfl⟩ (ref__law_fault web_114 size_115 x317.2))))))) fun a383 => (cN (a1R (reprG (a := a383) rfl))))) fun a385 => (RR.of (neSS _ _)))))) (sDead (sRetP (a := Stp.rt false) (kME _) ⟨⟨_, rfl⟩, rfl⟩)) (sSk (sKill (st' := [none, some .pot, none, none, none, none, none, some ((pu (e2 eI (eV (e2 eI eI)))) web_114), some ((pu eI) size_115), some ((pu eS) kept_116), none, some ((pu (eL eD)) p315.2), none, none, none]) (wipeE rfl) (sKill (wipeE rfl) (sLeaf (a := (Stp.nx ())) ⟨.inl rfl, rfl⟩)))))))) (fun m _ _ _ h => ⟨⟨m, rfl⟩, h⟩) fun _ u387 hu387 => (sKill (st' := [none, some .pot, none, none, none, none, none, some ((pu (e2 eI (eV (e2 eI eI)))) web_114), some ((pu eI) size_115), some ((pu eS) kept_116), none, some ((pu (eL eD)) p315.2), none, none, none]) hu387 (sSeqKill (sKill (st' := [none, some .pot, none, none, none, none, none, some ((pu (e2 eI (eV (e2 eI eI)))) web_114), some ((pu eI) size_115), some ((pu eS) kept_116), none, some ((pu (eL eD)) p315.2), none, none, none]) (wipeE rfl) (sForXP (e2 eI eD) (S := fun (s388 : Unit) => [none, some .pot, none, none, none, none, none, some ((pu (e2 eI (eV (e2 eI eI)))) web_114), some ((pu eI) size_115), some ((pu eS) kept_116), none, none, none, none, none]) (P := fun st u395 => wipeD st [0, 2, 3, 4, 5, 6, 8, 10, 11, 12, 13, 14] = [none, some .pot, none, none, none, none, none, some ((pu (e2 eI (eV (e2 eI eI)))) web_114), none, some ((pu eS) kept_116), none, none, none, none, none]) (Rr := fun y r => y.1 = .rt ((pu eB) r)) (body := (fun (s388 : Unit) (x389 : (Int × D)) =>
  ((if (decide (x389.1 = (1 : Int))) = true then t_full_error web_114 size_115 x389.2 else t_full_error web_114 size_115 x389.2) >>= fun (error_390 : D) =>
  (reprT eD error_390 >>= fun a392 => ((t__law_full_fault web_114 size_115 x389.2 >>= fun a391 => reprT eD a391) >>= fun a393 => T.ret (!decide (a392 = a393)))) >>= fun b394 => if b394 = true then (T.ret (Stp.rt false)) else (T.ret (Stp.nx ())) : T (Stp Bool Unit Unit)))) (fin := (fun (s388 : Unit) => ())) (s0 := ()) (inj := fun r399 => Stp.rt r399) (enumPE (nmE rfl) rfl) (wipeE rfl) (fun _ => wipeE rfl) (fun x389 s388 => (RR.bP (a := [none, some .pot, none, none, none, none, none, some ((pu (e2 eI (eV (e2 eI eI)))) web_114), some ((pu eI) size_115), some ((pu eS) kept_116), none, none, some ((pu eI) x389.1), some ((pu eD) x389.2), none]) rfl (sAsgM (e := (pu eD)) (st' := fun error_390 => [none, some .pot, none, none, none, none, none, some ((pu (e2 eI (eV (e2 eI eI)))) web_114), some ((pu eI) size_115), some ((pu eS) kept_116), none, none, some ((pu eI) x389.1), some ((pu eD) x389.2), some ((pu eD) error_390)]) (uUn (frzR (iteP (cBM (vBin (bE (nmE rfl) (bE (kME _) (eqG (a := x389.1) (b := (1 : Int)) qI rfl rfl (by decide)))))) (uUn (frzR (uCallK (cP (nmE rfl) (cP (nmE rfl) (cP (nmE rfl) (cN (cIf ⟨rfl, rfl⟩ (ref_full_error web_114 size_115 x389.2))))))))) (uUn (frzR (uCallD (cP (nmE rfl) (cP (nmE rfl) (cP (nmE rfl) (cN (cIf ⟨rfl, rfl⟩ (ref_full_error web_114 size_115 x389.2)))))))))))) (fun _ => rfl) fun error_390 => (sIteM (cBMm (uBin (RR.bM (uCall (cP (nmE rfl) (cN (a1R (reprG (a := error_390) rfl))))) fun a392 => (RR.bM (uCall (cM (uCallD (cP (nmE rfl) (cP (nmE rfl) (cP (nmE rfl) (cN (cIf ⟨rfl, rfl⟩ (ref__law_full_fault web_114 size_115 x389.2))))))) fun a391 => (cN (a1R (reprG (a := a391) rfl))))) fun a393 => (RR.of (neSS _ _)))))) (sDead (sRetP (a := Stp.rt false) (kME _) ⟨⟨_, rfl⟩, rfl⟩)) (sSk (sKill (st' := [none, some .pot, none, none, none, none, none, some ((pu (e2 eI (eV (e2 eI eI)))) web_114), some ((pu eI) size_115), some ((pu eS) kept_116), none, none, none, none, none]) (wipeE rfl) (sKill (wipeE rfl) (sLeaf (a := (Stp.nx ())) ⟨.inl rfl, rfl⟩)))))))) (fun m _ _ _ h => ⟨⟨m, rfl⟩, h⟩) fun _ u395 hu395 => (sKill (st' := [none, some .pot, none, none, none, none, none, some ((pu (e2 eI (eV (e2 eI eI)))) web_114), none, some ((pu eS) kept_116), none, none, none, none, none]) hu395 (sIteM (cBMm (uBin (RR.bM (uCall (cP (nmE rfl) (cN (a1R (reprG (a := web_114) rfl))))) fun a396 => (RR.bP (nmE rfl) (RR.of (neSS _ _)))))) (sDead (sRetP (a := Stp.rt false) (kME _) ⟨⟨_, rfl⟩, rfl⟩)) (sSk (sKill (st' := [none, some .pot, none, none, none, none, none, none, none, none, none, none, none, none, none]) (wipeE rfl) (sKill (wipeE rfl) (sLeaf (a := (Stp.nx ())) ⟨.inl rfl, rfl⟩))))))))))))))))))))))))))))))) (fun _ _ _ _ h => .inl h) fun _ u404 hu404 => (sKill (st' := [none, none, none, none, none, none, none, none, none, none, none, none, none, none, none]) hu404 (sRetP (kME _) (.inl rfl))))))))))))))))))
end L2.Zy.K62
namespace L2.Zy
open PySem PyProof.Rows PySem.Spec
/-! ## pairs of houses, parted webs -/
def pairsL (m : Int) : Roads := (rangeI m).flatMap fun i => (rangeI2 (i + 1) m).map fun j => (i, j)
def lotsW (m k : Int) : List Int := (rangeI k).flatMap fun j => List.replicate (m / k + b2i (decide (j < m % k))).toNat j
def PL (m k : Int) : Roads := (pairsL m).filter fun p => !decide ((lotsW m k).getD p.1.toNat 0 = (lotsW m k).getD p.2.toNat 0)
theorem mem_pairs {m : Int} {p : Int × Int} : p ∈ pairsL m ↔ 0 ≤ p.1 ∧ p.1 < p.2 ∧ p.2 < m := by
  unfold pairsL
  rw [List.mem_flatMap]
  constructor
  · rintro ⟨i, hi, h⟩
    obtain ⟨j, hj, rfl⟩ := List.mem_map.mp h
    have := mem_rangeI.mp hi
    have := mem_rangeI2.mp hj
    simp only
    omega
  · intro h
    exact ⟨p.1, mem_rangeI.mpr (by omega), List.mem_map.mpr ⟨p.2, mem_rangeI2.mpr (by omega), rfl⟩⟩
theorem flat_nodup {α β : Type} {f : α → List β} (g : β → α) (hg : ∀ a, ∀ b ∈ f a, g b = a) (hf : ∀ a, (f a).Nodup) : ∀ {xs : List α}, xs.Nodup → (xs.flatMap f).Nodup
  | [], _ => List.nodup_nil
  | x :: xs, h => by
    rw [List.nodup_cons] at h
    rw [List.flatMap_cons]
    refine List.nodup_append.mpr ⟨hf x, flat_nodup g hg hf h.2, fun a ha b hb e => ?_⟩
    subst e
    obtain ⟨y, hy, hb⟩ := List.mem_flatMap.mp hb
    have h1 := hg x a ha
    have h2 := hg y a hb
    exact h.1 (by rw [← h1, h2]; exact hy)
theorem pairs_nodup (m : Int) : (pairsL m).Nodup := flat_nodup (·.1) (fun i p hp => by
    obtain ⟨j, _, rfl⟩ := List.mem_map.mp hp
    rfl) (fun i => List.Pairwise.map _ (fun a b ne h => ne (by injection h)) (rangeI2_nodup (i + 1) m)) (rangeI_nodup m)
theorem good_of_pairs {m : Int} {R : Roads} (h0 : 0 ≤ m) (nd : R.Nodup) (h : ∀ p ∈ R, p ∈ pairsL m) : Good m R ∧ Plain R :=
  ⟨⟨h0, nd, fun p hp => by have := mem_pairs.mp (h p hp); omega⟩, fun p hp => (mem_pairs.mp (h p hp)).2.1⟩
theorem PL_good {m k : Int} (h0 : 0 ≤ m) : Good m (PL m k) ∧ Plain (PL m k) := good_of_pairs h0 ((pairs_nodup m).filter _) fun p hp => (List.mem_filter.mp hp).1
theorem flat_len' {β γ : Type} (f : β → List γ) (n : Nat) : ∀ xs : List β, (∀ b ∈ xs, (f b).length ≤ n) → (xs.flatMap f).length ≤ xs.length * n
  | [], _ => Nat.zero_le _
  | x :: xs, h => by
    have h1 := h x List.mem_cons_self
    have h2 := flat_len' f n xs fun b hb => h b (List.mem_cons_of_mem _ hb)
    rw [List.flatMap_cons, List.length_append, List.length_cons, Nat.add_mul]
    omega
theorem row_len {m i : Int} (h0 : 0 ≤ i) (h1 : m ≤ 100) : ((rangeI2 (i + 1) m).map fun j => (i, j)).length ≤ 100 := by
  rw [List.length_map, length_rangeI2]
  omega
theorem pairs_len {m : Int} (h1 : m ≤ 100) : (pairsL m).length ≤ 10000 := by
  have h := flat_len' (fun i => (rangeI2 (i + 1) m).map fun j => (i, j)) 100 (rangeI m) fun i hi => row_len (mem_rangeI.mp hi).1 h1
  have : (rangeI m).length ≤ 100 := by rw [length_rangeI]; omega
  have h2 : (rangeI m).length * 100 ≤ 100 * 100 := Nat.mul_le_mul_right _ this
  unfold pairsL
  omega
/-- what is known of partings of few houses -/
theorem lots_len : ∀ m < 13, ∀ k < 13, 1 ≤ k → (lotsW ((m : Nat) : Int) ((k : Nat) : Int)).length = m := by decide +kernel
theorem PL_most : ∀ m < 13, ∀ k < 13, 1 ≤ k → 2 * k * (PL ((m : Nat) : Int) ((k : Nat) : Int)).length ≤ (k - 1) * m * m := by decide +kernel
theorem PL_even : ∀ m < 13, ∀ k < 13, 1 ≤ k → m % k = 0 → 2 * k * (PL ((m : Nat) : Int) ((k : Nat) : Int)).length = (k - 1) * m * m := by decide +kernel
theorem PL_up : ∀ m < 9, ∀ k < 12, 1 ≤ k → (PL ((m : Nat) : Int) ((k : Nat) : Int)).length ≤ (PL ((m : Nat) : Int) ((k + 1 : Nat) : Int)).length := by decide +kernel
theorem PL_rec : ∀ m < 9, ∀ k < 13, 1 ≤ k → k ≤ m → tri k + (m - k) * (k - 1) + (PL ((m - k : Nat) : Int) ((k : Nat) : Int)).length ≤ (PL ((m : Nat) : Int) ((k : Nat) : Int)).length := by decide +kernel
/-- no web of few houses without a full one has more roads -/
theorem roads_few {n : Int} {R : Roads} (g : Good n R) (hp : Plain R) (hn : n ≤ 8) {r : Int} (h1 : 1 ≤ r) (h2 : r ≤ 12) (h : NoK (adj R) (rangeI n) (r.toNat + 1)) : R.length ≤ (PL n r).length := by
  have n0 := g.n0
  have t := turan (A := adj R) (adj_comm R) (adj_irr hp) 8 12 (fun m k => (PL (m : Int) (k : Int)).length) (fun m k a b c d => PL_rec m (by omega) k (by omega) b d) (fun m k a b c => PL_up m (by omega) k (by omega) b)
    n.toNat r.toNat (rangeI n) (length_rangeI n) (by omega) (by omega) (by omega) (rangeI_nodup n) h
  have e1 : ((n.toNat : Nat) : Int) = n := by omega
  have e2 : ((r.toNat : Nat) : Int) = r := by omega
  simp only [e1, e2] at t
  exact Nat.le_trans (roads_le g hp) t
end L2.Zy
namespace L2.Zy.K62
open PySem PyProof.Rows PySem.Spec L2.Zy
theorem range_parts {m : Int} {d r : List Int} {x : Int} (e : rangeI m = d ++ x :: r) : 0 ≤ x ∧ x < m ∧ (d.length : Int) < m := by
  have h : x ∈ rangeI m := by rw [e]; simp
  have h2 := mem_rangeI.mp h
  have h3 := congrArg List.length e
  rw [length_rangeI, List.length_append, List.length_cons] at h3
  omega
theorem run_pairs {m : Int} (h0 : 0 ≤ m) (h1 : m ≤ 100) : t__law_pairs m false = .ret (pairsL m) := by
  unfold t__law_pairs
  rw [T.ret_bind, rangeT_ok (by omega) (by omega), T.ret_bind, forT_at (fun d => d.flatMap fun i => (rangeI2 (i + 1) m).map fun j => (i, j)) ?h0 ?hs, T.ret_bind]
  case h0 => rfl
  · rfl
  · intro d x r e
    obtain ⟨hx0, hx1, hd⟩ := range_parts e
    rw [if_neg Bool.false_ne_true, rangeT2_ok (by omega) (by omega) (by omega) (by omega) (by omega), T.ret_bind, T.ret_bind]
    have hl := flat_len' (fun i => (rangeI2 (i + 1) m).map fun j => (i, j)) 100 d fun i hi => row_len (by
      have h : i ∈ rangeI m := by rw [e]; simp [hi]
      exact (mem_rangeI.mp h).1) h1
    have hl2 : d.length * 100 ≤ 100 * 100 := Nat.mul_le_mul_right _ (by omega)
    have hr := row_len (i := x) (m := m) hx0 h1
    rw [catT_ok (by omega), T.ret_bind, List.flatMap_append]
    simp
theorem lotsW_len {m k : Int} (h0 : 0 ≤ m) (h1 : m ≤ 12) (h2 : 1 ≤ k) (h3 : k ≤ 12) : (lotsW m k).length = m.toNat := by
  have := lots_len m.toNat (by omega) k.toNat (by omega) (by omega)
  rwa [show ((m.toNat : Nat) : Int) = m by omega, show ((k.toNat : Nat) : Int) = k by omega] at this
theorem div_small {m k : Int} (h0 : 0 ≤ m) (h1 : m ≤ 100) (h2 : 1 ≤ k) : 0 ≤ m / k ∧ m / k ≤ 100 := ⟨Int.ediv_nonneg h0 (by omega), Int.le_trans (Int.ediv_le_self _ h0) h1⟩
theorem where_loop {m k : Int} (h0 : 0 ≤ m) (h1 : m ≤ 12) (h2 : 1 ≤ k) (h3 : k ≤ 12) {body : List Int → Int → T (List Int)}
    (hb : ∀ s x, 0 ≤ x → s.length ≤ 5000 → body s x = .ret (s ++ List.replicate (m / k + b2i (decide (x < m % k))).toNat x)) : forT (rangeI k) [] body = .ret (lotsW m k) := by
  have hd := div_small h0 (by omega : m ≤ 100) h2
  refine forT_at (fun d => d.flatMap fun j => List.replicate (m / k + b2i (decide (j < m % k))).toNat j) rfl ?_
  intro d x r e
  obtain ⟨hx0, hx1, hdl⟩ := range_parts e
  have hl := flat_len' (fun j => List.replicate (m / k + b2i (decide (j < m % k))).toNat j) 101 d fun j _ => by
    rw [List.length_replicate]
    cases decide (j < m % k) <;> simp [b2i] <;> omega
  have hl2 : d.length * 101 ≤ 12 * 101 := Nat.mul_le_mul_right _ (by omega)
  rw [hb _ _ hx0 (by omega), List.flatMap_append]
  simp
theorem flat_rep (n : Nat) (x : Int) : (List.replicate n [x]).flatten = List.replicate n x := by
  induction n with
  | zero => rfl
  | succ n ih => rw [List.replicate_succ, List.flatten_cons, ih]; rfl
theorem rep_ok {m k x : Int} (h0 : 0 ≤ m) (h1 : m ≤ 12) (h2 : 1 ≤ k) : repT ([x] : List Int) (m / k + b2i (decide (x < m % k))) = .ret (List.replicate (m / k + b2i (decide (x < m % k))).toNat x) := by
  have hd := div_small h0 (by omega : m ≤ 100) h2
  have hb : 0 ≤ b2i (decide (x < m % k)) ∧ b2i (decide (x < m % k)) ≤ 1 := by cases decide (x < m % k) <;> simp [b2i]
  rw [repT_ok (by omega) (by omega) (by simp; omega), flat_rep]
theorem run_parted {m k : Int} (h0 : 0 ≤ m) (h1 : m ≤ 12) (h2 : 1 ≤ k) (h3 : k ≤ 12) : t__law_parted m k = .ret (m, PL m k) := by
  have hd := div_small h0 (by omega : m ≤ 100) h2
  unfold t__law_parted
  rw [T.ret_bind, rangeT_ok (by omega) (by omega), T.ret_bind, where_loop h0 h1 h2 h3 ?hb, T.ret_bind, run_pairs h0 (by omega), T.ret_bind]
  · have hl := lotsW_len h0 h1 h2 h3
    rw [lcT_ret (fun p : Int × Int => !decide ((lotsW m k).getD p.1.toNat 0 = (lotsW m k).getD p.2.toNat 0)) (fun p => (p.1, p.2)) (fun p hp => ?_) (fun _ _ _ => rfl), T.ret_bind, T.ret_bind]
    · show T.ret (m, ((pairsL m).filter _).map fun p => (p.1, p.2)) = _
      rw [List.map_id']
      rfl
    · have := mem_pairs.mp hp
      rw [getI_getD 0 (by omega) (by omega), T.ret_bind, getI_getD 0 (by omega) (by omega), T.ret_bind]
  · intro s x hx hs
    have hb : 0 ≤ b2i (decide (x < m % k)) ∧ b2i (decide (x < m % k)) ≤ 1 := by cases decide (x < m % k) <;> simp [b2i]
    rw [divT_ok (by omega) (by omega), modT_ok (by omega)]
    simp only [T.ret_bind]
    rw [rep_ok h0 h1 h2, T.ret_bind, catT_ok (by rw [List.length_replicate]; omega), T.ret_bind]
theorem filt_row {m k i : Int} : ((rangeI2 (i + 1) m).map fun j => (i, j)).filter (fun p : Int × Int => !decide ((lotsW m k).getD p.1.toNat 0 = (lotsW m k).getD p.2.toNat 0)) = ((rangeI2 (i + 1) m).filter fun j => !decide ((lotsW m k).getD i.toNat 0 = (lotsW m k).getD j.toNat 0)).map fun j => (i, j) := by
  rw [List.filter_map]
  rfl
theorem PL_flat (m k : Int) : PL m k = (rangeI m).flatMap fun i => ((rangeI2 (i + 1) m).filter fun j => !decide ((lotsW m k).getD i.toNat 0 = (lotsW m k).getD j.toNat 0)).map fun j => (i, j) := by
  unfold PL pairsL
  rw [List.filter_flatMap]
  congr 1
  funext i
  exact filt_row
theorem run_partedP {m k : Int} (h0 : 0 ≤ m) (h1 : m ≤ 12) (h2 : 1 ≤ k) (h3 : k ≤ 12) : t_parted_web m k = .ret (m, PL m k) := by
  have hd := div_small h0 (by omega : m ≤ 100) h2
  unfold t_parted_web
  rw [T.ret_bind, rangeT_ok (by omega) (by omega), T.ret_bind, where_loop h0 h1 h2 h3 ?hb, T.ret_bind, T.ret_bind, rangeT_ok (by omega) (by omega), T.ret_bind]
  · have hl := lotsW_len h0 h1 h2 h3
    rw [PL_flat, forT_at (fun d => d.flatMap fun i => ((rangeI2 (i + 1) m).filter fun j => !decide ((lotsW m k).getD i.toNat 0 = (lotsW m k).getD j.toNat 0)).map fun j => (i, j)) ?h02 ?hs2, T.ret_bind]
    case h02 => rfl
    · intro d x r e
      obtain ⟨hx0, hx1, hdl⟩ := range_parts e
      rw [rangeT2_ok (by omega) (by omega) (by omega) (by omega) (by omega), T.ret_bind, lcT_ret (fun j => !decide ((lotsW m k).getD x.toNat 0 = (lotsW m k).getD j.toNat 0)) (fun j => (x, j)) (fun j hj => ?_) (fun _ _ _ => rfl), T.ret_bind]
      · have hl := flat_len' (fun i => ((rangeI2 (i + 1) m).filter fun j => !decide ((lotsW m k).getD i.toNat 0 = (lotsW m k).getD j.toNat 0)).map fun j => (i, j)) 100 d fun i hi => by
          have h : i ∈ rangeI m := by rw [e]; simp [hi]
          have q := row_len (i := i) (m := m) (mem_rangeI.mp h).1 (by omega)
          have q2 := List.length_filter_le (fun j => !decide ((lotsW m k).getD i.toNat 0 = (lotsW m k).getD j.toNat 0)) (rangeI2 (i + 1) m)
          rw [List.length_map] at q ⊢
          omega
        have hl2 : d.length * 100 ≤ 100 * 100 := Nat.mul_le_mul_right _ (by omega)
        have q := row_len (i := x) (m := m) hx0 (by omega)
        have q2 := List.length_filter_le (fun j => !decide ((lotsW m k).getD x.toNat 0 = (lotsW m k).getD j.toNat 0)) (rangeI2 (x + 1) m)
        rw [List.length_map] at q
        rw [catT_ok (by rw [List.length_map]; omega), T.ret_bind, List.flatMap_append]
        simp
      · have := mem_rangeI2.mp hj
        rw [getI_getD 0 (by omega) (by omega), T.ret_bind, getI_getD 0 (by omega) (by omega), T.ret_bind]
  · intro s x hx hs
    have hb : 0 ≤ b2i (decide (x < m % k)) ∧ b2i (decide (x < m % k)) ≤ 1 := by cases decide (x < m % k) <;> simp [b2i]
    rw [divT_ok (by omega) (by omega), modT_ok (by omega)]
    simp only [T.ret_bind]
    rw [rep_ok h0 h1 h2, T.ret_bind, catT_ok (by rw [List.length_replicate]; omega), T.ret_bind]
theorem run_most {m k : Int} (h0 : 0 ≤ m) (h1 : m ≤ 12) (h2 : 1 ≤ k) (h3 : k ≤ 12) : t_most_roads m k = .ret (Int.ofNat (PL m k).length) := by
  unfold t_most_roads
  rw [run_partedP h0 h1 h2 h3, T.ret_bind, T.ret_bind]
end L2.Zy.K62
namespace L2.Zy
open PySem PyProof.Rows PySem.Spec
/-! ## full lots, ascending -/
structure SCl (n : Int) (R : Roads) (C : List Int) : Prop where
  srt : C.Pairwise (· < ·)
  rng : ∀ x ∈ C, 0 ≤ x ∧ x < n
  adj : C.Pairwise fun a b => adj R a b = true
theorem pw_mem {α : Type} {P : α → α → Prop} (hs : ∀ a b, P a b → P b a) : ∀ {C : List α}, C.Pairwise P → ∀ a ∈ C, ∀ b ∈ C, a ≠ b → P a b
  | [], _, _, h, _, _, _ => nomatch h
  | x :: C, hp, a, ha, b, hb, ne => by
    rw [List.pairwise_cons] at hp
    rcases List.mem_cons.mp ha with e1 | h1
    · rcases List.mem_cons.mp hb with e2 | h2
      · exact absurd (e1.trans e2.symm) ne
      · rw [e1]
        exact hp.1 b h2
    · rcases List.mem_cons.mp hb with e2 | h2
      · rw [e2]
        exact hs _ _ (hp.1 a h1)
      · exact pw_mem hs hp.2 a h1 b h2 ne
theorem noK_of {n : Int} {R : Roads} (hp : Plain R) {k : Nat} (h : ∀ C, SCl n R C → C.length ≠ k) : NoK (adj R) (rangeI n) k := by
  intro C c1 c2 c3
  have nd := nodup_of_clique (adj_irr hp) c3
  have hs := (rangeI_sorted n).filter fun x => decide (x ∈ C)
  have p : ((rangeI n).filter fun x => decide (x ∈ C)).Perm C := (List.perm_ext_iff_of_nodup ((rangeI_nodup n).filter _) nd).mpr fun a => by
    rw [List.mem_filter, decide_eq_true_eq]
    exact ⟨fun h => h.2, fun h => ⟨c1 a h, h⟩⟩
  refine h ((rangeI n).filter fun x => decide (x ∈ C)) ⟨hs, fun x hx => mem_rangeI.mp (List.mem_filter.mp hx).1, ?_⟩ (by rw [p.length_eq, c2])
  refine List.Pairwise.imp_of_mem (fun {a b} ha hb hab => ?_) hs
  have ha' := of_decide_eq_true (List.mem_filter.mp ha).2
  have hb' := of_decide_eq_true (List.mem_filter.mp hb).2
  exact pw_mem (fun a b q => by rw [adj_comm]; exact q) c3 a ha' b hb' (by omega)
theorem pow_sum : ∀ (xs : List Int) (k l : Nat) (g : Int × Nat → Nat), l = xs.length + k → (∀ p ∈ xs.zipIdx k, g p + p.2 + 1 ≤ l) → ((xs.zipIdx k).map fun p => 2 ^ g p).sum + 1 ≤ 2 ^ xs.length
  | [], _, _, _, _, _ => by simp
  | x :: xs, k, l, g, hl, h => by
    rw [List.zipIdx_cons, List.map_cons, List.sum_cons]
    have ih := pow_sum xs (k + 1) l g (by rw [hl, List.length_cons]; omega) fun p hp => h p (by rw [List.zipIdx_cons]; exact List.mem_cons_of_mem _ hp)
    have h0 := h (x, k) (by rw [List.zipIdx_cons]; exact List.mem_cons_self)
    simp only [List.length_cons] at hl ⊢
    have : 2 ^ g (x, k) ≤ 2 ^ xs.length := Nat.pow_le_pow_right (by omega) (by simp only at h0; omega)
    rw [Nat.pow_succ]
    omega
theorem sub_cons {x : Int} {C : List Int} : ∀ {xs : List Int} (k : Nat), (x :: C).Sublist xs → ∃ p : Nat, (x, p + k) ∈ xs.zipIdx k ∧ C.Sublist (xs.drop (p + 1))
  | [], _, h => by cases h
  | y :: xs, k, h => by
    cases h with
    | cons _ h =>
      obtain ⟨p, h1, h2⟩ := sub_cons (k + 1) h
      refine ⟨p + 1, ?_, by simpa using h2⟩
      rw [List.zipIdx_cons]
      refine List.mem_cons_of_mem _ ?_
      rwa [show p + 1 + k = p + (k + 1) by omega]
    | cons_cons _ h =>
      refine ⟨0, ?_, by simpa using h⟩
      rw [List.zipIdx_cons, Nat.zero_add]
      exact List.mem_cons_self
end L2.Zy
namespace L2.Zy.K62
open PySem PyProof.Rows PySem.Spec L2.Zy
theorem run_neigh {n : Int} {R : Roads} (g : Good n R) (hn : n ≤ 4096) (hR : R.length ≤ 4096) : t_neighbour_lists (n, R) = .ret ((rangeI n).map (nearL n R)) := by
  have hr := rangeT_ok (n := n) (by omega) (by have := g.n0; omega)
  unfold t_neighbour_lists
  simp only [T.ret_bind, hr]
  rw [forT_at (fun d => (rangeI n).map (acc d)) ?h0 ?hs, T.ret_bind]
  case h0 => rfl
  · congr 1
    rw [List.map_map]
    exact List.map_congr_left fun i _ => near_isort g i
  · intro d p r e
    have hp := g.rd p (by rw [e]; simp)
    have hl : ∀ i, (acc d i).length < 4097 := fun i => by
      have h1 := acc_len i d
      have h2 := congrArg List.length e
      simp at h2
      omega
    rw [appRT_range (by omega) (by omega) (by have := hl p.1; omega), T.ret_bind]
    by_cases q : p.2 = p.1
    · simp only [q, decide_true, Bool.not_true, Bool.false_eq_true, if_false, T.ret_bind]
      congr 1
      exact List.map_congr_left fun i _ => by
        rw [acc_snoc]
        unfold bit
        by_cases h : i = p.1
        · simp [h, q]
        · simp [h, Ne.symm h, q]
    · simp only [q, decide_false, Bool.not_false, if_true]
      rw [appRT_range (by omega) (by omega) (by
        simp only [q, if_false]
        have := hl p.2
        omega), T.ret_bind, T.ret_bind]
      congr 1
      exact List.map_congr_left fun i _ => by
        rw [acc_snoc]
        unfold bit
        by_cases h : i = p.1
        · have h2 : ¬ i = p.2 := by omega
          have h3 : ¬ (p.2 ≠ p.1 ∧ p.2 = i) := by omega
          rw [if_neg h2, if_pos h, if_pos h.symm, if_neg h3, List.append_nil]
        · by_cases h2 : i = p.2
          · have h3 : p.2 ≠ p.1 ∧ p.2 = i := by omega
            rw [if_pos h2, if_neg h, if_neg (Ne.symm h), if_pos h3, List.nil_append]
          · have h3 : ¬ (p.2 ≠ p.1 ∧ p.2 = i) := by omega
            rw [if_neg h2, if_neg h, if_neg (Ne.symm h), if_neg h3]
            simp
theorem run_plain {n : Int} {R : Roads} (hp : Plain R) : t_is_plain (n, R) = .ret true := by
  unfold t_is_plain
  congr 1
  rw [List.all_map, List.all_eq_true]
  intro p h
  have := hp p h
  show (!decide (p.1 = p.2)) = true
  rw [Bool.not_eq_true', decide_eq_false_iff_not]
  omega
theorem run_road {n : Int} {R : Roads} (g : Good n R) (a b : Int) : t_has_road (n, R) a b = .ret (adj R a b) := by
  unfold t_has_road
  rw [road_adj g]
/-- the lots that are left -/
abbrev Its := List (List Int × List Int)
def muI (ws : Its) : Nat := (ws.map fun w => 2 ^ w.2.length).sum
theorem muI_append (a b : Its) : muI (a ++ b) = muI a + muI b := by simp [muI]
theorem muI_len (ws : Its) : ws.length ≤ muI ws := by
  induction ws with
  | nil => exact Nat.zero_le _
  | cons w ws ih =>
    have : 0 < 2 ^ w.2.length := Nat.pow_pos (by omega)
    simp only [muI, List.map_cons, List.sum_cons, List.length_cons] at ih ⊢
    omega
def kid (n : Int) (R : Roads) (lot left : List Int) (p : Int × Int) : List Int × List Int := (lot ++ [p.2], (left.drop (p.1 + 1).toNat).filter fun x => decide (x ∈ nearL n R p.2))
structure InvF (n : Int) (R : Roads) (s : Int × Its) : Prop where
  b0 : 0 ≤ s.1
  each : ∀ w ∈ s.2, w.1.length ≤ 100 ∧ w.1.length + w.2.length ≤ 100 ∧ ∀ x ∈ w.2, 0 ≤ x ∧ x < n
  all_ : ∀ C, SCl n R C → (C.length : Int) ≤ s.1 ∨ ∃ w ∈ s.2, ∃ C', C = w.1 ++ C' ∧ C'.Sublist w.2
  mu : muI s.2 ≤ 4096
theorem run_fullsize {n : Int} {R : Roads} (g : Good n R) (hp : Plain R) (hn : n ≤ 12) (hR : R.length ≤ 4096) : ∃ v, t_full_size (n, R) = .ret v ∧ ∀ C, SCl n R C → (C.length : Int) ≤ v := by
  have n0 := g.n0
  unfold t_full_size
  rw [run_plain hp, T.ret_bind, T.ret_bind, Bool.not_true, if_neg Bool.false_ne_true, run_neigh g (by omega) hR, T.ret_bind, rangeT_ok (by simp only; omega) (by simp only; omega)]
  simp only [T.ret_bind]
  refine whlT_bind (InvF n R) (fun s => muI s.2) ?_ ?_ (P := fun s => ∀ C, SCl n R C → (C.length : Int) ≤ s.1) (fun s hs => ⟨_, rfl, hs⟩)
  · refine ⟨by simp, fun w hw => ?_, fun C hC => .inr ⟨([], rangeI n), by simp, C, rfl, ?_⟩, ?_⟩
    · have : w = ([], rangeI n) := by simpa using hw
      subst this
      refine ⟨by simp, by simp [length_rangeI]; omega, fun x hx => mem_rangeI.mp hx⟩
    · have e : C = (rangeI n).filter fun x => decide (x ∈ C) := by
        have h1 := (rangeI_sorted n).filter fun x => decide (x ∈ C)
        have p : C.Perm ((rangeI n).filter fun x => decide (x ∈ C)) := (List.perm_ext_iff_of_nodup (hC.srt.imp fun h => by omega) ((rangeI_nodup n).filter _)).mpr fun a => by
          rw [List.mem_filter, decide_eq_true_eq, mem_rangeI]
          exact ⟨fun h => ⟨hC.rng a h, h⟩, fun h => h.2⟩
        exact List.Perm.eq_of_pairwise (fun a b _ _ h1 h2 => absurd (Int.lt_trans h1 h2) (Int.lt_irrefl _)) hC.srt h1 p
      rw [e]
      exact List.filter_sublist
    · simp only [muI, List.map_cons, List.map_nil, List.sum_cons, List.sum_nil, length_rangeI]
      have : 2 ^ n.toNat ≤ 2 ^ 12 := Nat.pow_le_pow_right (by omega) (by omega)
      omega
  · rintro ⟨best, ws⟩ inv
    refine ⟨_, rfl, fun hk => ?_, fun hk => ?_⟩
    · have hne : ws ≠ [] := by simpa using hk
      obtain ⟨ys, ⟨lot, left⟩, rfl⟩ := snoc_of hne
      have hw := inv.each (lot, left) (by simp)
      simp only at hw
      have hmu := inv.mu
      simp only [muI_append] at hmu
      have hys := muI_len ys
      simp only
      rw [popT_snoc, T.ret_bind]
      dsimp only
      refine ⟨(max best (lot.length : Int), ys ++ (enumI left).map (kid n R lot left)), ?_, ?_, ?_⟩
      · rw [forT_at (fun d => ys ++ d.map (kid n R lot left)) ?h0 ?hs, T.ret_bind]
        case h0 => simp
        · rfl
        · intro d x r e
          have hx : x ∈ enumI left := by rw [e]; simp
          obtain ⟨q, hq, e2⟩ := List.mem_map.mp hx
          obtain ⟨y, k⟩ := q
          have hk1 := List.fst_mem_of_mem_zipIdx hq
          have hk2 := List.snd_lt_of_mem_zipIdx hq
          simp only at e2 hk1 hk2
          subst e2
          have hy := hw.2.2 y hk1
          have hd : d.length ≤ left.length := by
            have := congrArg List.length e
            rw [List.length_append, List.length_cons] at this
            simp [enumI] at this
            omega
          rw [catT_ok (by simp; omega), T.ret_bind, lcT_ret (fun z => decide (z ∈ nearL n R y)) (fun z => z) (fun z hz => ?_) (fun _ _ _ => rfl), T.ret_bind, T.ret_bind, appT_ok (by simp; omega), T.ret_bind]
          · rw [List.map_append, ← List.append_assoc]
            congr 3
            rw [List.map_id']
            unfold kid
            simp only
            congr 2
            unfold cutI
            have e3 := HT.sIx_nat left.length 0 (k + 1)
            rw [show (((k + 1 : Nat)) : Int) = (k : Int) + 1 by omega] at e3
            rw [e3, HT.sIx_none, List.take_of_length_le (by rw [List.length_drop]; omega)]
            congr 1
            omega
          · rw [getI_range hy.1 hy.2, T.ret_bind]
      · refine ⟨?_, fun w hw' => ?_, fun C hC => ?_, ?_⟩
        · have := inv.b0
          simp only at this ⊢
          omega
        · rcases List.mem_append.mp hw' with h | h
          · exact inv.each w (List.mem_append.mpr (.inl h))
          · obtain ⟨x, hx, rfl⟩ := List.mem_map.mp h
            obtain ⟨q, hq, e2⟩ := List.mem_map.mp hx
            obtain ⟨y, k⟩ := q
            have hk2 := List.snd_lt_of_mem_zipIdx hq
            simp only at e2 hk2
            subst e2
            unfold kid
            have l1 := List.length_filter_le (fun x => decide (x ∈ nearL n R y)) (left.drop ((k : Int) + 1).toNat)
            rw [List.length_drop] at l1
            refine ⟨by simp; omega, by simp only [List.length_append, List.length_singleton]; omega, fun z hz => hw.2.2 z (List.mem_of_mem_drop (List.mem_filter.mp hz).1)⟩
        · rcases inv.all_ C hC with h | ⟨w, hw', C', e, hs⟩
          · left
            simp only at h ⊢
            omega
          · rcases List.mem_append.mp hw' with h | h
            · exact .inr ⟨w, List.mem_append.mpr (.inl h), C', e, hs⟩
            · have : w = (lot, left) := by simpa using h
              subst this
              simp only at e hs
              cases C' with
              | nil =>
                left
                rw [e, List.append_nil]
                simp only
                omega
              | cons h C'' =>
                obtain ⟨p, h1, h2⟩ := sub_cons 0 hs
                rw [Nat.add_zero] at h1
                have hmem : ((p : Int), h) ∈ enumI left := List.mem_map.mpr ⟨(h, p), h1, rfl⟩
                refine .inr ⟨kid n R lot left ((p : Int), h), List.mem_append.mpr (.inr (List.mem_map_of_mem hmem)), C'', ?_, ?_⟩
                · rw [e]
                  simp [kid]
                · show C''.Sublist ((left.drop ((p : Int) + 1).toNat).filter fun x => decide (x ∈ nearL n R h))
                  rw [show ((p : Int) + 1).toNat = p + 1 by omega]
                  have ha : (h :: C'').Pairwise fun a b => adj R a b = true := (List.pairwise_append.mp (e ▸ hC.adj)).2.1
                  rw [List.pairwise_cons] at ha
                  have e4 : C'' = C''.filter fun x => decide (x ∈ nearL n R h) := (List.filter_eq_self.mpr fun x hx => decide_eq_true (mem_near.mpr ⟨hC.rng x (by rw [e]; simp [hx]), ha.1 x hx⟩)).symm
                  rw [e4]
                  exact h2.filter _
        · have e5 : muI ((enumI left).map (kid n R lot left)) + 1 ≤ 2 ^ left.length := by
            have := pow_sum left 0 left.length (fun p => (kid n R lot left ((p.2 : Int), p.1)).2.length) rfl fun p hp => by
              have hk2 := List.snd_lt_of_mem_zipIdx hp
              have l1 := List.length_filter_le (fun x => decide (x ∈ nearL n R p.1)) (left.drop ((p.2 : Int) + 1).toNat)
              rw [List.length_drop] at l1
              show ((left.drop ((p.2 : Int) + 1).toNat).filter fun x => decide (x ∈ nearL n R p.1)).length + p.2 + 1 ≤ left.length
              omega
            unfold muI enumI
            rw [List.map_map, List.map_map]
            exact this
          have e6 : muI [(lot, left)] = 2 ^ left.length := by simp [muI]
          simp only [muI_append]
          omega
      · have e5 : muI ((enumI left).map (kid n R lot left)) + 1 ≤ 2 ^ left.length := by
          have := pow_sum left 0 left.length (fun p => (kid n R lot left ((p.2 : Int), p.1)).2.length) rfl fun p hp => by
            have hk2 := List.snd_lt_of_mem_zipIdx hp
            have l1 := List.length_filter_le (fun x => decide (x ∈ nearL n R p.1)) (left.drop ((p.2 : Int) + 1).toNat)
            rw [List.length_drop] at l1
            show ((left.drop ((p.2 : Int) + 1).toNat).filter fun x => decide (x ∈ nearL n R p.1)).length + p.2 + 1 ≤ left.length
            omega
          unfold muI enumI
          rw [List.map_map, List.map_map]
          exact this
        have e6 : muI [(lot, left)] = 2 ^ left.length := by simp [muI]
        simp only [muI_append]
        omega
    · have : ws = [] := by simpa using hk
      subst this
      intro C hC
      rcases inv.all_ C hC with h | ⟨w, hw, _⟩
      · exact h
      · cases hw
end L2.Zy.K62
namespace L2.Zy
open PySem PyProof.Rows PySem.Spec
/-- where the next house may stand -/
def nxt (h : List Int) : Int := match h.getLast? with
  | some a => a + 1
  | none => 0
theorem nxt_snoc (h : List Int) (a : Int) : nxt (h ++ [a]) = a + 1 := by simp [nxt]
theorem nxt_nil : nxt [] = 0 := rfl
theorem mem_rangeI3 {a b x : Int} : x ∈ rangeI3 a b ↔ b < x ∧ x ≤ a := by
  unfold rangeI3
  rw [List.mem_map]
  constructor
  · rintro ⟨i, hi, rfl⟩
    rw [List.mem_range] at hi
    omega
  · intro h
    exact ⟨(a - x).toNat, List.mem_range.mpr (by omega), by omega⟩
theorem pow_dn : ∀ (l : Nat), ((List.range l).map fun i => 2 ^ i).sum + 1 = 2 ^ l
  | 0 => rfl
  | l + 1 => by
    rw [List.range_succ, List.map_append, List.sum_append, List.map_cons, List.map_nil, List.sum_cons, List.sum_nil, Nat.pow_succ]
    have := pow_dn l
    omega
theorem filt_sum {β : Type} (p : β → Bool) (f : β → Nat) : ∀ xs : List β, ((xs.filter p).map f).sum ≤ (xs.map f).sum
  | [] => Nat.le_refl _
  | x :: xs => by
    have := filt_sum p f xs
    rw [List.filter_cons, List.map_cons, List.sum_cons]
    split
    · rw [List.map_cons, List.sum_cons]; omega
    · omega
end L2.Zy
namespace L2.Zy.K62
open PySem PyProof.Rows PySem.Spec L2.Zy
def muS (n : Int) (ws : List (List Int)) : Nat := (ws.map fun h => 2 ^ (n - nxt h).toNat).sum
theorem muS_append (n : Int) (a b : List (List Int)) : muS n (a ++ b) = muS n a + muS n b := by simp [muS]
theorem muS_len (n : Int) (ws : List (List Int)) : ws.length ≤ muS n ws := by
  induction ws with
  | nil => exact Nat.zero_le _
  | cons w ws ih =>
    have : 0 < 2 ^ (n - nxt w).toNat := Nat.pow_pos (by omega)
    simp only [muS, List.map_cons, List.sum_cons, List.length_cons] at ih ⊢
    omega
structure InvS (n : Int) (R : Roads) (size : Nat) (ws : List (List Int)) : Prop where
  each : ∀ h ∈ ws, SCl n R h ∧ h.length ≤ size
  all_ : ∀ C, SCl n R C → C.length = size → ∃ h ∈ ws, h <+: C
  mu : muS n ws ≤ 4096
theorem scl_snoc {n : Int} {R : Roads} {h : List Int} {x : Int} (c : SCl n R h) (hx : nxt h ≤ x) (hn : x < n) (ha : ∀ y ∈ h, adj R y x = true) : SCl n R (h ++ [x]) := by
  have lt : ∀ y ∈ h, y < x := fun y hy => by
    rcases List.eq_nil_or_concat h with rfl | ⟨t, a, rfl⟩
    · cases hy
    · rw [List.concat_eq_append] at *
      rw [nxt_snoc] at hx
      rcases List.mem_append.mp hy with q | q
      · have := (List.pairwise_append.mp c.srt).2.2 y q a (by simp)
        omega
      · rw [List.mem_singleton.mp q]; omega
  have x0 : 0 ≤ x := by
    rcases List.eq_nil_or_concat h with rfl | ⟨t, a, rfl⟩
    · exact hx
    · rw [List.concat_eq_append] at *
      rw [nxt_snoc] at hx
      have := c.rng a (by simp)
      omega
  refine ⟨List.pairwise_append.mpr ⟨c.srt, List.pairwise_singleton _ _, fun a h1 b h2 => by rw [List.mem_singleton.mp h2]; exact lt a h1⟩, fun y hy => ?_, List.pairwise_append.mpr ⟨c.adj, List.pairwise_singleton _ _, fun a h1 b h2 => by rw [List.mem_singleton.mp h2]; exact ha a h1⟩⟩
  rcases List.mem_append.mp hy with h1 | h1
  · exact c.rng y h1
  · rw [List.mem_singleton.mp h1]
    exact ⟨x0, hn⟩
theorem nxt_le {n : Int} {R : Roads} {h : List Int} (n0 : 0 ≤ n) (c : SCl n R h) : 0 ≤ nxt h ∧ nxt h ≤ n := by
  rcases List.eq_nil_or_concat h with rfl | ⟨t, a, rfl⟩
  · exact ⟨Int.le_refl _, n0⟩
  · rw [List.concat_eq_append] at *
    rw [nxt_snoc]
    have := c.rng a (by simp)
    omega
theorem scl_next {n : Int} {R : Roads} {h t : List Int} {x : Int} (c : SCl n R (h ++ x :: t)) : nxt h ≤ x ∧ x < n ∧ ∀ y ∈ h, adj R y x = true := by
  have h1 := c.rng x (by simp)
  have p1 := (List.pairwise_append.mp c.srt).2.2
  have p2 := (List.pairwise_append.mp c.adj).2.2
  refine ⟨?_, h1.2, fun y hy => p2 y hy x (by simp)⟩
  rcases List.eq_nil_or_concat h with rfl | ⟨u, a, rfl⟩
  · exact h1.1
  · rw [List.concat_eq_append] at *
    rw [nxt_snoc]
    have := p1 a (by simp) x (by simp)
    omega
theorem scl_len {n : Int} {R : Roads} {C : List Int} (c : SCl n R C) : C.length ≤ n.toNat := by
  have := len_sub (xs := C) (ys := rangeI n) (c.srt.imp fun h => by omega) fun x hx => mem_rangeI.mpr (c.rng x hx)
  rwa [length_rangeI] at this
/-- the next house ahead of which a lot may grow -/
theorem run_nxt (h : List Int) : (if (!decide (h = ([] : List Int))) = true then (getI h (-(1 : Int)) >>= fun a153 => T.ret (a153 + (1 : Int))) else T.ret (0 : Int)) = .ret (nxt h) := by
  rcases List.eq_nil_or_concat h with rfl | ⟨t, a, rfl⟩
  · rfl
  · rw [List.concat_eq_append, nxt_snoc, if_pos (by simp), getI_last, T.ret_bind]
theorem run_somefull {n : Int} {R : Roads} {size : Nat} (g : Good n R) (hn : n ≤ 12) (hs : size ≤ 100) : ∃ v, t_some_full (n, R) (size : Int) = .ret v ∧ match v with
    | some C => SCl n R C ∧ C.length = size
    | none => ∀ C, SCl n R C → C.length ≠ size := by
  have n0 := g.n0
  unfold t_some_full
  rw [T.ret_bind]
  refine whlX_bind (InvS n R size) (muS n) ?h0 ?hs ?hk (P := fun z : Option (List Int) ⊕ Unit => match z with
    | .inl (some C) => SCl n R C ∧ C.length = size
    | .inl none => False
    | .inr _ => ∀ C, SCl n R C → C.length ≠ size)
  case h0 =>
    refine ⟨fun h hh => ?_, fun C _ _ => ⟨[], by simp, List.nil_prefix⟩, ?_⟩
    · have : h = [] := by simpa using hh
      subst this
      exact ⟨⟨.nil, (fun _ h => nomatch h), .nil⟩, Nat.zero_le _⟩
    · simp only [muS, List.map_cons, List.map_nil, List.sum_cons, List.sum_nil, nxt_nil]
      have : 2 ^ (n - 0).toNat ≤ 2 ^ 12 := Nat.pow_le_pow_right (by omega) (by omega)
      omega
  case hs =>
    intro ws inv
    refine ⟨_, rfl, fun hk => ?_, fun hk => ?_⟩
    · have hne : ws ≠ [] := by simpa using hk
      obtain ⟨ys, h, rfl⟩ := snoc_of hne
      obtain ⟨hc, hl⟩ := inv.each h (by simp)
      have hmu := inv.mu
      rw [muS_append] at hmu
      have hys := muS_len n ys
      have hnx := nxt_le n0 hc
      have hlc := scl_len hc
      rw [popT_snoc, T.ret_bind]
      dsimp only
      by_cases q : h.length = size
      · rw [if_pos (decide_eq_true (by rw [q]; rfl))]
        exact ⟨_, rfl, hc, q⟩
      · rw [if_neg (by rw [decide_eq_true_eq]; intro e; exact q (by have e' : (h.length : Int) = (size : Int) := e; omega)), run_nxt, T.ret_bind, rangeT3_ok (by omega) (by omega) (by omega) (by omega), T.ret_bind]
        rw [forT_at (fun d => ys ++ (d.filter fun x => h.all fun y => adj R y x).map fun x => h ++ [x]) ?h02 ?hs2, T.ret_bind]
        case h02 => simp
        · refine ⟨_, rfl, ⟨fun w hw => ?_, fun C hC hCl => ?_, ?_⟩, ?_⟩
          · rcases List.mem_append.mp hw with hw | hw
            · exact inv.each w (List.mem_append.mpr (.inl hw))
            · obtain ⟨x, hx, rfl⟩ := List.mem_map.mp hw
              obtain ⟨h1, h2⟩ := List.mem_filter.mp hx
              have h3 := mem_rangeI3.mp h1
              rw [List.all_eq_true] at h2
              exact ⟨scl_snoc hc (by omega) (by omega) h2, by simp; omega⟩
          · obtain ⟨w, hw, hp⟩ := inv.all_ C hC hCl
            rcases List.mem_append.mp hw with hw | hw
            · exact ⟨w, List.mem_append.mpr (.inl hw), hp⟩
            · obtain rfl : w = h := by simpa using hw
              obtain ⟨t, rfl⟩ := hp
              cases t with
              | nil => exact absurd (by simpa using hCl) q
              | cons x t =>
                obtain ⟨a1, a2, a3⟩ := scl_next hC
                refine ⟨w ++ [x], List.mem_append.mpr (.inr (List.mem_map.mpr ⟨x, List.mem_filter.mpr ⟨mem_rangeI3.mpr (by omega), ?_⟩, rfl⟩)), ⟨t, by simp⟩⟩
                rw [List.all_eq_true]
                exact a3
          all_goals
            have e5 : muS n (((rangeI3 (n - 1) (nxt h - 1)).filter fun x => h.all fun y => adj R y x).map fun x => h ++ [x]) + 1 ≤ 2 ^ (n - nxt h).toNat := by
              unfold muS
              rw [List.map_map]
              have f1 := filt_sum (fun x => h.all fun y => adj R y x) ((fun h => 2 ^ (n - nxt h).toNat) ∘ fun x => h ++ [x]) (rangeI3 (n - 1) (nxt h - 1))
              have f2 : ((rangeI3 (n - 1) (nxt h - 1)).map ((fun h => 2 ^ (n - nxt h).toNat) ∘ fun x => h ++ [x])).sum + 1 = 2 ^ (n - nxt h).toNat := by
                unfold rangeI3
                rw [List.map_map, ← pow_dn, show (n - 1 - (nxt h - 1)).toNat = (n - nxt h).toNat by omega]
                congr 2
                refine List.map_congr_left fun i _ => ?_
                show 2 ^ (n - nxt (h ++ [n - 1 - (i : Int)])).toNat = 2 ^ i
                rw [nxt_snoc]
                congr 1
                omega
              omega
            have e6 : muS n [h] = 2 ^ (n - nxt h).toNat := by simp [muS]
            rw [muS_append]
            first | omega | (rw [muS_append]; omega)
        · intro d x r e
          have hx : x ∈ rangeI3 (n - 1) (nxt h - 1) := by rw [e]; simp
          have hx' := mem_rangeI3.mp hx
          have hdl : d.length ≤ 100 := by
            have := congrArg List.length e
            simp [rangeI3] at this
            omega
          rw [lcT_map (fun y => adj R y x) (fun y _ => run_road g y x), T.ret_bind, T.ret_bind, List.all_map]
          have ee : h.all (id ∘ fun y => adj R y x) = h.all fun y => adj R y x := rfl
          rw [ee, List.filter_append]
          have fl := List.length_filter_le (fun x => h.all fun y => adj R y x) d
          by_cases q2 : (h.all fun y => adj R y x) = true
          · rw [if_pos q2, catT_ok (by simp; omega), T.ret_bind, appT_ok (by simp; omega), T.ret_bind, T.ret_bind]
            simp [q2]
          · rw [if_neg q2, T.ret_bind]
            simp [q2]
    · have : ws = [] := by simpa using hk
      subst this
      intro C hC hl
      obtain ⟨h, hh, _⟩ := inv.all_ C hC hl
      cases hh
  case hk =>
    intro z hz
    cases z with
    | inl r =>
      cases r with
      | none => exact hz.elim
      | some C => exact ⟨some C, rfl, hz⟩
    | inr u => exact ⟨none, rfl, hz⟩
end L2.Zy.K62
namespace L2.Zy
open PySem PyProof.Rows PySem.Spec
/-! ## what a roads paper may be -/
def houseO (n : Int) : D → Option Int
  | .int i => if 0 ≤ i ∧ i < n then some i else none
  | _ => none
theorem houseO_some {n : Int} {d : D} {i : Int} (h : houseO n d = some i) : d = .int i ∧ 0 ≤ i ∧ i < n := by
  unfold houseO at h
  split at h
  · split at h
    · rename_i q
      cases h
      exact ⟨rfl, q⟩
    · cases h
  · cases h
theorem houseO_int {n i : Int} : houseO n (.int i) = if 0 ≤ i ∧ i < n then some i else none := rfl
theorem houseO_ok {n i : Int} (h0 : 0 ≤ i) (h1 : i < n) : houseO n (.int i) = some i := by
  rw [houseO_int, if_pos ⟨h0, h1⟩]
def ascB (C : List Int) : Bool := (List.zip C (C.drop 1)).all fun p => decide (p.1 < p.2)
def gA (R : Roads) (C : List Int) (x : Int × Int) : Option D := ((C.drop (x.1 + 1).toNat).find? fun j => !adj R x.2 j).map fun j => .tuple [.str "apart", .int x.2, .int j]
def apartF (R : Roads) (C : List Int) : D := ((enumI C).findSome? (gA R C)).getD .none
def fullF (n : Int) (R : Roads) (size : Int) : D → D
  | .tuple ds => if (ds.length : Int) = size + 1 then match mapO (houseO n) ds with
      | some C => if ascB C = true then apartF R C else .str "form"
      | none => .str "form"
    else .str "form"
  | _ => .str "form"
theorem mapO_map {n : Int} : ∀ {ds : List D} {C : List Int}, mapO (houseO n) ds = some C → ds = C.map eI ∧ ∀ x ∈ C, 0 ≤ x ∧ x < n
  | [], C, h => by cases h; exact ⟨rfl, fun _ h => nomatch h⟩
  | d :: ds, C, h => by
    unfold mapO at h
    split at h
    · rename_i a as e1 e2
      cases h
      obtain ⟨rfl, h0, h1⟩ := houseO_some e1
      obtain ⟨rfl, h2⟩ := mapO_map e2
      exact ⟨rfl, fun x hx => by
        rcases List.mem_cons.mp hx with rfl | hx
        · exact ⟨h0, h1⟩
        · exact h2 x hx⟩
    · cases h
theorem mapO_int {n : Int} : ∀ {C : List Int}, (∀ x ∈ C, 0 ≤ x ∧ x < n) → mapO (houseO n) (C.map eI) = some C
  | [], _ => rfl
  | c :: C, h => by
    have h1 := h c List.mem_cons_self
    have ih := mapO_int (C := C) fun x hx => h x (List.mem_cons_of_mem _ hx)
    rw [List.map_cons]
    unfold mapO
    rw [show houseO n (eI c) = some c from houseO_ok h1.1 h1.2, ih]
theorem castVI (C : List Int) : castT (dcV dcI) (.tuple (C.map eI)) = .ret C := by
  show T.ofO (mapO dcI (C.map eI)) = _
  rw [mapO_back deI]
  rfl
theorem cut_drop (C : List Int) (k : Int) (h : 0 ≤ k) : cutI C (some k) none = C.drop k.toNat := by
  unfold cutI
  have e := HT.sIx_nat C.length 0 k.toNat
  rw [show ((k.toNat : Nat) : Int) = k by omega] at e
  rw [e, HT.sIx_none]
  rcases Nat.le_total k.toNat C.length with q | q
  · rw [Nat.min_eq_left q] <;> try rw [List.take_of_length_le (by rw [List.length_drop]; omega)]
  · rw [Nat.min_eq_right q, List.drop_eq_nil_of_le (Nat.le_refl _), List.drop_eq_nil_of_le q]
    simp
theorem enum_map {α β : Type} (f : α → β) (C : List α) : enumI (C.map f) = (enumI C).map fun p => (p.1, f p.2) := by
  unfold enumI
  rw [List.zipIdx_map, List.map_map, List.map_map]
  rfl
def fewF (n : Int) (R : Roads) (size : Int) : D → D
  | .int m => if m = (R.length : Int) then (if (PL n size).length < R.length then .tuple [.str "many", .int (PL n size).length] else .none) else .str "number"
  | _ => .str "number"
def paperF (n : Int) (R : Roads) (size : Int) : D → D
  | .tuple [.str s, x] => if s = ("full" : Str) then fullF n R size x else if s = ("few" : Str) then fewF n R size x else .str "form"
  | _ => .str "form"
end L2.Zy
namespace L2.Zy.K62
open PySem PyProof.Rows PySem.Spec L2.Zy
theorem run_isint (d : D) : t__law_is_integer d = .ret (isInt d) := by
  unfold t__law_is_integer
  cases d <;> rfl
theorem run_isnum (d : D) : t_is_number d = .ret (isInt d) := by
  unfold t_is_number
  cases d <;> rfl
theorem run_within (n : Int) (d : D) : t_is_within d 0 (n - 1) = .ret (houseO n d).isSome := by
  unfold t_is_within
  rw [run_isnum, T.ret_bind]
  cases d with
  | int i =>
    rw [show isInt (.int i) = true from rfl, andK_t, T.ret_bind, castI_int, T.ret_bind]
    rw [houseO_int]
    by_cases h : 0 ≤ i
    · rw [if_pos (by simpa using h), T.ret_bind]
      by_cases h2 : i < n
      · rw [if_pos ⟨h, h2⟩, decide_eq_true (by omega)]
        rfl
      · rw [if_neg (fun q => h2 q.2), decide_eq_false (by omega)]
        rfl
    · rw [if_neg (by simpa using h), if_neg (fun q => h q.1)]
      rfl
  | _ => rfl
theorem run_house (n : Int) (d : D) : (t__law_is_integer d >>= fun b197 => andK b197 ((T.ret (0 : Int) >>= fun k194 => castT dcI d >>= fun k195 => if decide (k194 ≤ k195) = true then T.ret n >>= fun k196 => T.ret (decide (k195 < k196)) else T.ret false))) = .ret (houseO n d).isSome := by
  rw [run_isint, T.ret_bind]
  cases d with
  | int i =>
    rw [show isInt (.int i) = true from rfl, andK_t, T.ret_bind, castI_int, T.ret_bind]
    rw [houseO_int]
    by_cases h : 0 ≤ i
    · rw [if_pos (by simpa using h), T.ret_bind]
      by_cases h2 : i < n
      · rw [if_pos ⟨h, h2⟩, decide_eq_true (by omega)]
        rfl
      · rw [if_neg (fun q => h2 q.2), decide_eq_false (by omega)]
        rfl
    · rw [if_neg (by simpa using h), if_neg (fun q => h q.1)]
      rfl
  | _ => rfl
theorem all_house {n : Int} {ds : List D} : List.all (ds.map fun x => (houseO n x).isSome) id = (mapO (houseO n) ds).isSome := by
  cases e : mapO (houseO n) ds with
  | none =>
    obtain ⟨x, hx, h⟩ := mapO_none e
    rw [Option.isSome_none, Bool.eq_false_iff]
    intro q
    rw [List.all_map, List.all_eq_true] at q
    have := q x hx
    rw [Function.comp, h] at this
    cases this
  | some C =>
    rw [Option.isSome_some, List.all_map, List.all_eq_true]
    intro x hx
    exact mapO_all e x hx
end L2.Zy.K62
namespace L2.Zy
open PySem PyProof.Rows PySem.Spec
theorem setRT_tab {α : Type} {n a b : Int} {F : Int → Int → α} {v : α} (ha : 0 ≤ a) (ha2 : a < n) (hb : 0 ≤ b) (hb2 : b < n) : setRT ((rangeI n).map fun i => (rangeI n).map (F i)) a b v = .ret ((rangeI n).map fun i => (rangeI n).map fun j => if i = a ∧ j = b then v else F i j) := by
  have l1 : ((rangeI n).map fun i => (rangeI n).map (F i)).length = n.toNat := by rw [List.length_map, length_rangeI]
  unfold setRT
  rw [l1, ixN_nn ha (by omega)]
  simp only
  rw [List.getElem?_map, rangeI_get (by omega)]
  simp only [Option.map_some]
  rw [show ((a.toNat : Nat) : Int) = a by omega, List.length_map, length_rangeI, ixN_nn hb (by omega)]
  simp only
  rw [rangeI_set (F a) v hb hb2, rangeI_set (fun i => (rangeI n).map (F i)) _ ha ha2]
  congr 1
  refine List.map_congr_left fun i _ => ?_
  by_cases h : i = a
  · rw [if_pos h]
    refine List.map_congr_left fun j _ => ?_
    subst h
    simp
  · rw [if_neg h]
    refine List.map_congr_left fun j _ => ?_
    rw [if_neg (fun q => h q.1)]
theorem rep_false (n : Int) : (List.replicate n.toNat [false]).flatten = (rangeI n).map fun _ => false := by
  unfold rangeI
  rw [List.map_map]
  have : ∀ m : Nat, (List.replicate m [false]).flatten = (List.range m).map ((fun _ => false) ∘ fun (i : Nat) => (i : Int)) := by
    intro m
    induction m with
    | zero => rfl
    | succ m ih =>
      rw [List.replicate_succ', List.flatten_append, ih, List.range_succ, List.map_append]
      rfl
  exact this _
def unI : D → Int
  | .int i => i
  | _ => 0
theorem any_asc (C : List Int) : ((List.zip C (C.drop 1)).map fun p => decide (p.2 ≤ p.1)).any id = !ascB C := by
  unfold ascB
  rw [List.any_map]
  induction List.zip C (C.drop 1) with
  | nil => rfl
  | cons p ps ih =>
    rw [List.any_cons, List.all_cons, ih]
    show (decide (p.2 ≤ p.1) || _) = _
    by_cases h : p.1 < p.2
    · rw [decide_eq_false (by omega), decide_eq_true h]
      simp
    · rw [decide_eq_true (by omega), decide_eq_false h]
      simp
theorem zip_eI (C : List Int) (E : List Int) : List.zip (C.map eI) E = (List.zip C E).map fun p => (eI p.1, p.2) := by
  rw [List.zip_map_left]
  rfl
theorem filt_find {p : Int → Bool} (l : List Int) : (l.filter p = [] ∧ l.find? p = none) ∨ ∃ a, l.find? p = some a ∧ l.filter p ≠ [] ∧ getI (l.filter p) 0 = .ret a := by
  cases e : l.find? p with
  | none =>
    left
    refine ⟨List.filter_eq_nil_iff.mpr fun x hx => ?_, rfl⟩
    exact List.find?_eq_none.mp e x hx
  | some a =>
    right
    have h := List.head?_filter (p := p) (l := l)
    rw [e] at h
    cases e2 : l.filter p with
    | nil => rw [e2] at h; cases h
    | cons b bs =>
      rw [e2] at h
      cases h
      exact ⟨_, rfl, List.cons_ne_nil _ _, getI_ok (Int.le_refl 0) rfl⟩
end L2.Zy
namespace L2.Zy.K62
open PySem PyProof.Rows PySem.Spec L2.Zy
theorem run_table {n : Int} {R : Roads} (g : Good n R) (hn : n ≤ 100) : t__law_table (n, R) = .ret ((rangeI n).map fun i => (rangeI n).map (adj R i)) := by
  have n0 := g.n0
  unfold t__law_table
  rw [rangeT_ok (by simp only; omega) (by simp only; omega), T.ret_bind, lcT_map (fun _ => (rangeI n).map fun _ => false) (fun _ _ => by rw [repT_ok (by simp only; omega) (by simp only; omega) (by simp; omega), rep_false]), T.ret_bind]
  rw [forT_at (fun d => (rangeI n).map fun i => (rangeI n).map (adj d i)) ?h0 ?hs, T.ret_bind]
  case h0 => rfl
  · intro d p r e
    have e0 : R = d ++ p :: r := e
    have hp := g.rd p (by rw [e0]; simp)
    rw [setRT_tab hp.1 (by omega) (by omega) hp.2.2, T.ret_bind, setRT_tab (F := fun i j => if i = p.1 ∧ j = p.2 then true else adj d i j) (by omega) hp.2.2 hp.1 (by omega), T.ret_bind]
    congr 1
    refine List.map_congr_left fun i _ => List.map_congr_left fun j _ => ?_
    obtain ⟨a, b⟩ := p
    simp only
    unfold adj
    rw [Bool.eq_iff_iff]
    by_cases h1 : i = b ∧ j = a
    · rw [if_pos h1]
      obtain ⟨rfl, rfl⟩ := h1
      simp
    · rw [if_neg h1]
      by_cases h2 : i = a ∧ j = b
      · rw [if_pos h2]
        obtain ⟨rfl, rfl⟩ := h2
        simp
      · rw [if_neg h2]
        have q1 : ¬ (i, j) = (a, b) := fun q => h2 (by cases q; exact ⟨rfl, rfl⟩)
        have q2 : ¬ (j, i) = (a, b) := fun q => h1 (by cases q; exact ⟨rfl, rfl⟩)
        simp [q1, q2]
theorem run_ff {n : Int} {R : Roads} (g : Good n R) (hn : n ≤ 100) (size : Int) (v : D) : t__law_full_fault (n, R) size v = .ret (fullF n R size v) := by
  unfold t__law_full_fault
  cases v with
  | tuple ds =>
    rw [show isT .tuple (.tuple ds) = .ret true from rfl, T.ret_bind, T.ret_bind, Bool.not_true, orK_f, cast_tup]
    simp only [T.ret_bind]
    show _ = T.ret (if (ds.length : Int) = size + 1 then match mapO (houseO n) ds with
      | some C => if ascB C = true then apartF R C else .str "form"
      | none => .str "form"
    else .str "form")
    by_cases hl : (ds.length : Int) = size + 1
    · rw [if_neg (by rw [Bool.not_eq_true', decide_eq_false_iff_not]; exact fun q => q hl), if_pos hl]
      rw [lcT_map (fun x => (houseO n x).isSome) (fun x _ => ?hx), T.ret_bind, all_house]
      case hx =>
        have := run_house n x
        simp only [T.ret_bind] at this
        exact this
      cases hm : mapO (houseO n) ds with
      | none => rfl
      | some C =>
        obtain ⟨rfl, hC⟩ := mapO_map hm
        rw [Option.isSome_some, T.ret_bind, T.ret_bind, Bool.not_true, if_neg Bool.false_ne_true, castVI]
        simp only [T.ret_bind]
        rw [cut_drop C 1 (by decide), show (1 : Int).toNat = 1 from rfl, zip_eI, lcT_map (fun x : D × Int => decide (x.2 ≤ unI x.1)) (fun x hx => ?hx2), T.ret_bind, List.map_map]
        case hx2 =>
          obtain ⟨p, _, rfl⟩ := List.mem_map.mp hx
          rfl
        have ea : ((List.zip C (C.drop 1)).map ((fun x : D × Int => decide (x.2 ≤ unI x.1)) ∘ fun p => (eI p.1, p.2))).any id = !ascB C := any_asc C
        rw [ea]
        cases ha : ascB C with
        | false => rfl
        | true =>
          rw [Bool.not_true, T.ret_bind, if_neg Bool.false_ne_true, run_table g hn, T.ret_bind, if_pos rfl]
          rw [forX_find (fun x : Int × D => gA R C (x.1, unI x.2)) ?hb, T.ret_bind]
          case hb =>
            rintro ⟨k, d⟩ hx
            rw [enum_map] at hx
            obtain ⟨⟨k', c⟩, hx1, e⟩ := List.mem_map.mp hx
            cases e
            obtain ⟨⟨c0, kk⟩, hq, e2⟩ := List.mem_map.mp hx1
            cases e2
            have hc := hC c0 (show c0 ∈ C from List.fst_mem_of_mem_zipIdx hq)
            simp only
            rw [cut_drop C _ (by omega), lcT_ret (fun j => !adj R c0 j) (fun j => j) (fun j hj => ?hc) (fun _ _ _ => rfl), T.ret_bind, List.map_id']
            case hc =>
              have hj' := hC j (List.mem_of_mem_drop hj)
              rw [show castT dcI (eI c0) = .ret c0 from rfl, T.ret_bind, getI_range hc.1 hc.2, T.ret_bind, getI_range hj'.1 hj'.2, T.ret_bind]
            unfold gA
            simp only [unI, eI]
            rcases filt_find (p := fun j => !adj R c0 j) (C.drop ((kk : Int) + 1).toNat) with ⟨f1, f2⟩ | ⟨a, f1, f2, f3⟩
            · rw [f1, f2]
              rfl
            · rw [f1, if_pos (by simpa using f2), f3]
              rfl
          rw [enum_map, List.findSome?_map]
          have eg : ((fun x : Int × D => gA R C (x.1, unI x.2)) ∘ fun p : Int × Int => (p.1, eI p.2)) = gA R C := by
            funext p
            rfl
          rw [eg]
          rw [show apartF R C = ((enumI C).findSome? (gA R C)).getD .none from rfl]
          cases (enumI C).findSome? (gA R C) <;> rfl
    · rw [if_pos (by rw [Bool.not_eq_true', decide_eq_false_iff_not]; exact hl), if_neg hl]
  | _ => rfl
end L2.Zy.K62
namespace L2.Zy
open PySem PyProof.Rows PySem.Spec
theorem findSome_if {α β : Type} (p : α → Bool) (f : α → β) : ∀ l : List α, (l.findSome? fun x => if p x = true then some (f x) else none) = (l.find? p).map f
  | [] => rfl
  | x :: l => by
    rw [List.findSome?_cons, List.find?_cons]
    cases e : p x with
    | true => rw [if_pos rfl]; rfl
    | false => rw [if_neg Bool.false_ne_true]; exact findSome_if p f l
theorem all_asc (C : List Int) : ((List.zip C (C.drop 1)).map fun p => decide (p.1 < p.2)).all id = ascB C := by
  unfold ascB
  rw [List.all_map]
  rfl
def hrowB (n : Int) (size : Int) : D → Bool
  | .tuple ds => decide ((ds.length : Int) = size) && match mapO (houseO n) ds with
    | some C => ascB C
    | none => false
  | _ => false
end L2.Zy
namespace L2.Zy.K62
open PySem PyProof.Rows PySem.Spec L2.Zy
theorem run_hrow (n : Int) (R : Roads) (size : Int) (v : D) : t_is_house_row (n, R) v size = .ret (hrowB n size v) := by
  unfold t_is_house_row
  cases v with
  | tuple ds =>
    rw [show isT .tuple (.tuple ds) = .ret true from rfl, T.ret_bind, T.ret_bind, Bool.not_true, orK_f, cast_tup]
    simp only [T.ret_bind]
    show _ = T.ret (decide ((ds.length : Int) = size) && match mapO (houseO n) ds with
      | some C => ascB C
      | none => false)
    by_cases hl : (ds.length : Int) = size
    · rw [if_neg (by rw [Bool.not_eq_true', decide_eq_false_iff_not]; exact fun q => q hl), decide_eq_true hl, Bool.true_and]
      rw [lcT_map (fun x => (houseO n x).isSome) (fun x _ => run_within n x), T.ret_bind, all_house]
      cases hm : mapO (houseO n) ds with
      | none => rfl
      | some C =>
        obtain ⟨rfl, hC⟩ := mapO_map hm
        rw [Option.isSome_some, T.ret_bind, T.ret_bind, Bool.not_true, if_neg Bool.false_ne_true, castVI]
        simp only [T.ret_bind]
        rw [cut_drop C 1 (by decide), show (1 : Int).toNat = 1 from rfl, zip_eI, lcT_map (fun x : D × Int => decide (unI x.1 < x.2)) (fun x hx => ?hx2), T.ret_bind, List.map_map]
        case hx2 =>
          obtain ⟨p, _, rfl⟩ := List.mem_map.mp hx
          rfl
        congr 1
        exact all_asc C
    · rw [if_pos (by rw [Bool.not_eq_true', decide_eq_false_iff_not]; exact hl), decide_eq_false hl, Bool.false_and]
  | _ => rfl
theorem run_fe {n : Int} {R : Roads} (g : Good n R) (size : Int) (v : D) : t_full_error (n, R) size v = .ret (fullF n R size v) := by
  unfold t_full_error
  rw [run_hrow, T.ret_bind, T.ret_bind]
  cases v with
  | tuple ds =>
    show _ = T.ret (if (ds.length : Int) = size + 1 then match mapO (houseO n) ds with
      | some C => if ascB C = true then apartF R C else .str "form"
      | none => .str "form"
    else .str "form")
    show (if (!(decide ((ds.length : Int) = size + 1) && match mapO (houseO n) ds with
      | some C => ascB C
      | none => false)) = true then _ else _) = _
    by_cases hl : (ds.length : Int) = size + 1
    · rw [decide_eq_true hl, Bool.true_and, if_pos hl]
      cases hm : mapO (houseO n) ds with
      | none => rfl
      | some C =>
        obtain ⟨rfl, hC⟩ := mapO_map hm
        simp only
        by_cases ha : ascB C = true
        case neg =>
          rw [if_pos (by rw [Bool.eq_false_iff.mpr ha]; rfl), if_neg ha]
        case pos =>
          rw [if_neg (by rw [ha]; exact Bool.false_ne_true), if_pos ha, cast_tup, castVI]
          simp only [T.ret_bind]
          rw [forX_find (fun x : Int × D => gA R C (x.1, unI x.2)) ?hb, T.ret_bind]
          case hb =>
            rintro ⟨k, d⟩ hx
            rw [enum_map] at hx
            obtain ⟨⟨k', c⟩, hx1, e⟩ := List.mem_map.mp hx
            cases e
            obtain ⟨⟨c0, kk⟩, hq, e2⟩ := List.mem_map.mp hx1
            cases e2
            simp only
            rw [cut_drop C _ (by omega), forX_find (fun j => if (!adj R c0 j) = true then some (PyData.tuple [.str "apart", .int c0, .int j]) else none) ?hi, T.ret_bind, findSome_if]
            case hi =>
              intro j _
              rw [show castT dcI (eI c0) = .ret c0 from rfl, T.ret_bind, run_road g, T.ret_bind, T.ret_bind]
              cases adj R c0 j <;> rfl
            rw [show gA R C ((kk : Int), unI (eI c0)) = ((C.drop ((kk : Int) + 1).toNat).find? fun j => !adj R c0 j).map fun j => PyData.tuple [.str "apart", .int c0, .int j] from rfl]
            cases ((C.drop ((kk : Int) + 1).toNat).find? fun j => !adj R c0 j).map fun j => PyData.tuple [.str "apart", .int c0, .int j] <;> rfl
          rw [enum_map, List.findSome?_map]
          have eg : ((fun x : Int × D => gA R C (x.1, unI x.2)) ∘ fun p : Int × Int => (p.1, eI p.2)) = gA R C := by
            funext p
            rfl
          rw [eg]
          rw [show apartF R C = ((enumI C).findSome? (gA R C)).getD .none from rfl]
          cases (enumI C).findSome? (gA R C) <;> rfl
    · rw [decide_eq_false hl, Bool.false_and, if_neg hl]
      rfl
  | _ => rfl
/-- the whole papers -/
theorem run_fault {n : Int} {R : Roads} (g : Good n R) (hn : n ≤ 12) {size : Int} (h1 : 1 ≤ size) (h2 : size ≤ 12) (v : D) : t__law_fault (n, R) size v = .ret (paperF n R size v) := by
  have n0 := g.n0
  unfold t__law_fault
  cases v with
  | tuple cs =>
    rw [show isT .tuple (.tuple cs) = .ret true from rfl, T.ret_bind, T.ret_bind, Bool.not_true, orK_f, cast_tup]
    simp only [T.ret_bind]
    by_cases hl : cs.length = 2
    · match cs, hl with
      | [a, x], _ =>
        rw [show (!decide (Int.ofNat (List.length [a, x]) = (2 : Int))) = false from rfl, orK_f]
        rw [show getI [a, x] (0 : Int) = .ret a from rfl, show getI [a, x] (1 : Int) = .ret x from rfl]
        simp only [T.ret_bind]
        cases a with
        | str s =>
          rw [show isT .str (.str s) = .ret true from rfl, T.ret_bind, T.ret_bind, Bool.not_true, if_neg Bool.false_ne_true, show castT dcS (.str s) = .ret s from rfl, T.ret_bind, T.ret_bind]
          simp only [T.ret_bind]
          show _ = T.ret (if s = ("full" : Str) then fullF n R size x else if s = ("few" : Str) then fewF n R size x else .str "form")
          by_cases e1 : s = ("full" : Str)
          · rw [if_pos (decide_eq_true e1), if_pos e1, run_ff g (by omega)]
          · rw [if_neg (by rw [decide_eq_true_eq]; exact e1), if_neg e1]
            by_cases e2' : s = ("few" : Str)
            · rw [if_neg (by rw [Bool.not_eq_true', decide_eq_false_iff_not]; exact fun q => q e2'), if_pos e2', run_isint, T.ret_bind, T.ret_bind]
              cases x with
              | int m =>
                rw [show fewF n R size (.int m) = if m = (R.length : Int) then (if (PL n size).length < R.length then .tuple [.str "many", .int (PL n size).length] else .none) else .str "number" from rfl]
                rw [show isInt (.int m) = true from rfl, Bool.not_true, orK_f, castI_int, T.ret_bind, T.ret_bind]
                by_cases e3' : m = (R.length : Int)
                · rw [if_neg (by rw [Bool.not_eq_true', decide_eq_false_iff_not]; exact fun q => q e3'), if_pos e3', run_parted n0 hn h1 h2]
                  simp only [T.ret_bind]
                  by_cases e4 : (PL n size).length < R.length
                  · rw [if_pos (decide_eq_true (by show ((PL n size).length : Int) < (R.length : Int); omega)), if_pos e4]
                    all_goals rfl
                  · rw [if_neg (by rw [decide_eq_true_eq]; show ¬ ((PL n size).length : Int) < (R.length : Int); omega), if_neg e4]
                    all_goals rfl
                · rw [if_pos (by rw [Bool.not_eq_true', decide_eq_false_iff_not]; exact e3'), if_neg e3']
                  all_goals rfl
              | _ => rfl
            · rw [if_pos (by rw [Bool.not_eq_true', decide_eq_false_iff_not]; exact e2'), if_neg e2']
              all_goals rfl
        | _ => rfl
    · have e : (!decide (Int.ofNat cs.length = (2 : Int))) = true := by
        rw [Bool.not_eq_true', decide_eq_false_iff_not]
        intro q
        have q' : (cs.length : Int) = 2 := q
        exact hl (by omega)
      rw [e, orK_t, T.ret_bind, if_pos rfl]
      have : paperF n R size (.tuple cs) = .str "form" := by
        unfold paperF
        split
        · rename_i e
          cases e
          exact absurd rfl hl
        · rfl
      rw [this]
  | _ => rfl
theorem run_paperr {n : Int} {R : Roads} (g : Good n R) (hn : n ≤ 12) {size : Int} (h1 : 1 ≤ size) (h2 : size ≤ 12) (v : D) : t_roads_paper_error (n, R) size v = .ret (paperF n R size v) := by
  have n0 := g.n0
  unfold t_roads_paper_error
  cases v with
  | tuple cs =>
    rw [show isT .tuple (.tuple cs) = .ret true from rfl, T.ret_bind, T.ret_bind, Bool.not_true, orK_f, cast_tup]
    simp only [T.ret_bind]
    by_cases hl : cs.length = 2
    · match cs, hl with
      | [a, x], _ =>
        rw [show (!decide (Int.ofNat (List.length [a, x]) = (2 : Int))) = false from rfl, orK_f]
        rw [show getI [a, x] (0 : Int) = .ret a from rfl]
        simp only [T.ret_bind]
        cases a with
        | str s =>
          rw [show isT .str (.str s) = .ret true from rfl, T.ret_bind, T.ret_bind, Bool.not_true, if_neg Bool.false_ne_true, show castT (dc2 dcS some) (.tuple [.str s, x]) = .ret (s, x) from rfl, T.ret_bind]
          simp only [T.ret_bind]
          show _ = T.ret (if s = ("full" : Str) then fullF n R size x else if s = ("few" : Str) then fewF n R size x else .str "form")
          by_cases e1 : s = ("full" : Str)
          · rw [if_pos (decide_eq_true e1), if_pos e1, run_fe g]
          · rw [if_neg (by rw [decide_eq_true_eq]; exact e1), if_neg e1]
            by_cases e2' : s = ("few" : Str)
            · rw [if_neg (by rw [Bool.not_eq_true', decide_eq_false_iff_not]; exact fun q => q e2'), if_pos e2', run_isnum, T.ret_bind, T.ret_bind]
              cases x with
              | int m =>
                rw [show fewF n R size (.int m) = if m = (R.length : Int) then (if (PL n size).length < R.length then .tuple [.str "many", .int (PL n size).length] else .none) else .str "number" from rfl]
                rw [show isInt (.int m) = true from rfl, Bool.not_true, orK_f, castI_int]
                simp only [T.ret_bind]
                by_cases e3' : m = (R.length : Int)
                · rw [if_neg (by rw [Bool.not_eq_true', decide_eq_false_iff_not]; exact fun q => q e3'), if_pos e3', run_most n0 hn h1 h2]
                  simp only [T.ret_bind]
                  by_cases e4 : (PL n size).length < R.length
                  · rw [if_pos (decide_eq_true (by show ((PL n size).length : Int) < m; omega)), if_pos e4]
                    all_goals rfl
                  · rw [if_neg (by rw [decide_eq_true_eq]; show ¬ ((PL n size).length : Int) < m; omega), if_neg e4]
                    all_goals rfl
                · rw [if_pos (by rw [Bool.not_eq_true', decide_eq_false_iff_not]; exact e3'), if_neg e3']
                  all_goals rfl
              | _ => rfl
            · rw [if_pos (by rw [Bool.not_eq_true', decide_eq_false_iff_not]; exact e2'), if_neg e2']
              all_goals rfl
        | _ => rfl
    · have e : (!decide (Int.ofNat cs.length = (2 : Int))) = true := by
        rw [Bool.not_eq_true', decide_eq_false_iff_not]
        intro q
        have q' : (cs.length : Int) = 2 := q
        exact hl (by omega)
      rw [e, orK_t, T.ret_bind, if_pos rfl]
      have : paperF n R size (.tuple cs) = .str "form" := by
        unfold paperF
        split
        · rename_i e
          cases e
          exact absurd rfl hl
        · rfl
      rw [this]
  | _ => rfl
end L2.Zy.K62
namespace L2.Zy
open PySem PyProof.Rows PySem.Spec
theorem asc_of : ∀ {C : List Int}, C.Pairwise (· < ·) → ascB C = true
  | [], _ => rfl
  | [_], _ => rfl
  | a :: b :: t, h => by
    rw [List.pairwise_cons] at h
    have ih := asc_of (C := b :: t) h.2
    have h1 := h.1 b (by simp)
    show ((a, b) :: List.zip (b :: t) t).all _ = true
    rw [List.all_cons, decide_eq_true h1, Bool.true_and]
    exact ih
theorem apart_none {n : Int} {R : Roads} {C : List Int} (h : SCl n R C) : apartF R C = .none := by
  unfold apartF
  have : (enumI C).findSome? (gA R C) = none := by
    rw [List.findSome?_eq_none_iff]
    rintro x hx
    obtain ⟨⟨c, k⟩, hq, rfl⟩ := List.mem_map.mp hx
    have hk := List.snd_lt_of_mem_zipIdx hq
    simp only [Nat.add_zero, Nat.zero_add] at hk
    have hc : C[k]? = some c := by
      have := List.mem_zipIdx_iff_getElem?.mp hq
      simpa using this
    unfold gA
    simp only
    rw [show ((k : Int) + 1).toNat = k + 1 by omega]
    have p := h.adj.sublist (List.drop_sublist k C)
    rw [List.drop_eq_getElem_cons (by omega), List.pairwise_cons] at p
    rw [List.getElem?_eq_getElem (by omega)] at hc
    cases hc
    rw [List.find?_eq_none.mpr fun j hj => by
      rw [p.1 j hj]
      simp]
    rfl
  rw [this]
  rfl
theorem full_none {n : Int} {R : Roads} {C : List Int} {size : Int} (h : SCl n R C) (hl : (C.length : Int) = size + 1) : fullF n R size (.tuple (C.map eI)) = .none := by
  show (if ((C.map eI).length : Int) = size + 1 then match mapO (houseO n) (C.map eI) with
      | some C => if ascB C = true then apartF R C else .str "form"
      | none => .str "form"
    else .str "form") = .none
  rw [List.length_map, if_pos hl, mapO_int h.rng]
  simp only
  rw [if_pos (asc_of h.srt), apart_none h]
theorem fit_form : Fits (.str "form") 0 20 := fitS (by decide +kernel)
theorem full_fit {n : Int} {R : Roads} (hn : n ≤ 100) (size : Int) (v : D) : Fits (fullF n R size v) 1 200 := by
  cases v with
  | tuple ds =>
    show Fits (if (ds.length : Int) = size + 1 then match mapO (houseO n) ds with
        | some C => if ascB C = true then apartF R C else .str "form"
        | none => .str "form"
      else .str "form") 1 200
    split
    · cases hm : mapO (houseO n) ds with
      | none => exact fit_form.mono (by omega) (by omega)
      | some C =>
        obtain ⟨rfl, hC⟩ := mapO_map hm
        simp only
        split
        · unfold apartF
          cases e : (enumI C).findSome? (gA R C) with
          | none => exact fitN0.mono (by omega) (by omega)
          | some f =>
            obtain ⟨x, hx, e2⟩ := List.exists_of_findSome?_eq_some e
            obtain ⟨⟨c, k⟩, hq, rfl⟩ := List.mem_map.mp hx
            have hc := hC c (show c ∈ C from List.fst_mem_of_mem_zipIdx hq)
            unfold gA at e2
            simp only at e2
            cases e3 : (C.drop ((k : Int) + 1).toNat).find? (fun j => !adj R c j) with
            | none => rw [e3] at e2; cases e2
            | some j =>
              rw [e3] at e2
              cases e2
              have hj := hC j (List.mem_of_mem_drop (List.mem_of_find?_eq_some e3))
              have := (FL.cons (fitS (x := ("apart" : Str)) (by decide +kernel)) (FL.cons (fitI_small (i := c) (by omega)) (FL.cons (fitI_small (i := j) (by omega)) FL.nil))).tup
              exact this.mono (by omega) (by omega)
        · exact fit_form.mono (by omega) (by omega)
    · exact fit_form.mono (by omega) (by omega)
  | _ => exact fit_form.mono (by omega) (by omega)
theorem paper_fit {n : Int} {R : Roads} (hn : n ≤ 100) (hl : R.length ≤ 4096) (size : Int) (v : D) : Fits (paperF n R size v) 1 200 := by
  unfold paperF
  split
  · split
    · exact full_fit hn _ _
    · split
      · unfold fewF
        split
        · split
          · split
            · exact fitPair (by decide +kernel) (by
                have h2 : (2 : Nat) ^ 30 = 1073741824 := by decide
                omega)
            · exact fitN0.mono (by omega) (by omega)
          · exact (fitS (x := ("number" : Str)) (by decide +kernel)).mono (by omega) (by omega)
        · exact (fitS (x := ("number" : Str)) (by decide +kernel)).mono (by omega) (by omega)
      · exact fit_form.mono (by omega) (by omega)
  · exact fit_form.mono (by omega) (by omega)
end L2.Zy
namespace L2.Zy.K62
open PySem PyProof.Rows PySem.Spec L2.Zy
theorem str_ne : ¬ (("few" : Str) = ("full" : Str)) := by decide +kernel
theorem run_paper {n : Int} {R : Roads} (g : Good n R) (hp : Plain R) (hn : n ≤ 8) (hR : R.length ≤ 4096) {k : Int} (h1 : 1 ≤ k) (h2 : k ≤ 12) : ∃ d, t_roads_paper (n, R) k = .ret d ∧ paperF n R k d = .none ∧ Fits d 3 1000 := by
  obtain ⟨v, e, hv⟩ := run_fullsize g hp (by omega) hR
  have ek : k + 1 = ((k.toNat + 1 : Nat) : Int) := by omega
  obtain ⟨w, es2, hw⟩ := run_somefull (size := k.toNat + 1) g (by omega) (by omega)
  have few : (∀ C, SCl n R C → C.length ≠ k.toNat + 1) → paperF n R k (e2 eS eI (("few" : Str), (Int.ofNat (List.length R)))) = .none ∧ Fits (e2 eS eI (("few" : Str), (Int.ofNat (List.length R)))) 3 1000 := fun hK => by
    have := roads_few g hp hn h1 h2 (noK_of hp hK)
    refine ⟨?_, (fitPair (s := ("few" : Str)) (k := Int.ofNat R.length) (by decide +kernel) (by
      have h2 : (2 : Nat) ^ 30 = 1073741824 := by decide
      show ((R.length : Int)).natAbs < _
      omega)).mono (by omega) (by omega)⟩
    show (if ("few" : Str) = ("full" : Str) then fullF n R k (.int (R.length : Int)) else if ("few" : Str) = ("few" : Str) then fewF n R k (.int (R.length : Int)) else .str "form") = PyData.none
    rw [if_neg str_ne, if_pos rfl]
    show (if (R.length : Int) = (R.length : Int) then (if (PL n k).length < R.length then PyData.tuple [.str "many", .int (PL n k).length] else PyData.none) else .str "number") = PyData.none
    rw [if_pos rfl, if_neg (by omega)]
  unfold t_roads_paper
  rw [e]
  simp only [T.ret_bind]
  by_cases hk : k + 1 ≤ v
  · rw [if_pos (decide_eq_true hk), ek, es2, T.ret_bind]
    cases w with
    | none =>
      obtain ⟨f1, f2⟩ := few hw
      exact ⟨_, rfl, f1, f2⟩
    | some C =>
      refine ⟨_, rfl, ?_, ?_⟩
      · show (if ("full" : Str) = ("full" : Str) then fullF n R k (.tuple (C.map eI)) else if ("full" : Str) = ("few" : Str) then fewF n R k (.tuple (C.map eI)) else .str "form") = PyData.none
        rw [if_pos rfl]
        exact full_none hw.1 (by rw [hw.2]; omega)
      · have hC : Fits (.tuple (C.map eI)) 1 500 := (fitV (e := eI) (n := 13) (fun x hx => fitI_small (by have := hw.1.rng x hx; omega)) (by rw [hw.2]; omega)).mono (by omega) (by omega)
        have := (FL.cons ((fitS (x := ("full" : Str)) (by decide +kernel)).mono (dep' := 1) (by omega) (Nat.le_refl _)) (FL.cons hC FL.nil)).tup
        exact this.mono (by omega) (by omega)
  · rw [if_neg (by rw [decide_eq_true_eq]; exact hk), T.ret_bind]
    obtain ⟨f1, f2⟩ := few fun C hC hl => by
      have := hv C hC
      omega
    exact ⟨_, rfl, f1, f2⟩
end L2.Zy.K62
namespace L2.Zy
open PySem PyProof.Rows PySem.Spec
theorem erase_perm {α : Type} : ∀ (xs : List α) (k : Nat) (h : k < xs.length), (xs[k] :: xs.eraseIdx k).Perm xs
  | x :: xs, 0, _ => List.Perm.refl _
  | x :: xs, k + 1, h => by
    have ih := erase_perm xs k (by simpa using h)
    show (xs[k]'(by simpa using h) :: x :: xs.eraseIdx k).Perm (x :: xs)
    exact (List.Perm.swap _ _ _).trans (ih.cons x)
theorem getD_inj {xs : List Int} (nd : xs.Nodup) {i j : Nat} (hi : i < xs.length) (hj : j < xs.length) (h : xs.getD i 0 = xs.getD j 0) : i = j := by
  rw [List.getD_eq_getElem?_getD, List.getD_eq_getElem?_getD, List.getElem?_eq_getElem hi, List.getElem?_eq_getElem hj] at h
  have h' : xs[i] = xs[j] := by simpa using h
  have q := List.pairwise_iff_getElem.mp nd
  rcases Nat.lt_trichotomy i j with l | l | l
  · exact absurd h' (q i j hi hj l)
  · exact l
  · exact absurd h'.symm (q j i hj hi l)
/-- roads called otherwise -/
def renR (names : List Int) (p : Int × Int) : Int × Int := (min (names.getD p.1.toNat 0) (names.getD p.2.toNat 0), max (names.getD p.1.toNat 0) (names.getD p.2.toNat 0))
theorem ren_good {n : Int} {R : Roads} {names : List Int} (g : Good n R) (hp : Plain R) (h : names.Perm (rangeI n)) : Good n (isort (lt2 ltI ltI) (R.map (renR names))) ∧ Plain (isort (lt2 ltI ltI) (R.map (renR names))) := by
  have n0 := g.n0
  have nd := h.symm.nodup (rangeI_nodup n)
  have hl : names.length = n.toNat := by rw [h.length_eq, length_rangeI]
  have hm : ∀ i : Nat, i < names.length → 0 ≤ names.getD i 0 ∧ names.getD i 0 < n := fun i hi => by
    refine mem_rangeI.mp (h.mem_iff.mp ?_)
    rw [List.getD_eq_getElem?_getD, List.getElem?_eq_getElem hi]
    exact List.getElem_mem _
  have pm := isort_perm (lt := lt2 ltI ltI) (R.map (renR names))
  have each : ∀ p ∈ R, 0 ≤ (renR names p).1 ∧ (renR names p).1 < (renR names p).2 ∧ (renR names p).2 < n := fun p hpR => by
    have h1 := g.rd p hpR
    have h2 := hp p hpR
    have a := hm p.1.toNat (by omega)
    have b := hm p.2.toNat (by omega)
    have ne : names.getD p.1.toNat 0 ≠ names.getD p.2.toNat 0 := fun q => by
      have := getD_inj nd (by omega) (by omega) q
      omega
    unfold renR
    simp only
    omega
  have rd : ∀ p ∈ isort (lt2 ltI ltI) (R.map (renR names)), 0 ≤ p.1 ∧ p.1 < p.2 ∧ p.2 < n := fun p hp => by
    obtain ⟨q, hq, rfl⟩ := List.mem_map.mp (pm.mem_iff.mp hp)
    exact each q hq
  refine ⟨⟨n0, pm.symm.nodup ?_, fun p hp => by have := rd p hp; omega⟩, fun p hp => (rd p hp).2.1⟩
  have inj : ∀ p ∈ R, ∀ q ∈ R, renR names p = renR names q → p = q := fun p hpR q hqR e => by
    have h1 := g.rd p hpR
    have h2 := hp p hpR
    have h3 := g.rd q hqR
    have h4 := hp q hqR
    unfold renR at e
    injection e with e1 e2
    have key : (names.getD p.1.toNat 0 = names.getD q.1.toNat 0 ∧ names.getD p.2.toNat 0 = names.getD q.2.toNat 0) ∨ (names.getD p.1.toNat 0 = names.getD q.2.toNat 0 ∧ names.getD p.2.toNat 0 = names.getD q.1.toNat 0) := by omega
    rcases key with ⟨k1, k2⟩ | ⟨k1, k2⟩
    · have a := getD_inj nd (by omega) (by omega) k1
      have b := getD_inj nd (by omega) (by omega) k2
      exact Prod.ext (by omega) (by omega)
    · have a := getD_inj nd (by omega) (by omega) k1
      have b := getD_inj nd (by omega) (by omega) k2
      omega
  have key : ∀ xs : Roads, xs.Nodup → (∀ p ∈ xs, p ∈ R) → (xs.map (renR names)).Nodup := by
    intro xs
    induction xs with
    | nil => exact fun _ _ => List.nodup_nil
    | cons x xs ih =>
      intro hn hs
      rw [List.nodup_cons] at hn
      rw [List.map_cons, List.nodup_cons]
      refine ⟨fun hx => ?_, ih hn.2 fun p hp => hs p (List.mem_cons_of_mem _ hp)⟩
      obtain ⟨y, hy, e⟩ := List.mem_map.mp hx
      have := inj y (hs y (List.mem_cons_of_mem _ hy)) x (hs x List.mem_cons_self) e
      exact hn.1 (by rw [← this]; exact hy)
  exact key R g.nd fun p h => h
/-- all full lots of so many houses -/
def FLs (n : Int) (R : Roads) : Nat → List (List Int)
  | 0 => [[]]
  | m + 1 => (FLs n R m).flatMap fun lot => ((rangeI2 (nxt lot) n).filter fun i => lot.all fun j => adj R i j).map fun i => lot ++ [i]
end L2.Zy
namespace L2.Zy.K62
open PySem PyProof.Rows PySem.Spec L2.Zy
theorem FLs_each {n : Int} {R : Roads} (n0 : 0 ≤ n) : ∀ (m : Nat), ∀ l ∈ FLs n R m, SCl n R l ∧ l.length = m
  | 0, l, h => by
    have : l = [] := by simpa [FLs] using h
    subst this
    exact ⟨⟨.nil, (fun _ h => nomatch h), .nil⟩, rfl⟩
  | m + 1, l, h => by
    obtain ⟨lot, hlot, h⟩ := List.mem_flatMap.mp h
    obtain ⟨i, hi, rfl⟩ := List.mem_map.mp h
    obtain ⟨h1, h2⟩ := List.mem_filter.mp hi
    obtain ⟨c, e⟩ := FLs_each n0 m lot hlot
    have h3 := mem_rangeI2.mp h1
    rw [List.all_eq_true] at h2
    exact ⟨scl_snoc c h3.1 h3.2 fun y hy => by rw [adj_comm]; exact h2 y hy, by simp [e]⟩
theorem FLs_all {n : Int} {R : Roads} : ∀ (m : Nat) (C : List Int), SCl n R C → C.length = m → C ∈ FLs n R m
  | 0, C, _, hl => by
    rw [List.length_eq_zero_iff.mp hl]
    exact List.mem_cons_self
  | m + 1, C, hC, hl => by
    have hne : C ≠ [] := fun q => by rw [q] at hl; cases hl
    obtain ⟨t, a, rfl⟩ := snoc_of hne
    have ht : SCl n R t := ⟨(List.pairwise_append.mp hC.srt).1, fun x hx => hC.rng x (by simp [hx]), (List.pairwise_append.mp hC.adj).1⟩
    have ih := FLs_all m t ht (by simpa using hl)
    obtain ⟨h1, h2, h3⟩ := scl_next (t := []) hC
    refine List.mem_flatMap.mpr ⟨t, ih, List.mem_map.mpr ⟨a, List.mem_filter.mpr ⟨mem_rangeI2.mpr ⟨h1, h2⟩, ?_⟩, rfl⟩⟩
    rw [List.all_eq_true]
    intro y hy
    rw [adj_comm]
    exact h3 y hy
theorem row_le {n : Int} {R : Roads} {lot : List Int} (n0 : 0 ≤ n) (hn : n ≤ 8) (c : SCl n R lot) : (((rangeI2 (nxt lot) n).filter fun i => lot.all fun j => adj R i j).map fun i => lot ++ [i]).length ≤ 8 := by
  have h1 := List.length_filter_le (fun i => lot.all fun j => adj R i j) (rangeI2 (nxt lot) n)
  have h2 := nxt_le n0 c
  rw [length_rangeI2] at h1
  rw [List.length_map]
  omega
theorem FLs_len {n : Int} {R : Roads} (n0 : 0 ≤ n) (hn : n ≤ 8) : ∀ m, (FLs n R m).length ≤ 8 ^ m
  | 0 => Nat.le_refl _
  | m + 1 => by
    have h := flat_len' (fun lot => ((rangeI2 (nxt lot) n).filter fun i => lot.all fun j => adj R i j).map fun i => lot ++ [i]) 8 (FLs n R m) fun lot hl => row_le n0 hn (FLs_each n0 m lot hl).1
    have ih := FLs_len (R := R) n0 hn m
    have : (FLs n R m).length * 8 ≤ 8 ^ m * 8 := Nat.mul_le_mul_right _ ih
    show ((FLs n R m).flatMap _).length ≤ 8 ^ (m + 1)
    rw [Nat.pow_succ]
    omega
theorem run_lots {n : Int} {R : Roads} (g : Good n R) (hn : n ≤ 8) {m : Nat} (hm : m ≤ 6) : t__law_full_lots (n, R) (m : Int) = .ret (FLs n R m) := by
  have n0 := g.n0
  unfold t__law_full_lots
  rw [run_table g (by omega), T.ret_bind, T.ret_bind, rangeT_ok (by omega) (by omega), T.ret_bind, forT_at (fun d => FLs n R d.length) ?h0 ?hs, T.ret_bind, length_rangeI]
  case h0 => rfl
  · rfl
  · intro d x r e
    have hd : d.length < m := by
      have := congrArg List.length e
      rw [length_rangeI, List.length_append, List.length_cons] at this
      omega
    have hE := fun l hl => FLs_each (R := R) n0 d.length l hl
    have hL := FLs_len (R := R) n0 hn d.length
    have h8 : 8 ^ d.length ≤ 8 ^ 5 := Nat.pow_le_pow_right (by omega) (by omega)
    rw [T.ret_bind, forT_at (fun dd => dd.flatMap fun lot => ((rangeI2 (nxt lot) n).filter fun i => lot.all fun j => adj R i j).map fun i => lot ++ [i]) ?h02 ?hs2, T.ret_bind]
    case h02 => rfl
    · rw [List.length_append]
      rfl
    · intro dd lot rr ee
      have hlot : lot ∈ FLs n R d.length := by rw [ee]; simp
      obtain ⟨c, hc⟩ := hE lot hlot
      have hnx := nxt_le n0 c
      have hdl : dd.length ≤ 8 ^ 5 := by
        have := congrArg List.length ee
        rw [List.length_append, List.length_cons] at this
        omega
      have hf := flat_len' (fun lot => ((rangeI2 (nxt lot) n).filter fun i => lot.all fun j => adj R i j).map fun i => lot ++ [i]) 8 dd fun l hl => row_le n0 hn (hE l (by rw [ee]; simp [hl])).1
      have hf2 : dd.length * 8 ≤ 8 ^ 5 * 8 := Nat.mul_le_mul_right _ hdl
      have h85 : 8 ^ 5 * 8 = 262144 := by decide
      have hr := row_le n0 hn c
      rw [run_nxt, T.ret_bind, show ((n, R) : Int × Roads).1 = n from rfl, rangeT2_ok (by omega) (by omega) (by omega) (by omega) (by omega), T.ret_bind]
      rw [lcT_ret (fun i => lot.all fun j => adj R i j) (fun i => lot ++ [i]) (fun i hi => ?hc) (fun i hi _ => ?hv), T.ret_bind, catT_ok (by omega), T.ret_bind, List.flatMap_append]
      · simp
      case hc =>
        have hi' := mem_rangeI2.mp hi
        rw [lcT_map (fun j => adj R i j) (fun j hj => by
          have := c.rng j hj
          rw [getI_range (by omega) hi'.2, T.ret_bind, getI_range this.1 this.2]), T.ret_bind, List.all_map]
        rfl
      case hv => exact catT_ok (by simp; omega)
end L2.Zy.K62
namespace L2.Zy.K62
open PySem PyProof.Rows PySem.Spec L2.Zy
theorem wp_draw {n : Int} {P : Int → Prop} (h0 : 0 < n) (h1 : n < 16777216) (h : ∀ i, 0 ≤ i → i < n → P i) : (t__law_draw n).wp P := drawTJ_wp h1 (fun _ => h 0 (by omega) h0) h
theorem wp_item {α : Type} [Inhabited α] {xs : List α} {P : α → Prop} (h0 : 0 < xs.length) (h1 : xs.length < 1000000) (h : ∀ x ∈ xs, P x) : (t__law_draw (Int.ofNat xs.length) >>= fun a => getI xs a).wp P := by
  refine wp_next (fun i => 0 ≤ i ∧ i < (xs.length : Int)) (wp_draw (by show (0 : Int) < (xs.length : Int); omega) (by show (xs.length : Int) < 16777216; omega) fun i h1 h2 => ⟨h1, h2⟩) fun i hi => ?_
  refine wp_eq (getI_getD default hi.1 hi.2) ?_
  refine h _ ?_
  rw [List.getD_eq_getElem?_getD, List.getElem?_eq_getElem (show i.toNat < xs.length by omega)]
  exact List.getElem_mem _
theorem wp_pick {xs : Roads} {P : Int × Int → Prop} (h0 : 0 < xs.length) (h1 : xs.length < 1000000) (h : ∀ x ∈ xs, P x) : (t__law_pick xs).wp P := by
  unfold t__law_pick
  exact wp_item h0 h1 h
theorem wp_pick1 {xs : List Int} {P : Int → Prop} (h0 : 0 < xs.length) (h1 : xs.length < 1000000) (h : ∀ x ∈ xs, P x) : (t__law_pick_1 xs).wp P := by
  unfold t__law_pick_1
  exact wp_item h0 h1 h
theorem wp_pick2 {xs : List (List Int)} {P : List Int → Prop} (h0 : 0 < xs.length) (h1 : xs.length < 1000000) (h : ∀ x ∈ xs, P x) : (t__law_pick_2 xs).wp P := by
  unfold t__law_pick_2
  exact wp_item h0 h1 h
theorem wp_pick3 {xs : List D} (h0 : 0 < xs.length) (h1 : xs.length < 1000000) : (t__law_pick_3 xs).wp fun _ => True := by
  unfold t__law_pick_3
  haveI : Inhabited D := ⟨.none⟩
  exact wp_item h0 h1 fun _ _ => trivial
theorem wp_mixed {xs : List Int} (hl : xs.length ≤ 1000) : (t__law_mixed xs).wp fun ys => ys.Perm xs := by
  unfold t__law_mixed
  rw [T.ret_bind]
  refine wp_next (fun s : List Int × List Int => s.2.Perm xs) (whlT_wp (fun s => (s.1 ++ s.2).Perm xs) (fun s => s.1.length) (by simp) ?_) fun s hs => wp_ret.mpr hs
  rintro ⟨rest, found⟩ hp
  refine wp_ret.mpr ?_
  have hlen := hp.length_eq
  simp only [List.length_append] at hlen
  by_cases hr : rest = []
  · subst hr
    exact hp
  · show (if (!decide (rest = [])) = true then _ else _)
    rw [if_pos (by simp [hr])]
    have h0 : 0 < rest.length := List.length_pos_iff.mpr hr
    refine wp_next (fun k => 0 ≤ k ∧ k < (rest.length : Int)) (wp_draw (by show (0 : Int) < (rest.length : Int); omega) (by show (rest.length : Int) < 16777216; omega) fun i h1 h2 => ⟨h1, h2⟩) fun k hk => ?_
    simp only
    rw [appPopT_ok hk.1 hk.2 (by omega) (by omega), T.ret_bind]
    refine wp_ret.mpr ⟨?_, ?_⟩
    · have p := erase_perm rest k.toNat (by omega)
      refine List.Perm.trans ?_ hp
      simp only
      rw [← List.append_assoc]
      refine (List.perm_append_comm (l₁ := rest.eraseIdx k.toNat ++ found)).trans ?_
      exact List.Perm.append_right found p
    · simp only [List.length_eraseIdx]
      rw [if_pos (by omega)]
      omega
theorem run_renamed {n : Int} {R : Roads} {names : List Int} (g : Good n R) (h : names.Perm (rangeI n)) : t__law_renamed (n, R) names = .ret (n, isort (lt2 ltI ltI) (R.map (renR names))) := by
  have n0 := g.n0
  have hl : names.length = n.toNat := by rw [h.length_eq, length_rangeI]
  unfold t__law_renamed
  rw [lcT_map (renR names) fun p hp => ?_, T.ret_bind]
  have hp' : p ∈ R := hp
  have h1 := g.rd p hp'
  rw [getI_getD 0 h1.1 (by omega), getI_getD 0 (by omega) (by omega)]
  rfl
theorem wp_called {n : Int} {R : Roads} (g : Good n R) (hp : Plain R) (hn : n ≤ 100) (hR : R.length ≤ 4096) : (t__law_called (n, R)).wp fun w => ∃ R', w = (n, R') ∧ Good n R' ∧ Plain R' ∧ R'.length ≤ 4096 := by
  have n0 := g.n0
  unfold t__law_called
  rw [rangeT_ok (by simp only; omega) (by simp only; omega), T.ret_bind]
  refine wp_next _ (wp_mixed (by rw [length_rangeI]; simp only; omega)) fun names h => ?_
  refine wp_eq (run_renamed g h) ⟨_, rfl, (ren_good g hp h).1, (ren_good g hp h).2, ?_⟩
  rw [isort_len, List.length_map]
  exact hR
theorem wp_web {m : Int} (h0 : 0 ≤ m) (h1 : m ≤ 60) : (t__law_web m false).wp fun w => ∃ R, w = (m, R) ∧ Good m R ∧ Plain R ∧ R.length ≤ 4096 := by
  unfold t__law_web
  refine wp_next (fun _ => True) (wp_next (fun _ => True) (wp_draw (by omega) (by omega) fun _ _ _ => trivial) fun _ _ => wp_ret.mpr trivial) fun share _ => ?_
  rw [run_pairs h0 (by omega), T.ret_bind]
  refine wp_next (fun R => Good m R ∧ Plain R ∧ R.length ≤ 4096) (wp_next (fun R => Good m R ∧ Plain R ∧ R.length ≤ 4096) ?_ fun R hR => wp_ret.mpr hR) fun R hR => wp_ret.mpr ⟨R, rfl, hR⟩
  refine lcT_wp (fun p => p) (fun p _ => wp_next (fun _ => True) (wp_draw (by omega) (by omega) fun _ _ _ => trivial) fun _ _ => wp_ret.mpr trivial) (fun _ _ => rfl) fun ys hs => ?_
  rw [List.map_id']
  obtain ⟨a, b⟩ := good_of_pairs h0 ((pairs_nodup m).sublist hs) fun p hp => hs.subset hp
  refine ⟨a, b, ?_⟩
  have l1 := hs.length_le
  have l2 : (pairsL m).length ≤ 60 * 60 := by
    have h := flat_len' (fun i => (rangeI2 (i + 1) m).map fun j => (i, j)) 60 (rangeI m) fun i hi => by
      have := (mem_rangeI.mp hi).1
      rw [List.length_map, length_rangeI2]
      omega
    have : (rangeI m).length ≤ 60 := by rw [length_rangeI]; omega
    have h2 : (rangeI m).length * 60 ≤ 60 * 60 := Nat.mul_le_mul_right _ this
    unfold pairsL
    omega
  omega
theorem sorted_good {m : Int} {R : Roads} (h0 : 0 ≤ m) (nd : R.Nodup) (h : ∀ p ∈ R, p ∈ pairsL m) : Good m (isort (lt2 ltI ltI) R) ∧ Plain (isort (lt2 ltI ltI) R) := by
  have pm := isort_perm (lt := lt2 ltI ltI) R
  exact good_of_pairs h0 (pm.symm.nodup nd) fun p hp => h p (pm.mem_iff.mp hp)
theorem wp_plain : (t__law_plain).wp fun w => ∃ n R, w = (n, R) ∧ Good n R ∧ Plain R ∧ n ≤ 8 ∧ R.length ≤ 4096 := by
  unfold t__law_plain
  refine wp_next (fun _ => True) (wp_next (fun _ => True) (wp_draw (by omega) (by omega) fun _ _ _ => trivial) fun _ _ => wp_ret.mpr trivial) fun b _ => ?_
  refine wp_ite (fun _ => ?_) fun _ => ?_
  · refine wp_next (fun m => 0 ≤ m ∧ m < 9) (wp_draw (by omega) (by omega) fun i h1 h2 => ⟨h1, h2⟩) fun m hm => ?_
    exact wp_mono (wp_web hm.1 (by omega)) fun w ⟨R, e, g, hp, hl⟩ => ⟨m, R, e, g, hp, by omega, hl⟩
  · refine wp_next (fun m => 2 ≤ m ∧ m ≤ 8) (wp_next (fun m => 0 ≤ m ∧ m < 7) (wp_draw (by omega) (by omega) fun i h1 h2 => ⟨h1, h2⟩) fun m hm => wp_ret.mpr (by omega)) fun m hm => ?_
    refine wp_next (fun w => ∃ k, w = (m, PL m k)) (wp_next (fun k => 1 ≤ k ∧ k ≤ 4) (wp_next (fun m => 0 ≤ m ∧ m < 4) (wp_draw (by omega) (by omega) fun i h1 h2 => ⟨h1, h2⟩) fun m hm => wp_ret.mpr (by omega)) fun k hk => wp_eq (run_parted (by omega) (by omega) hk.1 (by omega)) ⟨k, rfl⟩) ?_
    rintro w ⟨k, rfl⟩
    rw [run_pairs (by omega) (by omega), T.ret_bind]
    have hpos : 0 < (pairsL m).length := List.length_pos_of_mem (a := ((0 : Int), (1 : Int))) (mem_pairs.mpr (by simp only; omega))
    have hle := pairs_len (m := m) (by omega)
    refine wp_next _ (wp_pick hpos (by omega) fun x hx => hx) fun road hroad => ?_
    have hPL : ∀ p ∈ PL m k, p ∈ pairsL m := fun p hp => (List.mem_filter.mp hp).1
    have hPn : (PL m k).Nodup := (pairs_nodup m).filter _
    have hPl : (PL m k).length ≤ 10000 := Nat.le_trans (List.length_filter_le _ _) hle
    have l1 := List.length_filter_le (fun x93 : Int × Int => !decide (x93 = road)) (PL m k)
    refine wp_step (a := ((PL m k).filter fun x => !decide (x = road)) ++ (if (!decide (road ∈ PL m k)) = true then ([road] : List (Int × Int)) else [])) ?_ ?_
    · rw [List.map_id', catT_ok]
      have l2 : (if (!decide (road ∈ PL m k)) = true then ([road] : List (Int × Int)) else []).length ≤ 1 := by split <;> simp
      simp only
      omega
    · have hs := sorted_good (m := m) (R := ((PL m k).filter fun x => !decide (x = road)) ++ (if (!decide (road ∈ PL m k)) = true then ([road] : List (Int × Int)) else [])) (by omega) (by
        refine List.nodup_append.mpr ⟨hPn.filter _, by split <;> simp, fun a ha b hb e => ?_⟩
        subst e
        have h1 := (List.mem_filter.mp ha).2
        split at hb
        · rw [List.mem_singleton.mp hb] at h1
          simp at h1
        · cases hb) fun p hp => by
        rcases List.mem_append.mp hp with hp | hp
        · exact hPL p (List.mem_filter.mp hp).1
        · split at hp
          · rw [List.mem_singleton.mp hp]; exact hroad
          · cases hp
      have hlen : (isort (lt2 ltI ltI) (((PL m k).filter fun x => !decide (x = road)) ++ (if (!decide (road ∈ PL m k)) = true then ([road] : List (Int × Int)) else []))).length ≤ 4096 := by
        have := len_sub (xs := isort (lt2 ltI ltI) (((PL m k).filter fun x => !decide (x = road)) ++ (if (!decide (road ∈ PL m k)) = true then ([road] : List (Int × Int)) else []))) (ys := pairsL m) hs.1.nd fun p hp => mem_pairs.mpr (by
          have a := hs.1.rd p hp
          have b := hs.2 p hp
          omega)
        have l3 : (pairsL m).length ≤ 60 * 60 := by
          have h := flat_len' (fun i => (rangeI2 (i + 1) m).map fun j => (i, j)) 60 (rangeI m) fun i hi => by
            have := (mem_rangeI.mp hi).1
            rw [List.length_map, length_rangeI2]
            omega
          have : (rangeI m).length ≤ 60 := by rw [length_rangeI]; omega
          have h2 : (rangeI m).length * 60 ≤ 60 * 60 := Nat.mul_le_mul_right _ this
          unfold pairsL
          omega
        omega
      exact wp_mono (wp_called hs.1 hs.2 (by omega) hlen) fun w ⟨R', e, g, hp, hl⟩ => ⟨m, R', e, g, hp, by omega, hl⟩
end L2.Zy.K62
namespace L2.Zy
open PySem PyProof.Rows PySem.Spec
theorem strT_some {i : Int} (h : i.natAbs < 2 ^ 20) : ∃ s, strT i = .ret s := by
  unfold strT
  refine ⟨_, if_pos ?_⟩
  by_cases h0 : i.natAbs = 0
  · rw [h0]; decide
  · have := (Nat.log2_lt h0).mpr h
    omega
theorem repVT_ok {α : Type} {xs : List α} {k : Int} (h : xs.length ≠ 0) (h1 : 2 ≤ k) (h2 : k ≤ 1000) (h3 : xs.length ≤ 1000) : repVT xs k = .ret (List.replicate k.toNat xs).flatten := by
  unfold repVT
  rw [if_pos ⟨h, h1, h2, h3⟩]
end L2.Zy
namespace L2.Zy.K62
open PySem PyProof.Rows PySem.Spec L2.Zy
theorem wp_odd : (t__law_odd).wp fun _ => True := by
  unfold t__law_odd
  rw [T.ret_bind]
  exact wp_pick3 (by simp) (by simp)
theorem cutI_len {α : Type} (xs : List α) (lo hi : Option Int) : (cutI xs lo hi).length ≤ xs.length := by
  unfold cutI
  rw [List.length_take, List.length_drop]
  omega
theorem wp_values {n : Int} {R : Roads} (g : Good n R) (hn : n ≤ 8) (hR : R.length ≤ 4096) {size : Int} (h1 : 1 ≤ size) (h2 : size ≤ 12) : (t__law_values (n, R) size).wp fun _ => True := by
  have n0 := g.n0
  unfold t__law_values
  refine wp_next (fun lots => lots.length ≤ 32768 ∧ ∀ l ∈ lots, l.length ≤ 100) ?_ fun lots hlots => ?_
  · refine wp_ite (fun h => ?_) fun _ => wp_ret.mpr ⟨by simp, fun _ h => nomatch h⟩
    have hs : size < 5 := of_decide_eq_true h
    have e := run_lots g hn (m := size.toNat + 1) (by omega)
    rw [show ((size.toNat + 1 : Nat) : Int) = size + 1 by omega] at e
    refine wp_eq e ⟨?_, fun l hl => ?_⟩
    · have := FLs_len (R := R) n0 hn (size.toNat + 1)
      have h8 : 8 ^ (size.toNat + 1) ≤ 8 ^ 5 := Nat.pow_le_pow_right (by omega) (by omega)
      omega
    · have := (FLs_each n0 _ l hl).2
      omega
  refine wp_next (fun lot => lot.length ≤ 100) ?_ fun lot hlot => ?_
  · refine wp_ite (fun h => ?_) fun _ => ?_
    · have hne : lots ≠ [] := by simpa using h
      exact wp_pick2 (List.length_pos_iff.mpr hne) (by omega) hlots.2
    · exact wp_eq (rangeT_ok (by omega) (by omega)) (by rw [length_rangeI]; omega)
  refine wp_next (fun _ => True) ?_ fun other _ => ?_
  · rw [rangeT_ok (by simp only; omega) (by simp only; omega)]
    simp only [T.ret_bind]
    refine wp_next (fun _ => True) (wp_next (fun _ => True) (wp_next (fun _ => True) (wp_mono (wp_mixed (by rw [length_rangeI]; omega)) fun _ _ => trivial) fun _ _ => wp_ret.mpr trivial) fun _ _ => wp_ret.mpr trivial) fun _ _ => wp_ret.mpr trivial
  have hc := cutI_len lot none (some (-(1 : Int)))
  rw [catT_ok (by simp; omega), T.ret_bind, catT_ok (by simp; omega), T.ret_bind, repVT_ok (by simp) (by omega) (by omega) (by simp)]
  simp only [T.ret_bind]
  refine wp_next (fun _ => True) wp_odd fun od _ => ?_
  rw [appT_ok (by simp), T.ret_bind]
  obtain ⟨s, hs⟩ := strT_some (i := Int.ofNat R.length) (by
    have h2 : (2 : Nat) ^ 20 = 1048576 := by decide
    show ((R.length : Int)).natAbs < _
    omega)
  rw [hs]
  simp only [T.ret_bind]
  refine wp_next (fun vs => vs.length ≤ 1000) ?_ fun vs hvs => ?_
  · refine forT_wp0 (fun d s => s.length ≤ 20 + d.length) (by simp) ?_ fun s h => by
      have h6 : s.length ≤ 26 := by simpa using h
      omega
    intro d x r s e h
    have hd : d.length ≤ 6 := by
      have := congrArg List.length e
      simp at this
      omega
    rw [appT_ok (by omega), T.ret_bind]
    refine wp_ret.mpr ?_
    rw [List.length_append, List.length_append]
    simp
    omega
  · refine wp_next (fun _ => True) ?_ fun _ _ => wp_ret.mpr trivial
    refine wp_next (fun l => l.length ≤ 5) (wp_next (fun _ => True) wp_odd fun _ _ => wp_ret.mpr (by simp)) fun l hl => ?_
    exact wp_eq (catT_ok (by rw [List.length_map]; omega)) trivial
theorem fit_pair2 {m : Int} {R : Roads} (g : Good m R) (hm : m ≤ 12) (hR : R.length ≤ 4096) : Fits ((e2 eI (eV (e2 eI eI))) (m, R)) 3 600000 := fit_web g (by omega) hR
theorem law_typed (ns : List Int) : (t_law ns).wp fun r => r = true := by
  unfold t_law
  refine wp_next (fun m => 0 ≤ m ∧ m < 13) (wp_draw (by omega) (by omega) fun i h1 h2 => ⟨h1, h2⟩) fun m hm => ?_
  refine wp_next (fun k => 1 ≤ k ∧ k ≤ 12) (wp_next (fun k => 0 ≤ k ∧ k < 12) (wp_draw (by omega) (by omega) fun i h1 h2 => ⟨h1, h2⟩) fun m hm => wp_ret.mpr (by omega)) fun k hk => ?_
  obtain ⟨gP, pP⟩ := PL_good (m := m) (k := k) hm.1
  have lP : (PL m k).length ≤ 4096 := by
    have h1 := List.length_filter_le (fun p : Int × Int => !decide ((lotsW m k).getD p.1.toNat 0 = (lotsW m k).getD p.2.toNat 0)) (pairsL m)
    have h := flat_len' (fun i => (rangeI2 (i + 1) m).map fun j => (i, j)) 60 (rangeI m) fun i hi => by
      have := (mem_rangeI.mp hi).1
      rw [List.length_map, length_rangeI2]
      omega
    have : (rangeI m).length ≤ 60 := by rw [length_rangeI]; omega
    have h2 : (rangeI m).length * 60 ≤ 60 * 60 := Nat.mul_le_mul_right _ this
    unfold PL
    unfold pairsL at h1 ⊢
    omega
  refine wp_step (run_parted hm.1 (by omega) hk.1 hk.2) ?_
  have eM := PL_most m.toNat (by omega) k.toNat (by omega) (by omega)
  have eE := PL_even m.toNat (by omega) k.toNat (by omega) (by omega)
  rw [show ((m.toNat : Nat) : Int) = m by omega, show ((k.toNat : Nat) : Int) = k by omega] at eM eE
  have q1 : (2 : Int) * k * ((PL m k).length : Int) ≤ (k - 1) * m * m := by
    have h := Int.ofNat_le.mpr eM
    simp only [Int.natCast_mul] at h
    rw [show ((2 : Nat) : Int) = 2 from rfl, show ((k.toNat : Nat) : Int) = k by omega, show (((k.toNat - 1 : Nat)) : Int) = k - 1 by omega, show ((m.toNat : Nat) : Int) = m by omega] at h
    exact h
  have fP := fit_pair2 gP (by omega) lP
  have okP : showOk (eL eD [(e2 eI (eV (e2 eI eI))) (m, PL m k), eI (Int.ofNat (PL m k).length), (e2 eI (eV (e2 eI eI))) (m, PL m k), eI (Int.ofNat (PL m k).length)]) := by
    have fl : Fits (eI (Int.ofNat (PL m k).length)) 3 20 := by
      have := fitI (i := Int.ofNat (PL m k).length) (b := 13) (by
        show ((PL m k).length : Int).natAbs < 2 ^ 13
        have : (2 : Nat) ^ 13 = 8192 := by decide
        omega) (by omega)
      exact this.mono (by omega) (by omega)
    exact (fitEL (FL.cons fP (FL.cons fl (FL.cons fP (FL.cons fl FL.nil))))).ok (by omega) (by omega)
  refine wp_step (a := [(e2 eI (eV (e2 eI eI))) (m, PL m k), eI (Int.ofNat (PL m k).length), (e2 eI (eV (e2 eI eI))) (m, PL m k), eI (Int.ofNat (PL m k).length)]) ?_ ?_
  · rw [run_partedP hm.1 (by omega) hk.1 hk.2, T.ret_bind, run_most hm.1 (by omega) hk.1 hk.2]
    rfl
  refine wp_step (a := false) ?_ ?_
  · rw [reprT_ok okP, T.ret_bind, repT_ok (by omega) (by omega) (by simp), T.ret_bind]
    have er : (List.replicate (2 : Int).toNat ([((e2 eI (eV (e2 eI eI))) (m, PL m k)), (eI (Int.ofNat (List.length (m, PL m k).2)))] : List D)).flatten = [(e2 eI (eV (e2 eI eI))) (m, PL m k), eI (Int.ofNat (PL m k).length), (e2 eI (eV (e2 eI eI))) (m, PL m k), eI (Int.ofNat (PL m k).length)] := rfl
    rw [er, reprT_ok okP, T.ret_bind, T.ret_bind, decide_eq_true rfl, Bool.not_true, orK_f]
    rw [mulT_smallL (by omega), T.ret_bind, mulT_smallL (by omega), T.ret_bind, mulT_small (by omega), T.ret_bind]
    congr 1
    rw [decide_eq_false_iff_not]
    show ¬ ((k - 1) * m * m < (2 : Int) * k * ((PL m k).length : Int))
    omega
  rw [if_neg Bool.false_ne_true]
  refine wp_step (a := false) ?_ ?_
  · rw [modT_ok (by omega), T.ret_bind, T.ret_bind]
    by_cases hz : m % k = 0
    · rw [decide_eq_true hz, andK_t, mulT_smallL (by omega), T.ret_bind, mulT_smallL (by omega), T.ret_bind, mulT_small (by omega), T.ret_bind]
      congr 1
      rw [Bool.not_eq_false', decide_eq_true_iff]
      have hz' : m.toNat % k.toNat = 0 := by
        have : ((m.toNat % k.toNat : Nat) : Int) = 0 := by
          rw [Int.natCast_emod, show ((m.toNat : Nat) : Int) = m by omega, show ((k.toNat : Nat) : Int) = k by omega, hz]
        omega
      have h := congrArg (fun x : Nat => (x : Int)) (eE hz')
      simp only [Int.natCast_mul] at h
      rw [show ((2 : Nat) : Int) = 2 from rfl, show ((k.toNat : Nat) : Int) = k by omega, show (((k.toNat - 1 : Nat)) : Int) = k - 1 by omega, show ((m.toNat : Nat) : Int) = m by omega] at h
      exact h
    · rw [decide_eq_false hz, andK_f]
  rw [if_neg Bool.false_ne_true, rangeT_ok (by omega) (by omega), T.ret_bind]
  refine wp_next (fun z => z = .inr ()) (forX_wp0 (fun _ _ => True) trivial ?_ fun s _ => rfl) ?_
  · intro d x r s e _
    refine wp_next _ wp_plain ?_
    rintro w ⟨n, R, rfl, g, hp, hn, hR⟩
    refine wp_next (fun k => 1 ≤ k ∧ k ≤ 12) (wp_next (fun k => 0 ≤ k ∧ k < 12) (wp_next (fun k => 1 ≤ k ∧ k ≤ 12) (wp_pick1 (by simp) (by simp) (by simp)) fun k hk => wp_draw (by omega) (by omega) fun i h1 h2 => ⟨h1, by omega⟩) fun k hk => wp_ret.mpr (by omega)) fun size hs => ?_
    have okW := (fit_web g (by omega) hR).ok (by omega) (by omega)
    refine wp_step (reprT_ok okW) ?_
    obtain ⟨told, et, pt, ft⟩ := run_paper g hp hn hR hs.1 hs.2
    refine wp_step (a := told) (by rw [et]; split <;> rfl) ?_
    have okT : showOk (eD told) := ft.ok (by omega) (by omega)
    refine wp_step (a := false) ?_ ?_
    · rw [run_fault g (by omega) hs.1 hs.2, T.ret_bind, pt, T.ret_bind, show (!noD PyData.none) = false from rfl, orK_f, et, T.ret_bind, reprT_ok okT, T.ret_bind, T.ret_bind, decide_eq_true rfl]
      rfl
    rw [if_neg Bool.false_ne_true]
    refine wp_step (a := false) ?_ ?_
    · by_cases h5 : size < 5
      · have el := run_lots g hn (m := size.toNat + 1) (by omega)
        rw [show ((size.toNat + 1 : Nat) : Int) = size + 1 by omega] at el
        rw [decide_eq_true h5, andK_t, el, T.ret_bind, T.ret_bind]
        by_cases hnil : FLs n R (size.toNat + 1) = []
        · rw [decide_eq_true hnil, andK_t, show ((n, R) : Int × Roads).1 = n from rfl, run_parted g.n0 (by omega) hs.1 hs.2, T.ret_bind, T.ret_bind, T.ret_bind]
          congr 1
          rw [decide_eq_false_iff_not]
          have hK : ∀ C, SCl n R C → C.length ≠ size.toNat + 1 := fun C hC hl => by
            have := FLs_all (size.toNat + 1) C hC hl
            rw [hnil] at this
            cases this
          have := roads_few g hp hn hs.1 hs.2 (noK_of hp hK)
          show ¬ ((PL n size).length : Int) < (R.length : Int)
          omega
        · rw [decide_eq_false hnil, andK_f]
      · rw [decide_eq_false h5, andK_f]
    rw [if_neg Bool.false_ne_true]
    refine wp_next _ (wp_values g hn hR hs.1 hs.2) fun p _ => ?_
    have okF : ∀ v, showOk (eD (paperF n R size v)) := fun v => (paper_fit (by omega) hR size v).ok (by omega) (by omega)
    have okG : ∀ v, showOk (eD (fullF n R size v)) := fun v => (full_fit (by omega) size v).ok (by omega) (by omega)
    refine wp_next (fun z => z = .inr ()) (forX_wp0 (fun _ _ => True) trivial ?_ fun s _ => rfl) ?_
    · intro d x r s e _
      refine wp_step (a := paperF n R size x.2) (by rw [run_paperr g (by omega) hs.1 hs.2]; split <;> rfl) ?_
      refine wp_step (a := false) ?_ ?_
      · rw [reprT_ok (okF _), T.ret_bind, run_fault g (by omega) hs.1 hs.2, T.ret_bind, reprT_ok (okF _), T.ret_bind, decide_eq_true rfl]
        rfl
      · rw [if_neg Bool.false_ne_true]
        exact wp_ret.mpr trivial
    rintro z rfl
    rw [sumK_inr]
    refine wp_next (fun z => z = .inr ()) (forX_wp0 (fun _ _ => True) trivial ?_ fun s _ => rfl) ?_
    · intro d x r s e _
      refine wp_step (a := fullF n R size x.2) (by rw [run_fe g]; split <;> rfl) ?_
      refine wp_step (a := false) ?_ ?_
      · rw [reprT_ok (okG _), T.ret_bind, run_ff g (by omega), T.ret_bind, reprT_ok (okG _), T.ret_bind, decide_eq_true rfl]
        rfl
      · rw [if_neg Bool.false_ne_true]
        exact wp_ret.mpr trivial
    rintro z rfl
    rw [sumK_inr]
    refine wp_step (a := false) (by rw [reprT_ok okW, T.ret_bind, decide_eq_true rfl]; rfl) ?_
    rw [if_neg Bool.false_ne_true]
    exact wp_ret.mpr trivial
  · rintro z rfl
    rw [sumK_inr]
    exact wp_ret.mpr rfl
end L2.Zy.K62
namespace L2.Zy
open PySem PyProof.Rows PySem.Spec
def jarS (s x : Int) : Int := (s * 69621 + 2 * absI' x + (if x < 0 then 1 else 0) + 5) % 2147483587
theorem jarS_nn : ∀ (xs : List Int) (s : Int), 0 ≤ s → 0 ≤ xs.foldl jarS s
  | [], _, h => h
  | x :: xs, s, _ => jarS_nn xs _ (Int.emod_nonneg _ (by decide))
end L2.Zy
namespace L2.Zy.K62
open PySem PyProof.Rows PySem.Spec L2.Zy
theorem run_pot (ns : List Int) (hl : ns.length ≤ 63) : ∃ gs s, d__law_jar [.pure (.list (ns.map PyData.int))] = .ret (.npot kn0 gs [s, 0]) ∧ OkPot kn0 gs [s, 0] := by
  obtain ⟨ms, hcut, hms, _⟩ := cut_intsG ns none (some 63)
  have hc : cutM (.pure (.list (ns.map PyData.int))) none (some 63) = .ret (.lst (ms.map PyData.int)) := by
    rw [← hcut]
    rfl
  have hlenM : lenM (.lst (ms.map PyData.int)) = .ret (.pure (.int (ms.length : Int))) := by
    rw [lenM_lst, List.length_map]
  have ha : ∀ x : Int, absM (.pure (.int x)) = .ret (.pure (.int (absI' x))) := fun _ => rfl
  have hpow : powM (.pure (.int 10)) (.pure (.int 14)) = .ret (.pure (.int 100000000000000)) := rfl
  have hm2 : ∀ i : Int, mulM (.pure (.int 2)) (.pure (.int i)) = .ret (.pure (.int (2 * i))) := fun i => mulM_il (by decide)
  have hmm : ∀ i : Int, mulM (.pure (.int i)) (.pure (.int 69621)) = .ret (.pure (.int (i * 69621))) := fun i => mulM_ir (by decide)
  have hm7 : ∀ i : Int, mulM (.pure (.int 73)) (.pure (.int i)) = .ret (.pure (.int (73 * i))) := fun i => mulM_il (by decide)
  have hmo : ∀ i : Int, modM (.pure (.int i)) (.pure (.int 2147483587)) = .ret (.pure (.int (i % 2147483587))) := fun i => modM_ii (by decide)
  refine ⟨((ms.map absI').filter fun x => decide (100000000000000 ≤ x)).reverse, ms.foldl jarS (16259 + 73 * (ms.length : Int)), ?_, ?_, ?_, rfl, ?_⟩
  · unfold d__law_jar bodyD b_D__law_jar
    simp [seqS, retS, asgS, drpS, iteS, skS, killS, frzS, frzI, frz_lst, frz_pure, frz_pot, frz_lst2, bin, un1, callG, arg1, arg2, consL, nilL, kM, tupD, lstD, pureL, itemsE, itemsP, seqD_list, seqD_tuple, seqD_lst, seqP_list, seqP_tuple, listD_list, listD_lst, toD_pure, toD_lst, toD_lst2, setD, unpD, consG, nilG, asD_pure, asL_lst, T.ofO, callD, allPP, isPP_pure, isPP_pot, nm_at, nmP_at, nmP_pot, addM_ii, addM_ib, subM_ii, intM_i, intM_b, bodyD, par2, iteM, orT, andT, notT, boolM_b, truM_b, ltM_ii, gtM_ii, leM_ii, geM_ii, min2M_n, max2M_n, andT, wipeD, eqM_ii, neM_ii, T.bind_assoc, lcD, cutF, noO, someO, hc, hlenM, hm7]
    simp [seqS, retS, asgS, drpS, iteS, skS, killS, frzS, frzI, frz_lst, frz_pure, frz_pot, frz_lst2, bin, un1, callG, arg1, arg2, consL, nilL, kM, tupD, lstD, pureL, itemsE, itemsP, seqD_list, seqD_tuple, seqD_lst, seqP_list, seqP_tuple, listD_list, listD_lst, toD_pure, toD_lst, toD_lst2, setD, unpD, consG, nilG, asD_pure, asL_lst, T.ofO, callD, allPP, isPP_pure, isPP_pot, nm_at, nmP_at, nmP_pot, addM_ii, addM_ib, subM_ii, intM_i, intM_b, bodyD, par2, iteM, orT, andT, notT, boolM_b, truM_b, ltM_ii, gtM_ii, leM_ii, geM_ii, min2M_n, max2M_n, andT, wipeD, eqM_ii, neM_ii, T.bind_assoc, forS, cutF, noO, someO, hc]
    have key : ∀ bn : D → Sm, (∀ (dn : List (Int)) (xn : Int) (r : List (Int)), ms = dn ++ xn :: r → bn (PyData.int xn) [some (.pure (.list (ns.map PyData.int))), some (.pure (.int (dn.foldl jarS (16259 + 73 * (ms.length : Int))))), none, none] = .ret (.nx, [some (.pure (.list (ns.map PyData.int))), some (.pure (.int ((dn ++ [xn]).foldl jarS (16259 + 73 * (ms.length : Int))))), none, none])) →
        loopS bn (ms.map PyData.int) [some (.pure (.list (ns.map PyData.int))), some (.pure (.int (16259 + 73 * (ms.length : Int)))), none, none] = .ret (.nx, [some (.pure (.list (ns.map PyData.int))), some (.pure (.int ((ms).foldl jarS (16259 + 73 * (ms.length : Int))))), none, none]) := fun bn hn_ => by
        have q_ := loopS_pre (PyData.int) (fun dn => [some (.pure (.list (ns.map PyData.int))), some (.pure (.int (dn.foldl jarS (16259 + 73 * (ms.length : Int))))), none, none]) (ms) [] hn_
        simp only [List.filter_nil, List.map_nil, List.append_nil, List.nil_append, List.flatMap_nil] at q_
        exact q_
    rw [key _ ?_]
    · simp [seqS, retS, asgS, drpS, iteS, skS, killS, frzS, frzI, frz_lst, frz_pure, frz_pot, frz_lst2, bin, un1, callG, arg1, arg2, consL, nilL, kM, tupD, lstD, pureL, itemsE, itemsP, seqD_list, seqD_tuple, seqD_lst, seqP_list, seqP_tuple, listD_list, listD_lst, toD_pure, toD_lst, toD_lst2, setD, unpD, consG, nilG, asD_pure, asL_lst, T.ofO, callD, allPP, isPP_pure, isPP_pot, nm_at, nmP_at, nmP_pot, addM_ii, addM_ib, subM_ii, intM_i, intM_b, bodyD, par2, iteM, orT, andT, notT, boolM_b, truM_b, ltM_ii, gtM_ii, leM_ii, geM_ii, min2M_n, max2M_n, andT, wipeD, eqM_ii, neM_ii, T.bind_assoc, npot3, lcD, cutF, noO, someO, hc, hpow]
      rw [lcLoop_ret (ι := PyData.int) (fun x => decide (100000000000000 ≤ absI' x)) (fun x => PyData.int (absI' x))]
      · have e1 : ((ms.filter fun x => decide (100000000000000 ≤ absI' x)).map fun x => PyData.int (absI' x)) = ((ms.map absI').filter fun x => decide (100000000000000 ≤ x)).map PyData.int := by
          rw [List.filter_map, List.map_map]
          rfl
        rw [e1]
        have e2 : intsOf (((ms.map absI').filter fun x => decide (100000000000000 ≤ x)).map PyData.int).reverse = some ((ms.map absI').filter fun x => decide (100000000000000 ≤ x)).reverse := by
          rw [← List.map_reverse]
          exact intsOf_ints _
        simp [seqS, retS, asgS, drpS, iteS, skS, killS, frzS, frzI, frz_lst, frz_pure, frz_pot, frz_lst2, bin, un1, callG, arg1, arg2, consL, nilL, kM, tupD, lstD, pureL, itemsE, itemsP, seqD_list, seqD_tuple, seqD_lst, seqP_list, seqP_tuple, listD_list, listD_lst, toD_pure, toD_lst, toD_lst2, setD, unpD, consG, nilG, asD_pure, asL_lst, T.ofO, callD, allPP, isPP_pure, isPP_pot, nm_at, nmP_at, nmP_pot, addM_ii, addM_ib, subM_ii, intM_i, intM_b, bodyD, par2, iteM, orT, andT, notT, boolM_b, truM_b, ltM_ii, gtM_ii, leM_ii, geM_ii, min2M_n, max2M_n, andT, wipeD, eqM_ii, neM_ii, T.bind_assoc, revA, revM, asG, asI, e2]
      · intro x hx
        refine ⟨_, rfl, ?_, ?_⟩
        · simp [seqS, retS, asgS, drpS, iteS, skS, killS, frzS, frzI, frz_lst, frz_pure, frz_pot, frz_lst2, bin, un1, callG, arg1, arg2, consL, nilL, kM, tupD, lstD, pureL, itemsE, itemsP, seqD_list, seqD_tuple, seqD_lst, seqP_list, seqP_tuple, listD_list, listD_lst, toD_pure, toD_lst, toD_lst2, setD, unpD, consG, nilG, asD_pure, asL_lst, T.ofO, callD, allPP, isPP_pure, isPP_pot, nm_at, nmP_at, nmP_pot, addM_ii, addM_ib, subM_ii, intM_i, intM_b, bodyD, par2, iteM, orT, andT, notT, boolM_b, truM_b, ltM_ii, gtM_ii, leM_ii, geM_ii, min2M_n, max2M_n, andT, wipeD, eqM_ii, neM_ii, T.bind_assoc, ha, hpow]
        · intro _
          simp [seqS, retS, asgS, drpS, iteS, skS, killS, frzS, frzI, frz_lst, frz_pure, frz_pot, frz_lst2, bin, un1, callG, arg1, arg2, consL, nilL, kM, tupD, lstD, pureL, itemsE, itemsP, seqD_list, seqD_tuple, seqD_lst, seqP_list, seqP_tuple, listD_list, listD_lst, toD_pure, toD_lst, toD_lst2, setD, unpD, consG, nilG, asD_pure, asL_lst, T.ofO, callD, allPP, isPP_pure, isPP_pot, nm_at, nmP_at, nmP_pot, addM_ii, addM_ib, subM_ii, intM_i, intM_b, bodyD, par2, iteM, orT, andT, notT, boolM_b, truM_b, ltM_ii, gtM_ii, leM_ii, geM_ii, min2M_n, max2M_n, andT, wipeD, eqM_ii, neM_ii, T.bind_assoc, ha]
    · intro d x r e
      rw [List.foldl_append]
      generalize d.foldl jarS (16259 + 73 * (ms.length : Int)) = S
      simp [seqS, retS, asgS, drpS, iteS, skS, killS, frzS, frzI, frz_lst, frz_pure, frz_pot, frz_lst2, bin, un1, callG, arg1, arg2, consL, nilL, kM, tupD, lstD, pureL, itemsE, itemsP, seqD_list, seqD_tuple, seqD_lst, seqP_list, seqP_tuple, listD_list, listD_lst, toD_pure, toD_lst, toD_lst2, setD, unpD, consG, nilG, asD_pure, asL_lst, T.ofO, callD, allPP, isPP_pure, isPP_pot, nm_at, nmP_at, nmP_pot, addM_ii, addM_ib, subM_ii, intM_i, intM_b, bodyD, par2, iteM, orT, andT, notT, boolM_b, truM_b, ltM_ii, gtM_ii, leM_ii, geM_ii, min2M_n, max2M_n, andT, wipeD, eqM_ii, neM_ii, T.bind_assoc, ha, hm2, hmm, hmo, jarS]
  · intro i hi
    have := (List.mem_filter.mp (List.mem_reverse.mp hi)).2
    have := of_decide_eq_true this
    omega
  · have := List.length_filter_le (fun x => decide (100000000000000 ≤ x)) (ms.map absI')
    rw [List.length_map] at this
    rw [List.length_reverse]
    omega
  · intro i hi
    simp at hi
    rcases hi with rfl | rfl
    · exact jarS_nn ms _ (by omega)
    · exact Int.le_refl _
theorem law_math0 (ns : List Int) (h : ns.length ≤ 63) (ee : DSt → T M) (bb : Sm) (hee : ee = e_law) (hbb : bb = b_D_law) : lawM kn0 1 ee bb (some (.pure (.list (ns.map PyData.int))) :: List.replicate (15 - 1) none) := by
  obtain ⟨gs, s, hpot, hok⟩ := run_pot ns h
  have he : e_law (some (.pure (.list (ns.map PyData.int))) :: List.replicate (15 - 1) none) = .ret (.npot kn0 gs [s, 0]) := by
    unfold e_law
    simp [seqS, retS, asgS, drpS, iteS, skS, killS, frzS, frzI, frz_lst, frz_pure, frz_pot, frz_lst2, bin, un1, callG, arg1, arg2, consL, nilL, kM, tupD, lstD, pureL, itemsE, itemsP, seqD_list, seqD_tuple, seqD_lst, seqP_list, seqP_tuple, listD_list, listD_lst, toD_pure, toD_lst, toD_lst2, setD, unpD, consG, nilG, asD_pure, asL_lst, T.ofO, callD, allPP, isPP_pure, isPP_pot, nm_at, nmP_at, nmP_pot, addM_ii, addM_ib, subM_ii, intM_i, intM_b, bodyD, par2, iteM, orT, andT, notT, boolM_b, truM_b, ltM_ii, gtM_ii, leM_ii, geM_ii, min2M_n, max2M_n, andT, wipeD, eqM_ii, neM_ii, T.bind_assoc, hpot]
  have hr := ref_law ns
  rw [← hbb] at hr
  rw [← hee] at he
  exact lawM_of he hok rfl hr (law_typed ns)
theorem law_math (ns : List Int) (h : ns.length ≤ 63) : lawM kn0 1 e_law b_D_law (some (.pure (.list (ns.map PyData.int))) :: List.replicate (15 - 1) none) := law_math0 ns h _ _ rfl rfl
end L2.Zy.K62
open PySem PySem.W PyProof.Rows
set_option maxHeartbeats 0 in
theorem PySem.Challenge.cw_webmaps_k62_whole_main_parted_holds : PySem.Challenge.rw_webmaps_k62_whole_main_parted.Holds := by
  w_on; o_law; k_head; (case hw => w_witness2)
  k_fill
  refine L2.Zy.walk_ofG (l := PySem.Challenge.rw_webmaps_k62_whole_main_parted) (n := 63) (k := 6) (x := "script") (sp := L2.Zy.K62.sp_law) rfl (by decide) rfl ⟨rfl, by decide, by decide⟩ (fun w h Y => PySem.W.kIn_of Y) ?F (fun K H a ns hl _ hS => ⟨a, ns, rfl, hS, L2.Zy.K62.law_math ns hl, fun _ => rfl⟩)
  case F =>
    intro w mg fa h KX G hmg
    refine' L2.Zy.K62.all_mk KX G hmg ?a0 ?l0 ?c0 ?k0 ?a1 ?l1 ?c1 ?k1 ?a2 ?l2 ?c2 ?k2 ?a3 ?l3 ?c3 ?k3 ?a4 ?l4 ?c4 ?k4 ?a5 ?l5 ?c5 ?k5 ?a6 ?l6 ?c6 ?k6 ?a7 ?l7 ?c7 ?k7 ?a8 ?l8 ?c8 ?k8 ?a9 ?l9 ?c9 ?k9 ?a10 ?l10 ?c10 ?k10 ?a11 ?l11 ?c11 ?k11 ?a12 ?l12 ?c12 ?k12 ?a13 ?l13 ?c13 ?k13 ?a14 ?l14 ?c14 ?k14 ?a15 ?l15 ?c15 ?k15 ?a16 ?l16 ?c16 ?k16 ?a17 ?l17 ?c17 ?k17 ?a18 ?l18 ?c18 ?k18 ?a19 ?l19 ?c19 ?k19 ?a20 ?l20 ?c20 ?k20 ?a21 ?l21 ?c21 ?k21 ?a22 ?l22 ?c22 ?k22 ?a23 ?l23 ?c23 ?k23 ?a24 ?l24 ?c24 ?k24 ?a25 ?l25 ?c25 ?k25 ?a26 ?l26 ?c26 ?k26 ?a27 ?l27 ?c27 ?k27 ?a28 ?l28 ?c28 ?k28 ?a29 ?l29 ?c29 ?k29 ?a30 ?l30 ?c30 ?k30 ?z_abs ?z_all ?z_any ?z_bool ?z_enumerate ?z_int ?z_isinstance ?z_len ?z_list ?z_max ?z_min ?z_range ?z_repr ?z_sorted ?z_str ?z_tuple ?z_zip
    (case a0 => k_is); (case l0 => k_is); (case c0 => k_is); (case k0 => k_is); (case a1 => k_is); (case l1 => k_is); (case c1 => k_is); (case k1 => k_is); (case a2 => k_is); (case l2 => k_is); (case c2 => k_is); (case k2 => k_is); (case a3 => k_is); (case l3 => k_is); (case c3 => k_is); (case k3 => k_is); (case a4 => k_is); (case l4 => k_is); (case c4 => k_is); (case k4 => k_is); (case a5 => k_is); (case l5 => k_is); (case c5 => k_is); (case k5 => k_is); (case a6 => k_is); (case l6 => k_is); (case c6 => k_is); (case k6 => k_is); (case a7 => k_is); (case l7 => k_is); (case c7 => k_is); (case k7 => k_is); (case a8 => k_is); (case l8 => k_is); (case c8 => k_is); (case k8 => k_is); (case a9 => k_is); (case l9 => k_is); (case c9 => k_is); (case k9 => k_is); (case a10 => k_is); (case l10 => k_is); (case c10 => k_is); (case k10 => k_is); (case a11 => k_is); (case l11 => k_is); (case c11 => k_is); (case k11 => k_is); (case a12 => k_is); (case l12 => k_is); (case c12 => k_is); (case k12 => k_is); (case a13 => k_is); (case l13 => k_is); (case c13 => k_is); (case k13 => k_is); (case a14 => k_is); (case l14 => k_is); (case c14 => k_is); (case k14 => k_is); (case a15 => k_is); (case l15 => k_is); (case c15 => k_is); (case k15 => k_is); (case a16 => k_is); (case l16 => k_is); (case c16 => k_is); (case k16 => k_is); (case a17 => k_is); (case l17 => k_is); (case c17 => k_is); (case k17 => k_is); (case a18 => k_is); (case l18 => k_is); (case c18 => k_is); (case k18 => k_is); (case a19 => k_is); (case l19 => k_is); (case c19 => k_is); (case k19 => k_is); (case a20 => k_is); (case l20 => k_is); (case c20 => k_is); (case k20 => k_is); (case a21 => k_is); (case l21 => k_is); (case c21 => k_is); (case k21 => k_is); (case a22 => k_is); (case l22 => k_is); (case c22 => k_is); (case k22 => k_is); (case a23 => k_is); (case l23 => k_is); (case c23 => k_is); (case k23 => k_is); (case a24 => k_is); (case l24 => k_is); (case c24 => k_is); (case k24 => k_is); (case a25 => k_is); (case l25 => k_is); (case c25 => k_is); (case k25 => k_is); (case a26 => k_is); (case l26 => k_is); (case c26 => k_is); (case k26 => k_is); (case a27 => k_is); (case l27 => k_is); (case c27 => k_is); (case k27 => k_is); (case a28 => k_is); (case l28 => k_is); (case c28 => k_is); (case k28 => k_is); (case a29 => k_is); (case l29 => k_is); (case c29 => k_is); (case k29 => k_is); (case a30 => k_is); (case l30 => k_is); (case c30 => k_is); (case k30 => k_is); (case z_abs => k_is); (case z_all => k_is); (case z_any => k_is); (case z_bool => k_is); (case z_enumerate => k_is); (case z_int => k_is); (case z_isinstance => k_is); (case z_len => k_is); (case z_list => k_is); (case z_max => k_is); (case z_min => k_is); (case z_range => k_is); (case z_repr => k_is); (case z_sorted => k_is); (case z_str => k_is); (case z_tuple => k_is); (case z_zip => k_is)
