import PyProof.Rows.All
import Wide.All
import OpenK.AllK
import Wide.FinOn
import PyProof.EqAt
import PyProof.EqKinds
import PyProof.TupleCall
import HandS.Base
import HandS.Call
import HandS.List
import HandS.Comp
import HandS.Ends
import HandS.Exc
import HandS.TryOnly
import HandS.ExcOwn
import HandS.Words
import HandS.WordsExc
import HandS.Wide
import HandS.TupAny
import HandS.Dict
import HandS.SortInts
import HandS.IsInst
import HandS.FStr
import HandS.Text
import HandS.StrMore
import HandS.Deep
import HandS.Conv
import HandS.More
import KE.SortData
import KE.DataMinMax
import HandS.WordsDict
import HandS.Iter
import HandS.Zip
import HandS.Defaults
import HandS.HeadHook1
import HandS.HeadHook2
import HandS.HeadEnd
import HandS.Head2
import KE.KIntText
import HandS.Codes
import PySem.Challenge.RW_beatnet_k43_partings_written
set_option Elab.async false
set_option linter.all false
set_option maxRecDepth 100000
set_option maxHeartbeats 4000000
namespace Dt
open PySem PySem.Spec PyProof.Rows L2

/-! ### values told apart from the heap; objects that may change stand in a heap of their own -/
inductive D where
  | non | bl (b : Bool) | int (i : Int) | str (x : Str) | con (v : V)
  | tup (ds : List D)
  | wt (ds : List D)
  | lst (ds : List D)
  | scr (ns : List Int)
  | dk (ks : List Key) (ds : List D)
  | dt (ks : List (List Key)) (ds : List D)
  | ref (n : Nat)
inductive O where
  | lst (ds : List D)
  | dk (ks : List Key) (ds : List D)
  | dt (ks : List (List Key)) (ds : List D)
  | ins (C : Addr) (fs : List Str) (ds : List D)
abbrev DH := List O
abbrev Env' := List (Option D)
structure Exn where
  cls : Value
  fs : List Str
  ds : List D
  own : Bool
inductive Rs (α : Type) where
  | ok (a : α) (h : DH) | rz (x : Exn) (h : DH) | bad

/-- addresses of ours: by their numbers, and those that nobody may see -/
structure Rg where
  ix : List Addr
  bn : List Addr
instance : Membership Addr Rg := ⟨fun r a => a ∈ r.ix ∨ a ∈ r.bn⟩
theorem Rg.mem {r : Rg} {a : Addr} : a ∈ r ↔ a ∈ r.ix ∨ a ∈ r.bn := Iff.rfl
def Rg.snoc (r : Rg) (a : Addr) : Rg := ⟨r.ix ++ [a], r.bn⟩
def Rg.ban (r : Rg) (a : Addr) : Rg := ⟨r.ix, a :: r.bn⟩
def WrL (K : PySem.W.Frag) (a : Addr) (xs : List V) : Prop :=
  ∃ (o : Obj) (its : Array Value) (n : Nat), K.lookup a = some o ∧ o.cls = .type "list" ∧ o.dict = none ∧ o.data = .seq its n ∧ its.size ≤ sizeLine ∧ Vals xs its.toList
def WrT (K : PySem.W.Frag) (a : Addr) (xs : List V) : Prop :=
  ∃ (o : Obj) (its : Array Value) (n : Nat), K.lookup a = some o ∧ o.cls = .type "tuple" ∧ o.data = .seq its n ∧ its.size ≤ sizeLine ∧ Vals xs its.toList
/-- a list that nobody may change any more -/
def FzL (r : Rg) (H : Hp) (a : Addr) (xs : List V) : Prop := H a = some (.lst xs) ∧ a ∉ r
/-- the script -/
def FzS (K : PySem.W.Frag) (r : Rg) (H : Hp) (a : Addr) (xs : List V) : Prop := (Rd H a (.lst xs) ∧ a ∉ r) ∨ WrL K a xs
def FzT (r : Rg) (H : Hp) (a : Addr) (xs : List V) : Prop := H a = some (.tup xs) ∧ a ∉ r
theorem FzL.sq {K : PySem.W.Frag} {r : Rg} {H : Hp} {a : Addr} {xs : List V} (h : FzL r H a xs) : SqL K H a xs := .inl (.inl h.1)
theorem FzS.sq {K : PySem.W.Frag} {r : Rg} {H : Hp} {a : Addr} {xs : List V} (h : FzS K r H a xs) : SqL K H a xs := h.elim (fun x => .inl x.1) .inr
theorem FzT.sq {K : PySem.W.Frag} {r : Rg} {H : Hp} {a : Addr} {xs : List V} (h : FzT r H a xs) : SqT K H a xs := .inl (.inl h.1)

mutual
def RV (K : PySem.W.Frag) (r : Rg) (H : Hp) : D → V → Prop
  | .non, v => v = .non
  | .bl b, v => v = .bl b
  | .int i, v => v = .int i
  | .str x, v => v = .str x
  | .con c, v => v = c
  | .tup ds, v => ∃ a vs, v = .ref a ∧ FzT r H a vs ∧ RVs K r H ds vs
  | .wt ds, v => ∃ a vs, v = .ref a ∧ WrT K a vs ∧ RVs K r H ds vs
  | .lst ds, v => ∃ a vs, v = .ref a ∧ FzL r H a vs ∧ RVs K r H ds vs
  | .scr ns, v => ∃ a, v = .ref a ∧ FzS K r H a (ns.map V.int)
  | .dk ks ds, v => ∃ a vs, v = .ref a ∧ Rd H a (.dK (ks.zip vs)) ∧ a ∉ r ∧ ks.length = vs.length ∧ RVs K r H ds vs
  | .dt ks ds, v => ∃ a vs, v = .ref a ∧ Rd H a (.dT (ks.zip vs)) ∧ a ∉ r ∧ ks.length = vs.length ∧ RVs K r H ds vs
  | .ref n, v => ∃ a, r.ix[n]? = some a ∧ v = .ref a
def RVs (K : PySem.W.Frag) (r : Rg) (H : Hp) : List D → List V → Prop
  | [], vs => vs = []
  | d :: ds, vs => ∃ v t, vs = v :: t ∧ RV K r H d v ∧ RVs K r H ds t
end

def RO (K : PySem.W.Frag) (r : Rg) (H : Hp) (a : Addr) : O → Prop
  | .lst ds => ∃ vs, H a = some (.lst vs) ∧ RVs K r H ds vs
  | .dk ks ds => ∃ vs, H a = some (.dK (ks.zip vs)) ∧ ks.length = vs.length ∧ RVs K r H ds vs
  | .dt ks ds => ∃ vs, H a = some (.dT (ks.zip vs)) ∧ ks.length = vs.length ∧ RVs K r H ds vs
  | .ins C fs ds => ∃ dx vs, H a = some (.ins C dx (fs.zip vs)) ∧ fs.length = vs.length ∧ RVs K r H ds vs

structure RH (K : PySem.W.Frag) (r : Rg) (h : DH) (H : Hp) : Prop where
  len : r.ix.length = h.length
  nd : (r.ix ++ r.bn).Nodup
  at_ : ∀ (i : Nat) (a : Addr) (o : O), r.ix[i]? = some a → h[i]? = some o → RO K r H a o
  bt : ∀ a, a ∈ r.bn → H a ≠ none

structure Ext (r r' : Rg) (H H' : Hp) : Prop where
  pre : ∀ (i : Nat) (a : Addr), r.ix[i]? = some a → r'.ix[i]? = some a
  bn : r'.bn = r.bn
  bk : ∀ a, a ∈ r.bn → H' a = H a
  keep : ∀ a o, H a = some o → a ∉ r → H' a = some o
  new : ∀ a, a ∈ r' → a ∉ r → H a = none
  dom : ∀ a, H' a = none → H a = none

/-- all that values lean on -/
structure Wx (r r' : Rg) (H H' : Hp) : Prop where
  pre : ∀ (i : Nat) (a : Addr), r.ix[i]? = some a → r'.ix[i]? = some a
  keep : ∀ a o, H a = some o → a ∉ r → H' a = some o
  new : ∀ a, a ∈ r' → a ∉ r → H a = none
  dom : ∀ a, H' a = none → H a = none
theorem Ext.wx {r r' : Rg} {H H' : Hp} (e : Ext r r' H H') : Wx r r' H H' := ⟨e.pre, e.keep, e.new, e.dom⟩
theorem Wx.refl {r : Rg} {H : Hp} : Wx r r H H := ⟨fun _ _ e => e, fun _ _ e _ => e, fun _ a b => absurd a b, fun _ e => e⟩
theorem Wx.trans {r r1 r2 : Rg} {H H1 H2 : Hp} (a : Wx r r1 H H1) (b : Wx r1 r2 H1 H2) : Wx r r2 H H2 where
  pre := fun i x e => b.pre i x (a.pre i x e)
  keep := fun x o e n => by
    have e1 := a.keep x o e n
    refine b.keep x o e1 fun m => ?_
    have := a.new x m n
    rw [e] at this; cases this
  new := fun x m n => by
    by_cases hx : x ∈ r1
    · exact a.new x hx n
    · exact a.dom x (b.new x m hx)
  dom := fun x e => a.dom x (b.dom x e)
def RS (K : PySem.W.Frag) (r : Rg) (H : Hp) (env : Env') (σ : L2.St) : Prop :=
  env.length = σ.length ∧ ∀ (i : Nat) (d : D), env[i]? = some (some d) → ∃ v, σ[i]? = some (some v) ∧ RV K r H d v

section
variable {K : PySem.W.Frag} {r r' r1 r2 : Rg} {H H' H1 H2 : Hp} {h h' : DH} {d : D} {v : V} {ds : List D} {vs : List V} {a : Addr} {env : Env'} {σ : L2.St}

theorem Ext.refl : Ext r r H H := ⟨fun _ _ e => e, rfl, fun _ _ => rfl, fun _ _ e _ => e, fun _ a b => absurd a b, fun _ e => e⟩
theorem Ext.mem (e : Ext r r' H H') (h : a ∈ r) : a ∈ r' := by
  rcases h with h | h
  · obtain ⟨i, hi⟩ := List.getElem?_of_mem h
    exact .inl (List.mem_of_getElem? (e.pre i a hi))
  · exact .inr (by rw [e.bn]; exact h)
theorem Ext.trans (a : Ext r r1 H H1) (b : Ext r1 r2 H1 H2) : Ext r r2 H H2 where
  pre := fun i x e => b.pre i x (a.pre i x e)
  bn := b.bn.trans a.bn
  bk := fun x m => (b.bk x (by rw [a.bn]; exact m)).trans (a.bk x m)
  keep := fun x o e n => by
    have e1 := a.keep x o e n
    refine b.keep x o e1 fun m => ?_
    have := a.new x m n
    rw [e] at this; cases this
  new := fun x m n => by
    by_cases hx : x ∈ r1
    · exact a.new x hx n
    · exact a.dom x (b.new x m hx)
  dom := fun x e => a.dom x (b.dom x e)

theorem Rd.keep {u : HO} (e : Wx r r' H H') (h : Rd H a u) (n : a ∉ r) : Rd H' a u ∧ a ∉ r' := by
  rcases h with h | ⟨o, h⟩
  · exact ⟨.inl (e.keep a _ h n), fun m => by have := e.new a m n; rw [h] at this; cases this⟩
  · exact ⟨.inr ⟨o, e.keep a _ h n⟩, fun m => by have := e.new a m n; rw [h] at this; cases this⟩
theorem FzL.wmono (e : Wx r r' H H') (h : FzL r H a vs) : FzL r' H' a vs :=
  ⟨e.keep a _ h.1 h.2, fun m => by have := e.new a m h.2; rw [h.1] at this; cases this⟩
theorem FzS.wmono (e : Wx r r' H H') (h : FzS K r H a vs) : FzS K r' H' a vs := by
  rcases h with ⟨h, n⟩ | h
  · exact .inl (Rd.keep e h n)
  · exact .inr h
theorem FzT.wmono (e : Wx r r' H H') (h : FzT r H a vs) : FzT r' H' a vs :=
  ⟨e.keep a _ h.1 h.2, fun m => by have := e.new a m h.2; rw [h.1] at this; cases this⟩

mutual
theorem RV.wmono (e : Wx r r' H H') : ∀ {d : D} {v : V}, RV K r H d v → RV K r' H' d v
  | .non, _, x => by simp only [RV] at x ⊢; exact x
  | .bl _, _, x => by simp only [RV] at x ⊢; exact x
  | .int _, _, x => by simp only [RV] at x ⊢; exact x
  | .str _, _, x => by simp only [RV] at x ⊢; exact x
  | .con _, _, x => by simp only [RV] at x ⊢; exact x
  | .tup ds, _, x => by
    simp only [RV] at x ⊢
    obtain ⟨a, vs, rfl, f, y⟩ := x
    exact ⟨a, vs, rfl, f.wmono e, RVs.wmono e y⟩
  | .wt ds, _, x => by
    simp only [RV] at x ⊢
    obtain ⟨a, vs, rfl, f, y⟩ := x
    exact ⟨a, vs, rfl, f, RVs.wmono e y⟩
  | .lst ds, _, x => by
    simp only [RV] at x ⊢
    obtain ⟨a, vs, rfl, f, y⟩ := x
    exact ⟨a, vs, rfl, f.wmono e, RVs.wmono e y⟩
  | .scr ns, _, x => by
    simp only [RV] at x ⊢
    obtain ⟨a, rfl, f⟩ := x
    exact ⟨a, rfl, f.wmono e⟩
  | .dk ks ds, _, x => by
    simp only [RV] at x ⊢
    obtain ⟨a, vs, rfl, f, n, l, y⟩ := x
    exact ⟨a, vs, rfl, (Rd.keep e f n).1, (Rd.keep e f n).2, l, RVs.wmono e y⟩
  | .dt ks ds, _, x => by
    simp only [RV] at x ⊢
    obtain ⟨a, vs, rfl, f, n, l, y⟩ := x
    exact ⟨a, vs, rfl, (Rd.keep e f n).1, (Rd.keep e f n).2, l, RVs.wmono e y⟩
  | .ref n, _, x => by
    simp only [RV] at x ⊢
    obtain ⟨a, y, rfl⟩ := x
    exact ⟨a, e.pre _ _ y, rfl⟩
theorem RVs.wmono (e : Wx r r' H H') : ∀ {ds : List D} {vs : List V}, RVs K r H ds vs → RVs K r' H' ds vs
  | [], _, x => by simp only [RVs] at x ⊢; exact x
  | d :: ds, _, x => by
    simp only [RVs] at x ⊢
    obtain ⟨v, t, rfl, y, z⟩ := x
    exact ⟨v, t, rfl, RV.wmono e y, RVs.wmono e z⟩
end
theorem RV.mono (e : Ext r r' H H') (x : RV K r H d v) : RV K r' H' d v := x.wmono e.wx
theorem RVs.mono (e : Ext r r' H H') (x : RVs K r H ds vs) : RVs K r' H' ds vs := x.wmono e.wx
theorem RVs.length : ∀ {ds : List D} {vs : List V}, RVs K r H ds vs → ds.length = vs.length
  | [], _, x => by simp only [RVs] at x; subst x; rfl
  | d :: ds, _, x => by
    simp only [RVs] at x
    obtain ⟨v, t, rfl, y, z⟩ := x
    simp [RVs.length z]
theorem RVs.get : ∀ {ds : List D} {vs : List V} {i : Nat} {d : D}, RVs K r H ds vs → ds[i]? = some d → ∃ v, vs[i]? = some v ∧ RV K r H d v
  | [], _, i, d, x, e => by simp at e
  | d :: ds, _, 0, d', x, e => by
    simp only [RVs] at x
    obtain ⟨v, t, rfl, y, z⟩ := x
    simp at e; subst e
    exact ⟨v, rfl, y⟩
  | d :: ds, _, i + 1, d', x, e => by
    simp only [RVs] at x
    obtain ⟨v, t, rfl, y, z⟩ := x
    exact RVs.get (i := i) z (by simpa using e)
theorem RVs.nil : RVs K r H [] [] := by simp only [RVs]
theorem RVs.cons (a : RV K r H d v) (b : RVs K r H ds vs) : RVs K r H (d :: ds) (v :: vs) := by
  simp only [RVs]; exact ⟨v, vs, rfl, a, b⟩
theorem RVs.one (a : RV K r H d v) : RVs K r H [d] [v] := .cons a .nil
theorem RVs.inv (x : RVs K r H (d :: ds) vs) : ∃ v t, vs = v :: t ∧ RV K r H d v ∧ RVs K r H ds t := by simpa only [RVs] using x
theorem RVs.inv0 (x : RVs K r H [] vs) : vs = [] := by simpa only [RVs] using x
theorem RVs.append : ∀ {ds es : List D} {vs ws : List V}, RVs K r H ds vs → RVs K r H es ws → RVs K r H (ds ++ es) (vs ++ ws)
  | [], _, _, _, x, y => by rw [x.inv0]; exact y
  | d :: ds, _, _, _, x, y => by
    obtain ⟨v, t, rfl, a, b⟩ := x.inv
    exact .cons a (RVs.append b y)
theorem RVs.take : ∀ {ds : List D} {vs : List V} (n : Nat), RVs K r H ds vs → RVs K r H (ds.take n) (vs.take n)
  | [], _, n, x => by rw [x.inv0]; simp; exact .nil
  | d :: ds, _, 0, x => by simp; exact .nil
  | d :: ds, _, n + 1, x => by
    obtain ⟨v, t, rfl, a, b⟩ := x.inv
    exact .cons a (RVs.take n b)
theorem RVs.drop : ∀ {ds : List D} {vs : List V} (n : Nat), RVs K r H ds vs → RVs K r H (ds.drop n) (vs.drop n)
  | [], _, n, x => by rw [x.inv0]; simp; exact .nil
  | d :: ds, _, 0, x => by simpa using x
  | d :: ds, _, n + 1, x => by
    obtain ⟨v, t, rfl, a, b⟩ := x.inv
    exact RVs.drop n b
theorem RVs.set (q : RV K r H d v) : ∀ {ds : List D} {vs : List V} (i : Nat), RVs K r H ds vs → RVs K r H (ds.set i d) (vs.set i v)
  | [], _, n, x => by rw [x.inv0]; exact .nil
  | e :: ds, _, 0, x => by
    obtain ⟨v', t, rfl, a, b⟩ := x.inv
    exact .cons q b
  | e :: ds, _, n + 1, x => by
    obtain ⟨v', t, rfl, a, b⟩ := x.inv
    exact .cons a (RVs.set q n b)
theorem RVs.eraseIdx : ∀ {ds : List D} {vs : List V} (i : Nat), RVs K r H ds vs → RVs K r H (ds.eraseIdx i) (vs.eraseIdx i)
  | [], _, n, x => by rw [x.inv0]; exact .nil
  | e :: ds, _, 0, x => by
    obtain ⟨v', t, rfl, a, b⟩ := x.inv
    exact b
  | e :: ds, _, n + 1, x => by
    obtain ⟨v', t, rfl, a, b⟩ := x.inv
    exact .cons a (RVs.eraseIdx n b)
theorem RVs.reverse {ds : List D} {vs : List V} (x : RVs K r H ds vs) : RVs K r H ds.reverse vs.reverse := by
  induction ds generalizing vs with
  | nil => rw [x.inv0]; exact .nil
  | cons d ds ih =>
    obtain ⟨v', t, rfl, a, b⟩ := x.inv
    rw [List.reverse_cons, List.reverse_cons]
    exact (ih b).append (.one a)
theorem RVs.ints {ns : List Int} : RVs K r H (ns.map D.int) (ns.map V.int) := by
  induction ns with
  | nil => exact .nil
  | cons n ns ih => exact .cons (by simp only [RV]) ih

theorem RO.mono (e : Ext r r' H H') {o : O} (x : RO K r H a o) (n : H' a = H a) : RO K r' H' a o := by
  cases o with
  | lst ds => obtain ⟨vs, p, q⟩ := x; exact ⟨vs, n.trans p, q.mono e⟩
  | dk ks ds => obtain ⟨vs, p, l, q⟩ := x; exact ⟨vs, n.trans p, l, q.mono e⟩
  | dt ks ds => obtain ⟨vs, p, l, q⟩ := x; exact ⟨vs, n.trans p, l, q.mono e⟩
  | ins C fs ds => obtain ⟨dx, vs, p, l, q⟩ := x; exact ⟨dx, vs, n.trans p, l, q.mono e⟩
theorem RO.wmono (e : Wx r r' H H') {o : O} (x : RO K r H a o) (n : H' a = H a) : RO K r' H' a o := by
  cases o with
  | lst ds => obtain ⟨vs, p, q⟩ := x; exact ⟨vs, n.trans p, q.wmono e⟩
  | dk ks ds => obtain ⟨vs, p, l, q⟩ := x; exact ⟨vs, n.trans p, l, q.wmono e⟩
  | dt ks ds => obtain ⟨vs, p, l, q⟩ := x; exact ⟨vs, n.trans p, l, q.wmono e⟩
  | ins C fs ds => obtain ⟨dx, vs, p, l, q⟩ := x; exact ⟨dx, vs, n.trans p, l, q.wmono e⟩
theorem RO.some {o : O} (x : RO K r H a o) : H a ≠ none := by
  cases o with
  | lst ds => obtain ⟨vs, p, q⟩ := x; rw [p]; simp
  | dk ks ds => obtain ⟨vs, p, l, q⟩ := x; rw [p]; simp
  | dt ks ds => obtain ⟨vs, p, l, q⟩ := x; rw [p]; simp
  | ins C fs ds => obtain ⟨dx, vs, p, l, q⟩ := x; rw [p]; simp
theorem RH.there (x : RH K r h H) (m : a ∈ r) : H a ≠ none := by
  rcases m with m | m
  · obtain ⟨i, hi⟩ := List.getElem?_of_mem m
    have : i < h.length := by rw [← x.len]; exact (List.getElem?_eq_some_iff.mp hi).1
    exact (x.at_ i a _ hi (List.getElem?_eq_getElem this)).some
  · exact x.bt a m
theorem RH.out (x : RH K r h H) (n : H a = none) : a ∉ r := fun m => x.there m n
theorem RS.wmono (e : Wx r r' H H') (x : RS K r H env σ) : RS K r' H' env σ := ⟨x.1, fun i d q => by
  obtain ⟨v, a, b⟩ := x.2 i d q
  exact ⟨v, a, b.wmono e⟩⟩
theorem RS.mono (e : Ext r r' H H') (x : RS K r H env σ) : RS K r' H' env σ := ⟨x.1, fun i d q => by
  obtain ⟨v, a, b⟩ := x.2 i d q
  exact ⟨v, a, b.mono e⟩⟩

theorem RH.ixnd (x : RH K r h H) : r.ix.Nodup := (List.nodup_append.mp x.nd).1
theorem RH.apart (x : RH K r h H) {b : Addr} (m : a ∈ r.ix) (n : b ∈ r.bn) : b ≠ a := fun e => (List.nodup_append.mp x.nd).2.2 a m b n e.symm
/-- a new object that is not ours to change is laid -/
theorem RH.lay {o : HO} (x : RH K r h H) (n : H a = none) : Ext r r H (upd H a o) ∧ RH K r h (upd H a o) := by
  have kp : ∀ b, H b ≠ none → upd H a o b = H b := fun b q => upd_ne fun z => q (z ▸ n)
  have e : Ext r r H (upd H a o) := ⟨fun _ _ q => q, rfl, fun b m => kp b (x.bt b m), fun b u q _ => (kp b (by rw [q]; simp)).trans q, fun _ m k => absurd m k, fun b q => by
    by_cases hb : b = a
    · rw [hb]; exact n
    · rw [upd_ne hb] at q; exact q⟩
  exact ⟨e, x.len, x.nd, fun i b u p q => (x.at_ i b u p q).mono e (kp b (x.at_ i b u p q).some), fun b m => by rw [kp b (x.bt b m)]; exact x.bt b m⟩
/-- a new object that nobody may see -/
theorem RH.hide {o : HO} (x : RH K r h H) (n : H a = none) : Wx r (r.ban a) H (upd H a o) ∧ RH K (r.ban a) h (upd H a o) := by
  have kp : ∀ b, H b ≠ none → upd H a o b = H b := fun b q => upd_ne fun z => q (z ▸ n)
  have w : Wx r (r.ban a) H (upd H a o) := ⟨fun _ _ q => q, fun b u q _ => (kp b (by rw [q]; simp)).trans q, fun b m k => by
    rcases m with m | m
    · exact absurd (.inl m) k
    · rcases List.mem_cons.mp m with rfl | m
      · exact n
      · exact absurd (.inr m) k, fun b q => by
    by_cases hb : b = a
    · rw [hb]; exact n
    · rw [upd_ne hb] at q; exact q⟩
  refine ⟨w, x.len, ?_, fun i b u p q => (x.at_ i b u p q).wmono w (kp b (x.at_ i b u p q).some), fun b m => ?_⟩
  · have := x.nd
    show (r.ix ++ a :: r.bn).Nodup
    rw [List.nodup_append] at this ⊢
    refine ⟨this.1, List.nodup_cons.mpr ⟨fun m => x.bt a m n, this.2.1⟩, fun b m c mc => ?_⟩
    rcases List.mem_cons.mp mc with rfl | mc
    · rintro rfl
      exact x.out n (.inl m)
    · exact this.2.2 b m c mc
  · rcases List.mem_cons.mp m with rfl | m
    · rw [upd_same]; simp
    · rw [kp b (x.bt b m)]; exact x.bt b m
/-- what was hidden is changed -/
theorem RH.rehide {u : HO} (x : RH K (r.ban a) h H) : Wx (r.ban a) (r.ban a) H (upd H a u) ∧ RH K (r.ban a) h (upd H a u) := by
  have w : Wx (r.ban a) (r.ban a) H (upd H a u) := ⟨fun _ _ q => q, fun b o q k => by rw [upd_ne (show b ≠ a from fun z => k (by subst z; exact .inr List.mem_cons_self))]; exact q, fun b m k => absurd m k, fun b q => by
    by_cases hb : b = a
    · rw [hb, upd_same] at q; cases q
    · rw [upd_ne hb] at q; exact q⟩
  refine ⟨w, x.len, x.nd, fun i b o p q => (x.at_ i b o p q).wmono w (upd_ne fun z => ?_), fun b m => ?_⟩
  · subst z
    exact x.apart (List.mem_of_getElem? p) List.mem_cons_self rfl
  · by_cases hb : b = a
    · rw [hb, upd_same]; simp
    · rw [upd_ne hb]; exact x.bt b m
/-- what was hidden is shown -/
theorem RH.show_ (x : RH K (r.ban a) h H) : Wx (r.ban a) r H H ∧ RH K r h H := by
  have w : Wx (r.ban a) r H H := ⟨fun _ _ q => q, fun _ _ q _ => q, fun b m k => absurd (m.elim .inl fun m => .inr (List.mem_cons_of_mem _ m)) k, fun _ q => q⟩
  refine ⟨w, x.len, ?_, fun i b o p q => (x.at_ i b o p q).wmono w rfl, fun b m => x.bt b (List.mem_cons_of_mem _ m)⟩
  have := x.nd
  rw [List.nodup_append] at this ⊢
  exact ⟨this.1, (List.nodup_cons.mp this.2.1).2, fun b m c mc => this.2.2 b m c (List.mem_cons_of_mem _ mc)⟩
theorem Rg.ban_out {r : Rg} {a : Addr} (x : RH K (r.ban a) h H) : a ∉ r := fun m => by
  rcases m with m | m
  · exact x.apart m List.mem_cons_self rfl
  · exact (List.nodup_cons.mp (List.nodup_append.mp x.nd).2.1).1 m
/-- a walk under a hidden object, seen from outside -/
theorem Ext.under {H3 : Hp} (e2 : Ext r r1 H H1) (e : Ext (r1.ban a) (r2.ban a) H1 H2) (n : H a = none) (nb : a ∉ r) (same : ∀ b, b ≠ a → H3 b = H2 b) (ne : H3 a ≠ none) : Ext r r2 H H3 where
  pre := fun i b q => e.pre i b (e2.pre i b q)
  bn := by
    have := e.bn
    exact (List.cons.inj this).2.trans e2.bn
  bk := fun b m => by
    rw [same b fun z => nb (z ▸ .inr m)]
    exact (e.bk b (List.mem_cons_of_mem _ (by rw [e2.bn]; exact m))).trans (e2.bk b m)
  keep := fun b o q k => by
    have hb : b ≠ a := fun z => by rw [z, n] at q; cases q
    rw [same b hb]
    refine e.keep b o (e2.keep b o q k) fun m => ?_
    have hr : b ∈ r1 := m.elim .inl fun m => .inr ((List.mem_cons.mp m).resolve_left hb)
    have := e2.new b hr k
    rw [q] at this; cases this
  new := fun b m k => by
    by_cases hb : b = a
    · rw [hb]; exact n
    · by_cases hr : b ∈ r1
      · exact e2.new b hr k
      · exact e2.dom b (e.new b (m.elim .inl fun m => .inr (List.mem_cons_of_mem _ m)) fun z => hr (z.elim .inl fun z => .inr ((List.mem_cons.mp z).resolve_left hb)))
  dom := fun b q => by
    by_cases hb : b = a
    · rw [hb]; exact n
    · rw [same b hb] at q
      exact e2.dom b (e.dom b q)
/-- a new object of ours -/
theorem RH.own {o : O} {u : HO} (x : RH K r h H) (n : H a = none) (hu : ∀ H', Ext r (r.snoc a) H H' → H' a = some u → RO K (r.snoc a) H' a o) :
    Ext r (r.snoc a) H (upd H a u) ∧ RH K (r.snoc a) (h ++ [o]) (upd H a u) := by
  have kp : ∀ b, H b ≠ none → upd H a u b = H b := fun b q => upd_ne fun z => q (z ▸ n)
  have e : Ext r (r.snoc a) H (upd H a u) := ⟨fun i b q => by
      show (r.ix ++ [a])[i]? = some b
      rw [List.getElem?_append_left (List.getElem?_eq_some_iff.mp q).1]; exact q, rfl, fun b m => kp b (x.bt b m), fun b w q _ => (kp b (by rw [q]; simp)).trans q, fun b m k => by
      rcases m with m | m
      · rcases List.mem_append.mp m with m | m
        · exact absurd (.inl m) k
        · rw [List.mem_singleton.mp m]; exact n
      · exact absurd (.inr m) k, fun b q => by
    by_cases hb : b = a
    · rw [hb]; exact n
    · rw [upd_ne hb] at q; exact q⟩
  refine ⟨e, by show (r.ix ++ [a]).length = _; simp [x.len], ?_, fun i b w p q => ?_, fun b m => by rw [kp b (x.bt b m)]; exact x.bt b m⟩
  · have := x.nd
    show ((r.ix ++ [a]) ++ r.bn).Nodup
    rw [List.nodup_append] at this ⊢
    refine ⟨?_, this.2.1, fun b m c mc => ?_⟩
    · rw [List.nodup_append]
      exact ⟨this.1, by simp, fun b m c mc => by
        rw [List.mem_singleton.mp mc]
        rintro rfl
        exact x.out n (.inl m)⟩
    · rcases List.mem_append.mp m with m | m
      · exact this.2.2 b m c mc
      · rw [List.mem_singleton.mp m]
        rintro rfl
        exact x.bt _ mc n
  · replace p : (r.ix ++ [a])[i]? = some b := p
    by_cases hi : i < r.ix.length
    · rw [List.getElem?_append_left hi] at p
      rw [List.getElem?_append_left (by rw [← x.len]; exact hi)] at q
      exact (x.at_ i b w p q).mono e (kp b (x.at_ i b w p q).some)
    · have hi' : i = r.ix.length := by
        have := (List.getElem?_eq_some_iff.mp p).1
        simp at this; omega
      subst hi'
      rw [List.getElem?_append_right (Nat.le_refl _)] at p
      rw [List.getElem?_append_right (by rw [x.len]; exact Nat.le_refl _), x.len] at q
      simp at p q
      subst p; subst q
      exact hu _ e upd_same
/-- an object of ours is changed -/
theorem RH.put {o : O} {u : HO} {n : Nat} (x : RH K r h H) (ha : r.ix[n]? = some a) (hu : ∀ H', Ext r r H H' → H' a = some u → RO K r H' a o) :
    Ext r r H (upd H a u) ∧ RH K r (h.set n o) (upd H a u) := by
  have hm : a ∈ r.ix := List.mem_of_getElem? ha
  have e : Ext r r H (upd H a u) := ⟨fun _ _ q => q, rfl, fun b m => upd_ne (x.apart hm m), fun b w q k => by rw [upd_ne (show b ≠ a from fun z => k (z ▸ .inl hm))]; exact q, fun _ m k => absurd m k, fun b q => by
    by_cases hb : b = a
    · rw [hb, upd_same] at q; cases q
    · rw [upd_ne hb] at q; exact q⟩
  refine ⟨e, by simp [x.len], x.nd, fun i b w p q => ?_, fun b m => by rw [upd_ne (x.apart hm m)]; exact x.bt b m⟩
  by_cases hi : i = n
  · subst hi
    rw [ha] at p; cases p
    have hl : i < h.length := by rw [← x.len]; exact (List.getElem?_eq_some_iff.mp ha).1
    rw [List.getElem?_set_self hl] at q
    cases q
    exact hu _ e upd_same
  · rw [List.getElem?_set_ne (Ne.symm hi)] at q
    refine (x.at_ i b w p q).mono e (upd_ne fun z => ?_)
    subst z
    obtain ⟨h1, e1⟩ := List.getElem?_eq_some_iff.mp p
    obtain ⟨h2, e2⟩ := List.getElem?_eq_some_iff.mp ha
    exact hi ((List.getElem_inj x.ixnd).mp (e1.trans e2.symm))
end
end Dt

namespace Dt
open PySem PySem.Spec PyProof.Rows L2

def XR (K : PySem.W.Frag) (r : Rg) (H : Hp) (x : Exn) (dO : Option Addr) : Prop :=
  if x.own = true then ∃ a vs, dO = some a ∧ H a = some (.xd (x.fs.zip vs)) ∧ a ∉ r ∧ x.fs.length = vs.length ∧ RVs K r H x.ds vs else dO = none

/-- what is wanted of an outcome -/
def Po {α β : Type} (R : Rg → Hp → α → β → Prop) (K : PySem.W.Frag) (W : WX) (r : Rg) (σ : L2.St) (H : Hp) (x : Rs α) (Q : β → Hp → Prop) : Prop :=
  match x with
  | .ok a h => ∀ b r' H', Ext r r' H H' → RH K r' h H' → R r' H' a b → Q b H'
  | .rz x h => ∀ r' H' dO, Ext r r' H H' → RH K r' h H' → XR K r' H' x dO → W x.cls dO σ H'
  | .bad => False
def bd {α β : Type} (x : Rs α) (g : α → DH → Rs β) : Rs β := match x with
  | .ok a h => g a h
  | .rz x h => .rz x h
  | .bad => .bad
section
variable {α β γ δ : Type} {R : Rg → Hp → α → β → Prop} {R' : Rg → Hp → γ → δ → Prop} {K : PySem.W.Frag} {W : WX} {r r1 : Rg} {σ : L2.St} {H H1 : Hp} {x : Rs α} {Q : β → Hp → Prop} {Q' : δ → Hp → Prop} {g : α → DH → Rs γ}
@[simp] theorem bd_ok {a : α} {h : DH} : bd (.ok a h) g = g a h := rfl
@[simp] theorem bd_rz {y : Exn} {h : DH} : bd (.rz y h) g = .rz y h := rfl
@[simp] theorem bd_bad : bd (.bad : Rs α) g = .bad := rfl
theorem Po.later (e : Ext r r1 H H1) (p : Po R K W r σ H x Q) : Po R K W r1 σ H1 x Q := by
  cases x with
  | ok a h => exact fun b r' H' e' q q' => p b r' H' (e.trans e') q q'
  | rz y h => exact fun r' H' dO e' q q' => p r' H' dO (e.trans e') q q'
  | bad => exact p
theorem Po.bd (p : Po R' K W r σ H (bd x g) Q') : Po R K W r σ H x (fun b H1 => ∃ r1 h1 a, x = .ok a h1 ∧ Ext r r1 H H1 ∧ RH K r1 h1 H1 ∧ R r1 H1 a b ∧ Po R' K W r1 σ H1 (g a h1) Q') := by
  cases x with
  | ok a h => exact fun b r' H' e' q q' => ⟨r', h, a, rfl, e', q, q', Po.later e' p⟩
  | rz y h => exact p
  | bad => exact p
theorem Po.mono {Q2 : β → Hp → Prop} (p : Po R K W r σ H x Q) (h : ∀ b H', Q b H' → Q2 b H') : Po R K W r σ H x Q2 := by
  cases x with
  | ok a h' => exact fun b r' H' e' q q' => h _ _ (p b r' H' e' q q')
  | rz y h => exact p
  | bad => exact p
end

abbrev EF := Env' → DH → Rs D
abbrev AF := Env' → DH → Rs (List D)
abbrev TF := Env' → DH → Rs Bool
def tG {α β : Type} (R : Rg → Hp → α → β → Prop) (K : PySem.W.Frag) (W : WX) (f : Env' → DH → Rs α) (σ : L2.St) (H : Hp) (Q : β → Hp → Prop) : Prop :=
  ∃ r env h, RH K r h H ∧ RS K r H env σ ∧ Po R K W r σ H (f env h) Q
abbrev tE (K : PySem.W.Frag) (W : WX) (f : EF) : TE := tG (RV K) K W f
abbrev tA (K : PySem.W.Frag) (W : WX) (f : AF) : TA := tG (RVs K) K W f
def RB (_ : Rg) (_ : Hp) (a b : Bool) : Prop := a = b
abbrev tT (K : PySem.W.Frag) (W : WX) (f : TF) : TT := tG RB K W f
theorem PE.imp {X : Cx} {e : Expr} {t t' : TE} (h : PE X e t) (i : ∀ σ H Q, t' σ H Q → t σ H Q) : PE X e t' := ⟨fun pins s σ H Q I q => h.run pins s σ H Q I (i σ H Q q)⟩
theorem PT.imp {X : Cx} {e : Expr} {t t' : TT} (h : PT X e t) (i : ∀ σ H Q, t' σ H Q → t σ H Q) : PT X e t' := ⟨fun pins s σ H Q I q => h.run pins s σ H Q I (i σ H Q q)⟩
theorem PW.imp {X : Cx} {e : Expr} {t t' : TT} (h : PW X e t) (i : ∀ σ H Q, t' σ H Q → t σ H Q) : PW X e t' := ⟨fun wh pins s σ H Q I q => h.run wh pins s σ H Q I (i σ H Q q)⟩
theorem PA.imp {X : Cx} {e : List Expr} {t t' : TA} (h : PA X e t) (i : ∀ σ H Q, t' σ H Q → t σ H Q) : PA X e t' := ⟨fun pos pins s σ H Q I q => h.run pos pins s σ H Q I (i σ H Q q)⟩

/-- the move of all combinators: run the first, go on with what it gave -/
theorem tG.first {α β γ δ : Type} {R : Rg → Hp → α → β → Prop} {R' : Rg → Hp → γ → δ → Prop} {K : PySem.W.Frag} {W : WX} {f : Env' → DH → Rs α} {g : α → Env' → DH → Rs γ} {σ : L2.St} {H : Hp} {Q' : δ → Hp → Prop} {Q : β → Hp → Prop}
    (p : tG R' K W (fun env h => bd (f env h) fun a h1 => g a env h1) σ H Q')
    (k : ∀ r env h1 a b H1, RH K r h1 H1 → RS K r H1 env σ → R r H1 a b → Po R' K W r σ H1 (g a env h1) Q' → Q b H1) : tG R K W f σ H Q := by
  obtain ⟨r, env, h, rh, rs, p⟩ := p
  refine ⟨r, env, h, rh, rs, (Po.bd (R := R) p).mono fun b H1 ⟨r1, h1, a, _, e, rh1, ra, p1⟩ => ?_⟩
  exact k r1 env h1 a b H1 rh1 (rs.mono e) ra p1

def vr (i : Nat) : EF := fun env h => match env[i]? with | some (some d) => .ok d h | _ => .bad
def ct (d : D) : EF := fun _ h => .ok d h
def o1 (g : D → DH → Rs D) (fa : EF) : EF := fun env h => bd (fa env h) fun a h1 => g a h1
def o2 (g : D → D → DH → Rs D) (fa fb : EF) : EF := fun env h => bd (fa env h) fun a h1 => bd (fb env h1) fun b h2 => g a b h2
def an : AF := fun _ h => .ok [] h
def ac (fa : EF) (fr : AF) : AF := fun env h => bd (fa env h) fun a h1 => bd (fr env h1) fun as h2 => .ok (a :: as) h2
def oA (g : List D → DH → Rs D) (fa : AF) : EF := fun env h => bd (fa env h) fun a h1 => g a h1
def tstD (d : D) (h : DH) : Rs Bool := match d with | .bl b => .ok b h | _ => .bad
def tv (fa : EF) : TF := fun env h => bd (fa env h) fun a h1 => tstD a h1

/-- by values -/
def OpD (K : PySem.W.Frag) (g : D → D → DH → Rs D) (r : R2) : Prop :=
  ∀ (r0 : Rg) (h : DH) (H : Hp) (x y : D) (v u : V) (W : WX) (σ : L2.St) (Q : VK), RH K r0 h H → RV K r0 H x v → RV K r0 H y u → Po (RV K) K W r0 σ H (g x y h) Q → r v u H Q
def UnD (K : PySem.W.Frag) (g : D → DH → Rs D) (r : V → Hp → VK → Prop) : Prop :=
  ∀ (r0 : Rg) (h : DH) (H : Hp) (x : D) (v : V) (W : WX) (σ : L2.St) (Q : VK), RH K r0 h H → RV K r0 H x v → Po (RV K) K W r0 σ H (g x h) Q → r v H Q
def CallD (K : PySem.W.Frag) (g : List D → DH → Rs D) (r : List V → Hp → VK → Prop) : Prop :=
  ∀ (r0 : Rg) (h : DH) (H : Hp) (xs : List D) (vs : List V) (W : WX) (σ : L2.St) (Q : VK), RH K r0 h H → RVs K r0 H xs vs → Po (RV K) K W r0 σ H (g xs h) Q → r vs H Q
def MtD (K : PySem.W.Frag) (g : D → List D → DH → Rs D) (r : V → List V → Hp → VK → Prop) : Prop :=
  ∀ (r0 : Rg) (h : DH) (H : Hp) (x : D) (v : V) (xs : List D) (vs : List V) (W : WX) (σ : L2.St) (Q : VK), RH K r0 h H → RV K r0 H x v → RVs K r0 H xs vs → Po (RV K) K W r0 σ H (g x xs h) Q → r v vs H Q

section
variable {X : Cx} {W : WX} {a b c e : Expr} {es : List Expr} {fa fb fc : EF} {pos : Pos} {as : AF}
theorem de_var {i : Nat} (h : PE X e (tVar i)) : PE X e (tE X.K W (vr i)) := PE.imp h fun σ H Q p => by
  obtain ⟨r, env, h, rh, rs, p⟩ := p
  unfold vr at p
  split at p
  · rename_i d hd
    obtain ⟨v, e1, e2⟩ := rs.2 i d hd
    exact ⟨v, e1, p v r H .refl rh e2⟩
  · exact p.elim
theorem de_c {v : V} {d : D} (h : PE X e (tC v)) (hd : ∀ r H, RV X.K r H d v) : PE X e (tE X.K W (ct d)) := PE.imp h fun σ H Q p => by
  obtain ⟨r, env, h, rh, rs, p⟩ := p
  exact p v r H .refl rh (hd r H)
theorem de_int {i : Int} {j} : PE X (.Constant (.int i) j pos) (tE X.K W (ct (.int i))) := de_c pe_int fun _ _ => by simp only [RV]
theorem de_str {i : Str} {j} : PE X (.Constant (.str i) j pos) (tE X.K W (ct (.str i))) := de_c pe_str fun _ _ => by simp only [RV]
theorem de_bl {i : Bool} {j} : PE X (.Constant (.bool i) j pos) (tE X.K W (ct (.bl i))) := de_c pe_bl fun _ _ => by simp only [RV]
theorem de_non {j} : PE X (.Constant .none j pos) (tE X.K W (ct .non)) := de_c pe_non fun _ _ => by simp only [RV]
theorem tOp_of {g : D → D → DH → Rs D} {r : R2} (hg : OpD X.K g r) {σ : L2.St} {H : Hp} {Q : VK} (p : tE X.K W (o2 g fa fb) σ H Q) : tOp r (tE X.K W fa) (tE X.K W fb) σ H Q := by
  refine tG.first (R := RV X.K) (g := fun a env h1 => bd (fb env h1) fun b h2 => g a b h2) p fun r0 env h1 x v H1 rh rs rx p1 => ?_
  refine ⟨r0, env, h1, rh, rs, (Po.bd (R := RV X.K) p1).mono fun u H2 ⟨r2, h2, y, _, e2, rh2, ry, p2⟩ => ?_⟩
  exact hg r2 h2 H2 x y v u W σ Q rh2 (rx.mono e2) ry p2
theorem tUn_of {g : D → DH → Rs D} {r : V → Hp → VK → Prop} (hg : UnD X.K g r) {σ : L2.St} {H : Hp} {Q : VK} (p : tE X.K W (o1 g fa) σ H Q) : tUn r (tE X.K W fa) σ H Q :=
  tG.first (R := RV X.K) (g := fun a env h1 => g a h1) p fun r0 env h1 x v H1 rh rs rx p1 => hg r0 h1 H1 x v W σ Q rh rx p1
theorem de_op {op : Operator} {g : D → D → DH → Rs D} {r : R2} (ho : OpR X (binaryOp op) r) (hg : OpD X.K g r) (ha : PE X a (tE X.K W fa)) (hb : PE X b (tE X.K W fb)) : PE X (.BinOp a op b pos) (tE X.K W (o2 g fa fb)) :=
  PE.imp (pe_op ho ha hb) fun _ _ _ p => tOp_of hg p
theorem de_un {op : UnaryOp} {g : D → DH → Rs D} {r : V → Hp → VK → Prop} (ho : UnR X (unaryOp op) r) (hg : UnD X.K g r) (ha : PE X a (tE X.K W fa)) : PE X (.UnaryOp op a pos) (tE X.K W (o1 g fa)) :=
  PE.imp (pe_un ho ha) fun _ _ _ p => tUn_of hg p
theorem de_cmp {op : CmpOp} {g : D → D → DH → Rs D} {r : R2} (ho : OpR X (compareOp op) r) (hg : OpD X.K g r) (ha : PE X a (tE X.K W fa)) (hb : PE X b (tE X.K W fb)) (hm : behindInMarks op b = false) : PE X (.Compare a [op] [b] pos) (tE X.K W (o2 g fa fb)) :=
  PE.imp (pe_cmpR ho ha hb hm) fun _ _ _ p => tOp_of hg p
theorem tst_of {K : PySem.W.Frag} {r : Rg} {σ : L2.St} {H : Hp} {h : DH} {x : D} {v : V} {Q : Bool → Hp → Prop} (rh : RH K r h H) (rx : RV K r H x v) (p : Po RB K W r σ H (tstD x h) Q) : ∃ k, v = .bl k ∧ Q k H := by
  cases x with
  | bl k =>
    simp only [RV] at rx
    exact ⟨k, rx, p k r H .refl rh rfl⟩
  | _ => exact p.elim
theorem dt_cmp {op : CmpOp} {g : D → D → DH → Rs D} {r : R2} (ho : OpR X (compareOp op) r) (hg : OpD X.K g r) (ha : PE X a (tE X.K W fa)) (hb : PE X b (tE X.K W fb)) (hm : behindInMarks op b = false) : PT X (.Compare a [op] [b] pos) (tT X.K W (tv (o2 g fa fb))) :=
  PT.imp (pt_cmpR ho ha hb hm) fun σ H Q p => by
    refine tOp_of (W := W) hg (Q := fun x H' => ∃ k, x = .bl k ∧ Q k H') (tG.first (R := RV X.K) (f := o2 g fa fb) (g := fun d _ h => tstD d h) p ?_ : tE X.K W (o2 g fa fb) σ H fun x H' => ∃ k, x = .bl k ∧ Q k H')
    exact fun r0 env h1 x v H1 rh rs rx p1 => tst_of rh rx p1
/-- any expression whose value is a truth, as a test -/
theorem dt_val (ha : PE X a (tE X.K W fa)) (he : ∀ whole, isTrue a X.env whole = (do let v ← whole; standAt a.pos; holding [v] (truthy v)) := by intro _; rfl) : PT X a (tT X.K W (tv fa)) :=
  PT.imp (pt_val ha he) fun σ H Q p => tG.first (R := RV X.K) (f := fa) (g := fun d _ h => tstD d h) p fun r0 env h1 x v H1 rh rs rx p1 => tst_of rh rx p1

/-! ### and, or, not, a if t else b -/
def tnot (t : TF) : TF := fun env h => bd (t env h) fun b h1 => .ok (!b) h1
def tand (t u : TF) : TF := fun env h => bd (t env h) fun b h1 => if b = true then u env h1 else .ok false h1
def tor (t u : TF) : TF := fun env h => bd (t env h) fun b h1 => if b = true then .ok true h1 else u env h1
def eif (t : TF) (fa fb : EF) : EF := fun env h => bd (t env h) fun b h1 => if b = true then fa env h1 else fb env h1
def eand (fa fb : EF) : EF := fun env h => bd (fa env h) fun a h1 => bd (tstD a h1) fun b h2 => if b = true then fb env h2 else .ok (.bl false) h2
def eor (fa fb : EF) : EF := fun env h => bd (fa env h) fun a h1 => bd (tstD a h1) fun b h2 => if b = true then .ok (.bl true) h2 else fb env h2
def enot (fa : EF) : EF := fun env h => bd (fa env h) fun a h1 => bd (tstD a h1) fun b h2 => .ok (.bl (!b)) h2
variable {t u : TF} {rest : List Expr}
theorem dt_not (ha : PT X a (tT X.K W t)) : PT X (.UnaryOp .Not a pos) (tT X.K W (tnot t)) :=
  PT.imp (pt_not ha) fun σ H Q p => tG.first (R := RB) (f := t) (g := fun b _ h => .ok (!b) h) p fun r0 env h1 x v H1 rh rs rx p1 => by
    cases rx
    exact p1 _ _ _ .refl rh rfl
theorem dw_and1 (ha : PT X a (tT X.K W t)) : PW X (.BoolOp .And [a] pos) (tT X.K W t) := pw_and1 ha
theorem dw_or1 (ha : PT X a (tT X.K W t)) : PW X (.BoolOp .Or [a] pos) (tT X.K W t) := pw_or1 ha
theorem dw_and (ha : PT X a (tT X.K W t)) (hb : PW X (.BoolOp .And (b :: rest) pos) (tT X.K W u)) : PW X (.BoolOp .And (a :: b :: rest) pos) (tT X.K W (tand t u)) :=
  PW.imp (pw_and ha hb) fun σ H Q p => tG.first (R := RB) (f := t) (g := fun b env h => if b = true then u env h else .ok false h) p fun r0 env h1 x v H1 rh rs rx p1 => by
    cases rx
    cases x with
    | true => exact iteT ⟨r0, env, h1, rh, rs, p1⟩
    | false => exact iteF (p1 _ _ _ .refl rh rfl)
theorem dw_or (ha : PT X a (tT X.K W t)) (hb : PW X (.BoolOp .Or (b :: rest) pos) (tT X.K W u)) : PW X (.BoolOp .Or (a :: b :: rest) pos) (tT X.K W (tor t u)) :=
  PW.imp (pw_or ha hb) fun σ H Q p => tG.first (R := RB) (f := t) (g := fun b env h => if b = true then .ok true h else u env h) p fun r0 env h1 x v H1 rh rs rx p1 => by
    cases rx
    cases x with
    | true => exact iteT (p1 _ _ _ .refl rh rfl)
    | false => exact iteF ⟨r0, env, h1, rh, rs, p1⟩
theorem de_if (hc : PT X c (tT X.K W t)) (ha : PE X a (tE X.K W fa)) (hb : PE X b (tE X.K W fb)) : PE X (.IfExp c a b pos) (tE X.K W (eif t fa fb)) :=
  PE.imp (pe_ifExp hc ha hb) fun σ H Q p => tG.first (R := RB) (f := t) (g := fun b env h => if b = true then fa env h else fb env h) p fun r0 env h1 x v H1 rh rs rx p1 => by
    cases rx
    cases x with
    | true => exact iteT ⟨r0, env, h1, rh, rs, p1⟩
    | false => exact iteF ⟨r0, env, h1, rh, rs, p1⟩
theorem de_and (ha : PE X a (tE X.K W fa)) (hb : PE X (.BoolOp .And (b :: rest) pos) (tE X.K W fb)) : PE X (.BoolOp .And (a :: b :: rest) pos) (tE X.K W (eand fa fb)) :=
  PE.imp (pe_and ha hb) fun σ H Q p => tG.first (R := RV X.K) (f := fa) (g := fun a env h1 => bd (tstD a h1) fun b h2 => if b = true then fb env h2 else .ok (.bl false) h2) p fun r0 env h1 x v H1 rh rs rx p1 => by
    cases x with
    | bl k =>
      simp only [RV] at rx
      subst rx
      refine ⟨k, rfl, ?_⟩
      cases k with
      | true => exact iteT ⟨r0, env, h1, rh, rs, p1⟩
      | false => exact iteF (p1 (.bl false) r0 H1 .refl rh (by simp only [RV]))
    | _ => exact p1.elim
theorem de_or (ha : PE X a (tE X.K W fa)) (hb : PE X (.BoolOp .Or (b :: rest) pos) (tE X.K W fb)) : PE X (.BoolOp .Or (a :: b :: rest) pos) (tE X.K W (eor fa fb)) :=
  PE.imp (pe_or ha hb) fun σ H Q p => tG.first (R := RV X.K) (f := fa) (g := fun a env h1 => bd (tstD a h1) fun b h2 => if b = true then .ok (.bl true) h2 else fb env h2) p fun r0 env h1 x v H1 rh rs rx p1 => by
    cases x with
    | bl k =>
      simp only [RV] at rx
      subst rx
      refine ⟨k, rfl, ?_⟩
      cases k with
      | true => exact iteT (p1 (.bl true) r0 H1 .refl rh (by simp only [RV]))
      | false => exact iteF ⟨r0, env, h1, rh, rs, p1⟩
    | _ => exact p1.elim
theorem de_one {op} (h : PE X a (tE X.K W fa)) : PE X (.BoolOp op [a] pos) (tE X.K W fa) := pe_one h
theorem de_not (ha : PE X a (tE X.K W fa)) : PE X (.UnaryOp .Not a pos) (tE X.K W (enot fa)) :=
  PE.imp (pe_not ha) fun σ H Q p => tG.first (R := RV X.K) (f := fa) (g := fun a _ h1 => bd (tstD a h1) fun b h2 => .ok (D.bl (!b)) h2) p fun r0 env h1 x v H1 rh rs rx p1 => by
    cases x with
    | bl k =>
      simp only [RV] at rx
      subst rx
      exact ⟨k, rfl, p1 (.bl (!k)) r0 H1 .refl rh (by simp only [RV])⟩
    | _ => exact p1.elim

/-! ### argument lists, displays -/
theorem da_nil : PA X [] (tA X.K W an) := PA.imp pa_nil fun σ H Q ⟨r, env, h, rh, rs, p⟩ => p [] r H .refl rh .nil
theorem da_cons {fr : AF} (ha : PE X e (tE X.K W fa)) (hr : PA X es (tA X.K W fr)) (hs : starEach (e :: es) X.env = (false, eval e X.env) :: starEach es X.env := by rfl) : PA X (e :: es) (tA X.K W (ac fa fr)) :=
  PA.imp (pa_cons ha hr hs) fun σ H Q p => tG.first (R := RV X.K) (f := fa) (g := fun a env h1 => bd (fr env h1) fun as h2 => .ok (a :: as) h2) p fun r0 env h1 x v H1 rh rs rx p1 =>
    ⟨r0, env, h1, rh, rs, (Po.bd (R := RVs X.K) p1).mono fun u H2 ⟨r2, h2, y, _, e2, rh2, ry, p2⟩ => p2 _ r2 H2 .refl rh2 (.cons (rx.mono e2) ry)⟩
def mkT (ds : List D) (h : DH) : Rs D := if ds.length ≤ 1000000 then .ok (.tup ds) h else .bad
def mkL (own : Bool) (ds : List D) (h : DH) : Rs D := if ds.length ≤ 1000000 then (if own = true then .ok (.ref h.length) (h ++ [.lst ds]) else .ok (.lst ds) h) else .bad
theorem line_le {n : Nat} (h : n ≤ 1000000) : n ≤ sizeLine := Nat.le_trans h (by decide)
theorem line_lt {n : Nat} (h : n ≤ 1000000) : n < sizeLine := Nat.lt_of_le_of_lt h (by decide)
theorem po_mkT {K : PySem.W.Frag} {r : Rg} {σ : L2.St} {H : Hp} {h : DH} {ds : List D} {vs : List V} {Q : VK} (rh : RH K r h H) (rv : RVs K r H ds vs) (p : Po (RV K) K W r σ H (mkT ds h) Q) :
    vs.length ≤ sizeLine ∧ ∀ q, H q = none → Q (.ref q) (upd H q (.tup vs)) := by
  unfold mkT at p
  split at p
  · rename_i hl
    refine ⟨by rw [← rv.length]; exact line_le hl, fun q hq => ?_⟩
    obtain ⟨e, rh'⟩ := rh.lay (o := .tup vs) hq
    refine p _ r _ e rh' ?_
    simp only [RV]
    exact ⟨q, vs, rfl, ⟨upd_same, rh.out hq⟩, rv.mono e⟩
  · exact p.elim
theorem po_mkL {K : PySem.W.Frag} {r : Rg} {σ : L2.St} {H : Hp} {h : DH} {own : Bool} {ds : List D} {vs : List V} {Q : VK} (rh : RH K r h H) (rv : RVs K r H ds vs) (p : Po (RV K) K W r σ H (mkL own ds h) Q) :
    vs.length ≤ sizeLine ∧ ∀ q, H q = none → Q (.ref q) (upd H q (.lst vs)) := by
  unfold mkL at p
  split at p
  · rename_i hl
    refine ⟨by rw [← rv.length]; exact line_le hl, fun q hq => ?_⟩
    cases own with
    | true =>
      obtain ⟨e, rh'⟩ := rh.own (o := .lst ds) (u := .lst vs) hq fun H' e e' => ⟨vs, e', rv.mono e⟩
      refine p _ _ _ e rh' ?_
      simp only [RV]
      exact ⟨q, by show (r.ix ++ [q])[h.length]? = some q; rw [← rh.len]; simp, rfl⟩
    | false =>
      obtain ⟨e, rh'⟩ := rh.lay (o := .lst vs) hq
      refine p _ r _ e rh' ?_
      simp only [RV]
      exact ⟨q, vs, rfl, ⟨upd_same, rh.out hq⟩, rv.mono e⟩
  · exact p.elim
theorem de_tup {k} (ha : PA X es (tA X.K W as)) : PE X (.Tuple es k pos) (tE X.K W (oA mkT as)) :=
  PE.imp (pe_tup ha) fun σ H Q p => tG.first (R := RVs X.K) (f := as) (g := fun a _ h1 => mkT a h1) p fun r0 env h1 x v H1 rh rs rx p1 => po_mkT rh rx p1
theorem de_lst (own : Bool) (ha : PA X es (tA X.K W as)) : PE X (.List es pos) (tE X.K W (oA (mkL own) as)) :=
  PE.imp (pe_lst ha) fun σ H Q p => tG.first (R := RVs X.K) (f := as) (g := fun a _ h1 => mkL own a h1) p fun r0 env h1 x v H1 rh rs rx p1 => po_mkL rh rx p1
end
end Dt

namespace Dt
open PySem PySem.Spec PyProof.Rows L2

/-! ### contents -/
def lsq (h : DH) : D → Option (List D)
  | .lst ds => some ds
  | .scr ns => some (ns.map D.int)
  | .ref n => match h[n]? with | some (.lst ds) => some ds | _ => none
  | _ => none
def xsq (h : DH) : D → Option (List D)
  | .lst ds => some ds
  | .ref n => match h[n]? with | some (.lst ds) => some ds | _ => none
  | _ => none
def tsq : D → Option (List D)
  | .tup ds => some ds
  | .wt ds => some ds
  | _ => none
def sq (h : DH) (d : D) : Option (List D) := match d with
  | .tup ds => some ds
  | .wt ds => some ds
  | d => lsq h d
section
variable {K : PySem.W.Frag} {r : Rg} {H : Hp} {h : DH} {d x y : D} {v u : V} {ds : List D} {W : WX} {σ : L2.St} {Q : VK}
theorem RH.lst_at {n : Nat} (rh : RH K r h H) (rv : RV K r H (.ref n) v) (e : h[n]? = some (.lst ds)) : ∃ a vs, v = .ref a ∧ r.ix[n]? = some a ∧ H a = some (.lst vs) ∧ RVs K r H ds vs := by
  simp only [RV] at rv
  obtain ⟨a, ha, rfl⟩ := rv
  obtain ⟨vs, p, q⟩ := rh.at_ n a _ ha e
  exact ⟨a, vs, rfl, ha, p, q⟩
theorem xsq_at (rh : RH K r h H) (rv : RV K r H d v) (e : xsq h d = some ds) : ∃ a vs, v = .ref a ∧ H a = some (.lst vs) ∧ RVs K r H ds vs := by
  unfold xsq at e
  split at e
  · simp only [RV] at rv
    obtain ⟨a, vs, rfl, f, q⟩ := rv
    cases e
    exact ⟨a, vs, rfl, f.1, q⟩
  · split at e
    · rename_i e2
      cases e
      obtain ⟨a, vs, rfl, _, p, q⟩ := rh.lst_at rv e2
      exact ⟨a, vs, rfl, p, q⟩
    · cases e
  · cases e
theorem lsq_at (rh : RH K r h H) (rv : RV K r H d v) (e : lsq h d = some ds) : ∃ a vs, v = .ref a ∧ SqL K H a vs ∧ RVs K r H ds vs := by
  unfold lsq at e
  split at e
  · simp only [RV] at rv
    obtain ⟨a, vs, rfl, f, q⟩ := rv
    cases e
    exact ⟨a, vs, rfl, f.sq, q⟩
  · simp only [RV] at rv
    obtain ⟨a, rfl, f⟩ := rv
    cases e
    exact ⟨a, _, rfl, f.sq, RVs.ints⟩
  · split at e
    · rename_i e2
      cases e
      obtain ⟨a, vs, rfl, _, p, q⟩ := rh.lst_at rv e2
      exact ⟨a, vs, rfl, .of p, q⟩
    · cases e
  · cases e
theorem tsq_at (rv : RV K r H d v) (e : tsq d = some ds) : ∃ a vs, v = .ref a ∧ SqT K H a vs ∧ RVs K r H ds vs := by
  unfold tsq at e
  split at e
  · simp only [RV] at rv
    obtain ⟨a, vs, rfl, f, q⟩ := rv
    cases e
    exact ⟨a, vs, rfl, f.sq, q⟩
  · simp only [RV] at rv
    obtain ⟨a, vs, rfl, f, q⟩ := rv
    cases e
    exact ⟨a, vs, rfl, .inr f, q⟩
  · cases e
theorem sq_at (rh : RH K r h H) (rv : RV K r H d v) (e : sq h d = some ds) : ∃ a vs, v = .ref a ∧ (SqL K H a vs ∨ SqT K H a vs) ∧ RVs K r H ds vs := by
  unfold sq at e
  split at e
  · obtain ⟨a, vs, p, q, s⟩ := tsq_at (ds := ds) rv e
    exact ⟨a, vs, p, .inr q, s⟩
  · obtain ⟨a, vs, p, q, s⟩ := tsq_at (ds := ds) rv e
    exact ⟨a, vs, p, .inr q, s⟩
  · obtain ⟨a, vs, p, q, s⟩ := lsq_at rh rv e
    exact ⟨a, vs, p, .inl q, s⟩
end

/-! ### operators -/
def addD (own : Bool) (x y : D) (h : DH) : Rs D := match x, y with
  | .int i, .int j => .ok (.int (i + j)) h
  | .str a, .str b => if a.length + b.length ≤ 1000000 then .ok (.str (a ++ b)) h else .bad
  | .tup a, .tup b => if a.length + b.length ≤ 1000000 then .ok (.tup (a ++ b)) h else .bad
  | x, y => match xsq h x, xsq h y with
    | some a, some b => mkL own (a ++ b) h
    | _, _ => .bad
def subD (x y : D) (h : DH) : Rs D := match x, y with
  | .int i, .int j => .ok (.int (i - j)) h
  | _, _ => .bad
/-- below 2 ^ 250 either way -/
def smal (i : Int) : Prop := -1809251394333065553493296640760748560207343510400633813116524750123642650624 < i ∧ i < 1809251394333065553493296640760748560207343510400633813116524750123642650624
noncomputable instance (i : Int) : Decidable (smal i) := Classical.propDecidable _
noncomputable def mulD (own : Bool) (x y : D) (h : DH) : Rs D := match x, y with
  | .int i, .int j => if smal i ∧ smal j then .ok (.int (i * j)) h else .bad
  | x, .int j => match xsq h x with
    | some a => if -4611686018427387904 ≤ j ∧ j < 4611686018427387904 ∧ a.length * j.toNat ≤ 1000000 then mkL own (List.replicate j.toNat a).flatten h else .bad
    | _ => .bad
  | _, _ => .bad
def fdivD (x y : D) (h : DH) : Rs D := match x, y with
  | .int i, .int j => if 0 < j ∧ j < 1809251394333065553493296640760748560207343510400633813116524750123642650624 then .ok (.int (i / j)) h else .bad
  | _, _ => .bad
def modD (x y : D) (h : DH) : Rs D := match x, y with
  | .int i, .int j => if 0 < j then .ok (.int (i % j)) h else .bad
  | _, _ => .bad
noncomputable def powD (x y : D) (h : DH) : Rs D := match x, y with
  | .int i, .int j => if smal i ∧ 0 ≤ j ∧ j ≤ 1000 then .ok (.int (i ^ j.toNat)) h else .bad
  | _, _ => .bad
def negD (x : D) (h : DH) : Rs D := match x with
  | .int i => .ok (.int (-i)) h
  | _ => .bad
def toI : List D → Option (List Int)
  | [] => some []
  | .int i :: r => (toI r).map (i :: ·)
  | _ => none
def toB : List D → Option (List Bool)
  | [] => some []
  | .bl i :: r => (toB r).map (i :: ·)
  | _ => none
def ltD (x y : D) (h : DH) : Rs D := match x, y with
  | .int i, .int j => .ok (.bl (decide (i < j))) h
  | .tup a, .tup b => match toI a, toI b with
    | some p, some q => .ok (.bl (HT.lexLt p q)) h
    | _, _ => .bad
  | _, _ => .bad
def leD (x y : D) (h : DH) : Rs D := match x, y with
  | .int i, .int j => .ok (.bl (decide (i ≤ j))) h
  | _, _ => .bad
def gtD (x y : D) (h : DH) : Rs D := match x, y with
  | .int i, .int j => .ok (.bl (decide (j < i))) h
  | _, _ => .bad
def geD (x y : D) (h : DH) : Rs D := match x, y with
  | .int i, .int j => .ok (.bl (decide (j ≤ i))) h
  | _, _ => .bad

section
variable {X : Cx} {K : PySem.W.Frag} {r0 : Rg} {h : DH} {H : Hp} {x y : D} {v u : V} {W : WX} {σ : L2.St} {Q : VK}
theorem po_v {d : D} {v : V} (rh : RH K r0 h H) (rv : RV K r0 H d v) (p : Po (RV K) K W r0 σ H (.ok d h) Q) : Q v H := p v r0 H .refl rh rv
theorem toI_map : ∀ {ds : List D} {ns : List Int}, toI ds = some ns → ds = ns.map D.int
  | [], ns, e => by simp [toI] at e; subst e; rfl
  | .int i :: r, ns, e => by
    simp only [toI, Option.map_eq_some_iff] at e
    obtain ⟨m, e1, rfl⟩ := e
    rw [toI_map e1]; rfl
  | .non :: _, _, e => by simp [toI] at e
  | .bl _ :: _, _, e => by simp [toI] at e
  | .str _ :: _, _, e => by simp [toI] at e
  | .con _ :: _, _, e => by simp [toI] at e
  | .tup _ :: _, _, e => by simp [toI] at e
  | .wt _ :: _, _, e => by simp [toI] at e
  | .lst _ :: _, _, e => by simp [toI] at e
  | .scr _ :: _, _, e => by simp [toI] at e
  | .dk _ _ :: _, _, e => by simp [toI] at e
  | .dt _ _ :: _, _, e => by simp [toI] at e
  | .ref _ :: _, _, e => by simp [toI] at e
@[simp] theorem toI_of (ns : List Int) : toI (ns.map D.int) = some ns := by
  induction ns with
  | nil => rfl
  | cons n ns ih => rw [List.map_cons, toI, ih]; rfl
theorem toB_map : ∀ {ds : List D} {ns : List Bool}, toB ds = some ns → ds = ns.map D.bl
  | [], ns, e => by simp [toB] at e; subst e; rfl
  | .bl i :: r, ns, e => by
    simp only [toB, Option.map_eq_some_iff] at e
    obtain ⟨m, e1, rfl⟩ := e
    rw [toB_map e1]; rfl
  | .non :: _, _, e => by simp [toB] at e
  | .int _ :: _, _, e => by simp [toB] at e
  | .str _ :: _, _, e => by simp [toB] at e
  | .con _ :: _, _, e => by simp [toB] at e
  | .tup _ :: _, _, e => by simp [toB] at e
  | .wt _ :: _, _, e => by simp [toB] at e
  | .lst _ :: _, _, e => by simp [toB] at e
  | .scr _ :: _, _, e => by simp [toB] at e
  | .dk _ _ :: _, _, e => by simp [toB] at e
  | .dt _ _ :: _, _, e => by simp [toB] at e
  | .ref _ :: _, _, e => by simp [toB] at e
@[simp] theorem toB_of (ns : List Bool) : toB (ns.map D.bl) = some ns := by
  induction ns with
  | nil => rfl
  | cons n ns ih => rw [List.map_cons, toB, ih]; rfl
theorem RVs.of_ints : ∀ {ns : List Int} {vs : List V}, RVs K r0 H (ns.map D.int) vs → vs = ns.map V.int
  | [], vs, e => e.inv0
  | n :: ns, vs, e => by
    obtain ⟨v, t, rfl, a, b⟩ := e.inv
    simp only [RV] at a
    rw [a, RVs.of_ints b]; rfl
theorem RVs.of_bls : ∀ {ns : List Bool} {vs : List V}, RVs K r0 H (ns.map D.bl) vs → vs = ns.map V.bl
  | [], vs, e => e.inv0
  | n :: ns, vs, e => by
    obtain ⟨v, t, rfl, a, b⟩ := e.inv
    simp only [RV] at a
    rw [a, RVs.of_bls b]; rfl
theorem rv_int {i : Int} : RV K r0 H (.int i) v ↔ v = .int i := by simp only [RV]
theorem rv_bl {i : Bool} : RV K r0 H (.bl i) v ↔ v = .bl i := by simp only [RV]
theorem rv_str {i : Str} : RV K r0 H (.str i) v ↔ v = .str i := by simp only [RV]
theorem rv_non : RV K r0 H .non v ↔ v = .non := by simp only [RV]

def rAddAll (K : PySem.W.Frag) : R2 := fun x y H Q => rI0 (fun i j => .int (i + j)) x y H Q ∨ ((∃ i j, x = .str i ∧ y = .str j ∧ i.length + j.length ≤ sizeLine ∧ Q (.str (i ++ j)) H) ∨ (rCatA K x y H Q ∨ rCat x y H Q))
theorem op_addAll : OpR X (binaryOp .Add) (rAddAll X.K) := op_add.or (op_add_str.or (op_catA.or op_cat))
theorem opd_add (own : Bool) : OpD K (addD own) (rAddAll K) := by
  intro r0 h H x y v u W σ Q rh rx ry p
  unfold addD at p
  split at p
  · exact .inl ⟨_, _, rv_int.mp rx, rv_int.mp ry, po_v rh (rv_int.mpr rfl) p⟩
  · split at p
    · rename_i hl
      exact .inr (.inl ⟨_, _, rv_str.mp rx, rv_str.mp ry, line_le hl, po_v rh (rv_str.mpr rfl) p⟩)
    · exact p.elim
  · split at p
    · rename_i a b hl
      obtain ⟨p1, vs, rfl, f1, q1⟩ := (by simpa only [RV] using rx : ∃ a' vs, v = .ref a' ∧ FzT r0 H a' vs ∧ RVs K r0 H a vs)
      obtain ⟨p2, ws, rfl, f2, q2⟩ := (by simpa only [RV] using ry : ∃ a' vs, u = .ref a' ∧ FzT r0 H a' vs ∧ RVs K r0 H b vs)
      refine .inr (.inr (.inl ⟨p1, p2, vs, ws, rfl, rfl, f1.sq, f2.sq, by rw [← q1.length, ← q2.length]; exact line_le hl, fun z => ?_, fun _ z => ?_, fun _ _ q hq => ?_⟩))
      · subst z
        refine po_v rh ?_ p
        have : a = [] := List.eq_nil_of_length_eq_zero (by rw [q1.length]; rfl)
        subst this
        exact ry
      · subst z
        refine po_v rh ?_ p
        have : b = [] := List.eq_nil_of_length_eq_zero (by rw [q2.length]; rfl)
        subst this
        rw [List.append_nil]
        exact rx
      · obtain ⟨e, rh'⟩ := rh.lay (o := .tup (vs ++ ws)) hq
        refine p _ r0 _ e rh' ?_
        simp only [RV]
        exact ⟨q, vs ++ ws, rfl, ⟨upd_same, rh.out hq⟩, (q1.mono e).append (q2.mono e)⟩
    · exact p.elim
  · split at p
    · rename_i e1 e2
      obtain ⟨a, vs, rfl, f1, q1⟩ := xsq_at rh rx e1
      obtain ⟨b, ws, rfl, f2, q2⟩ := xsq_at rh ry e2
      obtain ⟨hl, k⟩ := po_mkL rh (q1.append q2) p
      exact .inr (.inr (.inr ⟨a, b, vs, ws, rfl, rfl, f1, f2, by simpa using hl, k⟩))
    · exact p.elim
theorem opd_sub : OpD K subD (rI0 fun i j => .int (i - j)) := by
  intro r0 h H x y v u W σ Q rh rx ry p
  unfold subD at p
  split at p
  · exact ⟨_, _, rv_int.mp rx, rv_int.mp ry, po_v rh (rv_int.mpr rfl) p⟩
  · exact p.elim
theorem e250 : (2 : Nat) ^ 250 = 1809251394333065553493296640760748560207343510400633813116524750123642650624 := by decide
theorem smal.abs {i : Int} (h : smal i) : i.natAbs < 2 ^ 250 := by rw [e250]; unfold smal at h; omega
def rMulAll : R2 := fun x y H Q => rI CMulW (fun i j => .int (i * j)) x y H Q ∨ rRep x y H Q
theorem op_mulAll : OpR X (binaryOp .Mult) rMulAll := op_mulW.or op_rep
theorem opd_mul (own : Bool) : OpD K (mulD own) rMulAll := by
  intro r0 h H x y v u W σ Q rh rx ry p
  unfold mulD at p
  split at p
  · split at p
    · rename_i hc
      exact .inl ⟨_, _, rv_int.mp rx, rv_int.mp ry, wide_mul hc.1.abs hc.2.abs (by decide) (by decide) (by decide), po_v rh (rv_int.mpr rfl) p⟩
    · exact p.elim
  · split at p
    · rename_i e1
      split at p
      · rename_i hc
        obtain ⟨a, vs, rfl, f1, q1⟩ := xsq_at rh rx e1
        have q2 : ∀ k : Nat, RVs K r0 H (List.replicate k _).flatten (List.replicate k vs).flatten := fun k => by
          induction k with
          | zero => exact .nil
          | succ k ih => rw [List.replicate_succ, List.replicate_succ, List.flatten_cons, List.flatten_cons]; exact q1.append ih
        obtain ⟨hl, k⟩ := po_mkL rh (q2 _) p
        exact .inr ⟨a, _, vs, rfl, rv_int.mp ry, f1, by omega, by omega, by rw [← q1.length]; exact line_le hc.2.2, k⟩
      · exact p.elim
    · exact p.elim
  · exact p.elim
theorem opd_fdiv : OpD K fdivD (rI CDivW fun i j => .int (i / j)) := by
  intro r0 h H x y v u W σ Q rh rx ry p
  unfold fdivD at p
  split at p
  · split at p
    · rename_i hc
      exact ⟨_, _, rv_int.mp rx, rv_int.mp ry, wide_div (b := 250) hc.1 (by omega) (by decide) (by decide), po_v rh (rv_int.mpr rfl) p⟩
    · exact p.elim
  · exact p.elim
theorem opd_mod : OpD K modD (rI (fun _ j => 0 < j) fun i j => .int (i % j)) := by
  intro r0 h H x y v u W σ Q rh rx ry p
  unfold modD at p
  split at p
  · split at p
    · rename_i hc
      exact ⟨_, _, rv_int.mp rx, rv_int.mp ry, hc, po_v rh (rv_int.mpr rfl) p⟩
    · exact p.elim
  · exact p.elim
theorem bits_250 {i : Int} (h : i.natAbs < 2 ^ 250) : (Builtin.Int.intBits i : Int) ≤ 250 := by
  exact Int.ofNat_le.mpr (intBits_le h)
theorem op_powW : OpR X (binaryOp .Pow) (rI (fun i j => smal i ∧ 0 ≤ j ∧ j ≤ 1000) fun i j => .int (i ^ j.toNat)) :=
  opI fun i j t u s Q E hc hq => pow_int hc.2.1 (by
    have h1 := bits_250 hc.1.abs
    have h2 : (Builtin.Int.intBits i : Int) * j ≤ 250 * 1000 := Int.mul_le_mul h1 hc.2.2 hc.2.1 (by decide)
    omega) hq
theorem opd_pow : OpD K powD (rI (fun i j => smal i ∧ 0 ≤ j ∧ j ≤ 1000) fun i j => .int (i ^ j.toNat)) := by
  intro r0 h H x y v u W σ Q rh rx ry p
  unfold powD at p
  split at p
  · split at p
    · rename_i hc
      exact ⟨_, _, rv_int.mp rx, rv_int.mp ry, hc, po_v rh (rv_int.mpr rfl) p⟩
    · exact p.elim
  · exact p.elim
theorem und_neg : UnD K negD (rU fun i => .int (-i)) := by
  intro r0 h H x v W σ Q rh rx p
  unfold negD at p
  split at p
  · exact ⟨_, rv_int.mp rx, po_v rh (rv_int.mpr rfl) p⟩
  · exact p.elim
def rLtAll (K : PySem.W.Frag) : R2 := fun x y H Q => rI0 (fun i j => .bl (decide (i < j))) x y H Q ∨ rLtT K x y H Q
theorem op_ltAll (hu : X.A.units < cLine) : OpR X (compareOp .Lt) (rLtAll X.K) := op_lt.or (op_ltT hu)
theorem opd_lt : OpD K ltD (rLtAll K) := by
  intro r0 h H x y v u W σ Q rh rx ry p
  unfold ltD at p
  split at p
  · exact .inl ⟨_, _, rv_int.mp rx, rv_int.mp ry, po_v rh (rv_bl.mpr rfl) p⟩
  · split at p
    · rename_i e1 e2
      obtain ⟨a, vs, rfl, f1, q1⟩ := tsq_at rx rfl
      obtain ⟨b, ws, rfl, f2, q2⟩ := tsq_at ry rfl
      rw [toI_map e1] at q1
      rw [toI_map e2] at q2
      obtain rfl := q1.of_ints
      obtain rfl := q2.of_ints
      exact .inr ⟨a, b, _, _, rfl, rfl, f1, f2, po_v rh (rv_bl.mpr rfl) p⟩
    · exact p.elim
  · exact p.elim
theorem opd_le : OpD K leD (rI0 fun i j => .bl (decide (i ≤ j))) := by
  intro r0 h H x y v u W σ Q rh rx ry p
  unfold leD at p
  split at p
  · exact ⟨_, _, rv_int.mp rx, rv_int.mp ry, po_v rh (rv_bl.mpr rfl) p⟩
  · exact p.elim
theorem opd_gt : OpD K gtD (rI0 fun i j => .bl (decide (j < i))) := by
  intro r0 h H x y v u W σ Q rh rx ry p
  unfold gtD at p
  split at p
  · exact ⟨_, _, rv_int.mp rx, rv_int.mp ry, po_v rh (rv_bl.mpr rfl) p⟩
  · exact p.elim
theorem opd_ge : OpD K geD (rI0 fun i j => .bl (decide (j ≤ i))) := by
  intro r0 h H x y v u W σ Q rh rx ry p
  unfold geD at p
  split at p
  · exact ⟨_, _, rv_int.mp rx, rv_int.mp ry, po_v rh (rv_bl.mpr rfl) p⟩
  · exact p.elim
end
end Dt

namespace Dt
open PySem PySem.Spec PyProof.Rows L2

def mapO {α β : Type} (f : α → Option β) : List α → Option (List β)
  | [] => some []
  | a :: r => match f a, mapO f r with
    | some b, some s => some (b :: s)
    | _, _ => none
/-- as data, k within one another at most -/
def toP (h : DH) : Nat → D → Option PyData
  | 0, _ => none
  | k + 1, d => match d with
    | .non => some .none
    | .bl b => some (.bool b)
    | .int i => some (.int i)
    | .str x => some (.str x)
    | d => match tsq d with
      | some ds => (mapO (toP h k) ds).map .tuple
      | none => match lsq h d with
        | some ds => (mapO (toP h k) ds).map .list
        | none => none
def fl : D → Option V
  | .non => some .non
  | .bl b => some (.bl b)
  | .int i => some (.int i)
  | .str x => some (.str x)
  | _ => none
def eqB (x y : D) (h : DH) : Option Bool := match toP h 60 x, toP h 60 y with
  | some p, some q => if SeqAt.shaped p = true ∧ SeqAt.shaped q = true then some (PyData.eqv p q) else none
  | _, _ => none
def eqD (x y : D) (h : DH) : Rs D := match eqB x y h with
  | some b => .ok (.bl b) h
  | none => .bad
def neD (x y : D) (h : DH) : Rs D := match eqB x y h with
  | some b => .ok (.bl (!b)) h
  | none => .bad
def isB (x : D) : Option Bool := match x with
  | .non => some true
  | .con (.ref _) => some false
  | .con _ => none
  | _ => some false
def isD (x y : D) (h : DH) : Rs D := match y, isB x with
  | .non, some b => .ok (.bl b) h
  | _, _ => .bad
def isntD (x y : D) (h : DH) : Rs D := match y, isB x with
  | .non, some b => .ok (.bl (!b)) h
  | _, _ => .bad
def keyOf : D → Option Key
  | .int i => some (.inl i)
  | .str x => some (.inr x)
  | _ => none
/-- a dict's keys and values -/
def dkq (h : DH) : D → Option (List Key × List D)
  | .dk ks ds => some (ks, ds)
  | .ref n => match h[n]? with | some (.dk ks ds) => some (ks, ds) | _ => none
  | _ => none
def dtq (h : DH) : D → Option (List (List Key) × List D)
  | .dt ks ds => some (ks, ds)
  | .ref n => match h[n]? with | some (.dt ks ds) => some (ks, ds) | _ => none
  | _ => none
def lk {α : Type} [DecidableEq α] : List α → List D → α → Option D
  | k :: ks, d :: ds, x => if k = x then some d else lk ks ds x
  | _, _, _ => none
def tkey : D → Option (List Key)
  | .tup ds => mapO keyOf ds
  | _ => none
/-- what a dict tells of a key: none where it can't be asked so -/
def lkD (h : DH) (x y : D) : Option (Option D) := match dkq h x, keyOf y with
  | some (ks, ds), some k => some (lk ks ds k)
  | _, _ => match dtq h x, tkey y with
    | some (ks, ds), some k => some (lk ks ds k)
    | _, _ => none
def anyO {α : Type} (f : α → Option Bool) : List α → Option Bool
  | [] => some false
  | a :: r => match f a, anyO f r with
    | some b, some c => some (b || c)
    | _, _ => none
/-- x in y -/
def inB (x y : D) (h : DH) : Option Bool := match x, y with
  | .str a, .str b => some (!(Builtin.Str.occurrences b a 0 b.length 1).isEmpty)
  | x, y => match lkD h y x with
    | some o => some o.isSome
    | none => match fl x, (sq h y).bind (mapO fl) with
      | some v, some vs => some (inV v vs)
      | _, _ => match toP h 60 x, toP h 60 y with
        | some p, some (.list q) => if SeqAt.shaped p = true ∧ SeqAt.shaped (.list q) = true then some (q.any fun z => PyData.eqv z p) else none
        | _, _ => none
def inD (x y : D) (h : DH) : Rs D := match inB x y h with
  | some b => .ok (.bl b) h
  | none => .bad
def ninD (x y : D) (h : DH) : Rs D := match inB x y h with
  | some b => .ok (.bl (!b)) h
  | none => .bad
/-- x[y] -/
def ixD (x y : D) (h : DH) : Rs D := match x, y with
  | .str z, .int i => if z.length ≤ 1000000 then (match atI z.cps.toList i with | some c => .ok (.str ⟨#[c]⟩) h | none => .bad) else .bad
  | x, y => match lkD h x y with
    | some (some d) => .ok d h
    | some none => .bad
    | none => match sq h x, y with
      | some ds, .int i => (match atI ds i with | some d => .ok d h | none => .bad)
      | _, _ => .bad

section
variable {X : Cx} {K : PySem.W.Frag} {r r0 : Rg} {h : DH} {H : Hp} {d x y : D} {v u : V} {W : WX} {σ : L2.St} {Q : VK} {ds : List D} {vs : List V}
theorem mapO_dp {f : D → Option PyData} (hf : ∀ d v p, f d = some p → RV K r H d v → Dp K H v p) : ∀ {ds : List D} {vs : List V} {ps : List PyData}, mapO f ds = some ps → RVs K r H ds vs → DpAll K H vs ps
  | [], vs, ps, e, q => by
    rw [q.inv0]
    simp [mapO] at e
    subst e
    exact .nil
  | d :: ds, vs, ps, e, q => by
    obtain ⟨v, t, rfl, a, b⟩ := q.inv
    unfold mapO at e
    split at e
    · rename_i e1 e2
      cases e
      exact .cons (hf _ _ _ e1 a) (mapO_dp hf e2 b)
    · cases e
theorem toP_dp (rh : RH K r h H) : ∀ {k : Nat} {d : D} {v : V} {p : PyData}, toP h k d = some p → RV K r H d v → Dp K H v p
  | 0, d, v, p, e, q => by simp [toP] at e
  | k + 1, d, v, p, e, q => by
    unfold toP at e
    split at e
    · cases e; rw [rv_non.mp q]; exact .non
    · cases e; rw [rv_bl.mp q]; exact .bl _
    · cases e; rw [rv_int.mp q]; exact .int _
    · cases e; rw [rv_str.mp q]; exact .str _
    · split at e
      · rename_i e1
        obtain ⟨a, vs, rfl, f, z⟩ := tsq_at q e1
        obtain ⟨ps, e2, rfl⟩ := Option.map_eq_some_iff.mp e
        exact .tup f (mapO_dp (fun d v p e q => toP_dp rh e q) e2 z)
      · split at e
        · rename_i e1
          obtain ⟨a, vs, rfl, f, z⟩ := lsq_at rh q e1
          obtain ⟨ps, e2, rfl⟩ := Option.map_eq_some_iff.mp e
          exact .lst f (mapO_dp (fun d v p e q => toP_dp rh e q) e2 z)
        · cases e
theorem fl_at {w : V} (e : fl d = some w) (q : RV K r H d v) : v = w ∧ flatV w = true := by
  unfold fl at e
  split at e
  · cases e; exact ⟨rv_non.mp q, rfl⟩
  · cases e; exact ⟨rv_bl.mp q, rfl⟩
  · cases e; exact ⟨rv_int.mp q, rfl⟩
  · cases e; exact ⟨rv_str.mp q, rfl⟩
  · cases e
theorem fls_at : ∀ {ds : List D} {vs ws : List V}, mapO fl ds = some ws → RVs K r H ds vs → vs = ws ∧ ws.all flatV = true
  | [], vs, ws, e, q => by
    simp [mapO] at e
    subst e
    exact ⟨q.inv0, rfl⟩
  | d :: ds, vs, ws, e, q => by
    obtain ⟨v, t, rfl, a, b⟩ := q.inv
    unfold mapO at e
    split at e
    · rename_i e1 e2
      cases e
      obtain ⟨rfl, f1⟩ := fl_at e1 a
      obtain ⟨rfl, f2⟩ := fls_at e2 b
      exact ⟨rfl, by rw [List.all_cons, f1, f2]; rfl⟩
    · cases e
theorem opd_eq : OpD K eqD (rEqD K) := by
  intro r0 h H x y v u W σ Q rh rx ry p
  unfold eqD eqB at p
  split at p
  · rename_i b e
    split at e
    · rename_i e1 e2
      split at e
      · rename_i hc
        cases e
        exact ⟨_, _, toP_dp rh e1 rx, toP_dp rh e2 ry, hc.1, hc.2, po_v rh (rv_bl.mpr rfl) p⟩
      · cases e
    · cases e
  · exact p.elim
theorem opd_ne : OpD K neD (rNeD K) := by
  intro r0 h H x y v u W σ Q rh rx ry p
  unfold neD eqB at p
  split at p
  · rename_i b e
    split at e
    · rename_i e1 e2
      split at e
      · rename_i hc
        cases e
        exact ⟨_, _, toP_dp rh e1 rx, toP_dp rh e2 ry, hc.1, hc.2, po_v rh (rv_bl.mpr rfl) p⟩
      · cases e
    · cases e
  · exact p.elim
theorem isB_at {b : Bool} (e : isB x = some b) (q : RV K r H x v) : decide (v = .non) = b := by
  cases x with
  | non => simp [isB] at e; subst e; rw [rv_non.mp q]; rfl
  | con c =>
    simp only [RV] at q
    subst q
    cases v <;> simp [isB] at e
    subst e; rfl
  | bl b => simp [isB] at e; subst e; rw [rv_bl.mp q]; rfl
  | int b => simp [isB] at e; subst e; rw [rv_int.mp q]; rfl
  | str b => simp [isB] at e; subst e; rw [rv_str.mp q]; rfl
  | tup _ => simp [isB] at e; subst e; simp only [RV] at q; obtain ⟨a, vs, rfl, _⟩ := q; rfl
  | wt _ => simp [isB] at e; subst e; simp only [RV] at q; obtain ⟨a, vs, rfl, _⟩ := q; rfl
  | lst _ => simp [isB] at e; subst e; simp only [RV] at q; obtain ⟨a, vs, rfl, _⟩ := q; rfl
  | scr _ => simp [isB] at e; subst e; simp only [RV] at q; obtain ⟨a, rfl, _⟩ := q; rfl
  | dk _ _ => simp [isB] at e; subst e; simp only [RV] at q; obtain ⟨a, vs, rfl, _⟩ := q; rfl
  | dt _ _ => simp [isB] at e; subst e; simp only [RV] at q; obtain ⟨a, vs, rfl, _⟩ := q; rfl
  | ref n => simp [isB] at e; subst e; simp only [RV] at q; obtain ⟨a, _, rfl⟩ := q; rfl
theorem opd_is : OpD K isD (fun x y H Q => y = .non ∧ Q (.bl (decide (x = .non))) H) := by
  intro r0 h H x y v u W σ Q rh rx ry p
  unfold isD at p
  split at p
  · rename_i e
    refine ⟨rv_non.mp ry, ?_⟩
    rw [isB_at e rx]
    exact po_v rh (rv_bl.mpr rfl) p
  · exact p.elim
theorem opd_isnt : OpD K isntD (fun x y H Q => y = .non ∧ Q (.bl (!decide (x = .non))) H) := by
  intro r0 h H x y v u W σ Q rh rx ry p
  unfold isntD at p
  split at p
  · rename_i e
    refine ⟨rv_non.mp ry, ?_⟩
    rw [isB_at e rx]
    exact po_v rh (rv_bl.mpr rfl) p
  · exact p.elim
theorem keyOf_at {k : Key} (e : keyOf d = some k) (q : RV K r H d v) : v = kV k := by
  unfold keyOf at e
  split at e
  · cases e; exact rv_int.mp q
  · cases e; exact rv_str.mp q
  · cases e
theorem keysOf_at : ∀ {ds : List D} {vs : List V} {ks : List Key}, mapO keyOf ds = some ks → RVs K r H ds vs → vs = ks.map kV
  | [], vs, ks, e, q => by simp [mapO] at e; subst e; exact q.inv0
  | d :: ds, vs, ks, e, q => by
    obtain ⟨v, t, rfl, a, b⟩ := q.inv
    unfold mapO at e
    split at e
    · rename_i e1 e2
      cases e
      rw [keyOf_at e1 a, keysOf_at e2 b]; rfl
    · cases e
def LkR (K : PySem.W.Frag) (r : Rg) (H : Hp) : Option D → Option V → Prop
  | some d, w => ∃ z, w = some z ∧ RV K r H d z
  | none, w => w = none
theorem LkR.isSome {o : Option D} {w : Option V} (z : LkR K r H o w) : w.isSome = o.isSome := by
  cases o with
  | none => rw [show w = none from z]; rfl
  | some d => obtain ⟨t, rfl, _⟩ := (show ∃ z, w = some z ∧ RV K r H d z from z); rfl
theorem lk_at {α : Type} [DecidableEq α] : ∀ {ks : List α} {ds : List D} {vs : List V} {k : α}, ks.length = vs.length → RVs K r H ds vs → LkR K r H (lk ks ds k) (valV (ks.zip vs) k)
  | [], ds, vs, k, l, q => by simp [lk, LkR, valV_nil]
  | k0 :: ks, [], vs, k, l, q => by rw [q.inv0] at l; simp at l
  | k0 :: ks, d :: ds, vs, k, l, q => by
    obtain ⟨v, t, rfl, a, b⟩ := q.inv
    rw [List.zip_cons_cons]
    unfold lk
    by_cases hk : k0 = k
    · rw [if_pos hk]
      exact ⟨v, valV_pos hk, a⟩
    · rw [if_neg hk, valV_neg hk]
      exact lk_at (by simpa using l) b
theorem dkq_at {ks : List Key} (rh : RH K r h H) (rv : RV K r H d v) (e : dkq h d = some (ks, ds)) : ∃ a vs, v = .ref a ∧ Rd H a (.dK (ks.zip vs)) ∧ ks.length = vs.length ∧ RVs K r H ds vs := by
  unfold dkq at e
  split at e
  · simp only [RV] at rv
    obtain ⟨a, vs, rfl, f, n, l, q⟩ := rv
    cases e
    exact ⟨a, vs, rfl, f, l, q⟩
  · split at e
    · rename_i e2
      cases e
      simp only [RV] at rv
      obtain ⟨a, ha, rfl⟩ := rv
      obtain ⟨vs, p, l, q⟩ := rh.at_ _ a _ ha e2
      exact ⟨a, vs, rfl, .inl p, l, q⟩
    · cases e
  · cases e
theorem dtq_at {ks : List (List Key)} (rh : RH K r h H) (rv : RV K r H d v) (e : dtq h d = some (ks, ds)) : ∃ a vs, v = .ref a ∧ Rd H a (.dT (ks.zip vs)) ∧ ks.length = vs.length ∧ RVs K r H ds vs := by
  unfold dtq at e
  split at e
  · simp only [RV] at rv
    obtain ⟨a, vs, rfl, f, n, l, q⟩ := rv
    cases e
    exact ⟨a, vs, rfl, f, l, q⟩
  · split at e
    · rename_i e2
      cases e
      simp only [RV] at rv
      obtain ⟨a, ha, rfl⟩ := rv
      obtain ⟨vs, p, l, q⟩ := rh.at_ _ a _ ha e2
      exact ⟨a, vs, rfl, .inl p, l, q⟩
    · cases e
  · cases e
theorem lkD_at {o : Option D} (rh : RH K r h H) (rx : RV K r H x v) (ry : RV K r H y u) (e : lkD h x y = some o) :
    ∃ a w, v = .ref a ∧ DGet H a u w ∧ LkR K r H o w := by
  unfold lkD at e
  split at e
  · rename_i ks ds k e1 e2
    cases e
    obtain ⟨a, vs, rfl, f, l, q⟩ := dkq_at rh rx e1
    obtain rfl := keyOf_at e2 ry
    have z := lk_at (k := k) l q
    exact ⟨a, valV (ks.zip vs) k, rfl, .inl ⟨_, _, f, rfl, rfl⟩, z⟩
  · split at e
    · rename_i ks ds k e1 e2
      cases e
      obtain ⟨a, vs, rfl, f, l, q⟩ := dtq_at rh rx e1
      unfold tkey at e2
      split at e2
      · simp only [RV] at ry
        obtain ⟨b, ws, rfl, g, q2⟩ := ry
        obtain rfl := keysOf_at e2 q2
        have z := lk_at (k := k) l q
        exact ⟨a, valV (ks.zip vs) k, rfl, .inr ⟨_, _, b, f, rfl, g.1, rfl⟩, z⟩
      · cases e2
    · cases e

/-- d[k] by values -/
def rIxDct : R2 := fun x y H Q => ∃ a v, x = .ref a ∧ DGet H a y (some v) ∧ Q v H
theorem ix_dct (hu : X.A.units + 1 < cLine) : IxR X rIxDct := by
  intro value slice pins s σ H x y v u Q I rx ry h hs
  obtain ⟨a, z, rfl, g, q⟩ := h
  obtain rfl : v = Value.ref a := rx
  have hT := dict_typeIs I g
  unfold subscriptTail
  refine wpAny_bind ?_
  rw [getitemInPython_of_ne hT.not_modules]
  refine wpAny_bind (wpAny_specialOf hT PySem.F.slot_dict_getitem.lookup ?_)
  have fin : wpAny (model X.prog X.w) X.A (subscripted slice false (.ref a) u) (fun r s₃ => wpAny (model X.prog X.w) X.A (letTemporaryGo value (.ref a) r >>= fun _ => pure r) (EP X pins σ Q) X.xe s₃) X.xe s := by
    rw [hs]
    exact wpAny_operating (wpAny_mono (d_getItem hu I g ry fun w' s3 I3 rw' => (⟨z, H, I3, rw', q⟩ : EP X pins σ Q w' s3)) (fun r s₃ h₃ => wpAny_bind (wpAny_letTemporaryGo (wpAny_pure h₃))) fun _ _ x => x)
  first
    | exact wpAny_pure (wpAny_bind fin)
    | exact wpAny_bind (wpAny_pure (wpAny_bind fin))
    | exact wpAny_bind fin
def rIxAll (K : PySem.W.Frag) : R2 := fun x y H Q => rIx K x y H Q ∨ rIxDct x y H Q
theorem ix_all (hu : X.A.units + 1 < cLine) : IxR X (rIxAll X.K) := ix_seq.or (ix_dct hu)
theorem atI_rel {i : Int} (q : RVs K r H ds vs) (e : atI ds i = some d) : ∃ v, atI vs i = some v ∧ RV K r H d v := by
  unfold atI at e ⊢
  rw [← q.length]
  cases hh : ixN ds.length i with
  | none => rw [hh] at e; cases e
  | some j =>
    rw [hh] at e
    exact q.get e
theorem opd_ix : OpD K ixD (rIxAll K) := by
  intro r0 h H x y v u W σ Q rh rx ry p
  unfold ixD at p
  split at p
  · split at p
    · rename_i hl
      split at p
      · rename_i e
        exact .inl (.inr (.inr ⟨_, _, _, rv_str.mp rx, rv_int.mp ry, line_le hl, e, po_v rh (rv_str.mpr rfl) p⟩))
      · exact p.elim
    · exact p.elim
  · split at p
    · rename_i e
      obtain ⟨a, w, rfl, g, z, rfl, rz⟩ := lkD_at rh rx ry e
      exact .inr ⟨a, z, rfl, g, po_v rh rz p⟩
    · exact p.elim
    · split at p
      · rename_i e1 _ _
        split at p
        · rename_i e2
          obtain ⟨a, vs, rfl, f, q⟩ := sq_at rh rx (by assumption)
          obtain ⟨z, e3, rz⟩ := atI_rel q e2
          rcases f with f | f
          · exact .inl (.inl ⟨a, vs, _, z, rfl, rv_int.mp ry, f, e3, po_v rh rz p⟩)
          · exact .inl (.inr (.inl ⟨a, vs, _, z, rfl, rv_int.mp ry, f, e3, po_v rh rz p⟩))
        · exact p.elim
      · exact p.elim
theorem de_ix {a b : Expr} {fa fb : EF} {pos : Pos} (hu : X.A.units + 1 < cLine) (ha : PE X a (tE X.K W fa)) (hb : PE X b (tE X.K W fb)) (hs : PlainIx b) : PE X (.Subscript a b pos) (tE X.K W (o2 ixD fa fb)) :=
  PE.imp (pe_ix (ix_all hu) ha hb hs) fun _ _ _ p => tOp_of opd_ix p

/-! ### in -/
def rInAll (K : PySem.W.Frag) : R2 := fun x y H Q => (∃ i j, x = .str i ∧ y = .str j ∧ Q (.bl (!(Builtin.Str.occurrences j i 0 j.length 1).isEmpty)) H) ∨
  ((∃ a o, y = .ref a ∧ DGet H a x o ∧ Q (.bl o.isSome) H) ∨ (rIn K false x y H Q ∨ rInD K x y H Q))
def rNinAll (K : PySem.W.Frag) : R2 := fun x y H Q => (∃ i j, x = .str i ∧ y = .str j ∧ Q (.bl (!(!(Builtin.Str.occurrences j i 0 j.length 1).isEmpty))) H) ∨
  ((∃ a o, y = .ref a ∧ DGet H a x o ∧ Q (.bl (!o.isSome)) H) ∨ (rIn K true x y H Q ∨ rNotInD K x y H Q))
theorem op_inDct (hu : X.A.units + 1 < cLine) : OpR X (compareOp .In) (fun x y H Q => ∃ a o, y = .ref a ∧ DGet H a x o ∧ Q (.bl o.isSome) H) := by
  intro pins s σ H x y v u Q I rx ry h
  obtain ⟨a, o, rfl, g, q⟩ := h
  obtain rfl : u = Value.ref a := ry
  exact d_in hu I g rx fun s3 I3 => ⟨.bl o.isSome, H, I3, rfl, q⟩
theorem op_ninDct (hu : X.A.units + 1 < cLine) : OpR X (compareOp .NotIn) (fun x y H Q => ∃ a o, y = .ref a ∧ DGet H a x o ∧ Q (.bl (!o.isSome)) H) := by
  intro pins s σ H x y v u Q I rx ry h
  obtain ⟨a, o, rfl, g, q⟩ := h
  obtain rfl : u = Value.ref a := ry
  exact d_notIn hu I g rx fun s3 I3 => ⟨.bl (!o.isSome), H, I3, rfl, q⟩
theorem op_inAll (hu : X.A.units + 65 < cLine) : OpR X (compareOp .In) (rInAll X.K) := op_in_str.or ((op_inDct (by omega)).or (op_in_seq.or (op_inD hu)))
theorem op_ninAll (hu : X.A.units + 65 < cLine) : OpR X (compareOp .NotIn) (rNinAll X.K) := op_notin_str.or ((op_ninDct (by omega)).or (op_notIn_seq.or (op_notInD hu)))
theorem opd_in : OpD K inD (rInAll K) := by
  intro r0 h H x y v u W σ Q rh rx ry p
  unfold inD inB at p
  split at p
  · rename_i b e
    split at e
    · cases e
      exact .inl ⟨_, _, rv_str.mp rx, rv_str.mp ry, po_v rh (rv_bl.mpr rfl) p⟩
    · split at e
      · rename_i o e1
        cases e
        obtain ⟨a, w, rfl, g, z⟩ := lkD_at rh ry rx e1
        refine .inr (.inl ⟨a, w, rfl, g, ?_⟩)
        rw [z.isSome]
        exact po_v rh (rv_bl.mpr rfl) p
      · split at e
        · rename_i e1 e2
          cases e
          obtain ⟨ds, e3, e4⟩ := Option.bind_eq_some_iff.mp e2
          obtain ⟨a, vs, rfl, f, q⟩ := sq_at rh ry e3
          obtain ⟨rfl, f1⟩ := fl_at e1 rx
          obtain ⟨rfl, f2⟩ := fls_at e4 q
          exact .inr (.inr (.inl ⟨a, _, rfl, f, f1, f2, po_v rh (rv_bl.mpr rfl) p⟩))
        · split at e
          · rename_i e1 e2
            split at e
            · rename_i hc
              cases e
              exact .inr (.inr (.inr ⟨_, _, toP_dp rh e1 rx, toP_dp rh e2 ry, hc.1, hc.2, po_v rh (rv_bl.mpr rfl) p⟩))
            · cases e
          · cases e
  · exact p.elim
theorem opd_nin : OpD K ninD (rNinAll K) := by
  intro r0 h H x y v u W σ Q rh rx ry p
  unfold ninD inB at p
  split at p
  · rename_i b e
    split at e
    · cases e
      exact .inl ⟨_, _, rv_str.mp rx, rv_str.mp ry, po_v rh (rv_bl.mpr rfl) p⟩
    · split at e
      · rename_i o e1
        cases e
        obtain ⟨a, w, rfl, g, z⟩ := lkD_at rh ry rx e1
        refine .inr (.inl ⟨a, w, rfl, g, ?_⟩)
        rw [z.isSome]
        exact po_v rh (rv_bl.mpr rfl) p
      · split at e
        · rename_i e1 e2
          cases e
          obtain ⟨ds, e3, e4⟩ := Option.bind_eq_some_iff.mp e2
          obtain ⟨a, vs, rfl, f, q⟩ := sq_at rh ry e3
          obtain ⟨rfl, f1⟩ := fl_at e1 rx
          obtain ⟨rfl, f2⟩ := fls_at e4 q
          exact .inr (.inr (.inl ⟨a, _, rfl, f, f1, f2, po_v rh (rv_bl.mpr rfl) p⟩))
        · split at e
          · rename_i e1 e2
            split at e
            · rename_i hc
              cases e
              exact .inr (.inr (.inr ⟨_, _, toP_dp rh e1 rx, toP_dp rh e2 ry, hc.1, hc.2, po_v rh (rv_bl.mpr rfl) p⟩))
            · cases e
          · cases e
  · exact p.elim
end
end Dt

namespace Dt
open PySem PySem.Spec PyProof.Rows L2

/-! ### calls of built-ins -/
section
variable {X : Cx} {W : WX} {x id T : Str} {e o : Expr} {es : List Expr} {p pos apos : Pos} {as : AF} {fo : EF} {g : List D → DH → Rs D} {gm : D → List D → DH → Rs D} {r : List V → Hp → VK → Prop} {rm : V → List V → Hp → VK → Prop}
theorem tCB_of (hg : CallD X.K g r) {σ : L2.St} {H : Hp} {Q : VK} (p : tE X.K W (oA g as) σ H Q) : tCB r (tA X.K W as) σ H Q :=
  tG.first (R := RVs X.K) (f := as) (g := fun a _ h1 => g a h1) p fun r0 env h1 x v H1 rh rs rx p1 => hg r0 h1 H1 x v W σ Q rh rx p1
theorem de_callB {id : String} (hc : CallR X (.builtin id) r) (hg : CallD X.K g r) (hgx : Gl X x) (hm : X.mg x = none) (hv : bootBuiltins x = some (.builtin id)) (ha : PA X (e :: es) (tA X.K W as)) (hn : x ≠ "__name__" := by decide) (hdb : (x == ("__debug__" : Str)) = false := by decide)
    (he : starEach (e :: es) X.env = (false, eval e X.env) :: starEach es X.env := by rfl) (hpl : (backTo pos (starEach es X.env)).any (·.1) = false := by rfl) : PE X (.Call (.Name x p) (e :: es) [] pos) (tE X.K W (oA g as)) :=
  PE.imp (pe_callB hc hgx hm hv ha hn hdb he hpl) fun _ _ _ q => tCB_of hg q
theorem de_callTy {T : String} (hc : CallR X (.type T) r) (hg : CallD X.K g r) (hgx : Gl X x) (hm : X.mg x = none) (hv : bootBuiltins x = some (.type T)) (ha : PA X (e :: es) (tA X.K W as)) (hn : x ≠ "__name__" := by decide) (hdb : (x == ("__debug__" : Str)) = false := by decide)
    (he : starEach (e :: es) X.env = (false, eval e X.env) :: starEach es X.env := by rfl) (hpl : (backTo pos (starEach es X.env)).any (·.1) = false := by rfl) : PE X (.Call (.Name x p) (e :: es) [] pos) (tE X.K W (oA g as)) :=
  PE.imp (pe_callTy hc hgx hm hv ha hn hdb he hpl) fun _ _ _ q => tCB_of hg q
end

def lenD (xs : List D) (h : DH) : Rs D := match xs with
  | [.str z] => if z.length ≤ 1000000 then .ok (.int z.length) h else .bad
  | [x] => match sq h x with
    | some ds => .ok (.int ds.length) h
    | none => match dkq h x with
      | some (ks, _) => if ks.length ≤ 1000000 then .ok (.int ks.length) h else .bad
      | none => .bad
  | _ => .bad
def listD (own : Bool) (xs : List D) (h : DH) : Rs D := match xs with
  | [x] => match sq h x with
    | some ds => mkL own ds h
    | none => .bad
  | _ => .bad
def tupleD (xs : List D) (h : DH) : Rs D := match xs with
  | [.tup ds] => .ok (.tup ds) h
  | [x] => match lsq h x with
    | some ds => mkT ds h
    | none => .bad
  | _ => .bad
def max2D (xs : List D) (h : DH) : Rs D := match xs with
  | [.int i, .int j] => .ok (.int (max i j)) h
  | _ => .bad
def min2D (xs : List D) (h : DH) : Rs D := match xs with
  | [.int i, .int j] => .ok (.int (min i j)) h
  | _ => .bad
def maxL : List Int → Int
  | [] => 0
  | n :: ns => ns.foldl max n
def minL : List Int → Int
  | [] => 0
  | n :: ns => ns.foldl min n
def sumD (xs : List D) (h : DH) : Rs D := match xs with
  | [x] => match (lsq h x).bind toI with
    | some ns => .ok (.int ns.sum) h
    | none => .bad
  | _ => .bad
def allD (xs : List D) (h : DH) : Rs D := match xs with
  | [x] => match (lsq h x).bind toB with
    | some ns => .ok (.bl (ns.all id)) h
    | none => .bad
  | _ => .bad
def anyD (xs : List D) (h : DH) : Rs D := match xs with
  | [x] => match (lsq h x).bind toB with
    | some ns => .ok (.bl (ns.any id)) h
    | none => .bad
  | _ => .bad
def absD (xs : List D) (h : DH) : Rs D := match xs with
  | [.int i] => .ok (.int (i.natAbs : Int)) h
  | _ => .bad
noncomputable def strD (xs : List D) (h : DH) : Rs D := match xs with
  | [.int i] => if smal i then .ok (.str (toString i)) h else .bad
  | [.str z] => .ok (.str z) h
  | _ => .bad
def intD (xs : List D) (h : DH) : Rs D := match xs with
  | [.int i] => .ok (.int i) h
  | [.bl k] => .ok (.int (if k = true then 1 else 0)) h
  | [.str a] => (match PySem.intText? a with | some n => if a.length ≤ 640 then .ok (.int n) h else .bad | none => .bad)
  | _ => .bad

section
variable {X : Cx} {K : PySem.W.Frag} {r r0 : Rg} {h : DH} {H : Hp} {d x y : D} {v u : V} {W : WX} {σ : L2.St} {Q : VK} {ds : List D} {vs : List V}
theorem RVs.inv1 (q : RVs K r H [d] vs) : ∃ v, vs = [v] ∧ RV K r H d v := by
  obtain ⟨v, t, rfl, a, b⟩ := q.inv
  rw [b.inv0]
  exact ⟨v, rfl, a⟩
theorem RVs.inv2 (q : RVs K r H [x, y] vs) : ∃ v u, vs = [v, u] ∧ RV K r H x v ∧ RV K r H y u := by
  obtain ⟨v, t, rfl, a, b⟩ := q.inv
  obtain ⟨u, rfl, c⟩ := b.inv1
  exact ⟨v, u, rfl, a, c⟩
theorem RVs.inv3 {z : D} (q : RVs K r H [x, y, z] vs) : ∃ v u w, vs = [v, u, w] ∧ RV K r H x v ∧ RV K r H y u ∧ RV K r H z w := by
  obtain ⟨v, t, rfl, a, b⟩ := q.inv
  obtain ⟨u, w, rfl, c, e⟩ := b.inv2
  exact ⟨v, u, w, rfl, a, c, e⟩
def rLenAll (K : PySem.W.Frag) : List V → Hp → VK → Prop := fun xs H Q => (∃ p ys, xs = [.ref p] ∧ (SqL K H p ys ∨ SqT K H p ys) ∧ Q (.int ys.length) H) ∨ ((∃ z, xs = [.str z] ∧ z.length ≤ sizeLine ∧ Q (.int z.length) H) ∨
  ∃ a kvs, xs = [.ref a] ∧ Rd H a (.dK kvs) ∧ kvs.length ≤ 1000000 ∧ Q (.int kvs.length) H)
theorem call_len_dk : CallR X (.builtin "len") (fun xs H Q => ∃ a kvs, xs = [.ref a] ∧ Rd H a (.dK kvs) ∧ kvs.length ≤ 1000000 ∧ Q (.int kvs.length) H) := by
  intro pins s σ H xs us Q I rv ⟨a, kvs, e, f, _, q⟩
  subst e
  obtain ⟨u, rfl, ru⟩ := vals1 rv
  obtain rfl : u = Value.ref a := ru
  exact d_len I f fun t s2 I2 => ⟨.int kvs.length, H, I2, ⟨t, rfl⟩, q⟩
theorem call_lenAll : CallR X (.builtin "len") (rLenAll X.K) := call_len_seq.or (call_len_str.or call_len_dk)
theorem cd_len : CallD K lenD (rLenAll K) := by
  intro r0 h H xs vs W σ Q rh rx p
  unfold lenD at p
  split at p
  · split at p
    · rename_i hl
      obtain ⟨v, rfl, rv⟩ := rx.inv1
      exact .inr (.inl ⟨_, by rw [rv_str.mp rv], line_le hl, po_v rh (rv_int.mpr rfl) p⟩)
    · exact p.elim
  · obtain ⟨v, rfl, rv⟩ := rx.inv1
    split at p
    · rename_i e
      obtain ⟨a, ys, rfl, f, q⟩ := sq_at rh rv e
      refine .inl ⟨a, ys, rfl, f, ?_⟩
      rw [← q.length]
      exact po_v rh (rv_int.mpr rfl) p
    · split at p
      · rename_i e
        split at p
        · rename_i hl
          obtain ⟨a, ys, rfl, f, l, q⟩ := dkq_at rh rv e
          refine .inr (.inr ⟨a, _, rfl, f, ?_, ?_⟩)
          · rw [List.length_zip, ← l, Nat.min_self]; exact hl
          · rw [List.length_zip, ← l, Nat.min_self]
            exact po_v rh (rv_int.mpr rfl) p
        · exact p.elim
      · exact p.elim
  · exact p.elim
theorem cd_list (own : Bool) : CallD K (listD own) (fun xs H Q => ∃ p ys, xs = [.ref p] ∧ (SqL K H p ys ∨ SqT K H p ys) ∧ ∀ l, H l = none → Q (.ref l) (upd H l (.lst ys))) := by
  intro r0 h H xs vs W σ Q rh rx p
  unfold listD at p
  split at p
  · obtain ⟨v, rfl, rv⟩ := rx.inv1
    split at p
    · rename_i e
      obtain ⟨a, ys, rfl, f, q⟩ := sq_at rh rv e
      exact ⟨a, ys, rfl, f, (po_mkL rh q p).2⟩
    · exact p.elim
  · exact p.elim
theorem cd_tuple : CallD K tupleD (fun xs H Q => ∃ p ys, xs = [.ref p] ∧ ((SqL K H p ys ∧ ∀ l, H l = none → Q (.ref l) (upd H l (.tup ys))) ∨ (SqT K H p ys ∧ Q (.ref p) H))) := by
  intro r0 h H xs vs W σ Q rh rx p
  unfold tupleD at p
  split at p
  · obtain ⟨v, rfl, rv⟩ := rx.inv1
    obtain ⟨a, ys, rfl, f, q⟩ := tsq_at rv rfl
    exact ⟨a, ys, rfl, .inr ⟨f, po_v rh rv p⟩⟩
  · obtain ⟨v, rfl, rv⟩ := rx.inv1
    split at p
    · rename_i e
      obtain ⟨a, ys, rfl, f, q⟩ := lsq_at rh rv e
      exact ⟨a, ys, rfl, .inl ⟨f, (po_mkT rh q p).2⟩⟩
    · exact p.elim
  · exact p.elim
theorem cd_max2 : CallD K max2D (fun xs H Q => ∃ i j, xs = [.int i, .int j] ∧ Q (.int (if j > i then j else i)) H) := by
  intro r0 h H xs vs W σ Q rh rx p
  unfold max2D at p
  split at p
  · rename_i i j
    obtain ⟨v, u, rfl, rv, ru⟩ := rx.inv2
    refine ⟨i, j, by rw [rv_int.mp rv, rv_int.mp ru], ?_⟩
    have e : (if j > i then j else i) = max i j := by split <;> omega
    rw [e]
    exact po_v rh (rv_int.mpr rfl) p
  · exact p.elim
theorem cd_min2 : CallD K min2D (fun xs H Q => ∃ i j, xs = [.int i, .int j] ∧ Q (.int (if j < i then j else i)) H) := by
  intro r0 h H xs vs W σ Q rh rx p
  unfold min2D at p
  split at p
  · rename_i i j
    obtain ⟨v, u, rfl, rv, ru⟩ := rx.inv2
    refine ⟨i, j, by rw [rv_int.mp rv, rv_int.mp ru], ?_⟩
    have e : (if j < i then j else i) = min i j := by split <;> omega
    rw [e]
    exact po_v rh (rv_int.mpr rfl) p
  · exact p.elim
theorem ints_at {x : D} {v : V} {ns : List Int} (rh : RH K r h H) (rv : RV K r H x v) (e : (lsq h x).bind toI = some ns) : ∃ a, v = .ref a ∧ SqL K H a (ns.map V.int) := by
  obtain ⟨ds, e1, e2⟩ := Option.bind_eq_some_iff.mp e
  obtain ⟨a, vs, rfl, f, q⟩ := lsq_at rh rv e1
  rw [toI_map e2] at q
  obtain rfl := q.of_ints
  exact ⟨a, rfl, f⟩
theorem bls_at {x : D} {v : V} {ns : List Bool} (rh : RH K r h H) (rv : RV K r H x v) (e : (lsq h x).bind toB = some ns) : ∃ a, v = .ref a ∧ SqL K H a (ns.map V.bl) := by
  obtain ⟨ds, e1, e2⟩ := Option.bind_eq_some_iff.mp e
  obtain ⟨a, vs, rfl, f, q⟩ := lsq_at rh rv e1
  rw [toB_map e2] at q
  obtain rfl := q.of_bls
  exact ⟨a, rfl, f⟩
theorem cd_sum : CallD K sumD (rSum K) := by
  intro r0 h H xs vs W σ Q rh rx p
  unfold sumD at p
  split at p
  · obtain ⟨v, rfl, rv⟩ := rx.inv1
    split at p
    · rename_i e
      obtain ⟨a, rfl, f⟩ := ints_at rh rv e
      exact ⟨a, _, rfl, f, po_v rh (rv_int.mpr rfl) p⟩
    · exact p.elim
  · exact p.elim
theorem cd_all : CallD K allD (rAll K) := by
  intro r0 h H xs vs W σ Q rh rx p
  unfold allD at p
  split at p
  · obtain ⟨v, rfl, rv⟩ := rx.inv1
    split at p
    · rename_i e
      obtain ⟨a, rfl, f⟩ := bls_at rh rv e
      exact ⟨a, _, rfl, f, po_v rh (rv_bl.mpr rfl) p⟩
    · exact p.elim
  · exact p.elim
theorem cd_any : CallD K anyD (rAny K) := by
  intro r0 h H xs vs W σ Q rh rx p
  unfold anyD at p
  split at p
  · obtain ⟨v, rfl, rv⟩ := rx.inv1
    split at p
    · rename_i e
      obtain ⟨a, rfl, f⟩ := bls_at rh rv e
      exact ⟨a, _, rfl, f, po_v rh (rv_bl.mpr rfl) p⟩
    · exact p.elim
  · exact p.elim
theorem cd_abs : CallD K absD (fun xs H Q => ∃ i, xs = [.int i] ∧ Q (.int (if i < 0 then -i else i)) H) := by
  intro r0 h H xs vs W σ Q rh rx p
  unfold absD at p
  split at p
  · rename_i i
    obtain ⟨v, rfl, rv⟩ := rx.inv1
    refine ⟨i, by rw [rv_int.mp rv], ?_⟩
    have e : (if i < 0 then -i else i) = (i.natAbs : Int) := by split <;> omega
    rw [e]
    exact po_v rh (rv_int.mpr rfl) p
  · exact p.elim
theorem log_250 {i : Int} (h : smal i) : i.natAbs.log2 < 1920 := by
  have h1 := h.abs
  by_cases h0 : i.natAbs = 0
  · rw [h0]; decide
  · have := (Nat.log2_lt h0).mpr h1
    omega
def rStrAll : List V → Hp → VK → Prop := fun xs H Q => (∃ i, xs = [.int i] ∧ i.natAbs.log2 < 1920 ∧ Q (.str (toString i)) H)
theorem cd_str : CallD K (fun xs h => match xs with | [.int i] => if smal i then .ok (.str (toString i)) h else .bad | _ => .bad) (fun xs H Q => ∃ i, xs = [.int i] ∧ i.natAbs.log2 < 1920 ∧ Q (.str (toString i)) H) := by
  intro r0 h H xs vs W σ Q rh rx p
  dsimp only at p
  split at p
  · rename_i i
    split at p
    · rename_i hc
      obtain ⟨v, rfl, rv⟩ := rx.inv1
      exact ⟨i, by rw [rv_int.mp rv], log_250 hc, po_v rh (rv_str.mpr rfl) p⟩
    · exact p.elim
  · exact p.elim
def rIntAll : List V → Hp → VK → Prop := fun xs H Q => ((∃ i, xs = [.int i] ∧ Q (.int i) H) ∨ ∃ k, xs = [.bl k] ∧ Q (.int (if k then 1 else 0)) H) ∨ (∃ a n, xs = [.str a] ∧ PySem.intText? a = some n ∧ a.length ≤ 640 ∧ Q (.int n) H)
theorem call_intAll : CallR X (.type "int") rIntAll := call_int1.or call_int_str
theorem cd_int : CallD K intD rIntAll := by
  intro r0 h H xs vs W σ Q rh rx p
  unfold intD at p
  split at p
  · obtain ⟨v, rfl, rv⟩ := rx.inv1
    exact .inl (.inl ⟨_, by rw [rv_int.mp rv], po_v rh (rv_int.mpr rfl) p⟩)
  · obtain ⟨v, rfl, rv⟩ := rx.inv1
    exact .inl (.inr ⟨_, by rw [rv_bl.mp rv], po_v rh (rv_int.mpr rfl) p⟩)
  · split at p
    · rename_i e
      split at p
      · rename_i hl
        obtain ⟨v, rfl, rv⟩ := rx.inv1
        exact .inr ⟨_, _, by rw [rv_str.mp rv], e, hl, po_v rh (rv_int.mpr rfl) p⟩
      · exact p.elim
    · exact p.elim
  · exact p.elim
end

/-! ### sorted, min, max over data -/
def encD (h : DH) (d : D) : PyData := (toP h 60 d).getD .none
open Classical in
noncomputable def sortD (own : Bool) (xs : List D) (h : DH) : Rs D := match xs with
  | [x] => match sq h x with
    | some ds => if (∀ d ∈ ds, (toP h 60 d).isSome = true) ∧ (∀ d ∈ ds, (encD h d).depth ≤ 64) ∧ PySem.W.AllAlike (ds.map (encD h)) ∧ PySem.W.Sortable (ds.map (encD h)) then mkL own (ds.mergeSort (PySem.W.dataLe false (encD h))) h else .bad
    | none => .bad
  | _ => .bad
def rSortedD (K : PySem.W.Frag) : List V → Hp → VK → Prop := fun vs H Q => ∃ (a : Addr) (ys : List V) (ps : List PyData), vs = [V.ref a] ∧ (SqL K H a ys ∨ SqT K H a ys) ∧ DpAll K H ys ps ∧ (∀ p ∈ ps, p.depth ≤ 64) ∧ PySem.W.AllAlike ps ∧ PySem.W.Sortable ps ∧
  ∀ q, H q = none → Q (.ref q) (upd H q (.lst (((ys.zip ps).mergeSort (PySem.W.dataLe false Prod.snd)).map Prod.fst)))
section
variable {X : Cx} {K : PySem.W.Frag} {r : Rg} {h : DH} {H : Hp} {d : D} {v : V} {W : WX} {σ : L2.St} {Q : VK} {ds : List D} {vs : List V}
theorem dpAll_len : ∀ {vs : List V} {ps : List PyData}, DpAll K H vs ps → vs.length = ps.length
  | _, _, .nil => rfl
  | _, _, .cons _ t => congrArg (· + 1) (dpAll_len t)
theorem each_of {pins : List (Addr × Obj)} {s : Shared} (I : Inv X pins σ H s) : ∀ {vs : List V} {ps : List PyData} {us : List Value}, DpAll X.K H vs ps → Vals vs us →
    PySem.W.EachIs (fun u (b : V × PyData) => RelV b.1 u) us (vs.zip ps) ∧ PySem.W.EachIs (fun u (b : V × PyData) => ∃ as, Reads s.heap u b.2 as) us (vs.zip ps)
  | _, _, _, .nil, .nil => ⟨.nil, .nil⟩
  | _, _, _, .cons a t, .cons b q => by
    obtain ⟨e1, e2⟩ := each_of I t q
    exact ⟨.cons b e1, .cons (Dp.reads I _ _ _ a b) e2⟩
theorem vals_each : ∀ {us : List Value} {bs : List (V × PyData)}, PySem.W.EachIs (fun u (b : V × PyData) => RelV b.1 u) us bs → Vals (bs.map Prod.fst) us
  | _, _, .nil => .nil
  | _, _, .cons a t => .cons a (vals_each t)
/-- sorted of a tuple's items -/
theorem sorted_ofTup {prog : Program} {w : World} {A : Around} {E : Value → Shared → Prop} {s : Shared} {β : Type} {R : Value → β → Prop} {enc : β → PyData} {vs : List Value} {bs : List β} {l : Addr} {Q : Value → Shared → Prop} (ht : s.heap.IsTuple l vs.toArray)
    (e : PySem.W.EachIs R vs bs) (er : PySem.W.EachIs (fun v b => ∃ as, Reads s.heap v (enc b) as) vs bs) (hal : PySem.W.AllAlike (bs.map enc)) (hk : PySem.W.Sortable (bs.map enc)) (hL : bs.length ≤ sizeLine) (hu : ∀ b, b ∈ bs → A.units + 2 + (enc b).depth < cLine)
    (h : ∀ (h1 h' : Heap) (out : List Value) (c : Nat), (∀ b o, s.heap.get? b = some o → h1.get? b = some o) → (∀ b o, h1.get? b = some o → h'.get? b = some o) → h'.get? h1.objs.size = some (seqObj "list" out.toArray c) → out.length = bs.length → PySem.W.EachIs R out (bs.mergeSort (PySem.W.dataLe false enc)) → Q (.ref h1.objs.size) { s with heap := h' }) :
    wpAny (model prog w) A (call (.builtin "sorted") [.ref l]) Q E s := by
  obtain ⟨o, ho, hc, n, hd⟩ := ht
  have hZ : vs.length ≤ sizeLine := by rw [e.length]; exact hL
  refine call_function_entry_kw kind_sorted plain_sorted entry_sorted (args_sorted1 _) ?_
  unfold Builtin.«sorted»
  refine wpAny_bind (m := checkCount "sorted" 1 1 _) (wpAny_pure ?_)
  refine wpAny_bind (wpAny_collect_seq l (.inr rfl) ho hc hd (fun h1 k1 => ?_) (by simpa using hZ))
  have ev : vs.toArray.toList = vs := List.toList_toArray
  rw [ev]
  refine wpAny_bind (wpAny_newList ?_ hZ)
  have at2 : (h1.push (seqObj "list" vs.toArray 0)).get? h1.objs.size = some (seqObj "list" vs.toArray 0) := Heap.get?_push_size _ rfl
  have old2 : ∀ b o, s.heap.get? b = some o → (h1.push (seqObj "list" vs.toArray 0)).get? b = some o := fun b o q => Heap.get?_push_of_some _ (k1 b o q)
  have lt1 : ∀ b o, s.heap.get? b = some o → b ≠ h1.objs.size := fun b o q => Nat.ne_of_lt (Heap.lt_size (k1 b o q))
  have er' : PySem.W.EachIs (fun v b => ∃ as, Reads (PySem.W.sortingHeap (h1.push (seqObj "list" vs.toArray 0)) h1.objs.size vs) v (enc b) as) vs bs :=
    er.mono fun _ _ ⟨as, r⟩ => ⟨as, PyProof.Rows.Reads.keeps (fun b o q => PySem.W.sortingHeap_old (lt1 b o q) (old2 b o q)) r⟩
  refine wpAny_bind (wpAny_holding (wpAny_call_entry_kw slot_list_sort ⟨_, at2, rfl⟩ entry_list_sort ?body (args_list_sort _)))
  case body =>
    refine PySem.W.list_sort_vals (s := { s with heap := h1.push (seqObj "list" vs.toArray 0) }) (κ := PySem.W.dataKind (PySem.W.sortingHeap (h1.push (seqObj "list" vs.toArray 0)) h1.objs.size vs) (bs.map enc)) at2
      (PySem.W.SortsAt.data (s := { s with heap := PySem.W.sortingHeap (h1.push (seqObj "list" vs.toArray 0)) h1.objs.size vs }) (PySem.W.each_map (R := fun v d => ∃ as, Reads (PySem.W.sortingHeap (h1.push (seqObj "list" vs.toArray 0)) h1.objs.size vs) v d as) enc er') hal hk (PySem.W.bound_map hu)) hZ ⟨.none, rfl, ?_⟩
    obtain ⟨c, hc2⟩ := sortedHeap_at (out := (PySem.W.sortVals (PySem.W.dataKind (PySem.W.sortingHeap (h1.push (seqObj "list" vs.toArray 0)) h1.objs.size vs) (bs.map enc)) false vs vs).toArray) at2
    refine wpAny_pure ⟨_, rfl, h h1 _ _ c k1 (fun b o q => ?_) hc2 (by rw [PySem.W.sortVals_length false rfl]; exact e.length) (PySem.W.sortVals_data false e er' hal)⟩
    have q2 : (h1.push (seqObj "list" vs.toArray 0)).get? b = some o := Heap.get?_push_of_some _ q
    rw [sortedHeap_old (Nat.ne_of_lt (Heap.lt_size q)) (Heap.lt_size q2)]
    exact q2
theorem call_sortedD (hu : X.A.units + 68 < cLine) : CallR X (.builtin "sorted") (rSortedD X.K) := by
  intro pins s σ H vs us Q I rv hyp
  obtain ⟨a, ys, ps, rfl, hS, hD, hdep, hal, hso, q⟩ := hyp
  have hlen := dpAll_len hD
  have hm2 : (ys.zip ps).map Prod.snd = ps := List.map_snd_zip (by omega)
  have hdp : ∀ b ∈ ys.zip ps, X.A.units + 2 + b.2.depth < cLine := fun b hb => by
    have h1 : b.2 ∈ ps := by rw [← hm2]; exact List.mem_map_of_mem hb
    have h2 := hdep _ h1
    omega
  obtain ⟨u, rfl, ru⟩ := vals1 rv
  cases (show u = Value.ref a from ru)
  rcases hS with hS | hS
  · obtain ⟨its, rv2, hl, hz⟩ := I.list hS
    obtain ⟨e1, e2⟩ := each_of I hD rv2
    refine PySem.W.sorted_data (enc := Prod.snd) hl.isList e1 e2 (by rw [hm2]; exact hal) (by rw [hm2]; exact hso) (by rw [List.length_zip]; omega) hdp fun out ho eo => ?_
    obtain ⟨ep, he⟩ := PyProof.Rows.sortedAll_at s.heap its out.toArray
    have hv := vals_each eo
    refine ⟨.ref _, _, I.laid (a := s.heap.objs.size + 1) (o := .lst _) (t' := s.toks) (fun _ _ w => PyProof.Rows.sortedAll_old w) (Nat.le_add_right _ 1) ⟨?_, out, ep, hv, he⟩, rfl, q _ (I.hok.fresh (Nat.le_add_right _ 1))⟩
    rw [List.length_map, List.length_mergeSort, List.length_zip]
    omega
  · obtain ⟨its, rv2, hl, hz⟩ := I.tuple hS
    obtain ⟨e1, e2⟩ := each_of I hD rv2
    refine sorted_ofTup (enc := Prod.snd) (vs := its) (show s.heap.IsTuple a its.toArray from hl) e1 e2 (by rw [hm2]; exact hal) (by rw [hm2]; exact hso) (by rw [List.length_zip]; omega) hdp fun h1 h' out c k1 k2 k3 ho eo => ?_
    have hv := vals_each eo
    have I1 : Inv X pins σ H { s with heap := h1 } := I.kept (t' := s.toks) k1
    refine ⟨.ref _, _, I1.laid (a := h1.objs.size) (o := .lst _) (t' := s.toks) k2 (Nat.le_refl _) ⟨?_, out, c, hv, k3⟩, rfl, q _ (I1.hok.fresh (Nat.le_refl _))⟩
    rw [List.length_map, List.length_mergeSort, List.length_zip]
    omega
theorem encs_at (rh : RH K r h H) : ∀ {ds : List D} {vs : List V}, (∀ d ∈ ds, (toP h 60 d).isSome = true) → RVs K r H ds vs → DpAll K H vs (ds.map (encD h)) ∧ PySem.W.EachIs (fun d (b : V × PyData) => RV K r H d b.1 ∧ encD h d = b.2) ds (vs.zip (ds.map (encD h)))
  | [], vs, _, q => by rw [q.inv0]; exact ⟨.nil, .nil⟩
  | d :: ds, vs, hs, q => by
    obtain ⟨v, t, rfl, a, b⟩ := q.inv
    obtain ⟨i1, i2⟩ := encs_at rh (fun d hd => hs d (List.mem_cons_of_mem _ hd)) b
    obtain ⟨p, hp⟩ := Option.isSome_iff_exists.mp (hs d List.mem_cons_self)
    have ep : encD h d = p := by unfold encD; rw [hp]; rfl
    exact ⟨.cons (by rw [ep]; exact toP_dp rh hp a) i1, .cons ⟨a, rfl⟩ i2⟩
theorem rvs_each : ∀ {ds : List D} {bs : List (V × PyData)}, PySem.W.EachIs (fun d (b : V × PyData) => RV K r H d b.1 ∧ encD h d = b.2) ds bs → RVs K r H ds (bs.map Prod.fst)
  | _, _, .nil => .nil
  | _, _, .cons a t => .cons a.1 (rvs_each t)
theorem each_in {R : D → (V × PyData) → Prop} : ∀ {ds : List D} {bs : List (V × PyData)}, PySem.W.EachIs R ds bs → ∀ p ∈ ds.zip bs, R p.1 p.2
  | _, _, .nil, p, hp => by simp at hp
  | _, _, .cons a t, p, hp => by
    rw [List.zip_cons_cons] at hp
    rcases List.mem_cons.mp hp with rfl | hp
    · exact a
    · exact each_in t p hp
theorem cd_sorted (own : Bool) : CallD K (sortD own) (rSortedD K) := by
  intro r0 h H xs vs W σ Q rh rx p
  unfold sortD at p
  split at p
  · obtain ⟨v, rfl, rv⟩ := rx.inv1
    split at p
    · rename_i ds e
      split at p
      · rename_i hc
        obtain ⟨c1, c2, c3, c4⟩ := hc
        obtain ⟨a, ys, rfl, f, q⟩ := sq_at rh rv e
        obtain ⟨e1, e2⟩ := encs_at rh c1 q
        refine ⟨a, ys, _, rfl, f, e1, fun p hp => ?_, c3, c4, ?_⟩
        · obtain ⟨d, hd, rfl⟩ := List.mem_map.mp hp
          exact c2 d hd
        · have hq : RVs K r0 H (ds.mergeSort (PySem.W.dataLe false (encD h))) (((ys.zip (ds.map (encD h))).mergeSort (PySem.W.dataLe false Prod.snd)).map Prod.fst) := by
            refine rvs_each (h := h) (PySem.W.sort_each e2 fun p hp q' hq' => ?_)
            have a1 := (each_in e2 p hp).2
            have a2 := (each_in e2 q' hq').2
            unfold PySem.W.dataLe PySem.W.sortLe
            simp only [a1, a2]
          exact (po_mkL rh hq p).2
      · exact p.elim
    · exact p.elim
  · exact p.elim
end
end Dt

namespace Dt
open PySem PySem.Spec PyProof.Rows L2

/-! ### methods of built-in types -/
def strK (_ : DH) (x : D) : Bool := match x with | .str _ => true | _ => false
def lstK (h : DH) (x : D) : Bool := (lsq h x).isSome
def mth (k : DH → D → Bool) (g : D → List D → DH → Rs D) (fo : EF) (as : AF) : EF := fun env h => bd (fo env h) fun x h1 => if k h1 x = true then bd (as env h1) fun xs h2 => g x xs h2 else .bad
def mth0 (k : DH → D → Bool) (g : D → List D → DH → Rs D) (fo : EF) : EF := fun env h => bd (fo env h) fun x h1 => if k h1 x = true then g x [] h1 else .bad
def TyD (K : PySem.W.Frag) (T : String) (k : DH → D → Bool) : Prop := ∀ (r : Rg) (h : DH) (H : Hp) (x : D) (v : V), RH K r h H → RV K r H x v → k h x = true → tyV K T v H
theorem ty_str {K : PySem.W.Frag} : TyD K "str" strK := by
  intro r h H x v rh rv e
  unfold strK at e
  split at e
  · rw [rv_str.mp rv]; rfl
  · cases e
theorem ty_lst {K : PySem.W.Frag} : TyD K "list" lstK := by
  intro r h H x v rh rv e
  obtain ⟨ds, e1⟩ := Option.isSome_iff_exists.mp e
  obtain ⟨a, vs, rfl, f, q⟩ := lsq_at rh rv e1
  exact .inl ⟨rfl, vs, f⟩
section
variable {X : Cx} {W : WX} {K : PySem.W.Frag} {name : Str} {T id : String} {o e : Expr} {es : List Expr} {apos cpos : Pos} {fo : EF} {as : AF} {k : DH → D → Bool} {g : D → List D → DH → Rs D} {r : V → List V → Hp → VK → Prop}
theorem de_bm (pa : PlainAttrs T) (slot : Slot T name id) (hty : typeOf (.builtin id) = pure (.type "method_descriptor")) (hm : MtR X id r) (ht : TyD X.K T k) (hg : MtD X.K g r) (ho : PE X o (tE X.K W fo)) (ha : PA X (e :: es) (tA X.K W as))
    (hbase : attributeBase o name X.env (eval o X.env) = eval o X.env := by rfl)
    (hfew : ((backTo cpos (starEach (e :: es) X.env)).all (fun x => !x.1) && (backToKw cpos (keywordEach [] X.env)).all (fun x => x.1.isSome)
      && decide ((e :: es).length + ([] : List Keyword).length + (if ([] : List Keyword).isEmpty then 0 else 1) < 30)) = true := by rfl)
    (hline : (apos.endLine == cpos.line) = true := by rfl) (hs : starEach (e :: es) X.env = (false, eval e X.env) :: starEach es X.env := by rfl) (hplain : (backTo cpos (starEach es X.env)).any (·.1) = false := by rfl) :
    PE X (.Call (.Attribute o name apos) (e :: es) [] cpos) (tE X.K W (mth k g fo as)) :=
  PE.imp (pe_bm pa slot hty hm ho ha hbase hfew hline hs hplain) fun σ H Q p => tG.first (R := RV X.K) (f := fo) (g := fun x env h1 => if k h1 x = true then bd (as env h1) fun xs h2 => g x xs h2 else .bad) p fun r0 env h1 x v H1 rh rs rx p1 => by
    by_cases hk : k h1 x = true
    · rw [if_pos hk] at p1
      exact ⟨ht r0 h1 H1 x v rh rx hk, r0, env, h1, rh, rs, (Po.bd (R := RVs X.K) p1).mono fun u H2 ⟨r2, h2, y, _, e2, rh2, ry, p2⟩ => hg r2 h2 H2 x v y u W σ Q rh2 (rx.mono e2) ry p2⟩
    · rw [if_neg hk] at p1
      exact p1.elim
theorem de_bm0 (pa : PlainAttrs T) (slot : Slot T name id) (hty : typeOf (.builtin id) = pure (.type "method_descriptor")) (hm : MtR X id r) (ht : TyD X.K T k) (hg : MtD X.K g r) (ho : PE X o (tE X.K W fo))
    (hbase : attributeBase o name X.env (eval o X.env) = eval o X.env := by rfl) (hline : (apos.endLine == cpos.line) = true := by rfl) :
    PE X (.Call (.Attribute o name apos) [] [] cpos) (tE X.K W (mth0 k g fo)) :=
  PE.imp (pe_bm0 pa slot hty hm ho hbase hline) fun σ H Q p => tG.first (R := RV X.K) (f := fo) (g := fun x env h1 => if k h1 x = true then g x [] h1 else .bad) p fun r0 env h1 x v H1 rh rs rx p1 => by
    by_cases hk : k h1 x = true
    · rw [if_pos hk] at p1
      exact ⟨ht r0 h1 H1 x v rh rx hk, hg r0 h1 H1 x v [] [] W σ Q rh rx .nil p1⟩
    · rw [if_neg hk] at p1
      exact p1.elim
end
def toS : List D → Option (List Str)
  | [] => some []
  | .str i :: r => (toS r).map (i :: ·)
  | _ => none
@[simp] theorem toS_of (ns : List Str) : toS (ns.map D.str) = some ns := by
  induction ns with
  | nil => rfl
  | cons n ns ih => rw [List.map_cons, toS, ih]; rfl
theorem toS_map : ∀ {ds : List D} {ns : List Str}, toS ds = some ns → ds = ns.map D.str
  | [], ns, e => by simp [toS] at e; subst e; rfl
  | d :: r, ns, e => by
    cases d <;> simp only [toS, Option.map_eq_some_iff, reduceCtorEq] at e
    obtain ⟨m, e1, rfl⟩ := e
    rw [toS_map e1]; rfl
def joinD (x : D) (xs : List D) (h : DH) : Rs D := match x, xs with
  | .str a, [y] => match (sq h y).bind toS with
    | some ys => if (ys.map (·.length)).sum + ys.length * a.length ≤ 1000000 then .ok (.str (Txt.join a ys)) h else .bad
    | none => .bad
  | _, _ => .bad
def starts3D (x : D) (xs : List D) (h : DH) : Rs D := match x, xs with
  | .str a, [.str b, .int i] => .ok (.bl (Txt.startswith3 a b i)) h
  | _, _ => .bad
/-- a list of ours -/
def mlst (h : DH) : D → Option (Nat × List D)
  | .ref n => match h[n]? with | some (.lst ds) => some (n, ds) | _ => none
  | _ => none
def appendD (x : D) (xs : List D) (h : DH) : Rs D := match mlst h x, xs with
  | some (n, ds), [y] => if ds.length ≤ 1000000 then .ok .non (h.set n (.lst (ds ++ [y]))) else .bad
  | _, _ => .bad
def extendD (x : D) (xs : List D) (h : DH) : Rs D := match mlst h x, xs with
  | some (n, ds), [y] => match xsq h y with
    | some es => if ds.length + es.length ≤ 1000000 then .ok .non (h.set n (.lst (ds ++ es))) else .bad
    | none => .bad
  | _, _ => .bad
def popAtD (x : D) (xs : List D) (h : DH) : Rs D := match mlst h x, xs with
  | some (n, ds), [.int i] => if 0 ≤ i ∧ i < 1000000 then (match ds[i.toNat]? with | some d => .ok d (h.set n (.lst (ds.eraseIdx i.toNat))) | none => .bad) else .bad
  | _, _ => .bad
def popD (x : D) (xs : List D) (h : DH) : Rs D := match mlst h x, xs with
  | some (n, ds), [] => match ds.getLast? with
    | some d => .ok d (h.set n (.lst ds.dropLast))
    | none => .bad
  | _, _ => .bad
def insertD (x : D) (xs : List D) (h : DH) : Rs D := match mlst h x, xs with
  | some (n, ds), [.int i, y] => if ds.length ≤ 1000000 ∧ 0 ≤ i ∧ i < 1000000 then .ok .non (h.set n (.lst (ds.take i.toNat ++ [y] ++ ds.drop i.toNat))) else .bad
  | _, _ => .bad
def reverseD (x : D) (xs : List D) (h : DH) : Rs D := match mlst h x, xs with
  | some (n, ds), [] => .ok .non (h.set n (.lst ds.reverse))
  | _, _ => .bad
def clearD (x : D) (xs : List D) (h : DH) : Rs D := match mlst h x, xs with
  | some (n, _), [] => .ok .non (h.set n (.lst []))
  | _, _ => .bad
section
variable {X : Cx} {W : WX} {K : PySem.W.Frag} {r r0 : Rg} {h : DH} {H : Hp} {d x y : D} {v u : V} {σ : L2.St} {Q : VK} {ds es : List D} {vs ws : List V}
theorem RVs.of_strs : ∀ {ns : List Str} {vs : List V}, RVs K r H (ns.map D.str) vs → vs = ns.map V.str
  | [], vs, e => e.inv0
  | n :: ns, vs, e => by
    obtain ⟨v, t, rfl, a, b⟩ := e.inv
    rw [rv_str.mp a, RVs.of_strs b]; rfl
theorem mlst_at {n : Nat} (rh : RH K r h H) (rv : RV K r H x v) (e : mlst h x = some (n, ds)) : ∃ a vs, v = .ref a ∧ r.ix[n]? = some a ∧ H a = some (.lst vs) ∧ RVs K r H ds vs := by
  unfold mlst at e
  split at e
  · split at e
    · rename_i e2
      cases e
      exact rh.lst_at rv e2
    · cases e
  · cases e
/-- behind a change of a list of ours -/
theorem po_put {n : Nat} {a : Addr} (rh : RH K r h H) (ha : r.ix[n]? = some a) (q : RVs K r H es ws) (rd : RV K r H d v) (p : Po (RV K) K W r σ H (.ok d (h.set n (.lst es))) Q) : Q v (upd H a (.lst ws)) := by
  obtain ⟨e, rh'⟩ := rh.put (o := .lst es) (u := .lst ws) ha fun H' e e' => ⟨ws, e', q.mono e⟩
  exact p v r _ e rh' (rd.mono e)
theorem md_join : MtD K joinD (fun x xs H Q => ∃ a p, ∃ ys : List Str, x = .str a ∧ xs = [.ref p] ∧ (SqL K H p (ys.map V.str) ∨ SqT K H p (ys.map V.str)) ∧ (ys.map (·.length)).sum + ys.length * a.length ≤ 16777216 ∧ Q (.str (Txt.join a ys)) H) := by
  intro r0 h H x v xs vs W σ Q rh rx rxs p
  unfold joinD at p
  split at p
  · split at p
    · rename_i e
      split at p
      · rename_i hc
        obtain ⟨u, rfl, ru⟩ := rxs.inv1
        obtain ⟨ds, e1, e2⟩ := Option.bind_eq_some_iff.mp e
        obtain ⟨a, ys, rfl, f, q⟩ := sq_at rh ru e1
        rw [toS_map e2] at q
        obtain rfl := q.of_strs
        exact ⟨_, a, _, rv_str.mp rx, rfl, f, Nat.le_trans hc (by decide), po_v rh (rv_str.mpr rfl) p⟩
      · exact p.elim
    · exact p.elim
  · exact p.elim
theorem md_starts3 : MtD K starts3D (fun x xs H Q => ∃ (a b : Str) (i : Int), x = .str a ∧ xs = [.str b, .int i] ∧ Q (.bl (Txt.startswith3 a b i)) H) := by
  intro r0 h H x v xs vs W σ Q rh rx rxs p
  unfold starts3D at p
  split at p
  · obtain ⟨u, w, rfl, ru, rw_⟩ := rxs.inv2
    exact ⟨_, _, _, rv_str.mp rx, by rw [rv_str.mp ru, rv_int.mp rw_], po_v rh (rv_bl.mpr rfl) p⟩
  · exact p.elim
theorem md_append : MtD K appendD rAppend := by
  intro r0 h H x v xs vs W σ Q rh rx rxs p
  unfold appendD at p
  split at p
  · rename_i e
    split at p
    · rename_i hl
      obtain ⟨a, ys, rfl, ha, f, q⟩ := mlst_at rh rx e
      obtain ⟨u, rfl, ru⟩ := rxs.inv1
      exact ⟨a, ys, u, rfl, rfl, f, by rw [← q.length]; exact line_lt hl, po_put rh ha (q.append (.one ru)) (rv_non.mpr rfl) p⟩
    · exact p.elim
  · exact p.elim
theorem md_extend : MtD K extendD rExtend := by
  intro r0 h H x v xs vs W σ Q rh rx rxs p
  unfold extendD at p
  split at p
  · rename_i e
    split at p
    · rename_i e2
      split at p
      · rename_i hl
        obtain ⟨a, ys, rfl, ha, f, q⟩ := mlst_at rh rx e
        obtain ⟨u, rfl, ru⟩ := rxs.inv1
        obtain ⟨b, zs, rfl, g, q2⟩ := xsq_at rh ru e2
        exact ⟨a, b, ys, zs, rfl, rfl, f, g, by rw [← q.length, ← q2.length]; exact line_le hl, po_put rh ha (q.append q2) (rv_non.mpr rfl) p⟩
      · exact p.elim
    · exact p.elim
  · exact p.elim
theorem md_popAt : MtD K popAtD rPopAt := by
  intro r0 h H x v xs vs W σ Q rh rx rxs p
  unfold popAtD at p
  split at p
  · rename_i e
    split at p
    · rename_i hc
      split at p
      · rename_i ed
        obtain ⟨a, ys, rfl, ha, f, q⟩ := mlst_at rh rx e
        obtain ⟨u, rfl, ru⟩ := rxs.inv1
        obtain ⟨z, ez, rz⟩ := q.get ed
        have hlt : _ < ys.length := (List.getElem?_eq_some_iff.mp ez).1
        refine ⟨a, ys, _, _, z, rfl, by rw [rv_int.mp ru], f, by omega, by omega, ?_, ez, po_put rh ha (q.eraseIdx _) rz p⟩
        exact seqIndex_of hc.1 (by omega)
      · exact p.elim
    · exact p.elim
  · exact p.elim
theorem getLast_rel (q : RVs K r H ds vs) (e : ds.getLast? = some d) : ∃ z, vs[vs.length - 1]? = some z ∧ RV K r H d z := by
  rw [List.getLast?_eq_getElem?] at e
  rw [← q.length]
  exact q.get e
theorem RVs.dropLast (q : RVs K r H ds vs) : RVs K r H ds.dropLast vs.dropLast := by
  rw [List.dropLast_eq_take, List.dropLast_eq_take, ← q.length]
  exact q.take _
theorem md_pop : MtD K popD rPop := by
  intro r0 h H x v xs vs W σ Q rh rx rxs p
  unfold popD at p
  split at p
  · rename_i e
    split at p
    · rename_i ed
      obtain ⟨a, ys, rfl, ha, f, q⟩ := mlst_at rh rx e
      obtain ⟨z, ez, rz⟩ := getLast_rel q ed
      exact ⟨a, ys, z, rfl, rxs.inv0, f, ez, po_put rh ha q.dropLast rz p⟩
    · exact p.elim
  · exact p.elim
theorem md_insert : MtD K insertD (fun x vs H Q => ∃ (l : Addr) (xs : List V) (i : Int) (y : V), x = .ref l ∧ vs = [.int i, y] ∧ H l = some (.lst xs) ∧ xs.length < sizeLine ∧ 0 ≤ i ∧ i < 2 ^ 63 ∧
    Q .non (upd H l (.lst (xs.take i.toNat ++ [y] ++ xs.drop i.toNat)))) := by
  intro r0 h H x v xs vs W σ Q rh rx rxs p
  unfold insertD at p
  split at p
  · rename_i e
    split at p
    · rename_i hc
      obtain ⟨a, ys, rfl, ha, f, q⟩ := mlst_at rh rx e
      obtain ⟨u, w, rfl, ru, rw_⟩ := rxs.inv2
      exact ⟨a, ys, _, w, rfl, by rw [rv_int.mp ru], f, by rw [← q.length]; exact line_lt hc.1, hc.2.1, by omega, po_put rh ha (((q.take _).append (.one rw_)).append (q.drop _)) (rv_non.mpr rfl) p⟩
    · exact p.elim
  · exact p.elim
theorem md_reverse : MtD K reverseD rReverse := by
  intro r0 h H x v xs vs W σ Q rh rx rxs p
  unfold reverseD at p
  split at p
  · rename_i e
    obtain ⟨a, ys, rfl, ha, f, q⟩ := mlst_at rh rx e
    exact ⟨a, ys, rfl, rxs.inv0, f, po_put rh ha q.reverse (rv_non.mpr rfl) p⟩
  · exact p.elim
theorem md_clear : MtD K clearD rClear := by
  intro r0 h H x v xs vs W σ Q rh rx rxs p
  unfold clearD at p
  split at p
  · rename_i e
    obtain ⟨a, ys, rfl, ha, f, q⟩ := mlst_at rh rx e
    exact ⟨a, ys, rfl, rxs.inv0, f, po_put rh ha .nil (rv_non.mpr rfl) p⟩
  · exact p.elim
end

/-! ### slices -/
abbrev PF := Env' → DH → Rs (Option Int)
def pn : PF := fun _ h => .ok none h
def ps (fa : EF) : PF := fun env h => bd (fa env h) fun d h1 => match d with | .int i => .ok (some i) h1 | _ => .bad
def RP (_ : Rg) (_ : Hp) (a b : Option Int) : Prop := a = b
def cutD {α : Type} (ds : List α) (lo hi : Option Int) : List α := (ds.drop (HT.sIx ds.length 0 lo)).take (HT.sIx ds.length ds.length hi - HT.sIx ds.length 0 lo)
def slD (own : Bool) (x : D) (lo hi : Option Int) (h : DH) : Rs D := match x with
  | .str z => if z.length ≤ 1000000 then .ok (.str (cutS z lo hi)) h else .bad
  | .tup ds => .ok (.tup (cutD ds lo hi)) h
  | x => match lsq h x with
    | some ds => mkL own (cutD ds lo hi) h
    | none => .bad
def esl (own : Bool) (fe : EF) (fl fh : PF) : EF := fun env h => bd (fe env h) fun x h1 => bd (fl env h1) fun l h2 => bd (fh env h2) fun u h3 => slD own x l u h3
section
variable {X : Cx} {W : WX} {K : PySem.W.Frag} {r r0 : Rg} {h : DH} {H : Hp} {d x y : D} {v u : V} {σ : L2.St} {Q : VK} {ds : List D} {vs : List V} {e : Expr} {fe : EF} {lo hi : Option Expr} {fl fh : PF} {pos p2 : Pos}
theorem dp_none : PO X none (tG RP X.K W pn) := ⟨fun pins s σ H Q I ⟨r, env, h, rh, rs, p⟩ => po_none.run pins s σ H Q I (p none r H .refl rh rfl)⟩
theorem dp_some (he : PE X e (tE X.K W fe)) : PO X (some e) (tG RP X.K W (ps fe)) := ⟨fun pins s σ H Q I p => (po_some he).run pins s σ H Q I
  (tG.first (R := RV X.K) (f := fe) (g := fun d _ h1 => match d with | .int i => .ok (some i) h1 | _ => .bad) p fun r0 env h1 x v H1 rh rs rx p1 => by
    cases x with
    | int i => exact ⟨i, rv_int.mp rx, p1 _ _ _ .refl rh rfl⟩
    | _ => exact p1.elim)⟩
theorem cut_rel (q : RVs K r H ds vs) (lo hi : Option Int) : RVs K r H (cutD ds lo hi) (cutV vs lo hi) := by
  unfold cutD cutV
  rw [q.length]
  exact (q.drop _).take _
theorem cut_whole {α : Type} {ds : List α} {lo hi : Option Int} (h : HT.sIx ds.length 0 lo = 0 ∧ HT.sIx ds.length ds.length hi = ds.length) : cutD ds lo hi = ds := by
  unfold cutD
  rw [h.1, h.2]
  simp
def rSlAll (K : PySem.W.Frag) : V → Option Int → Option Int → Hp → VK → Prop := fun x lo hi H Q => rSlL K x lo hi H Q ∨ (rSlA K x lo hi H Q ∨ rSlS x lo hi H Q)
theorem sl_all : SlR X (rSlAll X.K) := sl_list.or (sl_tupA.or sl_str)
theorem sd_all (own : Bool) {lo hi : Option Int} (rh : RH K r0 h H) (rx : RV K r0 H x v) (p : Po (RV K) K W r0 σ H (slD own x lo hi h) Q) : rSlAll K v lo hi H Q := by
  unfold slD at p
  split at p
  · split at p
    · rename_i hl
      exact .inr (.inr ⟨_, rv_str.mp rx, line_le hl, po_v rh (rv_str.mpr rfl) p⟩)
    · exact p.elim
  · rename_i ds
    have rx0 := rx
    simp only [RV] at rx
    obtain ⟨a, vs, rfl, f, q⟩ := rx
    refine .inr (.inl ⟨a, vs, rfl, f.sq, fun hw => ?_, fun hw w hq => ?_⟩)
    · rw [cut_whole (by rw [q.length]; exact hw)] at p
      exact po_v rh rx0 p
    · obtain ⟨e, rh'⟩ := rh.lay (o := .tup (cutV vs lo hi)) hq
      refine p _ r0 _ e rh' ?_
      simp only [RV]
      exact ⟨w, _, rfl, ⟨upd_same, rh.out hq⟩, (cut_rel q lo hi).mono e⟩
  · split at p
    · rename_i e
      obtain ⟨a, vs, rfl, f, q⟩ := lsq_at rh rx e
      exact .inl ⟨a, vs, rfl, f, (po_mkL rh (cut_rel q lo hi) p).2⟩
    · exact p.elim
theorem de_sl (own : Bool) (he : PE X e (tE X.K W fe)) (hl : PO X lo (tG RP X.K W fl)) (hu : PO X hi (tG RP X.K W fh)) : PE X (.Subscript e (.Slice lo hi none p2) pos) (tE X.K W (esl own fe fl fh)) :=
  PE.imp (pe_slice sl_all he hl hu) fun σ H Q p => tG.first (R := RV X.K) (f := fe) (g := fun x env h1 => bd (fl env h1) fun l h2 => bd (fh env h2) fun u h3 => slD own x l u h3) p fun r0 env h1 x v H1 rh rs rx p1 =>
    ⟨r0, env, h1, rh, rs, (Po.bd (R := RP) p1).mono fun l H2 ⟨r2, h2, l', _, e2, rh2, rl, p2⟩ => ⟨r2, env, h2, rh2, rs.mono e2, (Po.bd (R := RP) p2).mono fun u H3 ⟨r3, h3, u', _, e3, rh3, ru, p3⟩ => by
      cases rl; cases ru
      exact sd_all own rh3 ((rx.mono e2).mono e3) p3⟩⟩
end

/-! ### isinstance -/
def tyNm (h : DH) : D → Option String
  | .non => some "NoneType"
  | .bl _ => some "bool"
  | .int _ => some "int"
  | .str _ => some "str"
  | .tup _ => some "tuple"
  | .lst _ => some "list"
  | .dk _ _ => some "dict"
  | .ref n => match h[n]? with | some (.lst _) => some "list" | some (.dk _ _) => some "dict" | some (.dt _ _) => some "dict" | _ => none
  | _ => none
def tyCs : List D → Option (List String)
  | [] => some []
  | .con (.ty n) :: r => (tyCs r).map (n :: ·)
  | _ => none
def kitL (t : String) : List String → Option Bool
  | [] => some false
  | c :: r => match kitB t c with
    | some true => some true
    | some false => kitL t r
    | none => none
def isiD (xs : List D) (h : DH) : Rs D := match xs with
  | [x, .con (.ty c)] => match (tyNm h x).bind fun t => kitB t c with
    | some b => .ok (.bl b) h
    | none => .bad
  | [x, .tup cs] => match tyNm h x, tyCs cs with
    | some t, some us => (match kitL t us with | some b => .ok (.bl b) h | none => .bad)
    | _, _ => .bad
  | _ => .bad
section
variable {X : Cx} {W : WX} {K : PySem.W.Frag} {r r0 : Rg} {h : DH} {H : Hp} {d x y : D} {v u : V} {σ : L2.St} {Q : VK} {ds : List D} {vs : List V}
theorem tyNm_at {t : String} (rh : RH K r h H) (rv : RV K r H x v) (e : tyNm h x = some t) : TyX K H v (.type t) := by
  unfold tyNm at e
  split at e
  · cases e; rw [rv_non.mp rv]; exact .base .non
  · cases e; rw [rv_bl.mp rv]; exact .base (.bl _)
  · cases e; rw [rv_int.mp rv]; exact .base (.int _)
  · cases e; rw [rv_str.mp rv]; exact .base (.str _)
  · cases e; simp only [RV] at rv; obtain ⟨a, vs, rfl, f, _⟩ := rv; exact .base (.tup f.1)
  · cases e; simp only [RV] at rv; obtain ⟨a, vs, rfl, f, _⟩ := rv; exact .base (.lst f.1)
  · cases e; simp only [RV] at rv; obtain ⟨a, vs, rfl, f, _⟩ := rv
    rcases f with f | ⟨o, f⟩
    · exact .base (.dK f)
    · exact .fDict f
  · split at e
    · rename_i e2
      cases e
      obtain ⟨a, vs, rfl, _, f, _⟩ := rh.lst_at rv e2
      exact .base (.lst f)
    · rename_i e2
      cases e
      simp only [RV] at rv
      obtain ⟨a, ha, rfl⟩ := rv
      obtain ⟨vs, f, _⟩ := rh.at_ _ a _ ha e2
      exact .base (.dK f)
    · rename_i e2
      cases e
      simp only [RV] at rv
      obtain ⟨a, ha, rfl⟩ := rv
      obtain ⟨vs, f, _⟩ := rh.at_ _ a _ ha e2
      exact .base (.dT f)
    · cases e
  · cases e
theorem tyCs_at : ∀ {cs : List D} {vs : List V} {us : List String}, tyCs cs = some us → RVs K r H cs vs → Paired ClsV vs (us.map Value.type)
  | [], vs, us, e, q => by simp [tyCs] at e; subst e; rw [q.inv0]; exact .nil
  | d :: cs, vs, us, e, q => by
    obtain ⟨v, t, rfl, a, b⟩ := q.inv
    cases d with
    | con c =>
      cases c with
      | ty n =>
        simp only [tyCs, Option.map_eq_some_iff] at e
        obtain ⟨m, e1, rfl⟩ := e
        simp only [RV] at a
        subst a
        exact .cons (.ty _) (tyCs_at e1 b)
      | _ => simp [tyCs] at e
    | _ => simp [tyCs] at e
theorem kitL_at {t : String} : ∀ {us : List String} {b : Bool}, kitL t us = some b → PySem.W.kitAny K (.type t) (us.map Value.type) = some b
  | [], b, e => by simp [kitL] at e; subst e; rfl
  | c :: r, b, e => by
    unfold kitL at e
    rw [List.map_cons]
    unfold PySem.W.kitAny
    split at e
    · rename_i h1
      rw [kit_ty (K := K) h1]; exact e
    · rename_i h1
      rw [kit_ty (K := K) h1]; exact kitL_at e
    · cases e
theorem call_isiAll : CallR X (.builtin "isinstance") (fun xs H Q => rIsi X.K xs H Q ∨ rIsiT X.K xs H Q) := call_isi.or call_isiT
theorem cd_isi : CallD K isiD (fun xs H Q => rIsi K xs H Q ∨ rIsiT K xs H Q) := by
  intro r0 h H xs vs W σ Q rh rx p
  unfold isiD at p
  split at p
  · obtain ⟨v, u, rfl, rv, ru⟩ := rx.inv2
    split at p
    · rename_i e
      obtain ⟨t, e1, e2⟩ := Option.bind_eq_some_iff.mp e
      simp only [RV] at ru
      subst ru
      exact .inl ⟨v, _, _, _, _, rfl, .ty _, tyNm_at rh rv e1, kit_ty e2, po_v rh (rv_bl.mpr rfl) p⟩
    · exact p.elim
  · obtain ⟨v, u, rfl, rv, ru⟩ := rx.inv2
    split at p
    · rename_i e1 e2
      split at p
      · rename_i e3
        simp only [RV] at ru
        obtain ⟨a, ws, rfl, f, q⟩ := ru
        exact .inr ⟨v, a, ws, _, _, _, rfl, f.1, tyCs_at e2 q, tyNm_at rh rv e1, kitL_at e3, po_v rh (rv_bl.mpr rfl) p⟩
      · exact p.elim
    · exact p.elim
  · exact p.elim
end
end Dt

namespace Dt
open PySem PySem.Spec PyProof.Rows L2

/-! ### what is walked -/
structure ItD where
  src : Option Nat
  items : List D
abbrev IF := Env' → DH → Rs ItD
def srcOk (it : ItD) (h : DH) : Prop := ∀ n, it.src = some n → h[n]? = some (.lst it.items)
def RI (K : PySem.W.Frag) (r : Rg) (H : Hp) (it : ItD) (J : It) : Prop :=
  ∀ (r' : Rg) (h' : DH) (H' : Hp), Wx r r' H H' → RH K r' h' H' → srcOk it h' → ∀ i : Nat,
    (∀ d, it.items[i]? = some d → J.go i H' ∧ ∀ x H'', J.yld i H' x H'' → Ext r' r' H' H'' ∧ RH K r' h' H'' ∧ RV K r' H'' d x) ∧ (it.items.length ≤ i → J.stop i H')
abbrev tI (K : PySem.W.Frag) (W : WX) (f : IF) : TI := tG (RI K) K W f
theorem PI.imp {X : Cx} {tg e : Expr} {t t' : TI} (h : PI X tg e t) (i : ∀ σ H R, t' σ H R → t σ H R) : PI X tg e t' := ⟨fun pins s σ H R I q => h.run pins s σ H R I (i σ H R q)⟩
def sqI (d : D) (h : DH) : Rs ItD := match d with
  | .ref n => (match h[n]? with | some (.lst ds) => .ok ⟨some n, ds⟩ h | _ => .bad)
  | d => match sq h d with
    | some ds => .ok ⟨none, ds⟩ h
    | none => .bad
def isq (fa : EF) : IF := fun env h => bd (fa env h) fun d h1 => sqI d h1
def rgI (lo hi : Int) : ItD := ⟨none, (List.range (hi - lo).toNat).map fun i : Nat => D.int (lo + i)⟩
def smR (i : Int) : Prop := -1152921504606846976 ≤ i ∧ i ≤ 1152921504606846976
noncomputable instance (i : Int) : Decidable (smR i) := Classical.propDecidable _
noncomputable def rng1 (as : AF) : IF := fun env h => bd (as env h) fun ds h1 => match ds with
  | [.int j] => if smR j then .ok (rgI 0 j) h1 else .bad
  | _ => .bad
noncomputable def rng2 (as : AF) : IF := fun env h => bd (as env h) fun ds h1 => match ds with
  | [.int i, .int j] => if smR i ∧ smR j then .ok (rgI i j) h1 else .bad
  | _ => .bad
def strI (fa : EF) : IF := fun env h => bd (fa env h) fun d h1 => match d with
  | .str x => .ok ⟨none, x.cps.toList.map fun c => D.str ⟨#[c]⟩⟩ h1
  | _ => .bad
/-- zip of two lists, or of two tuples -/
def zipI (as : AF) : IF := fun env h => bd (as env h) fun ds h1 => match ds with
  | [x, y] => match xsq h1 x, xsq h1 y with
    | some xs, some ys => .ok ⟨none, (xs.zip ys).map fun p => D.tup [p.1, p.2]⟩ h1
    | _, _ => match tsq x, tsq y with
      | some xs, some ys => .ok ⟨none, (xs.zip ys).map fun p => D.tup [p.1, p.2]⟩ h1
      | _, _ => .bad
  | _ => .bad

section
variable {X : Cx} {W : WX} {K : PySem.W.Frag} {r r0 : Rg} {h : DH} {H : Hp} {d x y : D} {v u : V} {σ : L2.St} {Q : VK} {ds : List D} {vs : List V} {tg e : Expr} {fa : EF} {as : AF} {p pos : Pos}
theorem RVs.get_of (q : RVs K r H ds vs) {i : Nat} {v : V} (e : vs[i]? = some v) : ∃ d, ds[i]? = some d ∧ RV K r H d v := by
  have hl : i < ds.length := by rw [q.length]; exact (List.getElem?_eq_some_iff.mp e).1
  obtain ⟨v', e', q'⟩ := q.get (List.getElem?_eq_getElem hl)
  rw [e] at e'; cases e'
  exact ⟨_, List.getElem?_eq_getElem hl, q'⟩
theorem rv_inj {a : Addr} (rv : RV K r H (.ref 0) v) : True := trivial
/-- lists and tuples, walked -/
theorem pi_seqV {tl : TE} (hl : PE X e tl) : PI X tg e (fun σ H R => tl σ H fun x H1 => (∃ a, x = .ref a ∧ (∃ xs, SqL X.K H1 a xs) ∧ R (Itl X.K a) H1) ∨ ∃ a, x = .ref a ∧ (∃ xs, SqT X.K H1 a xs) ∧ R (Itt X.K a) H1) := by
  refine ⟨fun pins s σ H R I hyp => thn (hl.run pins s σ H _ I hyp) ?_⟩
  rintro v s1 ⟨x, H1, I1, r1, ⟨a, rfl, ⟨xs, hq⟩, q⟩ | ⟨a, rfl, ⟨xs, hq⟩, q⟩⟩
  · obtain rfl : v = Value.ref a := r1
    obtain ⟨its, rv, pl, _⟩ := I1.list hq
    exact wpAny_pyIter_list pl.isList ⟨_, [s1.heap.objs.size], _, _, H1, rfl, I1.kept (t' := s1.toks) fun b o w => Heap.get?_push_of_some _ w, turn_list a _, ⟨_, Heap.get?_push_size _ rfl, rfl, rfl⟩,
      fun b hb => (List.mem_singleton.mp hb) ▸ I1.fpOk (Nat.le_refl _) I1.fresh, q⟩
  · obtain rfl : v = Value.ref a := r1
    obtain ⟨its, rv, pl, _⟩ := I1.tuple hq
    exact wpAny_pyIter_tuple (show s1.heap.IsTuple a its.toArray from pl) ⟨_, [s1.heap.objs.size], _, _, H1, rfl, I1.kept (t' := s1.toks) fun b o w => Heap.get?_push_of_some _ w, turn_tuple a _, ⟨_, Heap.get?_push_size _ rfl, rfl, rfl⟩,
      fun b hb => (List.mem_singleton.mp hb) ▸ I1.fpOk (Nat.le_refl _) I1.fresh, q⟩
/-- a list that stays -/
theorem ri_list {a : Addr} {it : ItD} (f : ∀ r' h' H', Wx r r' H H' → RH K r' h' H' → srcOk it h' → (∃ vs, SqL K H' a vs ∧ RVs K r' H' it.items vs) ∧ ∀ xs ys, SqL K H' a xs → SqL K H' a ys → xs = ys) : RI K r H it (Itl K a) := by
  intro r' h' H' e rh so i
  obtain ⟨⟨vs, hs, q⟩, _⟩ := f r' h' H' e rh so
  refine ⟨fun d hd => ?_, fun hi => ⟨vs, hs, by rw [← q.length]; exact hi⟩⟩
  obtain ⟨v, hv, rv⟩ := q.get hd
  refine ⟨⟨vs, v, hs, hv⟩, fun x H'' hy => ?_⟩
  obtain ⟨rfl, fx⟩ := hy
  have := fx vs hs
  rw [hv] at this; cases this
  exact ⟨.refl, rh, rv⟩
theorem di_seq (he : PE X e (tE X.K W fa)) : PI X tg e (tI X.K W (isq fa)) :=
  PI.imp (pi_seqV he) fun σ H R pp => tG.first (R := RV X.K) (f := fa) (g := fun d _ h1 => sqI d h1) pp fun r0 env h1 x v H1 rh rs rx p1 => by
    have keepL : ∀ {ds : List D} {n : Option Nat}, (∀ r' h' H', Wx r0 r' H1 H' → RH X.K r' h' H' → srcOk ⟨n, ds⟩ h' → ∃ a vs, v = .ref a ∧ SqL X.K H' a vs ∧ RVs X.K r' H' ds vs) → Po (RI X.K) X.K W r0 σ H1 (.ok ⟨n, ds⟩ h1) R → srcOk ⟨n, ds⟩ h1 →
        ∃ a, v = .ref a ∧ (∃ xs, SqL X.K H1 a xs) ∧ R (Itl X.K a) H1 := fun {ds n} f p2 so => by
      obtain ⟨a, vs, rfl, hs, q⟩ := f r0 h1 H1 .refl rh so
      refine ⟨a, rfl, ⟨vs, hs⟩, p2 _ _ _ .refl rh fun r' h' H' e rh' so' i => ?_⟩
      obtain ⟨b, ws, eb, hs', q'⟩ := f r' h' H' e rh' so'
      cases eb
      refine ⟨fun d hd => ?_, fun hi => ⟨ws, hs', by rw [← q'.length]; exact hi⟩⟩
      obtain ⟨z, hz, rz⟩ := q'.get hd
      refine ⟨⟨ws, z, hs', hz⟩, fun y H'' hy => ?_⟩
      obtain ⟨rfl, fx⟩ := hy
      have := fx ws hs'
      rw [hz] at this; cases this
      exact ⟨.refl, rh', rz⟩
    have keepT : ∀ {ds : List D}, (∀ r' H', Wx r0 r' H1 H' → ∃ a vs, v = .ref a ∧ SqT X.K H' a vs ∧ RVs X.K r' H' ds vs) → Po (RI X.K) X.K W r0 σ H1 (.ok ⟨none, ds⟩ h1) R →
        ∃ a, v = .ref a ∧ (∃ xs, SqT X.K H1 a xs) ∧ R (Itt X.K a) H1 := fun {ds} f p2 => by
      obtain ⟨a, vs, rfl, hs, q⟩ := f r0 H1 .refl
      refine ⟨a, rfl, ⟨vs, hs⟩, p2 _ _ _ .refl rh fun r' h' H' e rh' so' i => ?_⟩
      obtain ⟨b, ws, eb, hs', q'⟩ := f r' H' e
      cases eb
      refine ⟨fun d hd => ?_, fun hi => ⟨ws, hs', by rw [← q'.length]; exact hi⟩⟩
      obtain ⟨z, hz, rz⟩ := q'.get hd
      refine ⟨⟨ws, z, hs', hz⟩, fun y H'' hy => ?_⟩
      obtain ⟨rfl, fx⟩ := hy
      have := fx ws hs'
      rw [hz] at this; cases this
      exact ⟨.refl, rh', rz⟩
    have none_ok : ∀ {ds : List D} {h : DH}, srcOk ⟨none, ds⟩ h := fun n e => nomatch e
    unfold sqI at p1
    split at p1
    · rename_i n
      split at p1
      · rename_i ds e1
        refine .inl (keepL (fun r' h' H' e rh' so => ?_) p1 fun m em => ?_)
        · have e2 := so n rfl
          obtain ⟨a, vs, ea, _, p, q⟩ := rh'.lst_at (rx.wmono e) e2
          exact ⟨a, vs, ea, .of p, q⟩
        · cases em; exact e1
      · exact p1.elim
    · split at p1
      · rename_i hx _ ds e1
        unfold sq at e1
        split at e1
        · cases e1
          exact .inr (keepT (fun r' H' e => tsq_at (rx.wmono e) rfl) p1)
        · cases e1
          exact .inr (keepT (fun r' H' e => tsq_at (rx.wmono e) rfl) p1)
        · refine .inl (keepL (fun r' h' H' e rh' so => lsq_at rh' (rx.wmono e) ?_) p1 none_ok)
          unfold lsq at e1 ⊢
          split at e1
          · exact e1
          · exact e1
          · exact (hx _ rfl).elim
          · cases e1
      · exact p1.elim
theorem range_get {lo : Int} {n i : Nat} {d : D} (e : ((List.range n).map fun i : Nat => D.int (lo + i))[i]? = some d) : i < n ∧ d = .int (lo + i) := by
  rw [List.getElem?_map] at e
  obtain ⟨j, hj, rfl⟩ := Option.map_eq_some_iff.mp e
  obtain ⟨h1, h2⟩ := List.getElem?_eq_some_iff.mp hj
  rw [List.getElem_range] at h2
  subst h2
  exact ⟨by simpa using h1, rfl⟩
theorem ri_range {lo hi : Int} : RI K r H (rgI lo hi) (Itr lo (hi - lo).toNat) := by
  intro r' h' H' e rh so i
  refine ⟨fun d hd => ?_, fun hl => ?_⟩
  · obtain ⟨h1, rfl⟩ := range_get hd
    exact ⟨h1, fun x H'' hy => by
      obtain ⟨rfl, rfl⟩ := hy
      exact ⟨.refl, rh, rv_int.mpr rfl⟩⟩
  · unfold rgI at hl
    show (hi - lo).toNat ≤ i
    simpa using hl
theorem di_rng1 {a : Expr} (hg : Gl X "range") (hm : X.mg "range" = none) (ha : PA X [a] (tA X.K W as)) (hs : starEach [a] X.env = [(false, eval a X.env)] := by rfl) : PI X tg (.Call (.Name "range" p) [a] [] pos) (tI X.K W (rng1 as)) :=
  PI.imp (pi_range1 hg hm ha hs) fun σ H R pp => tG.first (R := RVs X.K) (f := as) (g := fun ds _ h1 => match ds with
  | [.int j] => if smR j then .ok (rgI 0 j) h1 else .bad
  | _ => .bad) pp fun r0 env h1 x v H1 rh rs rx p1 => by
    split at p1
    · rename_i j
      split at p1
      · rename_i hc
        unfold smR at hc
        obtain ⟨u, rfl, ru⟩ := rx.inv1
        refine ⟨j, by rw [rv_int.mp ru], by omega, by omega, p1 _ _ _ .refl rh ?_⟩
        have := ri_range (K := X.K) (r := r0) (H := H1) (lo := 0) (hi := j)
        rwa [Int.sub_zero] at this
      · exact p1.elim
    · exact p1.elim
theorem di_rng2 {a b : Expr} (hg : Gl X "range") (hm : X.mg "range" = none) (ha : PA X [a, b] (tA X.K W as)) (hs : starEach [a, b] X.env = [(false, eval a X.env), (false, eval b X.env)] := by rfl) (hs2 : starEach [b] X.env = [(false, eval b X.env)] := by rfl) : PI X tg (.Call (.Name "range" p) [a, b] [] pos) (tI X.K W (rng2 as)) :=
  PI.imp (pi_range2 hg hm ha hs hs2) fun σ H R pp => tG.first (R := RVs X.K) (f := as) (g := fun ds _ h1 => match ds with
  | [.int i, .int j] => if smR i ∧ smR j then .ok (rgI i j) h1 else .bad
  | _ => .bad) pp fun r0 env h1 x v H1 rh rs rx p1 => by
    split at p1
    · rename_i i j
      split at p1
      · rename_i hc
        obtain ⟨hc1, hc2⟩ := hc
        unfold smR at hc1 hc2
        obtain ⟨u, w, rfl, ru, rw_⟩ := rx.inv2
        exact ⟨i, j, by rw [rv_int.mp ru, rv_int.mp rw_], ⟨by omega, by omega, by omega, by omega⟩, p1 _ _ _ .refl rh ri_range⟩
      · exact p1.elim
    · exact p1.elim
theorem di_str (he : PE X e (tE X.K W fa)) : PI X tg e (tI X.K W (strI fa)) :=
  PI.imp (pi_str he) fun σ H R pp => tG.first (R := RV X.K) (f := fa) (g := fun d _ h1 => match d with
  | .str x => .ok (ItD.mk none (x.cps.toList.map fun c => D.str ⟨#[c]⟩)) h1
  | _ => .bad) pp fun r0 env h1 x v H1 rh rs rx p1 => by
    split at p1
    · rename_i z
      refine ⟨z, rv_str.mp rx, p1 _ _ _ .refl rh fun r' h' H' e rh' so i => ⟨fun d hd => ?_, fun hl => show z.cps.size ≤ i by simpa using hl⟩⟩
      dsimp only at hd
      rw [List.getElem?_map] at hd
      obtain ⟨c, hc, rfl⟩ := Option.map_eq_some_iff.mp hd
      have hc' : z.cps[i]? = some c := by simpa using hc
      refine ⟨(Array.getElem?_eq_some_iff.mp hc').1, fun x H'' hy => ?_⟩
      obtain ⟨rfl, c', e1, rfl⟩ := hy
      rw [hc'] at e1; cases e1
      exact ⟨.refl, rh', rv_str.mpr rfl⟩
    · exact p1.elim
theorem lay_pair {T : Addr} {v u : V} (rh : RH K r h H) (hn : H T = none) (ra : RV K r H x v) (rb : RV K r H y u) : Ext r r H (upd H T (.tup [v, u])) ∧ RH K r h (upd H T (.tup [v, u])) ∧ RV K r (upd H T (.tup [v, u])) (.tup [x, y]) (.ref T) := by
  obtain ⟨e, rh'⟩ := rh.lay (o := .tup [v, u]) hn
  refine ⟨e, rh', ?_⟩
  simp only [RV]
  exact ⟨T, _, rfl, ⟨upd_same, rh.out hn⟩, .cons (ra.mono e) (.one (rb.mono e))⟩
theorem zip_get {xs ys : List D} {i : Nat} {d : D} (e : ((xs.zip ys).map fun p => D.tup [p.1, p.2])[i]? = some d) : ∃ a b, xs[i]? = some a ∧ ys[i]? = some b ∧ d = .tup [a, b] := by
  rw [List.getElem?_map] at e
  obtain ⟨⟨a, b⟩, hp, rfl⟩ := Option.map_eq_some_iff.mp e
  rw [List.getElem?_zip_eq_some] at hp
  exact ⟨a, b, hp.1, hp.2, rfl⟩
end
end Dt

namespace Dt
open PySem PySem.Spec PyProof.Rows L2

/-! ### statements: outcomes -/
inductive So where
  | nx (env : Env') (h : DH) | rt (d : D) (h : DH) | bk (env : Env') (h : DH) | cn (env : Env') (h : DH) | rz (x : Exn) (env : Env') (h : DH) | bad
abbrev SF := Env' → DH → So
def PoS (K : PySem.W.Frag) (W : WX) (r : Rg) (H : Hp) (x : So) (D : Ends) : Prop :=
  match x with
  | .nx env h => ∀ r' σ' H', Ext r r' H H' → RH K r' h H' → RS K r' H' env σ' → D.nx σ' H'
  | .rt d h => ∀ v r' H', Ext r r' H H' → RH K r' h H' → RV K r' H' d v → D.rt v H'
  | .bk env h => ∀ r' σ' H', Ext r r' H H' → RH K r' h H' → RS K r' H' env σ' → D.bk σ' H'
  | .cn env h => ∀ r' σ' H', Ext r r' H H' → RH K r' h H' → RS K r' H' env σ' → D.ct σ' H'
  | .rz x env h => ∀ r' σ' H' dO, Ext r r' H H' → RH K r' h H' → RS K r' H' env σ' → XR K r' H' x dO → W x.cls dO σ' H'
  | .bad => False
def tS (K : PySem.W.Frag) (W : WX) (f : SF) : TS := fun D σ H => ∃ r env h, RH K r h H ∧ RS K r H env σ ∧ PoS K W r H (f env h) D
/-- an expression ahead -/
def bs {α : Type} (env : Env') (x : Rs α) (g : α → DH → So) : So := match x with
  | .ok a h => g a h
  | .rz x h => .rz x env h
  | .bad => .bad
def sq2 (x : So) (g : SF) : So := match x with
  | .nx env h => g env h
  | o => o
def skp : SF := fun env h => .nx env h
def seq (f g : SF) : SF := fun env h => sq2 (f env h) g
def ife (t : TF) (f g : SF) : SF := fun env h => bs env (t env h) fun b h1 => if b = true then f env h1 else g env h1
def ret (fe : EF) : SF := fun env h => bs env (fe env h) fun d h1 => .rt d h1
def retN : SF := fun _ h => .rt .non h
def drp (fe : EF) : SF := fun env h => bs env (fe env h) fun _ h1 => .nx env h1
def brk : SF := fun env h => .bk env h
def cnt : SF := fun env h => .cn env h
/-- never reached -/
def nev : SF := fun _ _ => .bad

/-! ### targets: names, tuples of them -/
inductive Tg where
  | nm (i : Nat)
  | tp (ts : List Tg)
mutual
def tgF : Tg → D → Env' → Option Env'
  | .nm i, d, env => some (env.set i (some d))
  | .tp ts, d, env => match tsq d with
    | some ds => tgsF ts ds env
    | none => none
def tgsF : List Tg → List D → Env' → Option Env'
  | [], [], env => some env
  | t :: ts, d :: ds, env => match tgF t d env with
    | some e => tgsF ts ds e
    | none => none
  | _, _, _ => none
end
mutual
def tgR (K : PySem.W.Frag) : Tg → TG
  | .nm i => gName i
  | .tp ts => gTup K ts.length (tgsR K ts)
def tgsR (K : PySem.W.Frag) : List Tg → TGs
  | [] => gNil
  | t :: ts => gCons (tgR K t) (tgsR K ts)
end
mutual
def tgS : Tg → List Nat
  | .nm i => [i]
  | .tp ts => tgsS ts
def tgsS : List Tg → List Nat
  | [] => []
  | t :: ts => tgS t ++ tgsS ts
end
section
variable {α β : Type} {X : Cx} {W : WX} {K : PySem.W.Frag} {r r0 r1 : Rg} {h : DH} {H H1 : Hp} {d x y : D} {v u : V} {σ : L2.St} {Q : VK} {ds : List D} {vs : List V} {env env' : Env'} {E : Ends} {o : So}
theorem PoS.later (e : Ext r r1 H H1) (p : PoS K W r H o E) : PoS K W r1 H1 o E := by
  cases o with
  | nx env h => exact fun r' σ' H' e' => p r' σ' H' (e.trans e')
  | rt d h => exact fun v r' H' e' => p v r' H' (e.trans e')
  | bk env h => exact fun r' σ' H' e' => p r' σ' H' (e.trans e')
  | cn env h => exact fun r' σ' H' e' => p r' σ' H' (e.trans e')
  | rz x env h => exact fun r' σ' H' dO e' => p r' σ' H' dO (e.trans e')
  | bad => exact p
theorem PoS.bs {R : Rg → Hp → α → β → Prop} {f : Env' → DH → Rs α} {g : α → Env' → DH → So} (rh : RH K r h H) (rs : RS K r H env σ) (p : PoS K W r H (bs env (f env h) fun a h1 => g a env h1) E) {Q : β → Hp → Prop}
    (k : ∀ r1 h1 a b H1, Ext r r1 H H1 → RH K r1 h1 H1 → RS K r1 H1 env σ → R r1 H1 a b → PoS K W r1 H1 (g a env h1) E → Q b H1) : tG R K W f σ H Q := by
  refine ⟨r, env, h, rh, rs, ?_⟩
  cases hf : f env h with
  | ok a h1 =>
    rw [hf] at p
    exact fun b r' H' e q q' => k r' h1 a b H' e q (rs.mono e) q' (PoS.later e p)
  | rz x h1 =>
    rw [hf] at p
    exact fun r' H' dO e q q' => p r' σ H' dO e q (rs.mono e) q'
  | bad =>
    rw [hf] at p
    exact p
theorem RS.set {i : Nat} (rs : RS K r H env σ) (rv : RV K r H d v) : RS K r H (env.set i (some d)) (σ.set i (some v)) := by
  refine ⟨by rw [List.length_set, List.length_set, rs.1], fun j e hj => ?_⟩
  by_cases hij : j = i
  · subst hij
    have hl : j < env.length := by
      have := (List.getElem?_eq_some_iff.mp hj).1
      rwa [List.length_set] at this
    rw [List.getElem?_set_self hl] at hj
    cases hj
    exact ⟨v, List.getElem?_set_self (by rw [← rs.1]; exact hl), rv⟩
  · rw [List.getElem?_set_ne (Ne.symm hij)] at hj
    obtain ⟨w, h1, h2⟩ := rs.2 j e hj
    exact ⟨w, by rw [List.getElem?_set_ne (Ne.symm hij)]; exact h1, h2⟩
theorem wipe_set {i : Nat} {z : Option V} : ∀ {vs : List Nat} {σ : L2.St}, i ∈ vs → wipe (σ.set i z) vs = wipe σ vs
  | [], σ, h => by simp at h
  | j :: vs, σ, h => by
    unfold wipe
    by_cases hi : i ∈ vs
    · rw [wipe_set hi]
    · have hij : i = j := by
        rcases List.mem_cons.mp h with e | e
        · exact e
        · exact absurd e hi
      subst hij
      apply List.ext_getElem?
      intro k
      by_cases hk : k = i
      · subst hk
        rw [List.getElem?_set, List.getElem?_set]
        simp [wipe_length]
      · rw [List.getElem?_set_ne (Ne.symm hk), List.getElem?_set_ne (Ne.symm hk)]
        by_cases hv : k ∈ vs
        · have wk : ∀ {ws : List Nat} {τ : L2.St}, k ∈ ws → (wipe τ ws)[k]? = if k < τ.length then some none else none := fun {ws} => by
            induction ws with
            | nil => intro τ h; simp at h
            | cons w ws ih =>
              intro τ h
              unfold wipe
              by_cases hw : k = w
              · subst hw
                rw [List.getElem?_set]
                simp [wipe_length]
              · rw [List.getElem?_set_ne (Ne.symm hw)]
                exact ih ((List.mem_cons.mp h).resolve_left hw)
          rw [wk hv, wk hv, List.length_set]
        · rw [wipe_out hv, wipe_out hv, List.getElem?_set_ne (Ne.symm hk)]
mutual
theorem tg_run : ∀ {t : Tg} {d : D} {v : V} {env env' : Env'} {σ : L2.St} {Q : L2.St → Hp → Prop}, RS K r H env σ → RV K r H d v → tgF t d env = some env' →
    (∀ σ', RS K r H env' σ' → (∀ vs : List Nat, (∀ i ∈ tgS t, i ∈ vs) → wipe σ' vs = wipe σ vs) → Q σ' H) → tgR K t v σ H Q
  | .nm i, d, v, env, env', σ, Q, rs, rv, e, k => by
    simp only [tgF, Option.some.injEq] at e
    subst e
    simp only [tgR]
    exact k _ (rs.set rv) fun vs hv => wipe_set (hv i (by simp [tgS]))
  | .tp ts, d, v, env, env', σ, Q, rs, rv, e, k => by
    unfold tgF at e
    split at e
    · rename_i ds e1
      obtain ⟨a, xs, rfl, f, q⟩ := tsq_at rv e1
      simp only [tgR]
      exact ⟨a, xs, rfl, f, by rw [← q.length]; exact tgs_len e, tgs_run rs q e fun σ' rs' hw => k σ' rs' fun vs hv => hw vs (by simpa [tgS] using hv)⟩
    · cases e
theorem tgs_run : ∀ {ts : List Tg} {ds : List D} {vs : List V} {env env' : Env'} {σ : L2.St} {Q : L2.St → Hp → Prop}, RS K r H env σ → RVs K r H ds vs → tgsF ts ds env = some env' →
    (∀ σ', RS K r H env' σ' → (∀ vs : List Nat, (∀ i ∈ tgsS ts, i ∈ vs) → wipe σ' vs = wipe σ vs) → Q σ' H) → tgsR K ts vs σ H Q
  | [], [], vs, env, env', σ, Q, rs, q, e, k => by
    simp only [tgsF, Option.some.injEq] at e
    subst e
    rw [q.inv0]
    simp only [tgsR]
    exact ⟨rfl, k σ rs fun _ _ => rfl⟩
  | [], _ :: _, vs, env, env', σ, Q, rs, q, e, k => by simp [tgsF] at e
  | _ :: _, [], vs, env, env', σ, Q, rs, q, e, k => by simp [tgsF] at e
  | t :: ts, d :: ds, vs, env, env', σ, Q, rs, q, e, k => by
    obtain ⟨v, w, rfl, a, b⟩ := q.inv
    simp only [tgsF] at e
    split at e
    · rename_i e1 he
      simp only [tgsR]
      refine ⟨v, w, rfl, tg_run rs a he fun σ1 rs1 hw1 => tgs_run rs1 b e fun σ2 rs2 hw2 => k σ2 rs2 fun vs hv => ?_⟩
      rw [hw2 vs (fun i hi => hv i (by simp [tgsS, hi])), hw1 vs (fun i hi => hv i (by simp [tgsS, hi]))]
    · cases e
theorem tgs_len : ∀ {ts : List Tg} {ds : List D} {env env' : Env'}, tgsF ts ds env = some env' → ds.length = ts.length
  | [], [], _, _, _ => rfl
  | [], _ :: _, _, _, e => by simp [tgsF] at e
  | _ :: _, [], _, _, e => by simp [tgsF] at e
  | t :: ts, d :: ds, _, _, e => by
    simp only [tgsF] at e
    split at e
    · simp [tgs_len e]
    · cases e
end
end
end Dt

namespace Dt
open PySem PySem.Spec PyProof.Rows L2

theorem PS.imp {X : Cx} {st : Stmt} {t t' : TS} (h : PS X st t) (i : ∀ D σ H, t' D σ H → t D σ H) : PS X st t' := ⟨fun pins s σ H D I q => h.run pins s σ H D I (i D σ H q)⟩
theorem PSs.imp {X : Cx} {st : List Stmt} {t t' : TS} (h : PSs X st t) (i : ∀ D σ H, t' D σ H → t D σ H) : PSs X st t' := ⟨fun pins s σ H D I q => h.run pins s σ H D I (i D σ H q)⟩
def asg (fe : EF) (t : Tg) : SF := fun env h => bs env (fe env h) fun d h1 => match tgF t d env with
  | some e => .nx e h1
  | none => .bad
/-- o[i] = e, a list of ours -/
def setItD (o i v : D) (h : DH) : Option DH := match mlst h o, i with
  | some (n, ds), .int k => (ixN ds.length k).map fun j => h.set n (.lst (ds.set j v))
  | _, _ => none
def setI (fo fi fe : EF) : SF := fun env h => bs env (fe env h) fun v h1 => bs env (fo env h1) fun o h2 => bs env (fi env h2) fun i h3 => match setItD o i v h3 with
  | some h4 => .nx env h4
  | none => .bad
def augN (i : Nat) (fe : EF) (g : D → D → DH → Rs D) : SF := fun env h => match env[i]? with
  | some (some x) => bs env (fe env h) fun y h1 => bs env (g x y h1) fun z h2 => .nx (env.set i (some z)) h2
  | _ => .bad
def addI (x y : D) (h : DH) : Rs D := match x, y with
  | .int i, .int j => .ok (.int (i + j)) h
  | _, _ => .bad
open Classical in
noncomputable def forS (it : ItD) (t : Tg) (body : SF) : List D → SF
  | [] => fun env h => if srcOk it h then .nx env h else .bad
  | d :: rest => fun env h => if srcOk it h then (match tgF t d env with
      | some e1 => (match body e1 h with
        | .nx e2 h2 => forS it t body rest e2 h2
        | .cn e2 h2 => forS it t body rest e2 h2
        | .bk e2 h2 => .nx e2 h2
        | o => o)
      | none => .bad) else .bad
noncomputable def forE (fi : IF) (t : Tg) (body : SF) : SF := fun env h => bs env (fi env h) fun it h1 => forS it t body it.items env h1
def whF (t : TF) (body : SF) : Nat → SF
  | 0 => fun _ _ => .bad
  | n + 1 => fun env h => bs env (t env h) fun b h1 => if b = true then (match body env h1 with
      | .nx e2 h2 => whF t body n e2 h2
      | .cn e2 h2 => whF t body n e2 h2
      | .bk e2 h2 => .nx e2 h2
      | o => o) else .nx env h1
/-- turns enough for any loop -/
def many : Nat := 1000000

section
variable {X : Cx} {W : WX} {K : PySem.W.Frag} {r r0 r1 : Rg} {h : DH} {H H1 : Hp} {d x y : D} {v u : V} {σ : L2.St} {Q : VK} {ds : List D} {vs : List V} {env env' : Env'} {E : Ends} {o : So}
  {st : Stmt} {rest : List Stmt} {f g : SF} {e tg : Expr} {fe fo fi : EF} {t : Tg} {pos pos' : Pos} {tf : TF}
theorem dss_nil : PSs X [] (tS X.K W skp) := PSs.imp pss_nil fun D σ H ⟨r, env, h, rh, rs, p⟩ => p r σ H .refl rh rs
theorem ds_pass : PS X (.Pass pos) (tS X.K W skp) := PS.imp ps_pass fun D σ H ⟨r, env, h, rh, rs, p⟩ => p r σ H .refl rh rs
theorem ds_doc {z j} : PS X (.Expr (.Constant (.str z) j pos) pos') (tS X.K W skp) := PS.imp ps_doc fun D σ H ⟨r, env, h, rh, rs, p⟩ => p r σ H .refl rh rs
theorem dss_cons (h1 : PS X st (tS X.K W f)) (h2 : PSs X rest (tS X.K W g)) : PSs X (st :: rest) (tS X.K W (seq f g)) :=
  PSs.imp (pss_cons h1 h2) fun D σ H ⟨r, env, h, rh, rs, p⟩ => by
    refine ⟨r, env, h, rh, rs, ?_⟩
    unfold seq sq2 at p
    cases hf : f env h with
    | nx e1 h1 =>
      rw [hf] at p
      exact fun r' σ' H' ex q q' => ⟨r', e1, h1, q, q', PoS.later ex p⟩
    | rt d h1 => rw [hf] at p; exact p
    | bk e1 h1 => rw [hf] at p; exact p
    | cn e1 h1 => rw [hf] at p; exact p
    | rz z e1 h1 => rw [hf] at p; exact p
    | bad => rw [hf] at p; exact p
theorem dss_one (h1 : PS X st (tS X.K W f)) : PSs X [st] (tS X.K W f) := pss_one h1
theorem ds_break : PS X (.Break pos) (tS X.K W brk) := PS.imp ps_break fun D σ H ⟨r, env, h, rh, rs, p⟩ => p r σ H .refl rh rs
theorem ds_continue : PS X (.Continue pos) (tS X.K W cnt) := PS.imp ps_continue fun D σ H ⟨r, env, h, rh, rs, p⟩ => p r σ H .refl rh rs
theorem ds_ret (he : PE X e (tE X.K W fe)) : PS X (.Return (some e) pos) (tS X.K W (ret fe)) :=
  PS.imp (ps_ret he) fun D σ H ⟨r, env, h, rh, rs, p⟩ => PoS.bs (R := RV X.K) (g := fun d _ h1 => .rt d h1) rh rs p fun r1 h1 a b H1 ex rh1 rs1 ra p1 => p1 b r1 H1 .refl rh1 ra
theorem ds_retN : PS X (.Return none pos) (tS X.K W retN) :=
  PS.imp ps_retN fun D σ H ⟨r, env, h, rh, rs, p⟩ => p .non r H .refl rh (rv_non.mpr rfl)
theorem ds_expr (he : PE X e (tE X.K W fe)) (hs : swapsWith e none pos.line X.env = pure false := by rfl) : PS X (.Expr e pos) (tS X.K W (drp fe)) :=
  PS.imp (ps_expr he hs) fun D σ H ⟨r, env, h, rh, rs, p⟩ => PoS.bs (R := RV X.K) (g := fun _ env h1 => .nx env h1) rh rs p fun r1 h1 a b H1 ex rh1 rs1 ra p1 => p1 r1 σ H1 .refl rh1 rs1
theorem ds_if {c : Expr} {a b : List Stmt} (hc : PT X c (tT X.K W tf)) (ha : PSs X a (tS X.K W f)) (hb : PSs X b (tS X.K W g)) : PS X (.If c a b pos) (tS X.K W (ife tf f g)) :=
  PS.imp (ps_if hc ha hb) fun D σ H ⟨r, env, h, rh, rs, p⟩ => PoS.bs (R := RB) (g := fun b env h1 => if b = true then f env h1 else g env h1) rh rs p fun r1 h1 a b H1 ex rh1 rs1 ra p1 => by
    cases ra
    cases a with
    | true => exact iteT ⟨r1, env, h1, rh1, rs1, p1⟩
    | false => exact iteF ⟨r1, env, h1, rh1, rs1, p1⟩
theorem ds_asg (he : PE X e (tE X.K W fe)) (hg : PG X tg (tgR X.K t)) (hs : swapsWithSole [tg] e pos.line X.env = pure false := by rfl) (hw : swappedStores [tg] e X.env = pure none := by rfl)
    (h1 : (assignEach [tg] X.env).map (·.2) = [assign tg X.env] := by rfl) : PS X (.Assign [tg] e pos) (tS X.K W (asg fe t)) :=
  PS.imp (ps_asg he hg hs hw h1) fun D σ H ⟨r, env, h, rh, rs, p⟩ => PoS.bs (R := RV X.K) (g := fun d env h1 => match tgF t d env with
  | some e => .nx e h1
  | none => .bad) rh rs p fun r1 h1 a b H1 ex rh1 rs1 ra p1 => by
    split at p1
    · rename_i e1 he1
      exact tg_run rs1 ra he1 fun σ' rs' _ => p1 r1 σ' H1 .refl rh1 rs'
    · exact p1.elim
theorem ds_set {i : Nat} {z : Str} {pos' : Pos} (hN : X.N.Nodup) (hi : X.N[i]? = some z) (hx : Loc X.env.scope z) (he : PE X e (tE X.K W fe)) (hs : swapsWith e (some (.Name z pos')) pos.line X.env = pure false := by rfl)
    (hf : X.fn z = true ∨ X.env.scope.names.lookup z = some .local := by first | exact .inl rfl | exact .inr rfl | assumption) : PS X (.Assign [.Name z pos'] e pos) (tS X.K W (asg fe (.nm i))) :=
  PS.imp (ps_set hN hi hx he hs hf) fun D σ H ⟨r, env, h, rh, rs, p⟩ => PoS.bs (R := RV X.K) (g := fun d env h1 => match tgF (.nm i) d env with
  | some e => .nx e h1
  | none => .bad) rh rs p fun r1 h1 a b H1 ex rh1 rs1 ra p1 => p1 r1 _ H1 .refl rh1 (rs1.set ra)
theorem put_of {oo ii vv : D} {ov iv v : V} {h h4 : DH} (rh : RH K r h H) (ro : RV K r H oo ov) (ri : RV K r H ii iv) (rv : RV K r H vv v) (e : setItD oo ii vv h = some h4) {Q : Hp → Prop}
    (k : ∀ H', Ext r r H H' → RH K r h4 H' → Q H') : rSetL ov iv v H Q := by
  unfold setItD at e
  split at e
  · rename_i n ds kk e1
    obtain ⟨j, hj, rfl⟩ := Option.map_eq_some_iff.mp e
    obtain ⟨a, ws, rfl, ha, f, q⟩ := mlst_at rh ro e1
    refine ⟨a, ws, kk, j, rfl, rv_int.mp ri, f, by rw [← q.length]; exact hj, ?_⟩
    obtain ⟨ex, rh'⟩ := rh.put (o := .lst (ds.set j vv)) (u := .lst (ws.set j v)) ha fun H' ex e' => ⟨_, e', RVs.set (rv.mono ex) j (q.mono ex)⟩
    exact k _ ex rh'
  · cases e
theorem ds_setI {oe ie : Expr} (ho : PE X oe (tE X.K W fo)) (hi : PE X ie (tE X.K W fi)) (he : PE X e (tE X.K W fe))
    (ha : ∀ v, assign (.Subscript oe ie pos') X.env v = (do
      let ov ← holding [v] (eval oe X.env)
      let iv ← holding [v, ov] (eval ie X.env)
      standAt pos'
      holding [v, ov, iv] (setItem ov iv v)
      release [v, ov, iv] []) := by intro v; rfl) (hs : swapsWithSole [.Subscript oe ie pos'] e pos.line X.env = pure false := by rfl) (hw : swappedStores [.Subscript oe ie pos'] e X.env = pure none := by rfl)
    (h1 : (assignEach [.Subscript oe ie pos'] X.env).map (·.2) = [assign (.Subscript oe ie pos') X.env] := by rfl) : PS X (.Assign [.Subscript oe ie pos'] e pos) (tS X.K W (setI fo fi fe)) :=
  PS.imp (ps_asg he (pg_sub ho hi set_list ha) hs hw h1) fun D σ H ⟨r, env, h, rh, rs, p⟩ => PoS.bs (R := RV X.K) (g := fun v env h1 => bs env (fo env h1) fun o h2 => bs env (fi env h2) fun i h3 => match setItD o i v h3 with
  | some h4 => .nx env h4
  | none => .bad) rh rs p fun r1 h1 vd v H1 ex1 rh1 rs1 rv p1 =>
    PoS.bs (R := RV X.K) (f := fo) (g := fun o env h2 => bs env (fi env h2) fun i h3 => match setItD o i vd h3 with
  | some h4 => .nx env h4
  | none => .bad) rh1 rs1 p1 fun r2 h2 od ov H2 ex2 rh2 rs2 ro p2 =>
      PoS.bs (R := RV X.K) (f := fi) (g := fun i env h3 => match setItD od i vd h3 with
  | some h4 => .nx env h4
  | none => .bad) rh2 rs2 p2 fun r3 h3 id iv H3 ex3 rh3 rs3 ri p3 => by
        split at p3
        · rename_i h4 e4
          exact put_of rh3 (ro.mono ex3) ri ((rv.mono ex2).mono ex3) e4 fun H' ex rh' => p3 r3 σ H' ex rh' (rs3.mono ex)
        · exact p3.elim
theorem ds_aug {i : Nat} {z : Str} {pos' : Pos} (hN : X.N.Nodup) (hi : X.N[i]? = some z) (hx : Loc X.env.scope z) (he : PE X e (tE X.K W fe))
    (hf : X.fn z = true ∨ X.env.scope.names.lookup z = some .local := by first | exact .inl rfl | exact .inr rfl | assumption) : PS X (.AugAssign (.Name z pos') .Add e pos) (tS X.K W (augN i fe addI)) :=
  PS.imp (ps_aug hN hi hx he ip_add hf) fun D σ H ⟨r, env, h, rh, rs, p⟩ => by
    unfold augN at p
    split at p
    · rename_i x hx0
      obtain ⟨v, e1, rx⟩ := rs.2 i x hx0
      refine ⟨v, e1, PoS.bs (R := RV X.K) (g := fun y env h1 => bs env (addI x y h1) fun z h2 => .nx (env.set i (some z)) h2) rh rs p fun r1 h1 y u H1 ex rh1 rs1 ru p1 => ?_⟩
      unfold addI at p1
      split at p1
      · exact ⟨_, _, rv_int.mp (rx.mono ex), rv_int.mp ru, p1 r1 _ H1 .refl rh1 (rs1.set (rv_int.mpr rfl))⟩
      · exact p1.elim
    · exact p.elim

/-! ### loops -/
theorem ds_for {iter : Expr} {body : List Stmt} {fi : IF} (hp : PassesOwn (model X.prog X.w) X.A X.env X.xe) (hc : X.calm = true) (hi : PI X tg iter (tI X.K W fi)) (hg : PG X tg (tgR X.K t)) (hb : PSs X body (tS X.K W f))
    (hs : ∀ x, foldedSetIterable iter X.env x = pure x := by intro _; rfl) : PS X (.For tg iter body [] pos) (tS X.K W (forE fi t f)) :=
  PS.imp (ps_for hp hc hi hg hb hs) fun D σ H ⟨r, env, h, rh, rs, p⟩ => PoS.bs (R := RI X.K) (f := fi) (g := fun it env h1 => forS it t f it.items env h1) rh rs p fun r1 h1 it J H1 ex1 rh1 rs1 rj p1 => by
    refine ⟨fun i m σ H => i ≤ it.items.length ∧ m = it.items.length - i ∧ ∃ r env h, Ext r1 r H1 H ∧ RH X.K r h H ∧ RS X.K r H env σ ∧ PoS X.K W r H (forS it t f (it.items.drop i) env h) D,
      ⟨it.items.length, Nat.zero_le _, rfl, r1, env, h1, .refl, rh1, rs1, p1⟩, fun i m σ H hW => ?_⟩
    obtain ⟨hil, rfl, r2, env2, h2, ex2, rh2, rs2, p2⟩ := hW
    by_cases hi : i < it.items.length
    · rw [List.drop_eq_getElem_cons hi] at p2
      unfold forS at p2
      split at p2
      · rename_i so
        have key := rj r2 h2 H ex2.wx rh2 so i
        obtain ⟨go, yl⟩ := key.1 _ (List.getElem?_eq_getElem hi)
        split at p2
        · rename_i e3 he3
          refine .inr ⟨go, fun σ' H' => ∃ r env h, Ext r1 r H1 H' ∧ RH X.K r h H' ∧ RS X.K r H' env σ' ∧ PoS X.K W r H' (forS it t f (it.items.drop (i + 1)) env h) D, fun σ' H' ⟨r', e', h', q1, q2, q3, q4⟩ => ⟨_, by omega, by omega, rfl, r', e', h', q1, q2, q3, q4⟩, fun x H' hy => ?_⟩
          obtain ⟨exy, rhy, rvy⟩ := yl x H' hy
          refine tg_run (rs2.mono exy) rvy he3 fun σ' rs' _ => ⟨r2, e3, h2, rhy, rs', ?_⟩
          have p3 := PoS.later exy p2
          cases hbd : f e3 h2 with
          | nx e4 h4 =>
            rw [hbd] at p3
            exact fun r' σ'' H'' ex q q' => ⟨r', e4, h4, (ex2.trans exy).trans ex, q, q', PoS.later ex p3⟩
          | cn e4 h4 =>
            rw [hbd] at p3
            exact fun r' σ'' H'' ex q q' => ⟨r', e4, h4, (ex2.trans exy).trans ex, q, q', PoS.later ex p3⟩
          | bk e4 h4 => rw [hbd] at p3; exact p3
          | rt d h4 => rw [hbd] at p3; exact p3
          | rz z e4 h4 => rw [hbd] at p3; exact p3
          | bad => rw [hbd] at p3; exact p3
        · exact p2.elim
      · exact p2.elim
    · have hn : it.items.drop i = [] := List.drop_eq_nil_of_le (by omega)
      rw [hn] at p2
      unfold forS at p2
      split at p2
      · rename_i so
        exact .inl ⟨(rj r2 h2 H ex2.wx rh2 so i).2 (by omega), p2 r2 σ H .refl rh2 rs2⟩
      · exact p2.elim
theorem ds_while {c : Expr} {body : List Stmt} (n : Nat) (hp : PassesOwn (model X.prog X.w) X.A X.env X.xe) (hc : PT X c (tT X.K W tf)) (hb : PSs X body (tS X.K W f)) : PS X (.While c body [] pos) (tS X.K W (whF tf f n)) :=
  PS.imp (ps_while hp hc hb) fun D σ H ⟨r, env, h, rh, rs, p⟩ => by
    refine ⟨fun m σ H => ∃ r env h, RH X.K r h H ∧ RS X.K r H env σ ∧ PoS X.K W r H (whF tf f m env h) D, ⟨n, r, env, h, rh, rs, p⟩, fun m σ H ⟨r1, env1, h1, rh1, rs1, p1⟩ => ?_⟩
    cases m with
    | zero => exact p1.elim
    | succ m =>
      unfold whF at p1
      refine PoS.bs (R := RB) (f := tf) (g := fun b env h1 => if b = true then (match f env h1 with
      | .nx e2 h2 => whF tf f m e2 h2
      | .cn e2 h2 => whF tf f m e2 h2
      | .bk e2 h2 => .nx e2 h2
      | o => o) else .nx env h1) rh1 rs1 p1 fun r2 h2 a b H2 ex rh2 rs2 ra p2 => ?_
      cases ra
      cases a with
      | true =>
        refine iteT ⟨fun σ' H' => ∃ r env h, RH X.K r h H' ∧ RS X.K r H' env σ' ∧ PoS X.K W r H' (whF tf f m env h) D, fun σ' H' q => ⟨m, Nat.lt_succ_self m, q⟩, r2, env1, h2, rh2, rs2, ?_⟩
        have p3 := p2
        rw [if_pos rfl] at p3
        cases hbd : f env1 h2 with
        | nx e4 h4 =>
          rw [hbd] at p3
          exact fun r' σ'' H'' ex q q' => ⟨r', e4, h4, q, q', PoS.later ex p3⟩
        | cn e4 h4 =>
          rw [hbd] at p3
          exact fun r' σ'' H'' ex q q' => ⟨r', e4, h4, q, q', PoS.later ex p3⟩
        | bk e4 h4 => rw [hbd] at p3; exact p3
        | rt d h4 => rw [hbd] at p3; exact p3
        | rz z e4 h4 => rw [hbd] at p3; exact p3
        | bad => rw [hbd] at p3; exact p3
      | false =>
        refine iteF ?_
        rw [if_neg Bool.false_ne_true] at p2
        exact p2 r2 σ H2 .refl rh2 rs2
end
end Dt

namespace Dt
open PySem PySem.Spec PyProof.Rows L2

/-! ### list comprehensions -/
abbrev noW : WX := fun _ _ _ _ => False
def wipD (env : Env') : List Nat → Env'
  | [] => env
  | v :: vs => (wipD env vs).set v none
def tyes : TF := fun _ h => .ok true h
open Classical in
noncomputable def lcS (it : ItD) (t : Tg) (tt : TF) (fe : EF) (env : Env') : List D → List D → DH → Rs (List D)
  | [], acc, h => if srcOk it h then .ok acc h else .bad
  | d :: rest, acc, h => if srcOk it h then (match tgF t d env with
      | some e1 => (match tt e1 h with
        | .ok b h1 => if b = true then (match fe e1 h1 with
            | .ok y h2 => if acc.length < 1000000 then lcS it t tt fe env rest (acc ++ [y]) h2 else .bad
            | _ => .bad) else lcS it t tt fe env rest acc h1
        | _ => .bad)
      | none => .bad) else .bad
noncomputable def lcE (fi : IF) (t : Tg) (tt : TF) (fe : EF) (vs : List Nat) : EF := fun env h => bd (fi env h) fun it h1 => bd (lcS it t tt fe (wipD env vs) it.items [] h1) fun ds h2 => .ok (.lst ds) h2
section
variable {X : Cx} {W : WX} {K : PySem.W.Frag} {r r0 r1 : Rg} {h : DH} {H H1 : Hp} {d x y : D} {v u : V} {σ : L2.St} {Q : VK} {ds : List D} {env env' : Env'} {E : Ends} {o : So}
  {st : Stmt} {rest : List Stmt} {f g : SF} {elt tg iter : Expr} {ifs : List Expr} {fe fo : EF} {fi : IF} {t : Tg} {pos pos' : Pos} {tf tt : TF}
theorem wipD_len (env : Env') : ∀ vs : List Nat, (wipD env vs).length = env.length
  | [] => rfl
  | v :: vs => by unfold wipD; rw [List.length_set, wipD_len env vs]
theorem RS.wipe : ∀ (vs : List Nat), RS K r H env σ → RS K r H (wipD env vs) (wipe σ vs)
  | [], rs => rs
  | v :: vs, rs => by
    have ih := RS.wipe vs rs
    unfold wipD L2.wipe
    refine ⟨by rw [List.length_set, List.length_set, ih.1], fun i d hi => ?_⟩
    by_cases hv : i = v
    · subst hv
      have hl : i < (wipD env vs).length := by
        have := (List.getElem?_eq_some_iff.mp hi).1
        rwa [List.length_set] at this
      rw [List.getElem?_set_self hl] at hi
      cases hi
    · rw [List.getElem?_set_ne (Ne.symm hv)] at hi
      obtain ⟨z, e1, e2⟩ := ih.2 i d hi
      exact ⟨z, by rw [List.getElem?_set_ne (Ne.symm hv)]; exact e1, e2⟩
theorem wipe_get (σ : L2.St) {k : Nat} : ∀ {vs : List Nat}, k ∈ vs → (wipe σ vs)[k]? = if k < σ.length then some none else none
  | [], h => by simp at h
  | w :: ws, h => by
    unfold L2.wipe
    by_cases hw : k = w
    · subst hw
      rw [List.getElem?_set]
      simp [wipe_length]
    · rw [List.getElem?_set_ne (Ne.symm hw)]
      exact wipe_get σ ((List.mem_cons.mp h).resolve_left hw)
theorem wipe_wipe (σ : L2.St) (vs : List Nat) : wipe (wipe σ vs) vs = wipe σ vs := by
  apply List.ext_getElem?
  intro k
  by_cases hv : k ∈ vs
  · rw [wipe_get _ hv, wipe_get _ hv, wipe_length]
  · rw [wipe_out hv]
/-- the reading of a comprehension's walk -/
theorem lc_run {vs : List Nat} {it : ItD} {J : It} (rh : RH K r1 h H1) (rs : RS K r1 H1 env σ) (rj : RI K r1 H1 it J) (hv : ∀ i ∈ tgS t, i ∈ vs) {Q : VK}
    (p : Po (RV K) K W r1 σ H1 (bd (lcS it t tt fe (wipD env vs) it.items [] h) fun ds h2 => .ok (D.lst ds) h2) Q) :
    ∀ q0, H1 q0 = none → ∃ Wv : Nat → Nat → Hp → Prop, (∃ m, Wv 0 m (upd H1 q0 (.lst []))) ∧ ∀ i m H, Wv i m H →
      (J.stop i H ∧ Q (.ref q0) H) ∨ (J.go i H ∧ ∃ Nx : Hp → Prop, (∀ H', Nx H' → ∃ m', m' < m ∧ Wv (i + 1) m' H') ∧ ∀ x H', J.yld i H x H' → tgR K t x (wipe σ vs) H' fun σ2 H2 => wipe σ2 vs = wipe σ vs ∧ tT K noW tt σ2 H2 fun b H3 =>
        if b = true then tE K noW fe σ2 H3 fun y H4 => ∃ acc, H4 q0 = some (.lst acc) ∧ acc.length < sizeLine ∧ Nx (upd H4 q0 (.lst (acc ++ [y]))) else Nx H3) := by
  intro q0 hD
  -- what holds between two turns: the list stands hidden at q0
  let Wv : Nat → Hp → Prop := fun i H => ∃ r h acc vacc, Wx r1 (r.ban q0) H1 H ∧ Ext r1 r H1 H ∧ RH K (r.ban q0) h H ∧ H q0 = some (.lst vacc) ∧ RVs K (r.ban q0) H acc vacc ∧
      Po (RV K) K W r1 σ H1 (bd (lcS it t tt fe (wipD env vs) (it.items.drop i) acc h) fun ds h2 => .ok (D.lst ds) h2) Q
  obtain ⟨e0, _⟩ := rh.lay (o := .lst []) hD
  obtain ⟨w0, rh0⟩ := rh.hide (o := .lst []) hD
  have nb := rh.out hD
  refine ⟨fun i m H => i ≤ it.items.length ∧ m = it.items.length - i ∧ Wv i H, ⟨it.items.length, Nat.zero_le _, rfl, r1, h, [], [], w0, e0, rh0, upd_same, .nil, p⟩, fun i m H hW => ?_⟩
  obtain ⟨hil, rfl, r2, h2, acc, vacc, wx2, ex2, rhB, hDa, qa, p2⟩ := hW
  by_cases hi : i < it.items.length
  · rw [List.drop_eq_getElem_cons hi] at p2
    unfold lcS at p2
    split at p2
    · rename_i so
      obtain ⟨go, yl⟩ := (rj (r2.ban q0) h2 H wx2 rhB so i).1 _ (List.getElem?_eq_getElem hi)
      split at p2
      · rename_i e3 he3
        refine .inr ⟨go, fun H' => Wv (i + 1) H', fun H' q => ⟨_, by omega, by omega, rfl, q⟩, fun x H' hy => ?_⟩
        obtain ⟨exy, rhy, rvy⟩ := yl x H' hy
        have rsw := (rs.wmono (wx2.trans exy.wx)).wipe vs
        refine tg_run rsw rvy he3 fun σ' rs' hw => ⟨by rw [hw vs hv, wipe_wipe], r2.ban q0, e3, h2, rhy, rs', ?_⟩
        cases ht : tt e3 h2 with
        | ok b h3 =>
          intro b' r3 H3 ex3 rh3 rb
          cases rb
          rw [ht] at p2
          have e23 := exy.trans ex3
          obtain ⟨ix3, bn3⟩ := r3
          obtain rfl : bn3 = q0 :: r2.bn := e23.bn
          cases b with
          | true =>
            dsimp only at p2
            rw [if_pos rfl] at p2
            refine iteT ⟨_, e3, h3, rh3, rs'.mono ex3, ?_⟩
            cases hf : fe e3 h3 with
            | ok y h4 =>
              intro vy r4 H4 ex4 rh4 ry
              rw [hf] at p2
              dsimp only at p2
              have e24 := e23.trans ex4
              obtain ⟨ix4, bn4⟩ := r4
              obtain rfl : bn4 = q0 :: r2.bn := e24.bn
              have hq : H4 q0 = some (.lst vacc) := (e24.bk q0 List.mem_cons_self).trans hDa
              split at p2
              · rename_i hl
                obtain ⟨w5, rh5⟩ := RH.rehide (r := ⟨ix4, r2.bn⟩) (a := q0) (u := .lst (vacc ++ [vy])) rh4
                have w4 := (wx2.trans e24.wx).trans w5
                refine ⟨vacc, hq, by rw [← qa.length]; exact line_lt (by omega), ⟨ix4, r2.bn⟩, h4, acc ++ [y], vacc ++ [vy], w4, ?_, rh5, upd_same, ?_, p2⟩
                · exact Ext.under (r2 := ⟨ix4, r2.bn⟩) ex2 e24 hD nb (fun b hb => upd_ne hb) (by rw [upd_same]; simp)
                · exact (qa.wmono (e24.wx.trans w5)).append (.one (ry.wmono w5))
              · exact p2.elim
            | rz z h4 => rw [hf] at p2; exact p2.elim
            | bad => rw [hf] at p2; exact p2.elim
          | false =>
            dsimp only at p2
            rw [if_neg Bool.false_ne_true] at p2
            have hq : H3 q0 = some (.lst vacc) := (e23.bk q0 List.mem_cons_self).trans hDa
            exact iteF ⟨⟨ix3, r2.bn⟩, h3, acc, vacc, wx2.trans e23.wx, Ext.under (r2 := ⟨ix3, r2.bn⟩) ex2 e23 hD nb (fun _ _ => rfl) (by rw [hq]; simp), rh3, hq, qa.mono e23, p2⟩
        | rz z h3 => rw [ht] at p2; exact p2.elim
        | bad => rw [ht] at p2; exact p2.elim
      · exact p2.elim
    · exact p2.elim
  · have hn : it.items.drop i = [] := List.drop_eq_nil_of_le (by omega)
    rw [hn] at p2
    unfold lcS at p2
    obtain ⟨wsh, rh2⟩ := rhB.show_
    split at p2
    · rename_i so
      refine .inl ⟨(rj r2 h2 H ex2.wx rh2 so i).2 (by omega), p2 _ r2 H ex2 rh2 ?_⟩
      simp only [RV]
      exact ⟨q0, vacc, rfl, ⟨hDa, Rg.ban_out rhB⟩, qa.wmono wsh⟩
    · exact p2.elim
abbrev blkX (X : Cx) (s : Shared) (H : Hp) (scope : Scope) (cl : List (Str × Addr)) (C : Addr) (fp : List Addr) : Cx := X.blk s H scope (compEnvC scope cl C X.env) fp
theorem dts_nil : PTs X [] (tT X.K W tyes) := ⟨fun pins s σ H Q I ⟨r, env, h, rh, rs, p⟩ => pts_nil.run pins s σ H Q I (p true r H .refl rh rfl)⟩
theorem dts_one {c : Expr} (hc : PT X c (tT X.K W tf)) : PTs X [c] (tT X.K W tf) := pts_one hc
theorem de_lc {scope : Scope} {own : List (Str × Nat)} (hc : X.calm = true) (hN : X.N.Nodup) (hi : PI X tg iter (tI X.K W fi)) (ok : BlkOk X.N X.env.scope scope own)
    (hg : ∀ (s : Shared) (H : Hp) (C : Addr) (cl : List (Str × Addr)) (fp : List Addr), PG (blkX X s H scope cl C fp) tg (tgR X.K t)) (ht : ∀ (s : Shared) (H : Hp) (C : Addr) (cl : List (Str × Addr)) (fp : List Addr), PTs (blkX X s H scope cl C fp) ifs (tT X.K noW tt))
    (he : ∀ (s : Shared) (H : Hp) (C : Addr) (cl : List (Str × Addr)) (fp : List Addr), PE (blkX X s H scope cl C fp) elt (tE X.K noW fe)) (hv : ∀ i ∈ tgS t, i ∈ own.map (·.2) := by decide) (hs : ∀ x, foldedSetIterable iter X.env x = pure x := by intro _; rfl) :
    PE X (.ListComp elt [⟨tg, iter, ifs, 0⟩] scope pos) (tE X.K W (lcE fi t tt fe (own.map (·.2)))) :=
  PE.imp (pe_lc hc hN hi ok hg ht he hs) fun σ H Q p => tG.first (R := RI X.K) (f := fi) (g := fun it env h1 => bd (lcS it t tt fe (wipD env (own.map (·.2))) it.items [] h1) fun ds h2 => .ok (D.lst ds) h2) p fun r0 env h1 it J H1 rh rs rj p1 =>
    lc_run rh rs rj hv p1
/-- y = [..] -/
theorem ds_setLc {i : Nat} {z : Str} {py spos : Pos} {scope : Scope} {own : List (Str × Nat)} (hc : X.calm = true) (hN : X.N.Nodup) (hy : X.N[i]? = some z) (hyl : X.env.scope.names.lookup z = some .local)
    (hsw : swapsWith (.ListComp elt [⟨tg, iter, ifs, 0⟩] scope pos) (some (.Name z py)) spos.line X.env = pure true) (hi : PI X tg iter (tI X.K W fi)) (ok : BlkOk X.N X.env.scope scope own)
    (hg : ∀ (s : Shared) (H : Hp) (C : Addr) (cl : List (Str × Addr)) (fp : List Addr), PG (blkX X s H scope cl C fp) tg (tgR X.K t)) (ht : ∀ (s : Shared) (H : Hp) (C : Addr) (cl : List (Str × Addr)) (fp : List Addr), PTs (blkX X s H scope cl C fp) ifs (tT X.K noW tt))
    (he : ∀ (s : Shared) (H : Hp) (C : Addr) (cl : List (Str × Addr)) (fp : List Addr), PE (blkX X s H scope cl C fp) elt (tE X.K noW fe)) (hv : ∀ i ∈ tgS t, i ∈ own.map (·.2) := by decide) (hs : ∀ x, foldedSetIterable iter X.env x = pure x := by intro _; rfl) :
    PS X (.Assign [.Name z py] (.ListComp elt [⟨tg, iter, ifs, 0⟩] scope pos) spos) (tS X.K W (asg (lcE fi t tt fe (own.map (·.2))) (.nm i))) :=
  PS.imp (ps_setLc hc hN hy hyl hsw hi ok hg ht he hs) fun E σ H ⟨r, env, h, rh, rs, p⟩ =>
    PoS.bs (R := RV X.K) (g := fun d env h1 => match tgF (.nm i) d env with
  | some e => .nx e h1
  | none => .bad) rh rs p (fun r1 h1 a b H1 ex rh1 rs1 ra p1 => p1 r1 _ H1 .refl rh1 (rs1.set ra)) |> fun q =>
    tG.first (R := RI X.K) (f := fi) (g := fun it env h1 => bd (lcS it t tt fe (wipD env (own.map (·.2))) it.items [] h1) fun ds h2 => .ok (D.lst ds) h2) q fun r0 env h1 it J H1 rh rs rj p1 =>
    lc_run rh rs rj hv p1
end
end Dt

namespace Dt
open PySem PySem.Spec PyProof.Rows L2

/-! ### defs -/
abbrev FD := List D → DH → Rs D
def WE (E : XK) : WX := fun c d _ H => E c d H
def spD (K : PySem.W.Frag) (n : Nat) (F : FD) : Sp := fun vs H Q E => ∃ r h ds, ds.length = n ∧ RH K r h H ∧ RVs K r H ds vs ∧ Po (RV K) K (WE E) r [] H (F ds h) Q
abbrev FnD (P : Program) (w : World) (K : PySem.W.Frag) (mg : Str → Option Value) (base : Heap) (k : Nat) (f : Addr) (fd : FuncData) (ps : List Str) (F : FD) : Prop :=
  FnOk P w K mg base (L2.CX P w) k f fd ps (spD K ps.length F)
def startD (N : List Str) (ds : List D) : Env' := ds.map some ++ List.replicate (N.length - ds.length) none
def endD (Q : VK) : Ends := { nx := fun _ H' => Q .non H', rt := Q }
/-- how a body's outcome answers what is told of the def -/
def Exits (h0 : DH) (o : So) (res : Rs D) : Prop :=
  ∀ (K : PySem.W.Frag) (r : Rg) (H : Hp) (Q : VK) (E : XK), RH K r h0 H → Po (RV K) K (WE E) r [] H res Q → PoS K (WE E) r H o (endD Q)
section
variable {P : Program} {w : World} {K : PySem.W.Frag} {mg : Str → Option Value} {base : Heap} {r r' : Rg} {H H' : Hp} {ds : List D} {vs : List V}
theorem RS.start {N : List Str} (q : RVs K r H ds vs) : RS K r H (startD N ds) (L2.start N vs) := by
  unfold startD L2.start
  rw [← q.length]
  refine ⟨by simp [q.length], fun i d hi => ?_⟩
  by_cases hl : i < ds.length
  · rw [List.getElem?_append_left (by simpa using hl), List.getElem?_map] at hi
    obtain ⟨d', h1, h2⟩ := Option.map_eq_some_iff.mp hi
    cases h2
    obtain ⟨v, h3, h4⟩ := q.get h1
    exact ⟨v, by rw [List.getElem?_append_left (by rw [List.length_map, ← q.length]; exact hl), List.getElem?_map, h3]; rfl, h4⟩
  · rw [List.getElem?_append_right (by simpa using hl), List.getElem?_replicate] at hi
    split at hi <;> cases hi
theorem fnd_of {x qual : Str} {st : Stmt} {f : Addr} {fd : FuncData} {N ps : List Str} {k : Nat} {G : FD} {body : SF} (F : Fun K x qual st f fd) (S : FnScope N ps (defScope st))
    (hb : ∀ (cdv : Value) (A : Around) (outer : List Env) (s : Shared) (H : Hp) (E : XK), Room k (A.deeper (envOfC qual (defScope st) s.heap.objs.size f cdv)) →
      PSs (cxOf (L2.CX P w) P w K mg base N qual (defScope st) f cdv A outer s H E) (defBody st) (tS K (WE E) body))
    (he : ∀ ds h, ds.length = ps.length → G ds h ≠ .bad → Exits h (body (startD N ds) h) (G ds h)) : FnD P w K mg base (k + 1) f fd ps G := by
  refine F.okX S (fun vs H Q E ⟨r, h, ds, hl, rh, q, p⟩ => by rw [← q.length, hl]) (fun cdv A outer s H vs Q E hr ⟨r, h, ds, hl, rh, q, p⟩ => ⟨_, hb cdv A outer s H E hr, r, startD N ds, h, rh, RS.start q, ?_⟩)
  exact he ds h hl (fun z => by rw [z] at p; exact p) K r H Q E rh p
theorem exit_rt {h0 h : DH} {d : D} : Exits h0 (.rt d h) (.ok d h) := fun K r H Q E rh p => p
theorem exit_nx {h0 h : DH} {env : Env'} : Exits h0 (.nx env h) (.ok .non h) := fun K r H Q E rh p r' σ' H' e rh' rs => p .non r' H' e rh' (rv_non.mpr rfl)
theorem exit_rz {h0 h : DH} {env : Env'} {x : Exn} : Exits h0 (.rz x env h) (.rz x h) := fun K r H Q E rh p r' σ' H' dO e rh' rs xr => p r' H' dO e rh' xr
theorem exit_bad {h0 : DH} {o : So} : Exits h0 o .bad := fun K r H Q E rh p => p.elim

/-! ### a call leaves nothing but what it tells -/
mutual
def Bel (n : Nat) : D → Prop
  | .tup ds => BelL n ds
  | .wt ds => BelL n ds
  | .lst ds => BelL n ds
  | .dk _ ds => BelL n ds
  | .dt _ ds => BelL n ds
  | .ref m => m < n
  | _ => True
def BelL (n : Nat) : List D → Prop
  | [] => True
  | d :: ds => Bel n d ∧ BelL n ds
end
def BelO (n : Nat) : O → Prop
  | .lst ds => BelL n ds
  | .dk _ ds => BelL n ds
  | .dt _ ds => BelL n ds
  | .ins _ _ ds => BelL n ds
theorem belL_iff {n : Nat} : ∀ {ds : List D}, BelL n ds ↔ ∀ d ∈ ds, Bel n d
  | [] => by simp [BelL]
  | d :: ds => by simp [BelL, belL_iff]
theorem belL_map {α : Type} {n : Nat} {f : α → D} {xs : List α} (h : ∀ x, Bel n (f x)) : BelL n (xs.map f) := by
  rw [belL_iff]
  intro d hd
  obtain ⟨x, _, rfl⟩ := List.mem_map.mp hd
  exact h x
mutual
theorem RV.bel : ∀ {d : D} {v : V}, RV K r H d v → Bel r.ix.length d
  | .non, _, _ => trivial
  | .bl _, _, _ => trivial
  | .int _, _, _ => trivial
  | .str _, _, _ => trivial
  | .con _, _, _ => trivial
  | .scr _, _, _ => trivial
  | .tup ds, _, x => by simp only [RV] at x; obtain ⟨a, vs, _, _, q⟩ := x; simp only [Bel]; exact RVs.bel q
  | .wt ds, _, x => by simp only [RV] at x; obtain ⟨a, vs, _, _, q⟩ := x; simp only [Bel]; exact RVs.bel q
  | .lst ds, _, x => by simp only [RV] at x; obtain ⟨a, vs, _, _, q⟩ := x; simp only [Bel]; exact RVs.bel q
  | .dk ks ds, _, x => by simp only [RV] at x; obtain ⟨a, vs, _, _, _, _, q⟩ := x; simp only [Bel]; exact RVs.bel q
  | .dt ks ds, _, x => by simp only [RV] at x; obtain ⟨a, vs, _, _, _, _, q⟩ := x; simp only [Bel]; exact RVs.bel q
  | .ref n, _, x => by simp only [RV] at x; obtain ⟨a, h1, _⟩ := x; simp only [Bel]; exact (List.getElem?_eq_some_iff.mp h1).1
theorem RVs.bel : ∀ {ds : List D} {vs : List V}, RVs K r H ds vs → BelL r.ix.length ds
  | [], _, _ => trivial
  | d :: ds, _, x => by
    obtain ⟨v, t, _, a, b⟩ := x.inv
    exact ⟨RV.bel a, RVs.bel b⟩
end
theorem RO.bel {a : Addr} {o : O} (x : RO K r H a o) : BelO r.ix.length o := by
  cases o with
  | lst ds => obtain ⟨vs, p, q⟩ := x; exact q.bel
  | dk ks ds => obtain ⟨vs, p, l, q⟩ := x; exact q.bel
  | dt ks ds => obtain ⟨vs, p, l, q⟩ := x; exact q.bel
  | ins C fs ds => obtain ⟨dx, vs, p, l, q⟩ := x; exact q.bel
/-- to fewer objects of ours -/
structure Less (r r' : Rg) : Prop where
  up : ∀ (i : Nat) (a : Addr), r.ix[i]? = some a → r'.ix[i]? = some a
  bn : ∀ a, a ∈ r.bn → a ∈ r'.bn
theorem Less.pre (l : Less r r') (i : Nat) (a : Addr) (h : i < r.ix.length) (e : r'.ix[i]? = some a) : r.ix[i]? = some a := by
  have := l.up i _ (List.getElem?_eq_getElem h)
  rw [this] at e; cases e
  exact List.getElem?_eq_getElem h
theorem Less.sub (l : Less r r') (a : Addr) (m : a ∈ r) : a ∈ r' := by
  rcases m with m | m
  · obtain ⟨i, hi⟩ := List.getElem?_of_mem m
    exact .inl (List.mem_of_getElem? (l.up i a hi))
  · exact .inr (l.bn a m)
theorem Less.out {h : DH} (l : Less r r') (rh : RH K r' h H) {m : Nat} {a : Addr} (hm : r.ix.length ≤ m) (e : r'.ix[m]? = some a) : a ∉ r := fun mm => by
  rcases mm with mm | mm
  · obtain ⟨i, hi⟩ := List.getElem?_of_mem mm
    have hi' : i < r.ix.length := (List.getElem?_eq_some_iff.mp hi).1
    obtain ⟨h1, e1⟩ := List.getElem?_eq_some_iff.mp (l.up i a hi)
    obtain ⟨h2, e2⟩ := List.getElem?_eq_some_iff.mp e
    have := (List.getElem_inj rh.ixnd).mp (e1.trans e2.symm)
    omega
  · exact rh.apart (List.mem_of_getElem? e) (l.bn a mm) rfl
theorem Ext.less (e : Ext r r' H H') : Less r r' := ⟨e.pre, fun a m => by rw [e.bn]; exact m⟩
mutual
theorem RV.less (l : Less r r') : ∀ {d : D} {v : V}, Bel r.ix.length d → RV K r' H d v → RV K r H d v
  | .non, _, _, x => by simp only [RV] at x ⊢; exact x
  | .bl _, _, _, x => by simp only [RV] at x ⊢; exact x
  | .int _, _, _, x => by simp only [RV] at x ⊢; exact x
  | .str _, _, _, x => by simp only [RV] at x ⊢; exact x
  | .con _, _, _, x => by simp only [RV] at x ⊢; exact x
  | .scr _, _, _, x => by
    simp only [RV] at x ⊢
    obtain ⟨a, rfl, f⟩ := x
    exact ⟨a, rfl, f.imp (fun z => ⟨z.1, fun m => z.2 (l.sub _ m)⟩) id⟩
  | .tup ds, _, b, x => by
    simp only [RV, Bel] at x b ⊢
    obtain ⟨a, vs, rfl, f, q⟩ := x
    exact ⟨a, vs, rfl, ⟨f.1, fun m => f.2 (l.sub _ m)⟩, RVs.less l b q⟩
  | .wt ds, _, b, x => by
    simp only [RV, Bel] at x b ⊢
    obtain ⟨a, vs, rfl, f, q⟩ := x
    exact ⟨a, vs, rfl, f, RVs.less l b q⟩
  | .lst ds, _, b, x => by
    simp only [RV, Bel] at x b ⊢
    obtain ⟨a, vs, rfl, f, q⟩ := x
    exact ⟨a, vs, rfl, ⟨f.1, fun m => f.2 (l.sub _ m)⟩, RVs.less l b q⟩
  | .dk ks ds, _, b, x => by
    simp only [RV, Bel] at x b ⊢
    obtain ⟨a, vs, rfl, f, n, e, q⟩ := x
    exact ⟨a, vs, rfl, f, fun m => n (l.sub _ m), e, RVs.less l b q⟩
  | .dt ks ds, _, b, x => by
    simp only [RV, Bel] at x b ⊢
    obtain ⟨a, vs, rfl, f, n, e, q⟩ := x
    exact ⟨a, vs, rfl, f, fun m => n (l.sub _ m), e, RVs.less l b q⟩
  | .ref n, _, b, x => by
    simp only [RV, Bel] at x b ⊢
    obtain ⟨a, h1, rfl⟩ := x
    exact ⟨a, l.pre n a b h1, rfl⟩
theorem RVs.less (l : Less r r') : ∀ {ds : List D} {vs : List V}, BelL r.ix.length ds → RVs K r' H ds vs → RVs K r H ds vs
  | [], _, _, x => by rw [x.inv0]; exact .nil
  | d :: ds, _, b, x => by
    obtain ⟨v, t, rfl, p, q⟩ := x.inv
    exact .cons (RV.less l b.1 p) (RVs.less l b.2 q)
end
theorem RO.less (l : Less r r') {a : Addr} {o : O} (b : BelO r.ix.length o) (x : RO K r' H a o) : RO K r H a o := by
  cases o with
  | lst ds => obtain ⟨vs, p, q⟩ := x; exact ⟨vs, p, q.less l b⟩
  | dk ks ds => obtain ⟨vs, p, e, q⟩ := x; exact ⟨vs, p, e, q.less l b⟩
  | dt ks ds => obtain ⟨vs, p, e, q⟩ := x; exact ⟨vs, p, e, q.less l b⟩
  | ins C fs ds => obtain ⟨dx, vs, p, e, q⟩ := x; exact ⟨dx, vs, p, e, q.less l b⟩
mutual
inductive Rsv (n : Nat) (h : DH) : D → D → Prop
  | keep {d : D} (b : Bel n d) : Rsv n h d d
  | lst {m : Nat} {ds es : List D} (hm : n ≤ m) (e : h[m]? = some (.lst ds)) (q : Rsvs n h ds es) : Rsv n h (.ref m) (.lst es)
  | dk {m : Nat} {ks : List Key} {ds es : List D} (hm : n ≤ m) (e : h[m]? = some (.dk ks ds)) (q : Rsvs n h ds es) : Rsv n h (.ref m) (.dk ks es)
  | dt {m : Nat} {ks : List (List Key)} {ds es : List D} (hm : n ≤ m) (e : h[m]? = some (.dt ks ds)) (q : Rsvs n h ds es) : Rsv n h (.ref m) (.dt ks es)
  | tup {ds es : List D} (q : Rsvs n h ds es) : Rsv n h (.tup ds) (.tup es)
  | lstF {ds es : List D} (q : Rsvs n h ds es) : Rsv n h (.lst ds) (.lst es)
inductive Rsvs (n : Nat) (h : DH) : List D → List D → Prop
  | nil : Rsvs n h [] []
  | cons {d e : D} {ds es : List D} (a : Rsv n h d e) (q : Rsvs n h ds es) : Rsvs n h (d :: ds) (e :: es)
end
theorem Rsvs.keep {n : Nat} {h : DH} : ∀ {ds : List D}, BelL n ds → Rsvs n h ds ds
  | [], _ => .nil
  | d :: ds, b => .cons (.keep b.1) (Rsvs.keep b.2)
mutual
theorem Rsv.run {h : DH} (l : Less r r') (rh : RH K r' h H) : ∀ {d e : D} {v : V}, Rsv r.ix.length h d e → RV K r' H d v → RV K r H e v
  | _, _, v, .keep b, x => x.less l b
  | _, _, v, .lst (m := m) hm e q, x => by
    obtain ⟨a, vs, rfl, ha, p, y⟩ := rh.lst_at x e
    simp only [RV]
    exact ⟨a, vs, rfl, ⟨p, l.out rh hm ha⟩, Rsvs.run l rh q y⟩
  | _, _, v, .dk (m := m) hm e q, x => by
    simp only [RV] at x ⊢
    obtain ⟨a, ha, rfl⟩ := x
    obtain ⟨vs, p, e2, y⟩ := rh.at_ m a _ ha e
    exact ⟨a, vs, rfl, .inl p, l.out rh hm ha, e2, Rsvs.run l rh q y⟩
  | _, _, v, .dt (m := m) hm e q, x => by
    simp only [RV] at x ⊢
    obtain ⟨a, ha, rfl⟩ := x
    obtain ⟨vs, p, e2, y⟩ := rh.at_ m a _ ha e
    exact ⟨a, vs, rfl, .inl p, l.out rh hm ha, e2, Rsvs.run l rh q y⟩
  | _, _, v, .tup q, x => by
    simp only [RV] at x ⊢
    obtain ⟨a, vs, rfl, f, y⟩ := x
    exact ⟨a, vs, rfl, ⟨f.1, fun m => f.2 (l.sub _ m)⟩, Rsvs.run l rh q y⟩
  | _, _, v, .lstF q, x => by
    simp only [RV] at x ⊢
    obtain ⟨a, vs, rfl, f, y⟩ := x
    exact ⟨a, vs, rfl, ⟨f.1, fun m => f.2 (l.sub _ m)⟩, Rsvs.run l rh q y⟩
theorem Rsvs.run {h : DH} (l : Less r r') (rh : RH K r' h H) : ∀ {ds es : List D} {vs : List V}, Rsvs r.ix.length h ds es → RVs K r' H ds vs → RVs K r H es vs
  | _, _, _, .nil, x => by rw [x.inv0]; exact .nil
  | _, _, _, .cons a q, x => by
    obtain ⟨v, t, rfl, y, z⟩ := x.inv
    exact .cons (Rsv.run l rh a y) (Rsvs.run l rh q z)
end
/-- the result frozen, nothing else left -/
theorem exit_cut {h0 h1 h' : DH} {d1 d : D} (hl : h'.length = h0.length) (hh : ∀ (i : Nat) (o : O), h'[i]? = some o → h1[i]? = some o ∧ (h0[i]? = some o ∨ BelO h0.length o)) (hd : Rsv h0.length h1 d1 d) :
    Exits h0 (.rt d1 h1) (.ok d h') := by
  intro K r H Q E rh p v r' H' e rh' rv
  have l := e.less
  have hn := rh.len
  refine p v r H' ⟨fun _ _ q => q, rfl, e.bk, e.keep, fun a m k => absurd m k, e.dom⟩ ⟨hn.trans hl.symm, rh.nd, fun i a o hi ho => ?_, fun a m => by rw [e.bk a m]; exact rh.bt a m⟩ ?_
  · obtain ⟨z1, z2⟩ := hh i o ho
    refine RO.less l ?_ (rh'.at_ i a o (l.up i a hi) z1)
    rcases z2 with z2 | z2
    · exact (rh.at_ i a o hi z2).bel
    · rw [hn]; exact z2
  · rw [← hn] at hd
    exact Rsv.run l rh' hd rv
theorem exit_cutN {h0 h1 h' : DH} {env : Env'} (hl : h'.length = h0.length) (hh : ∀ (i : Nat) (o : O), h'[i]? = some o → h1[i]? = some o ∧ (h0[i]? = some o ∨ BelO h0.length o)) :
    Exits h0 (.nx env h1) (.ok .non h') := fun K r H Q E rh p r' σ' H' e rh' _ =>
  exit_cut (d1 := .non) (d := .non) hl hh (.keep trivial) K r H Q E rh p .non r' H' e rh' (rv_non.mpr rfl)
/-- nothing of what stood was changed -/
theorem exit_pure {h0 g : DH} {d1 d : D} (hd : Rsv h0.length (h0 ++ g) d1 d) : Exits h0 (.rt d1 (h0 ++ g)) (.ok d h0) :=
  exit_cut rfl (fun i o hi => ⟨by rw [List.getElem?_append_left (List.getElem?_eq_some_iff.mp hi).1]; exact hi, .inl hi⟩) hd
end
end Dt

namespace Dt
open PySem PySem.Spec PyProof.Rows L2

def cll (n : Nat) (G : FD) (as : AF) : EF := fun env h => bd (as env h) fun ds h1 => if ds.length = n then G ds h1 else .bad
/-- an instance of ours -/
def insOf (h : DH) (C : Addr) : D → Option (Nat × List Str × List D)
  | .ref n => match h[n]? with
    | some (.ins C' fs ds) => if C' = C then some (n, fs, ds) else none
    | _ => none
  | _ => none
def flk : List Str → List D → Str → Option D
  | f :: fs, d :: ds, x => if x = f then some d else flk fs ds x
  | _, _, _ => none
/-- the places' values with one put -/
def fput : List Str → List D → Str → D → List Str × List D
  | f :: fs, d :: ds, x, v => if f = x then (f :: fs, v :: ds) else ((f :: (fput fs ds x v).1), (d :: (fput fs ds x v).2))
  | _, _, x, v => ([x], [v])
def fld (C : Addr) (f : Str) (fo : EF) : EF := fun env h => bd (fo env h) fun x h1 => match insOf h1 C x with
  | some (_, fs, ds) => (match flk fs ds f with | some d => .ok d h1 | none => .bad)
  | none => .bad
def setF (C : Addr) (f : Str) (fo fe : EF) : SF := fun env h => bs env (fe env h) fun v h1 => bs env (fo env h1) fun x h2 => match insOf h2 C x with
  | some (n, fs, ds) => if fs.length < 900 then .nx env (h2.set n (.ins C (fput fs ds f v).1 (fput fs ds f v).2)) else .bad
  | none => .bad
def augP (C : Addr) (f : Str) (x d y : D) (env : Env') (h2 : DH) : So := match d, y, insOf h2 C x with
  | .int i, .int j, some (n, fs2, ds2) => if fs2.length < 900 then .nx env (h2.set n (.ins C (fput fs2 ds2 f (.int (i + j))).1 (fput fs2 ds2 f (.int (i + j))).2)) else .bad
  | _, _, _ => .bad
def augF (C : Addr) (f : Str) (fo fe : EF) : SF := fun env h => bs env (fo env h) fun x h1 => match insOf h1 C x with
  | some (_, fs, ds) => (match flk fs ds f with
    | some d => bs env (fe env h1) fun y h2 => augP C f x d y env h2
    | none => .bad)
  | none => .bad
def mcl (C : Addr) (m : Str) (n : Nat) (G : FD) (fo : EF) (as : AF) : EF := fun env h => bd (fo env h) fun x h1 => match insOf h1 C x with
  | some (_, fs, _) => if m ∈ fs then .bad else bd (as env h1) fun ds h2 => if ds.length + 1 = n then G (x :: ds) h2 else .bad
  | none => .bad
def mko (C : Addr) (n : Nat) (G : FD) (as : AF) : EF := fun env h => bd (as env h) fun ds h1 => if ds.length + 1 = n then (match G (D.ref h1.length :: ds) (h1 ++ [O.ins C [] []]) with
  | .ok .non h2 => .ok (D.ref h1.length) h2
  | .ok _ _ => .bad
  | .rz x h2 => .rz x h2
  | .bad => .bad) else .bad
section
variable {X : Cx} {W : WX} {E : XK} {K : PySem.W.Frag} {r r0 r1 : Rg} {h : DH} {H H1 : Hp} {d x y : D} {v u : V} {σ : L2.St} {Q : VK} {ds : List D} {vs : List V} {env env' : Env'} {o : So}
  {st : Stmt} {rest : List Stmt} {e oe : Expr} {es : List Expr} {fe fo : EF} {as : AF} {t : Tg} {p pos pos' apos : Pos} {k : Nat} {f C : Addr} {fd : FuncData} {ps : List Str} {G : FD} {nm m : Str} {fs : List Str}
theorem flk_at : ∀ {fs : List Str} {ds : List D} {vs : List V} {f : Str}, fs.length = vs.length → RVs K r H ds vs → (∀ d, flk fs ds f = some d → ∃ v, (fs.zip vs).lookup f = some v ∧ RV K r H d v) ∧ (f ∉ fs → (fs.zip vs).lookup f = none)
  | [], ds, vs, f, l, q => ⟨fun d e => by simp [flk] at e, fun _ => rfl⟩
  | g :: fs, [], vs, f, l, q => by rw [q.inv0] at l; simp at l
  | g :: fs, d :: ds, vs, f, l, q => by
    obtain ⟨v, t, rfl, a, b⟩ := q.inv
    obtain ⟨i1, i2⟩ := flk_at (fs := fs) (f := f) (by simpa using l) b
    rw [List.zip_cons_cons, List.lookup_cons]
    constructor
    · intro d' e
      unfold flk at e
      by_cases hf : f = g
      · rw [if_pos hf] at e
        cases e
        have hb : (f == g) = true := beq_iff_eq.mpr hf
        rw [hb]
        exact ⟨v, rfl, a⟩
      · rw [if_neg hf] at e
        have hb : (f == g) = false := beq_eq_false_iff_ne.mpr hf
        rw [hb]
        exact i1 d' e
    · intro hn
      have hb : (f == g) = false := beq_eq_false_iff_ne.mpr fun z => hn (z ▸ List.mem_cons_self)
      rw [hb]
      exact i2 fun z => hn (List.mem_cons_of_mem _ z)
theorem fput_at : ∀ {fs : List Str} {ds : List D} {vs : List V} {f : Str} {d : D} {v : V}, fs.length = vs.length → RVs K r H ds vs → RV K r H d v →
    ∃ ws, putF f v (fs.zip vs) = (fput fs ds f d).1.zip ws ∧ (fput fs ds f d).1.length = ws.length ∧ RVs K r H (fput fs ds f d).2 ws
  | [], ds, vs, f, d, v, l, q, rd => by
    have hv : vs = [] := List.eq_nil_of_length_eq_zero l.symm
    subst hv
    have hd : ds = [] := List.eq_nil_of_length_eq_zero (by rw [q.length]; rfl)
    subst hd
    exact ⟨[v], rfl, rfl, .one rd⟩
  | g :: fs, [], vs, f, d, v, l, q, rd => by rw [q.inv0] at l; simp at l
  | g :: fs, d0 :: ds, vs, f, d, v, l, q, rd => by
    obtain ⟨z, t, rfl, a, b⟩ := q.inv
    rw [List.zip_cons_cons]
    unfold putF fput
    by_cases hg : g = f
    · rw [if_pos hg, if_pos hg]
      exact ⟨v :: t, rfl, by simpa using l, .cons rd b⟩
    · rw [if_neg hg, if_neg hg]
      obtain ⟨ws, e1, e2, e3⟩ := fput_at (fs := fs) (f := f) (by simpa using l) b rd
      exact ⟨z :: ws, by rw [e1]; rfl, by simp [e2], .cons a e3⟩
theorem ins_at {n : Nat} (rh : RH K r h H) (rv : RV K r H x v) (e : insOf h C x = some (n, fs, ds)) : ∃ a dx vs, v = .ref a ∧ r.ix[n]? = some a ∧ H a = some (.ins C dx (fs.zip vs)) ∧ fs.length = vs.length ∧ RVs K r H ds vs := by
  unfold insOf at e
  split at e
  · split at e
    · rename_i e2
      split at e
      · rename_i hc
        cases e
        subst hc
        simp only [RV] at rv
        obtain ⟨a, ha, rfl⟩ := rv
        obtain ⟨dx, vs, p, l, q⟩ := rh.at_ _ a _ ha e2
        exact ⟨a, dx, vs, rfl, ha, p, l, q⟩
      · cases e
    · cases e
  · cases e
theorem de_callL (F : FnD X.prog X.w X.K X.mg X.base k f fd ps G) (tk : Takes X W) (hr : Room k X.A) (hg : Gl X nm) (hm : X.mg nm = some (.ref f)) (hk : PySem.W.keepIn X.K (.ref f) = true) (hb : Binds X.K fd ps []) (ha : PA X (e :: es) (tA X.K W as))
    (hdb : (nm == ("__debug__" : Str)) = false := by decide) (he : starEach (e :: es) X.env = (false, eval e X.env) :: starEach es X.env := by rfl) (hpl : (backTo pos (starEach es X.env)).any (·.1) = false := by rfl) :
    PE X (.Call (.Name nm p) (e :: es) [] pos) (tE X.K W (cll ps.length G as)) :=
  PE.imp (pe_callS F hr hg hm hk hb (fun σ => passAt tk σ) ha hdb he hpl) fun σ H Q p => tG.first (R := RVs X.K) (f := as) (g := fun ds _ h1 => if ds.length = ps.length then G ds h1 else .bad) p fun r0 env h1 x v H1 rh rs rx p1 => by
    split at p1
    · rename_i hl
      exact ⟨r0, h1, x, hl, rh, rx, by
        cases hG : G x h1 with
        | ok d h2 => rw [hG] at p1; exact p1
        | rz z h2 => rw [hG] at p1; exact p1
        | bad => rw [hG] at p1; exact p1⟩
    · exact p1.elim
theorem po_we {res : Rs D} (p : Po (RV K) K (WE E) r σ H res Q) : Po (RV K) K (WE E) r [] H res Q := by
  cases res with
  | ok d h => exact p
  | rz x h => exact p
  | bad => exact p
theorem de_methL {pl : Sem Bool} (ho : PE X oe (tE X.K (WE E) fo)) (c : Cls X.K C) (hm : Meth X.K C m f) (F : FnD X.prog X.w X.K X.mg X.base k f fd ps G) (tk : Takes X (WE E)) (hr : Room k X.A) (hb : Binds X.K fd ps []) (ha : PA X (e :: es) (tA X.K (WE E) as))
    (hst : starEach (e :: es) X.env = (false, eval e X.env) :: starEach es X.env := by rfl) (hpl : (backTo pos (starEach es X.env)).any (·.1) = false := by rfl)
    (ht : eval (.Call (.Attribute oe m apos) (e :: es) [] pos) X.env = (do
      let ov ← eval oe X.env
      standAt apos.atName
      let (f, first) ← holding [ov] (getMethod ov m pl)
      callWith pos f first (backTo pos (starEach (e :: es) X.env)) (backToKw pos (keywordEach [] X.env))) := by rfl) :
    PE X (.Call (.Attribute oe m apos) (e :: es) [] pos) (tE X.K (WE E) (mcl C m ps.length G fo as)) :=
  PE.imp (pe_meth ho c hm F hr hb .nil (passes_call tk fun _ _ _ _ h => h) ha hst hpl ht) fun σ H Q p => tG.first (R := RV X.K) (f := fo) (g := fun x env h1 => match insOf h1 C x with
  | some (_, fs, _) => if m ∈ fs then .bad else bd (as env h1) fun ds h2 => if ds.length + 1 = ps.length then G (x :: ds) h2 else .bad
  | none => .bad) p fun r0 env h1 x v H1 rh rs rx p1 => by
    split at p1
    · rename_i n fs ds ei
      split at p1
      · exact p1.elim
      · rename_i hmf
        obtain ⟨a, dx, vs, rfl, _, ea, l, q⟩ := ins_at rh rx ei
        refine ⟨a, dx, _, rfl, ea, (flk_at l q).2 hmf, r0, env, h1, rh, rs, (Po.bd (R := RVs X.K) p1).mono fun us H2 ⟨r2, h2, dl, _, e2, rh2, ry, p2⟩ => ?_⟩
        split at p2
        · rename_i hl
          rw [List.append_nil]
          exact ⟨r2, h2, x :: dl, by simpa using hl, rh2, .cons (rx.mono e2) ry, po_we p2⟩
        · exact p2.elim
    · exact p1.elim
theorem de_meth0L {pl : Sem Bool} (ho : PE X oe (tE X.K (WE E) fo)) (c : Cls X.K C) (hm : Meth X.K C m f) (F : FnD X.prog X.w X.K X.mg X.base k f fd ps G) (tk : Takes X (WE E)) (hr : Room k X.A) (hb : Binds X.K fd ps [])
    (ht : eval (.Call (.Attribute oe m apos) [] [] pos) X.env = (do
      let ov ← eval oe X.env
      standAt apos.atName
      let (f, first) ← holding [ov] (getMethod ov m pl)
      callWith pos f first (backTo pos (starEach [] X.env)) (backToKw pos (keywordEach [] X.env))) := by rfl) :
    PE X (.Call (.Attribute oe m apos) [] [] pos) (tE X.K (WE E) (mcl C m ps.length G fo an)) :=
  PE.imp (pe_meth0 ho c hm F hr hb .nil (passes_call tk fun _ _ _ _ h => h) ht) fun σ H Q p => tG.first (R := RV X.K) (f := fo) (g := fun x env h1 => match insOf h1 C x with
  | some (_, fs, _) => if m ∈ fs then .bad else bd (an env h1) fun ds h2 => if ds.length + 1 = ps.length then G (x :: ds) h2 else .bad
  | none => .bad) p fun r0 env h1 x v H1 rh rs rx p1 => by
    split at p1
    · rename_i n fs ds ei
      split at p1
      · exact p1.elim
      · rename_i hmf
        obtain ⟨a, dx, vs, rfl, _, ea, l, q⟩ := ins_at rh rx ei
        refine ⟨a, dx, _, rfl, ea, (flk_at l q).2 hmf, ?_⟩
        unfold an at p1
        rw [bd_ok] at p1
        split at p1
        · rename_i hl
          exact ⟨r0, h1, [x], by simpa using hl, rh, .one rx, po_we p1⟩
        · exact p1.elim
    · exact p1.elim
theorem de_fld (ho : PE X oe (tE X.K W fo)) (c : Cls X.K C) (na : NoAttr X.K C nm) (hb : attributeBase oe nm X.env (eval oe X.env) = eval oe X.env := by rfl) : PE X (.Attribute oe nm pos) (tE X.K W (fld C nm fo)) :=
  PE.imp (pe_fld ho hb) fun σ H Q p => tG.first (R := RV X.K) (f := fo) (g := fun x _ h1 => match insOf h1 C x with
  | some (_, fs, ds) => (match flk fs ds nm with | some d => .ok d h1 | none => .bad)
  | none => .bad) p fun r0 env h1 x v H1 rh rs rx p1 => by
    split at p1
    · rename_i n fs ds ei
      obtain ⟨a, dx, vs, rfl, _, ea, l, q⟩ := ins_at rh rx ei
      split at p1
      · rename_i d ed
        obtain ⟨z, e1, rz⟩ := (flk_at l q).1 d ed
        exact ⟨a, C, dx, _, z, rfl, ea, c, na, e1, po_v rh rz p1⟩
      · exact p1.elim
    · exact p1.elim
/-- an attribute put -/
theorem RH.putF {n : Nat} {a dx : Addr} (rh : RH K r h H) (ha : r.ix[n]? = some a) (ea : H a = some (.ins C dx (fs.zip vs))) (l : fs.length = vs.length) (q : RVs K r H ds vs) (rd : RV K r H d v) :
    Ext r r H (upd H a (.ins C dx (L2.putF nm v (fs.zip vs)))) ∧ RH K r (h.set n (.ins C (fput fs ds nm d).1 (fput fs ds nm d).2)) (upd H a (.ins C dx (L2.putF nm v (fs.zip vs)))) := by
  refine rh.put ha fun H' ex e' => ?_
  obtain ⟨ws, e1, e2, e3⟩ := fput_at (f := nm) l (q.mono ex) (rd.mono ex)
  exact ⟨dx, ws, by rw [e', e1], e2, e3⟩
theorem ds_setF {tpos : Pos} (ho : PE X oe (tE X.K W fo)) (hv : PE X e (tE X.K W fe)) (c : Cls X.K C) (na : NoAttr X.K C nm) (hs : swapsWith e (some (.Attribute oe nm tpos)) pos.line X.env = pure false := by rfl) :
    PS X (.Assign [.Attribute oe nm tpos] e pos) (tS X.K W (setF C nm fo fe)) :=
  PS.imp (ps_fld ho hv hs) fun D σ H ⟨r, env, h, rh, rs, p⟩ => PoS.bs (R := RV X.K) (g := fun v env h1 => bs env (fo env h1) fun x h2 => match insOf h2 C x with
  | some (n, fs, ds) => if fs.length < 900 then .nx env (h2.set n (.ins C (fput fs ds nm v).1 (fput fs ds nm v).2)) else .bad
  | none => .bad) rh rs p fun r1 h1 vd v H1 ex1 rh1 rs1 rv p1 =>
    PoS.bs (R := RV X.K) (f := fo) (g := fun x env h2 => match insOf h2 C x with
  | some (n, fs, ds) => if fs.length < 900 then .nx env (h2.set n (.ins C (fput fs ds nm vd).1 (fput fs ds nm vd).2)) else .bad
  | none => .bad) rh1 rs1 p1 fun r2 h2 x xv H2 ex2 rh2 rs2 rx p2 => by
      split at p2
      · rename_i n fs ds ei
        split at p2
        · rename_i hl
          obtain ⟨a, dx, vs, rfl, ha, ea, l, q⟩ := ins_at rh2 rx ei
          obtain ⟨ex, rh'⟩ := rh2.putF (nm := nm) ha ea l q (rv.mono ex2)
          exact ⟨a, C, dx, _, rfl, ea, c, na, by rw [List.length_zip, ← l, Nat.min_self]; omega, p2 r2 σ _ ex rh' (rs2.mono ex)⟩
        · exact p2.elim
      · exact p2.elim
theorem ds_augF {tpos : Pos} (ho : PE X oe (tE X.K W fo)) (hv : PE X e (tE X.K W fe)) (c : Cls X.K C) (na : NoAttr X.K C nm) :
    PS X (.AugAssign (.Attribute oe nm tpos) .Add e pos) (tS X.K W (augF C nm fo fe)) :=
  PS.imp (ps_fldaug ho hv in_add) fun D σ H ⟨r, env, h, rh, rs, p⟩ => PoS.bs (R := RV X.K) (g := fun x env h1 => match insOf h1 C x with
  | some (_, fs, ds) => (match flk fs ds nm with
    | some d => bs env (fe env h1) fun y h2 => augP C nm x d y env h2
    | none => .bad)
  | none => .bad) rh rs p fun r1 h1 x v H1 ex1 rh1 rs1 rx p1 => by
    split at p1
    · rename_i n fs ds ei
      obtain ⟨a, dx, vs, rfl, ha, ea, l, q⟩ := ins_at rh1 rx ei
      split at p1
      · rename_i d ed
        obtain ⟨z, e1, rz⟩ := (flk_at l q).1 d ed
        refine ⟨a, C, dx, _, z, rfl, ea, c, na, e1, PoS.bs (R := RV X.K) (f := fe) (g := fun y env h2 => augP C nm x d y env h2) rh1 rs1 p1 fun r2 h2 y yv H2 ex2 rh2 rs2 ry p2 => ?_⟩
        unfold augP at p2
        split at p2
        · rename_i ei2
          split at p2
          · rename_i hl
            obtain ⟨a', dx', vs', ea', ha', eb, l', q'⟩ := ins_at rh2 (rx.mono ex2) ei2
            cases ea'
            obtain ⟨ex, rh'⟩ := rh2.putF (nm := nm) ha' eb l' q' (d := .int _) (rv_int.mpr rfl)
            exact ⟨_, _, rv_int.mp rz, rv_int.mp ry, dx', _, eb, by rw [List.length_zip, ← l', Nat.min_self]; omega, p2 r2 σ _ ex rh' (rs2.mono ex)⟩
          · exact p2.elim
        · exact p2.elim
      · exact p1.elim
    · exact p1.elim
theorem de_makeL (M : Mk X.K C f) (F : FnD X.prog X.w X.K X.mg X.base k f fd ps G) (tk : Takes X (WE E)) (hr : Room (k + 1) X.A) (hg : Gl X nm) (hm : X.mg nm = some (.ref C)) (hb : Binds X.K fd ps []) (ha : PA X (e :: es) (tA X.K (WE E) as))
    (hdb : (nm == ("__debug__" : Str)) = false := by decide) (he : starEach (e :: es) X.env = (false, eval e X.env) :: starEach es X.env := by rfl) (hpl : (backTo pos (starEach es X.env)).any (·.1) = false := by rfl) :
    PE X (.Call (.Name nm p) (e :: es) [] pos) (tE X.K (WE E) (mko C ps.length G as)) :=
  PE.imp (pe_make M F hr hg hm hb .nil (passes_call tk fun _ _ _ _ h => h) ha hdb he hpl) fun σ H Q p => tG.first (R := RVs X.K) (f := as) (g := fun ds _ h1 => if ds.length + 1 = ps.length then (match G (D.ref h1.length :: ds) (h1 ++ [O.ins C [] []]) with
  | .ok .non h2 => .ok (D.ref h1.length) h2
  | .ok _ _ => .bad
  | .rz x h2 => .rz x h2
  | .bad => .bad) else .bad) p fun r0 env h1 ds vs H1 rh rs rx p1 => by
    split at p1
    · rename_i hl
      intro x dx nx ndx hne
      obtain ⟨e1, rh1⟩ := rh.lay (o := .own x) ndx
      have nx1 : upd H1 dx (.own x) x = none := by rw [upd_ne hne.symm]; exact nx
      obtain ⟨e2, rh2⟩ := rh1.own (o := .ins C [] []) (u := .ins C dx []) nx1 fun H' ex e' => ⟨dx, [], e', rfl, .nil⟩
      have e12 := e1.trans e2
      have rx' : RV X.K (r0.snoc x) (upd (upd H1 dx (.own x)) x (.ins C dx [])) (.ref h1.length) (.ref x) := by
        simp only [RV]
        exact ⟨x, by show (r0.ix ++ [x])[h1.length]? = some x; rw [← rh.len]; simp, rfl⟩
      rw [List.append_nil]
      refine ⟨r0.snoc x, _, .ref h1.length :: ds, by simpa using hl, rh2, .cons rx' (rx.mono e12), ?_⟩
      split at p1
      · rename_i h2 eG
        rw [eG]
        intro v r' H' ex rh' rv
        refine ⟨rv_non.mp rv, p1 _ r' H' (e12.trans ex) rh' (rx'.mono ex)⟩
      · exact p1.elim
      · rename_i z h2 eG
        rw [eG]
        intro r' H' dO ex rh' xr
        exact p1 r' H' dO (e12.trans ex) rh' xr
      · exact p1.elim
    · exact p1.elim
theorem de_call {n : Nat} (F : FnD X.prog X.w X.K X.mg X.base k f fd ps G) (tk : Takes X W) (hr : Room k X.A) (hg : Gl X nm) (hm : X.mg nm = some (.ref f)) (hk : PySem.W.keepIn X.K (.ref f) = true) (hb : Binds X.K fd ps []) (ha : PA X (e :: es) (tA X.K W as))
    (hdb : (nm == ("__debug__" : Str)) = false := by decide) (he : starEach (e :: es) X.env = (false, eval e X.env) :: starEach es X.env := by rfl) (hpl : (backTo pos (starEach es X.env)).any (·.1) = false := by rfl) (hn : ps.length = n := by rfl) :
    PE X (.Call (.Name nm p) (e :: es) [] pos) (tE X.K W (cll n G as)) := by
  subst hn
  exact de_callL F tk hr hg hm hk hb ha hdb he hpl
theorem de_meth {pl : Sem Bool} {n : Nat} (ho : PE X oe (tE X.K (WE E) fo)) (c : Cls X.K C) (hm : Meth X.K C m f) (F : FnD X.prog X.w X.K X.mg X.base k f fd ps G) (tk : Takes X (WE E)) (hr : Room k X.A) (hb : Binds X.K fd ps []) (ha : PA X (e :: es) (tA X.K (WE E) as))
    (hst : starEach (e :: es) X.env = (false, eval e X.env) :: starEach es X.env := by rfl) (hpl : (backTo pos (starEach es X.env)).any (·.1) = false := by rfl)
    (ht : eval (.Call (.Attribute oe m apos) (e :: es) [] pos) X.env = (do
      let ov ← eval oe X.env
      standAt apos.atName
      let (f, first) ← holding [ov] (getMethod ov m pl)
      callWith pos f first (backTo pos (starEach (e :: es) X.env)) (backToKw pos (keywordEach [] X.env))) := by rfl) (hn : ps.length = n := by rfl) :
    PE X (.Call (.Attribute oe m apos) (e :: es) [] pos) (tE X.K (WE E) (mcl C m n G fo as)) := by
  subst hn
  exact de_methL ho c hm F tk hr hb ha hst hpl ht
theorem de_meth0 {pl : Sem Bool} {n : Nat} (ho : PE X oe (tE X.K (WE E) fo)) (c : Cls X.K C) (hm : Meth X.K C m f) (F : FnD X.prog X.w X.K X.mg X.base k f fd ps G) (tk : Takes X (WE E)) (hr : Room k X.A) (hb : Binds X.K fd ps [])
    (ht : eval (.Call (.Attribute oe m apos) [] [] pos) X.env = (do
      let ov ← eval oe X.env
      standAt apos.atName
      let (f, first) ← holding [ov] (getMethod ov m pl)
      callWith pos f first (backTo pos (starEach [] X.env)) (backToKw pos (keywordEach [] X.env))) := by rfl) (hn : ps.length = n := by rfl) :
    PE X (.Call (.Attribute oe m apos) [] [] pos) (tE X.K (WE E) (mcl C m n G fo an)) := by
  subst hn
  exact de_meth0L ho c hm F tk hr hb ht
theorem de_make {n : Nat} (M : Mk X.K C f) (F : FnD X.prog X.w X.K X.mg X.base k f fd ps G) (tk : Takes X (WE E)) (hr : Room (k + 1) X.A) (hg : Gl X nm) (hm : X.mg nm = some (.ref C)) (hb : Binds X.K fd ps []) (ha : PA X (e :: es) (tA X.K (WE E) as))
    (hdb : (nm == ("__debug__" : Str)) = false := by decide) (he : starEach (e :: es) X.env = (false, eval e X.env) :: starEach es X.env := by rfl) (hpl : (backTo pos (starEach es X.env)).any (·.1) = false := by rfl) (hn : ps.length = n := by rfl) :
    PE X (.Call (.Name nm p) (e :: es) [] pos) (tE X.K (WE E) (mko C n G as)) := by
  subst hn
  exact de_makeL M F tk hr hg hm hb ha hdb he hpl
end
end Dt

namespace Dt
open PySem PySem.Spec PyProof.Rows L2

/-- what is told where nothing is told by hand -/
def raw (N : List Str) (b : SF) : FD := fun ds h => match b (startD N ds) h with
  | .rt d h1 => .ok d h1
  | .nx _ h1 => .ok .non h1
  | .rz x _ h1 => .rz x h1
  | _ => .bad
theorem raw_exits {N : List Str} {b : SF} {ds : List D} {h : DH} : Exits h (b (startD N ds) h) (raw N b ds h) := by
  unfold raw
  split
  · rename_i e; rw [e]; exact exit_rt
  · rename_i e; rw [e]; exact exit_nx
  · rename_i e; rw [e]; exact exit_rz
  · exact exit_bad
section
variable {P : Program} {w : World} {K : PySem.W.Frag} {mg : Str → Option Value} {base : Heap} {X : Cx} {W : WX} {st : Stmt} {e : Expr}
theorem fnd_mk {x qual : Str} {params : Arguments} {bd : List Stmt} {scope : Scope} {dvs : List V} {kws : List (Str × V)} {f : Addr} {fd : FuncData} {N ps : List Str} {k : Nat} {G : FD} {body : SF} (F : FunD K x qual params bd scope dvs kws f fd) (S : FnScope N ps scope)
    (hb : ∀ (cdv : Value) (A : Around) (outer : List Env) (s : Shared) (H : Hp) (E : XK), Room k (A.deeper (envOfC qual scope s.heap.objs.size f cdv)) →
      PSs (cxOf (L2.CX P w) P w K mg base N qual scope f cdv A outer s H E) bd (tS K (WE E) body))
    (he : ∀ ds h, ds.length = ps.length → G ds h ≠ .bad → Exits h (body (startD N ds) h) (G ds h)) : FnD P w K mg base (k + 1) f fd ps G := by
  refine F.ok S (fun vs H Q E ⟨r, h, ds, hl, rh, q, p⟩ => by rw [← q.length, hl]) (fun cdv A outer s H vs Q E hr ⟨r, h, ds, hl, rh, q, p⟩ => ⟨_, hb cdv A outer s H E hr, r, startD N ds, h, rh, RS.start q, ?_⟩)
  exact he ds h hl (fun z => by rw [z] at p; exact p) K r H Q E rh p
theorem fnd_raw {x qual : Str} {params : Arguments} {bd : List Stmt} {scope : Scope} {dvs : List V} {kws : List (Str × V)} {f : Addr} {fd : FuncData} {N ps : List Str} {k : Nat} {body : SF} (F : FunD K x qual params bd scope dvs kws f fd) (S : FnScope N ps scope)
    (hb : ∀ (cdv : Value) (A : Around) (outer : List Env) (s : Shared) (H : Hp) (E : XK), Room k (A.deeper (envOfC qual scope s.heap.objs.size f cdv)) →
      PSs (cxOf (L2.CX P w) P w K mg base N qual scope f cdv A outer s H E) bd (tS K (WE E) body)) : FnD P w K mg base (k + 1) f fd ps (raw N body) := fnd_mk F S hb fun _ _ _ _ => raw_exits
theorem ds_nev : PS X st (tS X.K W nev) := ⟨fun _ _ _ _ _ _ ⟨_, _, _, _, _, p⟩ => p.elim⟩
theorem dss_nev {sts : List Stmt} : PSs X sts (tS X.K W nev) := ⟨fun _ _ _ _ _ _ ⟨_, _, _, _, _, p⟩ => p.elim⟩
theorem dss_nevc {sts : List Stmt} : PSs X (st :: sts) (tS X.K W nev) := dss_nev
theorem un65 {A : Around} {k : Nat} (hr : Room k A) : A.units + 65 < cLine := by have := hr.un; omega
theorem un68 {A : Around} {k : Nat} (hr : Room k A) : A.units + 68 < cLine := by have := hr.un; omega
theorem un1 {A : Around} {k : Nat} (hr : Room k A) : A.units + 1 < cLine := by have := hr.un; omega
theorem un0 {A : Around} {k : Nat} (hr : Room k A) : A.units < cLine := by have := hr.un; omega
theorem un64 {A : Around} {k : Nat} (hr : Room k A) : A.units + 64 < cLine := by have := hr.un; omega
theorem tk0 : Takes X noW := takes0
theorem tkf {P : Program} {w : World} {K : PySem.W.Frag} {mg : Str → Option Value} {base : Heap} {N : List Str} {qual : Str} {scope : Scope} {f : Addr} {cd : Value} {A : Around} {outer : List Env} {s : Shared} {H : Hp} {E : XK} :
    Takes (cxOf (L2.CX P w) P w K mg base N qual scope f cd A outer s H E) (WE E) := takes_of rfl rfl rfl rfl
theorem pof {P : Program} {w : World} {K : PySem.W.Frag} {mg : Str → Option Value} {base : Heap} {N : List Str} {qual : Str} {scope : Scope} {f : Addr} {cd : Value} {A : Around} {outer : List Env} {s : Shared} {H : Hp} {E : XK} :
    PassesOwn (model (cxOf (L2.CX P w) P w K mg base N qual scope f cd A outer s H E).prog (cxOf (L2.CX P w) P w K mg base N qual scope f cd A outer s H E).w) (cxOf (L2.CX P w) P w K mg base N qual scope f cd A outer s H E).A (cxOf (L2.CX P w) P w K mg base N qual scope f cd A outer s H E).env (cxOf (L2.CX P w) P w K mg base N qual scope f cd A outer s H E).xe := passes_of rfl
theorem de_ty {x : Str} {T : String} {pos : Pos} (hg : Gl X x) (hm : X.mg x = none) (hv : bootBuiltins x = some (.type T)) (hn : x ≠ "__name__" := by decide) (hd : (x == ("__debug__" : Str)) = false := by decide) : PE X (.Name x pos) (tE X.K W (ct (.con (.ty T)))) :=
  de_c (pe_bltn hg hm hv (show RelV (.ty T) (.type T) from rfl) hn hd) fun _ _ => by simp only [RV]
theorem de_gint {x : Str} {i : Int} {pos : Pos} (hg : Gl X x) (hm : ∃ t, X.mg x = some (.int i t)) (hd : (x == ("__debug__" : Str)) = false := by decide) : PE X (.Name x pos) (tE X.K W (ct (.int i))) :=
  let ⟨_, e⟩ := hm; de_c (pe_glob hg e (show RelV (.int i) _ from ⟨_, rfl⟩) hd) fun _ _ => rv_int.mpr rfl
theorem de_gstr {x z : Str} {pos : Pos} (hg : Gl X x) (hm : ∃ t, X.mg x = some (.str z t)) (hd : (x == ("__debug__" : Str)) = false := by decide) : PE X (.Name x pos) (tE X.K W (ct (.str z))) :=
  let ⟨_, e⟩ := hm; de_c (pe_glob hg e (show RelV (.str z) _ from ⟨_, rfl⟩) hd) fun _ _ => rv_str.mpr rfl
theorem de_gref {x : Str} {a : Addr} {pos : Pos} (hg : Gl X x) (hm : X.mg x = some (.ref a)) (hd : (x == ("__debug__" : Str)) = false := by decide) : PE X (.Name x pos) (tE X.K W (ct (.con (.ref a)))) :=
  de_c (pe_glob hg hm (show RelV (.ref a) _ from rfl) hd) fun _ _ => by simp only [RV]
/-- the script as it is handed to the law -/
theorem law_in {H : Hp} {a : Addr} {ns : List Int} (hO : Only H) (hS : SqL K H a (ns.map V.int)) {G : FD} (hG : G [.scr ns] [] = .ok (.bl true) [] ∨ ∃ h, G [.scr ns] [] = .ok (.bl true) h) :
    spD K 1 G [.ref a] H (fun v _ => v = .bl true) fun _ _ _ => False := by
  refine ⟨⟨[], []⟩, [], [.scr ns], rfl, ⟨rfl, List.nodup_nil, fun i b o q => by simp at q, fun b m => by simp at m⟩, .one ?_, ?_⟩
  · simp only [RV]
    exact ⟨a, rfl, hS.imp (fun z => ⟨z, fun m => m.elim (fun m => by simp at m) fun m => by simp at m⟩) id⟩
  · rcases hG with e | ⟨h, e⟩ <;> rw [e] <;> exact fun v r' H' _ _ rv => rv_bl.mp rv
end
end Dt

namespace Dt
open PySem PySem.Spec PyProof.Rows L2

/-! ### a < b < c -/
def och (g g2 : D → D → DH → Rs D) (fa fb fc : EF) : EF := fun env h => bd (fa env h) fun a h1 => bd (fb env h1) fun b h2 => bd (g a b h2) fun z h3 => bd (tstD z h3) fun k h4 => if k = true then bd (fc env h4) fun c h5 => g2 b c h5 else .ok (.bl false) h4
section
variable {X : Cx} {W : WX} {a b c e : Expr} {es : List Expr} {fa fb fc : EF} {pos p : Pos} {as : AF}
theorem tChain_of {g g2 : D → D → DH → Rs D} {r r' : R2} (hg : OpD X.K g r) (hg2 : OpD X.K g2 r') {σ : L2.St} {H : Hp} {Q : VK} (p : tE X.K W (och g g2 fa fb fc) σ H Q) : tChain r r' (tE X.K W fa) (tE X.K W fb) (tE X.K W fc) σ H Q := by
  refine tG.first (R := RV X.K) (g := fun a env h1 => bd (fb env h1) fun b h2 => bd (g a b h2) fun z h3 => bd (tstD z h3) fun k h4 => if k = true then bd (fc env h4) fun c h5 => g2 b c h5 else .ok (D.bl false) h4) p fun r0 env h1 x v H1 rh rs rx p1 => ?_
  refine ⟨r0, env, h1, rh, rs, (Po.bd (R := RV X.K) p1).mono fun u H2 ⟨r2, h2, y, _, e2, rh2, ry, p2⟩ => ?_⟩
  refine hg r2 h2 H2 x y v u W σ _ rh2 (rx.mono e2) ry ((Po.bd (R := RV X.K) p2).mono fun w H3 ⟨r3, h3, z, _, e3, rh3, rz, p3⟩ => ?_)
  cases z with
  | bl k =>
    simp only [RV] at rz
    refine ⟨k, rz, ?_⟩
    cases k with
    | true =>
      refine iteT ⟨r3, env, h3, rh3, (rs.mono e2).mono e3, (Po.bd (R := RV X.K) p3).mono fun w' H4 ⟨r4, h4, z', _, e4, rh4, rz', p4⟩ => ?_⟩
      exact hg2 r4 h4 H4 y z' u w' W σ Q rh4 ((ry.mono e3).mono e4) rz' p4
    | false => exact iteF (p3 (.bl false) r3 H3 .refl rh3 (by simp only [RV]))
  | _ => exact p3.elim
theorem de_chain {op op' : CmpOp} {g g2 : D → D → DH → Rs D} {r r' : R2} (ho : OpR X (compareOp op) r) (hg : OpD X.K g r) (ho' : OpR X (compareOp op') r') (hg2 : OpD X.K g2 r') (ha : PE X a (tE X.K W fa)) (hb : PE X b (tE X.K W fb)) (hc : PE X c (tE X.K W fc))
    (hm : lastMarks [op, op'] [b, c] = false := by with_unfolding_all rfl) : PE X (.Compare a [op, op'] [b, c] pos) (tE X.K W (och g g2 fa fb fc)) :=
  PE.imp (pe_chain ho ho' ha hb hc hm) fun _ _ _ p => tChain_of hg hg2 p
theorem dt_chain {op op' : CmpOp} {g g2 : D → D → DH → Rs D} {r r' : R2} (ho : OpR X (compareOp op) r) (hg : OpD X.K g r) (ho' : OpR X (compareOp op') r') (hg2 : OpD X.K g2 r') (ha : PE X a (tE X.K W fa)) (hb : PE X b (tE X.K W fb)) (hc : PE X c (tE X.K W fc))
    (hm : lastMarks [op, op'] [b, c] = false := by with_unfolding_all rfl) : PT X (.Compare a [op, op'] [b, c] pos) (tT X.K W (tv (och g g2 fa fb fc))) :=
  PT.imp (pt_chain ho ho' ha hb hc hm) fun σ H Q p => by
    refine tChain_of (W := W) hg hg2 (Q := fun x H' => ∃ k, x = .bl k ∧ Q k H') (tG.first (R := RV X.K) (f := och g g2 fa fb fc) (g := fun d _ h => tstD d h) p ?_ : tE X.K W (och g g2 fa fb fc) σ H fun x H' => ∃ k, x = .bl k ∧ Q k H')
    exact fun r0 env h1 x v H1 rh rs rx p1 => tst_of rh rx p1
/-! ### str of an int -/
noncomputable def strID (xs : List D) (h : DH) : Rs D := match xs with
  | [.int i] => if smal i then .ok (.str (toString i)) h else .bad
  | _ => .bad
/-! ### list and tuple of a range -/
def rgsD (i : Int) : List D := (List.range i.toNat).map fun k : Nat => D.int k
def lrg (own : Bool) (fa : EF) : EF := fun env h => bd (fa env h) fun d h1 => match d with
  | .int i => if 0 ≤ i ∧ i ≤ 1000000 then mkL own (rgsD i) h1 else .bad
  | _ => .bad
def trg (fa : EF) : EF := fun env h => bd (fa env h) fun d h1 => match d with
  | .int i => if 0 ≤ i ∧ i ≤ 1000000 then mkT (rgsD i) h1 else .bad
  | _ => .bad
theorem rgs_rel {K : PySem.W.Frag} {r : Rg} {H : Hp} {i : Int} : RVs K r H (rgsD i) (rgV 0 i) := by
  unfold rgsD rgV
  rw [Int.sub_zero]
  generalize List.range i.toNat = l
  induction l with
  | nil => exact .nil
  | cons n t ih => exact .cons (rv_int.mpr (by dsimp only; rw [Int.zero_add])) ih
theorem rgOk_of {i : Int} (h : 0 ≤ i ∧ i ≤ 1000000) : RgOk 0 i := RgOk.of_le (by omega) (by omega) (by omega) (by omega)
theorem de_lrg (own : Bool) {p1 p2 : Pos} (hc : X.calm = true) (hg2 : Gl X "list") (hm2 : X.mg "list" = none) (hg : Gl X "range") (hm : X.mg "range" = none) (ha : PE X a (tE X.K W fa)) (na : starEach [a] X.env = (false, eval a X.env) :: starEach [] X.env := by rfl) (na2 : starEach [Expr.Call (.Name "range" p) [a] [] p2] X.env = (false, eval (Expr.Call (.Name "range" p) [a] [] p2) X.env) :: starEach [] X.env := by rfl) :
    PE X (.Call (.Name "list" p1) [.Call (.Name "range" p) [a] [] p2] [] pos) (tE X.K W (lrg own fa)) :=
  PE.imp (pe_listRg hc hg2 hm2 (prg_1 hg hm ha na) na2) fun σ H Q p => tG.first (R := RV X.K) (f := fa) (g := fun d _ h1 => match d with
  | .int i => if 0 ≤ i ∧ i ≤ 1000000 then mkL own (rgsD i) h1 else .bad
  | _ => .bad) p fun r0 env h1 x v H1 rh rs rx p1 => by
    split at p1
    · rename_i i
      split at p1
      · rename_i hc2
        exact ⟨i, rv_int.mp rx, rgOk_of hc2, (po_mkL rh rgs_rel p1).2⟩
      · exact p1.elim
    · exact p1.elim
theorem de_trg {p1 p2 : Pos} (hc : X.calm = true) (hg2 : Gl X "tuple") (hm2 : X.mg "tuple" = none) (hg : Gl X "range") (hm : X.mg "range" = none) (ha : PE X a (tE X.K W fa)) (na : starEach [a] X.env = (false, eval a X.env) :: starEach [] X.env := by rfl) (na2 : starEach [Expr.Call (.Name "range" p) [a] [] p2] X.env = (false, eval (Expr.Call (.Name "range" p) [a] [] p2) X.env) :: starEach [] X.env := by rfl) :
    PE X (.Call (.Name "tuple" p1) [.Call (.Name "range" p) [a] [] p2] [] pos) (tE X.K W (trg fa)) :=
  PE.imp (pe_tupRg hc hg2 hm2 (prg_1 hg hm ha na) na2) fun σ H Q p => tG.first (R := RV X.K) (f := fa) (g := fun d _ h1 => match d with
  | .int i => if 0 ≤ i ∧ i ≤ 1000000 then mkT (rgsD i) h1 else .bad
  | _ => .bad) p fun r0 env h1 x v H1 rh rs rx p1 => by
    split at p1
    · rename_i i
      split at p1
      · rename_i hc2
        exact ⟨i, rv_int.mp rx, rgOk_of hc2, (po_mkT rh rgs_rel p1).2⟩
      · exact p1.elim
    · exact p1.elim
end
section
variable {X : Cx} {K : PySem.W.Frag} {r r0 : Rg} {h : DH} {H : Hp} {d x y : D} {v u : V} {W : WX} {σ : L2.St} {Q : VK} {ds : List D} {vs : List V}
theorem cd_strI : CallD K strID (fun xs H Q => ∃ i, xs = [.int i] ∧ i.natAbs.log2 < 1920 ∧ Q (.str (toString i)) H) := by
  intro r0 h H xs vs W σ Q rh rx p
  unfold strID at p
  split at p
  · rename_i i
    split at p
    · rename_i hc
      obtain ⟨v, rfl, rv⟩ := rx.inv1
      exact ⟨i, by rw [rv_int.mp rv], log_250 hc, po_v rh (rv_str.mpr rfl) p⟩
    · exact p.elim
  · exact p.elim
/-! ### zip -/
def zipJ (xs ys : List D) : ItD := ⟨none, (xs.zip ys).map fun p => D.tup [p.1, p.2]⟩
/-- the items of a list that never changes -/
def frz : D → Option (List D)
  | .wt _ => none
  | .lst ds => some ds
  | _ => none
/-- zip of two frozen lists, or of two tuples -/
def zip2 (as : AF) : IF := fun env h => bd (as env h) fun ds h1 => match ds with
  | [x, y] => match frz x, frz y with
    | some xs, some ys => .ok (zipJ xs ys) h1
    | _, _ => match tsq x, tsq y with
      | some xs, some ys => .ok (zipJ xs ys) h1
      | _, _ => .bad
  | _ => .bad

theorem frz_at {H' : Hp} {r' : Rg} (e : frz x = some ds) (w : Wx r r' H H') (rv : RV K r H x v) : ∃ a vs, v = .ref a ∧ SqL K H' a vs ∧ RVs K r' H' ds vs := by
  unfold frz at e
  split at e
  · cases e
  · cases e
    have rv := rv.wmono w
    simp only [RV] at rv
    obtain ⟨a, vs, rfl, f, q⟩ := rv
    exact ⟨a, vs, rfl, f.sq, q⟩
  · cases e
theorem di_zip {e e2 : Expr} {as : AF} {p pos tpos : Pos} {elts : List Expr} {kk : Nat} (hg : Gl X "zip") (hm : X.mg "zip" = none) (ha : PA X [e, e2] (tA X.K W as))
    (hs : starEach [e, e2] X.env = (false, eval e X.env) :: starEach [e2] X.env := by rfl) (hpl : (backTo pos (starEach [e2] X.env)).any (·.1) = false := by rfl) :
    PI X (.Tuple elts kk tpos) (.Call (.Name "zip" p) [e, e2] [] pos) (tI X.K W (zip2 as)) :=
  PI.imp (RZ.pi_zipA hg hm ha hs hpl) fun σ H R pp => tG.first (R := RVs X.K) (f := as) (g := fun ds _ h1 => match ds with
  | [x, y] => match frz x, frz y with
    | some xs, some ys => .ok (zipJ xs ys) h1
    | _, _ => match tsq x, tsq y with
      | some xs, some ys => .ok (zipJ xs ys) h1
      | _, _ => .bad
  | _ => .bad) pp fun r0 env h1 x v H1 rh rs rx p1 => by
    split at p1
    · rename_i x y
      obtain ⟨u, w, rfl, ru, rw_⟩ := rx.inv2
      have fin : ∀ {xs ys : List D} {J : It}, (∀ r' h' H', Wx r0 r' H1 H' → RH X.K r' h' H' → ∀ i : Nat,
          (∀ d, ((xs.zip ys).map fun p => D.tup [p.1, p.2])[i]? = some d → J.go i H' ∧ ∀ x H'', J.yld i H' x H'' → Ext r' r' H' H'' ∧ RH X.K r' h' H'' ∧ RV X.K r' H'' d x) ∧ (((xs.zip ys).map fun p => D.tup [p.1, p.2]).length ≤ i → J.stop i H')) →
          Po (RI X.K) X.K W r0 σ H1 (.ok (zipJ xs ys) h1) R → R J H1 := fun {xs ys J} f p2 => p2 _ _ _ .refl rh fun r' h' H' e rh' so i => f r' h' H' e rh' i
      split at p1
      · rename_i xs ys e1 e2
        obtain ⟨a, vs, rfl, f1, q1⟩ := frz_at e1 (.refl) ru
        obtain ⟨b, ws, rfl, f2, q2⟩ := frz_at e2 (.refl) rw_
        refine ⟨a, b, vs, ws, rfl, .inl ⟨f1, f2, fin (fun r' h' H' e rh' i => ?_) p1⟩⟩
        obtain ⟨a', vs, ea, f1, q1⟩ := frz_at e1 e ru
        cases ea
        obtain ⟨b', ws, eb, f2, q2⟩ := frz_at e2 e rw_
        cases eb
        refine ⟨fun d hd => ?_, fun hl => ?_⟩
        · obtain ⟨x1, y1, hx, hy, rfl⟩ := zip_get hd
          obtain ⟨z1, hz1, rz1⟩ := q1.get hx
          obtain ⟨z2, hz2, rz2⟩ := q2.get hy
          refine ⟨⟨vs, ws, z1, z2, f1, f2, hz1, hz2⟩, fun x H'' hy => ?_⟩
          obtain ⟨T, z3, z4, rfl, hn, rfl, g1, g2⟩ := hy
          have g1 := g1 vs f1
          rw [hz1] at g1; cases g1
          have g2 := g2 ws f2
          rw [hz2] at g2; cases g2
          exact lay_pair rh' hn rz1 rz2
        · rw [List.length_map, List.length_zip, q1.length, q2.length] at hl
          exact ⟨vs, ws, f1, f2, by omega⟩
      · split at p1
        · rename_i xs ys e1 e2
          obtain ⟨a, vs, rfl, f1, q1⟩ := tsq_at ru e1
          obtain ⟨b, ws, rfl, f2, q2⟩ := tsq_at rw_ e2
          refine ⟨a, b, vs, ws, rfl, .inr ⟨f1, f2, fin (fun r' h' H' e rh' i => ?_) p1⟩⟩
          obtain ⟨a', vs, ea, f1, q1⟩ := tsq_at (ru.wmono e) e1
          cases ea
          obtain ⟨b', ws, eb, f2, q2⟩ := tsq_at (rw_.wmono e) e2
          cases eb
          refine ⟨fun d hd => ?_, fun hl => ?_⟩
          · obtain ⟨x1, y1, hx, hy, rfl⟩ := zip_get hd
            obtain ⟨z1, hz1, rz1⟩ := q1.get hx
            obtain ⟨z2, hz2, rz2⟩ := q2.get hy
            refine ⟨⟨vs, ws, z1, z2, f1, f2, hz1, hz2⟩, fun x H'' hy => ?_⟩
            obtain ⟨T, z3, z4, rfl, hn, rfl, g1, g2⟩ := hy
            have g1 := g1 vs f1
            rw [hz1] at g1; cases g1
            have g2 := g2 ws f2
            rw [hz2] at g2; cases g2
            exact lay_pair rh' hn rz1 rz2
          · rw [List.length_map, List.length_zip, q1.length, q2.length] at hl
            exact ⟨vs, ws, f1, f2, by omega⟩
        · exact p1.elim
    · exact p1.elim
/-! ### two fors -/
open Classical in
noncomputable def lc2S (it : ItD) (t : Tg) (tt : TF) (fi1 : IF) (t1 : Tg) (tt1 : TF) (fe : EF) (vs1 : List Nat) (env : Env') : List D → List D → DH → Rs (List D)
  | [], acc, h => if srcOk it h then .ok acc h else .bad
  | d :: rest, acc, h => if srcOk it h then (match tgF t d env with
      | some e1 => (match tt e1 h with
        | .ok b h1 => if b = true then (match fi1 e1 h1 with
            | .ok it1 h2 => (match lcS it1 t1 tt1 fe (wipD e1 vs1) it1.items acc h2 with
              | .ok acc2 h3 => lc2S it t tt fi1 t1 tt1 fe vs1 env rest acc2 h3
              | _ => .bad)
            | _ => .bad) else lc2S it t tt fi1 t1 tt1 fe vs1 env rest acc h1
        | _ => .bad)
      | none => .bad) else .bad
noncomputable def lc2E (fi : IF) (t : Tg) (tt : TF) (fi1 : IF) (t1 : Tg) (tt1 : TF) (fe : EF) (vs vs1 : List Nat) : EF := fun env h => bd (fi env h) fun it h1 => bd (lc2S it t tt fi1 t1 tt1 fe vs1 (wipD env vs) it.items [] h1) fun ds h2 => .ok (.lst ds) h2
theorem lc2_run {fe : EF} {env : Env'} {r1 : Rg} {H1 : Hp} {t t1 : Tg} {tt tt1 : TF} {fi1 : IF} {vs vs1 : List Nat} {it : ItD} {J : It} (rh : RH K r1 h H1) (rs : RS K r1 H1 env σ) (rj : RI K r1 H1 it J) (hv : ∀ i ∈ tgS t, i ∈ vs) (hv1 : ∀ i ∈ tgS t1, i ∈ vs1) {Q : VK}
    (p : Po (RV K) K W r1 σ H1 (bd (lc2S it t tt fi1 t1 tt1 fe vs1 (wipD env vs) it.items [] h) fun ds h2 => .ok (D.lst ds) h2) Q) :
    ∀ q0, H1 q0 = none → ∃ Wv : Nat → Nat → Hp → Prop, (∃ m, Wv 0 m (upd H1 q0 (.lst []))) ∧ ∀ i m H, Wv i m H →
      (J.stop i H ∧ Q (.ref q0) H) ∨ (J.go i H ∧ ∃ Nx : Hp → Prop, (∀ H', Nx H' → ∃ m', m' < m ∧ Wv (i + 1) m' H') ∧ ∀ x H', J.yld i H x H' → tgR K t x (wipe σ vs) H' fun σ2 H2 => wipe σ2 vs = wipe σ vs ∧ tT K noW tt σ2 H2 fun b H3 =>
        if b = true then tI K noW fi1 σ2 H3 fun J1 H4 => ∃ W1 : Nat → Nat → Hp → Prop, (∃ m, W1 0 m H4) ∧ ∀ j k H, W1 j k H →
          (J1.stop j H ∧ Nx H) ∨ (J1.go j H ∧ ∃ Nx1 : Hp → Prop, (∀ H', Nx1 H' → ∃ k', k' < k ∧ W1 (j + 1) k' H') ∧ ∀ x H', J1.yld j H x H' → tgR K t1 x (wipe σ2 vs1) H' fun σ3 H5 => wipe σ3 vs1 = wipe σ2 vs1 ∧ tT K noW tt1 σ3 H5 fun b H6 =>
            if b = true then tE K noW fe σ3 H6 fun y H7 => ∃ acc, H7 q0 = some (.lst acc) ∧ acc.length < sizeLine ∧ Nx1 (upd H7 q0 (.lst (acc ++ [y]))) else Nx1 H6)
        else Nx H3) := by
  intro q0 hD
  let Wv : Nat → Hp → Prop := fun i H => ∃ r h acc vacc, Wx r1 (r.ban q0) H1 H ∧ Ext r1 r H1 H ∧ RH K (r.ban q0) h H ∧ H q0 = some (.lst vacc) ∧ RVs K (r.ban q0) H acc vacc ∧
      Po (RV K) K W r1 σ H1 (bd (lc2S it t tt fi1 t1 tt1 fe vs1 (wipD env vs) (it.items.drop i) acc h) fun ds h2 => .ok (D.lst ds) h2) Q
  obtain ⟨e0, _⟩ := rh.lay (o := .lst []) hD
  obtain ⟨w0, rh0⟩ := rh.hide (o := .lst []) hD
  have nb := rh.out hD
  refine ⟨fun i m H => i ≤ it.items.length ∧ m = it.items.length - i ∧ Wv i H, ⟨it.items.length, Nat.zero_le _, rfl, r1, h, [], [], w0, e0, rh0, upd_same, .nil, p⟩, fun i m H hW => ?_⟩
  obtain ⟨hil, rfl, r2, h2, acc, vacc, wx2, ex2, rhB, hDa, qa, p2⟩ := hW
  by_cases hi : i < it.items.length
  · rw [List.drop_eq_getElem_cons hi] at p2
    unfold lc2S at p2
    split at p2
    · rename_i so
      obtain ⟨go, yl⟩ := (rj (r2.ban q0) h2 H wx2 rhB so i).1 _ (List.getElem?_eq_getElem hi)
      split at p2
      · rename_i e3 he3
        refine .inr ⟨go, fun H' => Wv (i + 1) H', fun H' q => ⟨_, by omega, by omega, rfl, q⟩, fun x H' hy => ?_⟩
        obtain ⟨exy, rhy, rvy⟩ := yl x H' hy
        have rsw := (rs.wmono (wx2.trans exy.wx)).wipe vs
        refine tg_run rsw rvy he3 fun σ' rs' hw => ⟨by rw [hw vs hv, wipe_wipe], r2.ban q0, e3, h2, rhy, rs', ?_⟩
        cases ht : tt e3 h2 with
        | ok b h3 =>
          intro b' r3 H3 ex3 rh3 rb
          cases rb
          rw [ht] at p2
          have e23 := exy.trans ex3
          obtain ⟨ix3, bn3⟩ := r3
          obtain rfl : bn3 = q0 :: r2.bn := e23.bn
          cases b with
          | true =>
            dsimp only at p2
            rw [if_pos rfl] at p2
            refine iteT ⟨_, e3, h3, rh3, rs'.mono ex3, ?_⟩
            cases hf : fi1 e3 h3 with
            | ok it1 h4 =>
              intro J1 r4 H4 ex4 rh4 rj1
              rw [hf] at p2
              dsimp only at p2
              have e24 := e23.trans ex4
              obtain ⟨ix4, bn4⟩ := r4
              obtain rfl : bn4 = q0 :: r2.bn := e24.bn
              have hq4 : H4 q0 = some (.lst vacc) := (e24.bk q0 List.mem_cons_self).trans hDa
              have rs4 := (rs'.mono ex3).mono ex4
              split at p2
              case h_2 => exact p2.elim
              rename_i acc2 h9 hin
              -- the inner walk
              let W1 : Nat → Hp → Prop := fun j H => ∃ r h acc vacc, Wx r1 (r.ban q0) H1 H ∧ Wx ⟨ix4, q0 :: r2.bn⟩ (r.ban q0) H4 H ∧ Ext r1 r H1 H ∧ RH K (r.ban q0) h H ∧ H q0 = some (.lst vacc) ∧ RVs K (r.ban q0) H acc vacc ∧
                lcS it1 t1 tt1 fe (wipD e3 vs1) (it1.items.drop j) acc h = .ok acc2 h9
              refine ⟨fun j k H => j ≤ it1.items.length ∧ k = it1.items.length - j ∧ W1 j H, ⟨it1.items.length, Nat.zero_le _, rfl, ⟨ix4, r2.bn⟩, h4, acc, vacc, wx2.trans e24.wx, .refl, Ext.under (r2 := ⟨ix4, r2.bn⟩) ex2 e24 hD nb (fun _ _ => rfl) (by rw [hq4]; simp), rh4, hq4, qa.mono e24, hin⟩, fun j k H5 hW => ?_⟩
              obtain ⟨hjl, rfl, r5, h5, acc5, vacc5, wx5, wx45, ex5, rhB5, hDa5, qa5, p5⟩ := hW
              by_cases hj : j < it1.items.length
              · rw [List.drop_eq_getElem_cons hj] at p5
                unfold lcS at p5
                split at p5
                · rename_i so1
                  obtain ⟨go1, yl1⟩ := (rj1 (r5.ban q0) h5 H5 wx45 rhB5 so1 j).1 _ (List.getElem?_eq_getElem hj)
                  split at p5
                  · rename_i e6 he6
                    refine .inr ⟨go1, fun H' => W1 (j + 1) H', fun H' q => ⟨_, by omega, by omega, rfl, q⟩, fun x H' hy => ?_⟩
                    obtain ⟨exy1, rhy1, rvy1⟩ := yl1 x H' hy
                    have rsw1 := (rs4.wmono (wx45.trans exy1.wx)).wipe vs1
                    refine tg_run rsw1 rvy1 he6 fun σ'' rs'' hw => ⟨by rw [hw vs1 hv1, wipe_wipe], r5.ban q0, e6, h5, rhy1, rs'', ?_⟩
                    cases ht1 : tt1 e6 h5 with
                    | ok b1 h6 =>
                      intro b'' r6 H6 ex6 rh6 rb
                      cases rb
                      rw [ht1] at p5
                      have e56 := exy1.trans ex6
                      obtain ⟨ix6, bn6⟩ := r6
                      obtain rfl : bn6 = q0 :: r5.bn := e56.bn
                      cases b1 with
                      | true =>
                        dsimp only at p5
                        rw [if_pos rfl] at p5
                        refine iteT ⟨_, e6, h6, rh6, rs''.mono ex6, ?_⟩
                        cases hf1 : fe e6 h6 with
                        | ok y h7 =>
                          intro vy r7 H7 ex7 rh7 ry
                          rw [hf1] at p5
                          dsimp only at p5
                          have e57 := e56.trans ex7
                          obtain ⟨ix7, bn7⟩ := r7
                          obtain rfl : bn7 = q0 :: r5.bn := e57.bn
                          have hq : H7 q0 = some (.lst vacc5) := (e57.bk q0 List.mem_cons_self).trans hDa5
                          split at p5
                          · rename_i hl
                            · skip
                              obtain ⟨w5, rh5⟩ := RH.rehide (r := ⟨ix7, r5.bn⟩) (a := q0) (u := .lst (vacc5 ++ [vy])) rh7
                              have w4 := (wx5.trans e57.wx).trans w5
                              refine ⟨vacc5, hq, by rw [← qa5.length]; exact line_lt (by omega), ⟨ix7, r5.bn⟩, h7, acc5 ++ [y], vacc5 ++ [vy], w4, (wx45.trans e57.wx).trans w5, ?_, rh5, upd_same, ?_, ?_⟩
                              · exact Ext.under (r2 := ⟨ix7, r5.bn⟩) ex5 e57 hD nb (fun b hb => upd_ne hb) (by rw [upd_same]; simp)
                              · exact (qa5.wmono (e57.wx.trans w5)).append (.one (ry.wmono w5))
                              · exact p5
                          · cases p5
                        | rz z h7 => rw [hf1] at p5; cases p5
                        | bad => rw [hf1] at p5; cases p5
                      | false =>
                        dsimp only at p5
                        rw [if_neg Bool.false_ne_true] at p5
                        have hq : H6 q0 = some (.lst vacc5) := (e56.bk q0 List.mem_cons_self).trans hDa5
                        exact iteF ⟨⟨ix6, r5.bn⟩, h6, acc5, vacc5, wx5.trans e56.wx, wx45.trans e56.wx, Ext.under (r2 := ⟨ix6, r5.bn⟩) ex5 e56 hD nb (fun _ _ => rfl) (by rw [hq]; simp), rh6, hq, qa5.mono e56, p5⟩
                    | rz z h6 => rw [ht1] at p5; cases p5
                    | bad => rw [ht1] at p5; cases p5
                  · cases p5
                · cases p5
              · have hn : it1.items.drop j = [] := List.drop_eq_nil_of_le (by omega)
                rw [hn] at p5
                unfold lcS at p5
                split at p5
                · rename_i so1
                  cases p5
                  exact .inl ⟨(rj1 (r5.ban q0) _ H5 wx45 rhB5 so1 j).2 (by omega), r5, _, _, vacc5, wx5, ex5, rhB5, hDa5, qa5, p2⟩
                · cases p5
            | rz z h4 => rw [hf] at p2; exact p2.elim
            | bad => rw [hf] at p2; exact p2.elim
          | false =>
            dsimp only at p2
            rw [if_neg Bool.false_ne_true] at p2
            have hq : H3 q0 = some (.lst vacc) := (e23.bk q0 List.mem_cons_self).trans hDa
            exact iteF ⟨⟨ix3, r2.bn⟩, h3, acc, vacc, wx2.trans e23.wx, Ext.under (r2 := ⟨ix3, r2.bn⟩) ex2 e23 hD nb (fun _ _ => rfl) (by rw [hq]; simp), rh3, hq, qa.mono e23, p2⟩
        | rz z h3 => rw [ht] at p2; exact p2.elim
        | bad => rw [ht] at p2; exact p2.elim
      · exact p2.elim
    · exact p2.elim
  · have hn : it.items.drop i = [] := List.drop_eq_nil_of_le (by omega)
    rw [hn] at p2
    unfold lc2S at p2
    obtain ⟨wsh, rh2⟩ := rhB.show_
    split at p2
    · rename_i so
      refine .inl ⟨(rj r2 h2 H ex2.wx rh2 so i).2 (by omega), p2 _ r2 H ex2 rh2 ?_⟩
      simp only [RV]
      exact ⟨q0, vacc, rfl, ⟨hDa, Rg.ban_out rhB⟩, qa.wmono wsh⟩
    · exact p2.elim
variable {elt tg iter tg1 iter1 : Expr} {ifs ifs1 : List Expr} {fe : EF} {fi fi1 : IF} {t t1 : Tg} {tt tt1 : TF} {pos spos : Pos}
theorem de_lc2 {scope : Scope} {own : List (Str × Nat)} {vs1 : List Nat} (hc : X.calm = true) (hN : X.N.Nodup) (hi : PI X tg iter (tI X.K W fi)) (ok : BlkOk X.N X.env.scope scope own)
    (hg : ∀ (s : Shared) (H : Hp) (C : Addr) (cl : List (Str × Addr)) (fp : List Addr), PG (blkX X s H scope cl C fp) tg (tgR X.K t)) (ht : ∀ (s : Shared) (H : Hp) (C : Addr) (cl : List (Str × Addr)) (fp : List Addr), PTs (blkX X s H scope cl C fp) ifs (tT X.K noW tt))
    (hi1 : ∀ (s : Shared) (H : Hp) (C : Addr) (cl : List (Str × Addr)) (fp : List Addr), PI (blkX X s H scope cl C fp) tg1 iter1 (tI X.K noW fi1))
    (hg1 : ∀ (s : Shared) (H : Hp) (C : Addr) (cl : List (Str × Addr)) (fp : List Addr), PG (blkX X s H scope cl C fp) tg1 (tgR X.K t1)) (ht1 : ∀ (s : Shared) (H : Hp) (C : Addr) (cl : List (Str × Addr)) (fp : List Addr), PTs (blkX X s H scope cl C fp) ifs1 (tT X.K noW tt1))
    (he : ∀ (s : Shared) (H : Hp) (C : Addr) (cl : List (Str × Addr)) (fp : List Addr), PE (blkX X s H scope cl C fp) elt (tE X.K noW fe)) (hv2 : ∀ i ∈ vs1, i ∈ own.map (·.2) := by decide) (hv : ∀ i ∈ tgS t, i ∈ own.map (·.2) := by decide) (hv1 : ∀ i ∈ tgS t1, i ∈ vs1 := by decide)
    (hs : ∀ x, foldedSetIterable iter X.env x = pure x := by intro _; rfl) (hs1 : ∀ env x, foldedSetIterable iter1 env x = pure x := by intro _ _; rfl) :
    PE X (.ListComp elt [⟨tg, iter, ifs, 0⟩, ⟨tg1, iter1, ifs1, 0⟩] scope pos) (tE X.K W (lc2E fi t tt fi1 t1 tt1 fe (own.map (·.2)) vs1)) :=
  PE.imp (pe_lc2 hc hN hi ok hv2 hg ht hi1 hg1 ht1 he hs hs1) fun σ H Q p => tG.first (R := RI X.K) (f := fi) (g := fun it env h1 => bd (lc2S it t tt fi1 t1 tt1 fe vs1 (wipD env (own.map (·.2))) it.items [] h1) fun ds h2 => .ok (D.lst ds) h2) p fun r0 env h1 it J H1 rh rs rj p1 =>
    lc2_run rh rs rj hv hv1 p1
end
end Dt

namespace Dt
open PySem PySem.Spec PyProof.Rows L2
/-- from a law's contract over every base to the row's walk -/
theorem walk_dt {l : PySem.W.OpenLaw} {n k : Nat} {q : Program} {loose : List Str} {XP : (Str → Option Value) → Heap → Prop} {YP : World → Heap → Prop} {d : DefRec} {x : Str}
    (hn : l.most = some n) (hn2 : n ≤ sizeLine) (hdf : d.params.defaults = []) (hr : Room k callerA)
    (F : ∀ (w : World) (mg : Str → Option Value) (fa : Addr) (h : Heap), YP w h → h.Ns mainGlobals mg → mg d.name = some (.ref fa) →
      ∃ (K : PySem.W.Frag) (fd : FuncData) (G : FD), K.In h ∧ (∀ (s : Shared) (u : Value), BindsTo s fd ⟨[u], []⟩ [(x, u)]) ∧ (∀ ns : List Int, ns.length ≤ n → ∃ h, G [.scr ns] [] = .ok (.bl true) h) ∧
        ∀ base : Heap, K.In base → base.Ns mainGlobals mg → FnD l.prog w K mg base k fa fd [x] G) :
    PySem.W.WalkO q loose XP YP l.row.toRowW d [] (fun f vs => PySem.call f vs) := by
  refine Att.attach_call hn hdf ?_
  intro w s₀ s₁ mg mb fa o pm cd doc a vs ns G Y ho hd hcd hmg hobj hints hlen hg
  obtain ⟨K, fd, GG, KX, hb, hs, hF⟩ := F w mg fa _ Y G.T.g hmg
  refine law_call (CX := L2.CX l.prog w) KX G.T.g G.T.b G.T.builtins G.T.nolimit hg hobj hints (Nat.le_trans hlen hn2) hr hF hb ?_ ?_
  · intro H hO hS
    exact law_in hO hS (.inr (hs ns hlen))
  · intro H e s' hc
    obtain ⟨_, _, _, _, _, _, _, _, _, _, _, _, no⟩ := hc
    exact no
end Dt

namespace Dt
open PySem PySem.Spec PyProof.Rows L2

/-! ### evaluation, step by step -/
section
variable {α β : Type} {env e : Env'} {h h1 : DH} {f g : SF} {d a b : D} {ds : List D} {t u : TF} {fa fb fc fe fo : EF} {as fr : AF} {n i : Nat} {x : Exn} {o : Option D}
@[simp] theorem ev_seq : seq f g env h = sq2 (f env h) g := rfl
@[simp] theorem ev_sq_nx : sq2 (.nx e h) g = g e h := rfl
@[simp] theorem ev_sq_rt : sq2 (.rt d h) g = .rt d h := rfl
@[simp] theorem ev_sq_rz : sq2 (.rz x e h) g = .rz x e h := rfl
@[simp] theorem ev_sq_bad : sq2 .bad g = .bad := rfl
@[simp] theorem ev_bs_ok {a : α} {k : α → DH → So} : bs env (.ok a h) k = k a h := rfl
@[simp] theorem ev_bs_rz {k : α → DH → So} : bs env (.rz x h) k = .rz x env h := rfl
@[simp] theorem ev_skp : skp env h = .nx env h := rfl
@[simp] theorem ev_ife : ife t f g env h = bs env (t env h) fun b h1 => if b = true then f env h1 else g env h1 := rfl
@[simp] theorem ev_ret : ret fe env h = bs env (fe env h) fun d h1 => .rt d h1 := rfl
@[simp] theorem ev_retN : retN env h = .rt .non h := rfl
@[simp] theorem ev_drp : drp fe env h = bs env (fe env h) fun _ h1 => .nx env h1 := rfl
@[simp] theorem ev_asg : asg fe (.nm i) env h = bs env (fe env h) fun d h1 => .nx (env.set i (some d)) h1 := by
  unfold asg
  cases fe env h <;> rfl
@[simp] theorem ev_vr0 : vr 0 (some d :: env) h = .ok d h := rfl
@[simp] theorem ev_vrS : vr (n + 1) (o :: env) h = vr n env h := rfl
@[simp] theorem ev_ct : ct d env h = .ok d h := rfl
@[simp] theorem ev_o1 {k : D → DH → Rs D} : o1 k fa env h = bd (fa env h) fun a h1 => k a h1 := rfl
@[simp] theorem ev_o2 {k : D → D → DH → Rs D} : o2 k fa fb env h = bd (fa env h) fun a h1 => bd (fb env h1) fun b h2 => k a b h2 := rfl
@[simp] theorem ev_an : an env h = .ok [] h := rfl
@[simp] theorem ev_ac : ac fa fr env h = bd (fa env h) fun a h1 => bd (fr env h1) fun as h2 => .ok (a :: as) h2 := rfl
@[simp] theorem ev_oA {k : List D → DH → Rs D} : oA k as env h = bd (as env h) fun a h1 => k a h1 := rfl
@[simp] theorem ev_tv : tv fa env h = bd (fa env h) fun a h1 => tstD a h1 := rfl
@[simp] theorem ev_tst {b : Bool} : tstD (.bl b) h = .ok b h := rfl
@[simp] theorem ev_tnot : tnot t env h = bd (t env h) fun b h1 => .ok (!b) h1 := rfl
@[simp] theorem ev_tand : tand t u env h = bd (t env h) fun b h1 => if b = true then u env h1 else .ok false h1 := rfl
@[simp] theorem ev_tor : tor t u env h = bd (t env h) fun b h1 => if b = true then .ok true h1 else u env h1 := rfl
@[simp] theorem ev_eif : eif t fa fb env h = bd (t env h) fun b h1 => if b = true then fa env h1 else fb env h1 := rfl
@[simp] theorem ev_eand : eand fa fb env h = bd (fa env h) fun a h1 => bd (tstD a h1) fun b h2 => if b = true then fb env h2 else .ok (.bl false) h2 := rfl
@[simp] theorem ev_eor : eor fa fb env h = bd (fa env h) fun a h1 => bd (tstD a h1) fun b h2 => if b = true then .ok (.bl true) h2 else fb env h2 := rfl
@[simp] theorem ev_enot : enot fa env h = bd (fa env h) fun a h1 => bd (tstD a h1) fun b h2 => .ok (.bl (!b)) h2 := rfl
@[simp] theorem ev_och {k k2 : D → D → DH → Rs D} : och k k2 fa fb fc env h = bd (fa env h) fun a h1 => bd (fb env h1) fun b h2 => bd (k a b h2) fun z h3 => bd (tstD z h3) fun q h4 => if q = true then bd (fc env h4) fun c h5 => k2 b c h5 else .ok (.bl false) h4 := rfl
@[simp] theorem ev_cll {G : FD} : cll n G as env h = bd (as env h) fun ds h1 => if ds.length = n then G ds h1 else .bad := rfl
@[simp] theorem ev_mth {k : DH → D → Bool} {q : D → List D → DH → Rs D} : mth k q fo as env h = bd (fo env h) fun x h1 => if k h1 x = true then bd (as env h1) fun xs h2 => q x xs h2 else .bad := rfl
@[simp] theorem ev_mth0 {k : DH → D → Bool} {q : D → List D → DH → Rs D} : mth0 k q fo env h = bd (fo env h) fun x h1 => if k h1 x = true then q x [] h1 else .bad := rfl
@[simp] theorem ev_strK {z : Str} : strK h (.str z) = true := rfl
@[simp] theorem ev_mkT (hl : ds.length ≤ 1000000) : mkT ds h = .ok (.tup ds) h := if_pos hl
@[simp] theorem ev_mkF (hl : ds.length ≤ 1000000) : mkL false ds h = .ok (.lst ds) h := by
  unfold mkL
  rw [if_pos hl, if_neg Bool.false_ne_true]
@[simp] theorem ev_mkO (hl : ds.length ≤ 1000000) : mkL true ds h = .ok (.ref h.length) (h ++ [.lst ds]) := by
  unfold mkL
  rw [if_pos hl, if_pos rfl]
@[simp] theorem ev_isq : isq fa env h = bd (fa env h) fun d h1 => sqI d h1 := rfl
@[simp] theorem ev_sqT : sqI (.tup ds) h = .ok ⟨none, ds⟩ h := rfl
@[simp] theorem ev_sqL : sqI (.lst ds) h = .ok ⟨none, ds⟩ h := rfl
theorem ev_sqR (e : h[n]? = some (.lst ds)) : sqI (.ref n) h = .ok ⟨some n, ds⟩ h := by
  show (match h[n]? with | some (.lst ds) => Rs.ok (ItD.mk (some n) ds) h | _ => .bad) = _
  rw [e]
@[simp] theorem ev_pn : pn env h = .ok none h := rfl
@[simp] theorem ev_ps : ps fa env h = bd (fa env h) fun d h1 => match d with | .int i => .ok (some i) h1 | _ => .bad := rfl
@[simp] theorem ev_esl {own : Bool} {fl fh : PF} : esl own fe fl fh env h = bd (fe env h) fun x h1 => bd (fl env h1) fun l h2 => bd (fh env h2) fun u h3 => slD own x l u h3 := rfl
@[simp] theorem ev_setI {fi : EF} : setI fo fi fe env h = bs env (fe env h) fun v h1 => bs env (fo env h1) fun o h2 => bs env (fi env h2) fun i h3 => match setItD o i v h3 with
  | some h4 => .nx env h4
  | none => .bad := rfl
@[simp] theorem ev_tyes : tyes env h = .ok true h := rfl
@[simp] theorem ev_add {own : Bool} {i j : Int} : addD own (.int i) (.int j) h = .ok (.int (i + j)) h := rfl
@[simp] theorem ev_sub {i j : Int} : subD (.int i) (.int j) h = .ok (.int (i - j)) h := rfl
theorem ev_mul {own : Bool} {i j : Int} (c : smal i ∧ smal j) : mulD own (.int i) (.int j) h = .ok (.int (i * j)) h := if_pos c
theorem ev_div {i j : Int} (c : 0 < j ∧ j < 1809251394333065553493296640760748560207343510400633813116524750123642650624) : fdivD (.int i) (.int j) h = .ok (.int (i / j)) h := if_pos c
@[simp] theorem ev_mod {i j : Int} (c : 0 < j) : modD (.int i) (.int j) h = .ok (.int (i % j)) h := if_pos c
theorem ev_pow {i j : Int} (c : smal i ∧ 0 ≤ j ∧ j ≤ 1000) : powD (.int i) (.int j) h = .ok (.int (i ^ j.toNat)) h := if_pos c
@[simp] theorem ev_lt {i j : Int} : ltD (.int i) (.int j) h = .ok (.bl (decide (i < j))) h := rfl
@[simp] theorem ev_le {i j : Int} : leD (.int i) (.int j) h = .ok (.bl (decide (i ≤ j))) h := rfl
@[simp] theorem ev_gt {i j : Int} : gtD (.int i) (.int j) h = .ok (.bl (decide (i > j))) h := rfl
@[simp] theorem ev_ge {i j : Int} : geD (.int i) (.int j) h = .ok (.bl (decide (i ≥ j))) h := rfl
@[simp] theorem ev_max {i j : Int} : max2D [.int i, .int j] h = .ok (.int (max i j)) h := rfl
@[simp] theorem ev_min {i j : Int} : min2D [.int i, .int j] h = .ok (.int (min i j)) h := rfl
@[simp] theorem ev_lenT : lenD [.tup ds] h = .ok (.int ds.length) h := rfl
@[simp] theorem ev_lenL : lenD [.lst ds] h = .ok (.int ds.length) h := rfl
@[simp] theorem ev_lenS {ns : List Int} : lenD [.scr ns] h = .ok (.int ns.length) h := by
  show Rs.ok (D.int (((ns.map D.int).length : Nat) : Int)) h = _
  rw [List.length_map]
theorem ev_lenR (e : h[n]? = some (.lst ds)) : lenD [.ref n] h = .ok (.int ds.length) h := by
  simp [lenD, sq, lsq, e]
@[simp] theorem ev_lenZ {z : Str} (c : z.length ≤ 1000000) : lenD [.str z] h = .ok (.int z.length) h := if_pos c
/-- an index that is one -/
theorem atI_nat {xs : List D} {i : Nat} {d : D} (e : xs[i]? = some d) : atI xs (i : Int) = some d := by
  have hl := (List.getElem?_eq_some_iff.mp e).1
  have e1 : ixN xs.length (i : Int) = some i := by
    unfold ixN
    have h1 : (0 : Int) ≤ (i : Int) := by omega
    have h2 : (i : Int) < (xs.length : Nat) := by omega
    rw [if_pos h1, if_pos h2]
    rfl
  unfold atI
  rw [e1]
  exact e
theorem ev_ixL {ds : List D} {i : Nat} {d : D} (e : ds[i]? = some d) : ixD (.lst ds) (.int i) h = .ok d h := by
  simp [ixD, lkD, dkq, dtq, sq, lsq, atI_nat e]
theorem ev_ixT {ds : List D} {i : Nat} {d : D} (e : ds[i]? = some d) : ixD (.tup ds) (.int i) h = .ok d h := by
  simp [ixD, lkD, dkq, dtq, sq, lsq, atI_nat e]
theorem ev_ixR {ds : List D} {i : Nat} {d : D} (e1 : h[n]? = some (.lst ds)) (e : ds[i]? = some d) : ixD (.ref n) (.int i) h = .ok d h := by
  simp [ixD, lkD, dkq, dtq, sq, lsq, e1, atI_nat e]
theorem ev_ixS {ns : List Int} {i : Nat} {z : Int} (e : ns[i]? = some z) : ixD (.scr ns) (.int i) h = .ok (.int z) h := by
  have e2 : (ns.map D.int)[i]? = some (.int z) := by rw [List.getElem?_map, e]; rfl
  simp [ixD, lkD, dkq, dtq, sq, lsq, atI_nat e2]
theorem ev_setIt {ds : List D} {i : Nat} {d : D} (e1 : h[n]? = some (.lst ds)) (hi : i < ds.length) : setItD (.ref n) (.int i) d h = some (h.set n (.lst (ds.set i d))) := by
  have e2 : ixN ds.length (i : Int) = some i := by
    unfold ixN
    have h1 : (0 : Int) ≤ (i : Int) := by omega
    have h2 : (i : Int) < (ds.length : Nat) := by omega
    rw [if_pos h1, if_pos h2]
    rfl
  simp [setItD, mlst, e1, e2]
theorem ev_app {ds : List D} {d : D} (e1 : h[n]? = some (.lst ds)) (hl : ds.length ≤ 1000000) : appendD (.ref n) [d] h = .ok .non (h.set n (.lst (ds ++ [d]))) := by
  simp [appendD, mlst, e1, hl]
theorem ev_lstK {ds : List D} (e1 : h[n]? = some (.lst ds)) : lstK h (.ref n) = true := by
  simp [lstK, lsq, e1]
@[simp] theorem ev_tupT : tupleD [.tup ds] h = .ok (.tup ds) h := rfl
theorem ev_tupR (e1 : h[n]? = some (.lst ds)) (hl : ds.length ≤ 1000000) : tupleD [.ref n] h = .ok (.tup ds) h := by
  simp [tupleD, lsq, e1, hl]
theorem ev_str {i : Int} (c : smal i) : strID [.int i] h = .ok (.str (toString i)) h := if_pos c
@[simp] theorem ev_forE {fi : IF} {tg : Tg} : forE fi tg f env h = bs env (fi env h) fun it h1 => forS it tg f it.items env h1 := rfl
@[simp] theorem ev_rng1 {j : Int} (e : as env h = .ok [.int j] h1) (c : smR j) : rng1 as env h = .ok (rgI 0 j) h1 := by
  unfold rng1
  rw [e]
  exact if_pos c
end
/-! ### comprehensions over values, nothing changed -/
section
variable {α : Type} {env : Env'} {h : DH} {fe : EF} {i : Nat}
theorem lcS_nm {it : ItD} (hs : it.src = none) (g f : α → D) : ∀ (xs : List α) (acc : List D), (∀ x ∈ xs, fe (env.set i (some (g x))) h = .ok (f x) h) → acc.length + xs.length ≤ 1000000 →
    lcS it (.nm i) tyes fe env (xs.map g) acc h = .ok (acc ++ xs.map f) h
  | [], acc, _, _ => by
    have so : srcOk it h := fun n e => by rw [hs] at e; cases e
    simp [lcS, so]
  | x :: xs, acc, hf, hl => by
    have so : srcOk it h := fun n e => by rw [hs] at e; cases e
    have e1 := hf x List.mem_cons_self
    have l1 : acc.length < 1000000 := by simp at hl; omega
    have ih := lcS_nm hs g f xs (acc ++ [f x]) (fun y hy => hf y (List.mem_cons_of_mem _ hy)) (by simp at hl ⊢; omega)
    rw [List.map_cons]
    unfold lcS
    simp only [so, if_true, tgF, ev_tyes, e1, l1, ih]
    simp
theorem ev_lc (g f : α → D) (xs : List α) {fi : IF} {it : ItD} {vs : List Nat} (hi : fi env h = .ok it h) (hs : it.src = none) (hx : it.items = xs.map g) (hf : ∀ x ∈ xs, fe ((wipD env vs).set i (some (g x))) h = .ok (f x) h) (hl : xs.length ≤ 1000000) :
    lcE fi (.nm i) tyes fe vs env h = .ok (.lst (xs.map f)) h := by
  unfold lcE
  rw [hi]
  simp only [bd_ok, hx]
  rw [lcS_nm hs g f xs [] hf (by simpa using hl)]
  simp
theorem lcS_nmR {it : ItD} {n : Nat} (hs : it.src = some n) (hsrc : srcOk it h) (g f : α → D) : ∀ (xs : List α) (acc : List D), (∀ x ∈ xs, fe (env.set i (some (g x))) h = .ok (f x) h) → acc.length + xs.length ≤ 1000000 →
    lcS it (.nm i) tyes fe env (xs.map g) acc h = .ok (acc ++ xs.map f) h
  | [], acc, _, _ => by simp [lcS, hsrc]
  | x :: xs, acc, hf, hl => by
    have e1 := hf x List.mem_cons_self
    have l1 : acc.length < 1000000 := by simp at hl; omega
    have ih := lcS_nmR hs hsrc g f xs (acc ++ [f x]) (fun y hy => hf y (List.mem_cons_of_mem _ hy)) (by simp at hl ⊢; omega)
    rw [List.map_cons]
    unfold lcS
    simp only [hsrc, if_true, tgF, ev_tyes, e1, l1, ih]
    simp
/-- over a list of ours -/
theorem ev_lcR (g f : α → D) (xs : List α) {fi : IF} {it : ItD} {n : Nat} {vs : List Nat} (hi : fi env h = .ok it h) (hs : it.src = some n) (hh : h[n]? = some (.lst it.items)) (hx : it.items = xs.map g) (hf : ∀ x ∈ xs, fe ((wipD env vs).set i (some (g x))) h = .ok (f x) h) (hl : xs.length ≤ 1000000) :
    lcE fi (.nm i) tyes fe vs env h = .ok (.lst (xs.map f)) h := by
  unfold lcE
  rw [hi]
  simp only [bd_ok, hx]
  rw [lcS_nmR hs (fun m e => by rw [hs] at e; cases e; exact hh) g f xs [] hf (by simpa using hl)]
  simp
/-! ### loops by what holds between turns -/
theorem forS_run {it : ItD} {body : SF} (hs : it.src = none) (ds : List D) (I : Nat → Env' → DH → Prop) : ∀ (k : Nat) (env : Env') (h : DH), k ≤ ds.length → I k env h →
    (∀ j env h d, I j env h → ds[j]? = some d → ∃ e2 h2, (body (env.set i (some d)) h = .nx e2 h2 ∨ body (env.set i (some d)) h = .cn e2 h2) ∧ I (j + 1) e2 h2) →
    ∃ e2 h2, forS it (.nm i) body (ds.drop k) env h = .nx e2 h2 ∧ I ds.length e2 h2 := by
  intro k
  induction hm : ds.length - k generalizing k with
  | zero =>
    intro env h hk hI st
    have : k = ds.length := by omega
    subst this
    have so : srcOk it h := fun n e => by rw [hs] at e; cases e
    exact ⟨env, h, by simp [forS, so], hI⟩
  | succ m ih =>
    intro env h hk hI st
    have hlt : k < ds.length := by omega
    have so : srcOk it h := fun n e => by rw [hs] at e; cases e
    obtain ⟨e2, h2, hb, hI2⟩ := st k env h _ hI (List.getElem?_eq_getElem hlt)
    obtain ⟨e3, h3, hr, hI3⟩ := ih (k + 1) (by omega) e2 h2 (by omega) hI2 st
    refine ⟨e3, h3, ?_, hI3⟩
    rw [List.drop_eq_getElem_cons hlt]
    unfold forS
    simp only [so, if_true, tgF]
    rcases hb with hb | hb <;> rw [hb] <;> exact hr
theorem forS_all {it : ItD} {body : SF} {env : Env'} {h : DH} (hs : it.src = none) (I : Nat → Env' → DH → Prop) (h0 : I 0 env h)
    (st : ∀ j env h d, I j env h → it.items[j]? = some d → ∃ e2 h2, (body (env.set i (some d)) h = .nx e2 h2 ∨ body (env.set i (some d)) h = .cn e2 h2) ∧ I (j + 1) e2 h2) :
    ∃ e2 h2, forS it (.nm i) body it.items env h = .nx e2 h2 ∧ I it.items.length e2 h2 :=
  forS_run (i := i) hs it.items I 0 env h (Nat.zero_le _) h0 st
theorem whF_run {t : TF} {body : SF} (I : Nat → Env' → DH → Prop) (J : Env' → DH → Prop) : ∀ (m k fuel : Nat) (env : Env') (h : DH), m < fuel → I k env h →
    (∀ j env h, j < k + m → I j env h → ∃ h1 e2 h2, t env h = .ok true h1 ∧ body env h1 = .nx e2 h2 ∧ I (j + 1) e2 h2) →
    (∀ env h, I (k + m) env h → ∃ h1, t env h = .ok false h1 ∧ J env h1) → ∃ e2 h2, whF t body fuel env h = .nx e2 h2 ∧ J e2 h2
  | m, k, 0, env, h, hm, _, _, _ => by omega
  | 0, k, fuel + 1, env, h, _, hI, _, en => by
    obtain ⟨h1, e1, j⟩ := en env h hI
    exact ⟨env, h1, by unfold whF; rw [e1]; simp, j⟩
  | m + 1, k, fuel + 1, env, h, hm, hI, st, en => by
    obtain ⟨h1, e2, h2, et, eb, hI2⟩ := st k env h (by omega) hI
    obtain ⟨e3, h3, er, j⟩ := whF_run I J m (k + 1) fuel e2 h2 (by omega) hI2 (fun j env h hj => st j env h (by omega)) (fun env h q => en env h (by
      have : k + 1 + m = k + (m + 1) := by omega
      rwa [this] at q))
    refine ⟨e3, h3, ?_, j⟩
    unfold whF
    rw [et]
    simp only [ev_bs_ok, if_true, eb]
    exact er
end
/-! ### plain data, compared -/
section
variable {α : Type} {h : DH}
theorem mapO_map {β γ : Type} {f : β → Option γ} {g : α → β} {e : α → γ} : ∀ {xs : List α}, (∀ x ∈ xs, f (g x) = some (e x)) → mapO f (xs.map g) = some (xs.map e)
  | [], _ => rfl
  | x :: xs, q => by
    have h1 := q x List.mem_cons_self
    have h2 := mapO_map (f := f) (g := g) (e := e) (xs := xs) fun y hy => q y (List.mem_cons_of_mem _ hy)
    simp only [List.map_cons, mapO, h1, h2]
abbrev iD (n : Nat) : D := .int n
abbrev iP (n : Nat) : PyData := .int n
theorem toP_ints {k : Nat} {ns : List Nat} : mapO (toP h (k + 1)) (ns.map iD) = some (ns.map iP) := mapO_map fun _ _ => rfl
theorem toP_lstI {k : Nat} {ns : List Nat} : toP h (k + 2) (.lst (ns.map iD)) = some (.list (ns.map iP)) := by
  show (mapO (toP h (k + 1)) (ns.map iD)).map PyData.list = _
  rw [toP_ints]; rfl
theorem toP_tupI {k : Nat} {ns : List Nat} : toP h (k + 2) (.tup (ns.map iD)) = some (.tuple (ns.map iP)) := by
  show (mapO (toP h (k + 1)) (ns.map iD)).map PyData.tuple = _
  rw [toP_ints]; rfl
/-- tuples of whole numbers -/
abbrev rD (ns : List Nat) : D := .tup (ns.map iD)
abbrev rP (ns : List Nat) : PyData := .tuple (ns.map iP)
theorem toP_lstR {k : Nat} {p : List (List Nat)} : toP h (k + 3) (.lst (p.map rD)) = some (.list (p.map rP)) := by
  show (mapO (toP h (k + 2)) (p.map rD)).map PyData.list = _
  rw [mapO_map (e := rP) fun _ _ => toP_tupI]; rfl
theorem toP_tupR {k : Nat} {p : List (List Nat)} : toP h (k + 3) (.tup (p.map rD)) = some (.tuple (p.map rP)) := by
  show (mapO (toP h (k + 2)) (p.map rD)).map PyData.tuple = _
  rw [mapO_map (e := rP) fun _ _ => toP_tupI]; rfl
theorem toP_refR {k n : Nat} {p : List (List Nat)} (e : h[n]? = some (.lst (p.map rD))) : toP h (k + 3) (.ref n) = some (.list (p.map rP)) := by
  have e2 : toP h (k + 3) (.ref n) = (mapO (toP h (k + 2)) (p.map rD)).map PyData.list := by
    simp [toP, tsq, lsq, e]
  rw [e2, mapO_map (e := rP) fun _ _ => toP_tupI]; rfl
theorem lay_ints : ∀ {ns : List Nat}, PyData.canLayAll0 (ns.map iP) = true ∧ PyData.depthAll (ns.map iP) = 0
  | [] => by simp [PyData.canLayAll0, PyData.depthAll]
  | n :: ns => by
    obtain ⟨a, b⟩ := lay_ints (ns := ns)
    simp [PyData.canLayAll0, PyData.canLay0, PyData.depthAll, PyData.depth, a, b]
theorem lay_rows : ∀ {p : List (List Nat)}, PyData.canLayAll0 (p.map rP) = true ∧ PyData.depthAll (p.map rP) ≤ 1
  | [] => by simp [PyData.canLayAll0, PyData.depthAll]
  | q :: p => by
    obtain ⟨a, b⟩ := lay_rows (p := p)
    obtain ⟨c, d⟩ := lay_ints (ns := q)
    simp only [List.map_cons, PyData.canLayAll0, PyData.canLay0, PyData.depthAll, PyData.depth, a, c, d]
    refine ⟨rfl, ?_⟩
    omega
theorem shp_lstI {ns : List Nat} : SeqAt.shaped (.list (ns.map iP)) = true := by
  obtain ⟨a, b⟩ := lay_ints (ns := ns)
  simp [SeqAt.shaped, PyData.canLay0, PyData.depth, a, b]
theorem shp_row {ns : List Nat} : SeqAt.shaped (rP ns) = true := by
  obtain ⟨a, b⟩ := lay_ints (ns := ns)
  simp [SeqAt.shaped, PyData.canLay0, PyData.depth, a, b]
theorem shp_lstR {p : List (List Nat)} : SeqAt.shaped (.list (p.map rP)) = true := by
  obtain ⟨a, b⟩ := lay_rows (p := p)
  have : 1 + PyData.depthAll (p.map rP) ≤ 64 := by omega
  simp [SeqAt.shaped, PyData.canLay0, PyData.depth, a]
  omega
theorem shp_tupR {p : List (List Nat)} : SeqAt.shaped (.tuple (p.map rP)) = true := by
  obtain ⟨a, b⟩ := lay_rows (p := p)
  simp [SeqAt.shaped, PyData.canLay0, PyData.depth, a]
  omega
theorem eqB_same {x y : D} {p : PyData} (e1 : toP h 60 x = some p) (e2 : toP h 60 y = some p) (hs : SeqAt.shaped p = true) : eqB x y h = some true := by
  unfold eqB
  rw [e1, e2]
  simp only [hs, and_self, if_true]
  rw [SeqAt.eqv_refl p (SeqAt.canLay_of_shaped hs)]
theorem ev_eqI {i j : Int} : eqD (.int i) (.int j) h = .ok (.bl (decide (i = j))) h := by
  have e : eqB (.int i) (.int j) h = some (PyData.eqv (.int i) (.int j)) := by
    unfold eqB
    simp [toP, SeqAt.shaped, PyData.canLay0, PyData.depth]
  unfold eqD
  rw [e]
  simp only [PyData.eqv]
  by_cases hij : i = j <;> simp [hij]
theorem ev_eqB {i j : Bool} : eqD (.bl i) (.bl j) h = .ok (.bl (decide (i = j))) h := by
  have e : eqB (.bl i) (.bl j) h = some (PyData.eqv (.bool i) (.bool j)) := by
    unfold eqB
    simp [toP, SeqAt.shaped, PyData.canLay0, PyData.depth]
  unfold eqD
  rw [e]
  simp only [PyData.eqv]
  by_cases hij : i = j <;> simp [hij]
theorem ev_neB {i j : Bool} : neD (.bl i) (.bl j) h = .ok (.bl (!decide (i = j))) h := by
  have e : eqB (.bl i) (.bl j) h = some (PyData.eqv (.bool i) (.bool j)) := by
    unfold eqB
    simp [toP, SeqAt.shaped, PyData.canLay0, PyData.depth]
  unfold neD
  rw [e]
  simp only [PyData.eqv]
  by_cases hij : i = j <;> simp [hij]
theorem ev_eqZ {x y : Str} (hx : PyData.strOk x = true) (hy : PyData.strOk y = true) : eqD (.str x) (.str y) h = .ok (.bl (decide (x = y))) h := by
  have e : eqB (.str x) (.str y) h = some (PyData.eqv (.str x) (.str y)) := by
    unfold eqB
    simp [toP, SeqAt.shaped, PyData.canLay0, PyData.depth, hx, hy]
  unfold eqD
  rw [e]
  simp only [PyData.eqv]
  by_cases hij : x = y <;> simp [hij]
theorem ev_neZ {x y : Str} (hx : PyData.strOk x = true) (hy : PyData.strOk y = true) : neD (.str x) (.str y) h = .ok (.bl (!decide (x = y))) h := by
  have e : eqB (.str x) (.str y) h = some (PyData.eqv (.str x) (.str y)) := by
    unfold eqB
    simp [toP, SeqAt.shaped, PyData.canLay0, PyData.depth, hx, hy]
  unfold neD
  rw [e]
  simp only [PyData.eqv]
  by_cases hij : x = y <;> simp [hij]
theorem ev_same {x y : D} {p : PyData} (e1 : toP h 60 x = some p) (e2 : toP h 60 y = some p) (hs : SeqAt.shaped p = true) : eqD x y h = .ok (.bl true) h := by
  unfold eqD
  rw [eqB_same e1 e2 hs]
theorem ev_nsame {x y : D} {p : PyData} (e1 : toP h 60 x = some p) (e2 : toP h 60 y = some p) (hs : SeqAt.shaped p = true) : neD x y h = .ok (.bl false) h := by
  unfold neD
  rw [eqB_same e1 e2 hs]
  rfl
end
end Dt

namespace Dt
open PySem PySem.Spec PyProof.Rows L2
theorem smal_of {i : Int} (h0 : 0 ≤ i) (h1 : i < 1393796574908163946345982392040522594123776) : smal i := by
  unfold smal
  omega
/-! ### the draw of k43 -/
noncomputable def drawF : FD := raw ["bag", "many", "found", "mixed"]
  (seq (ife (tv (o2 gtD (o2 ixD (vr 0) (ct (.int 0))) (ct (.int 1)))) (seq (asg (o2 modD (o2 ixD (vr 0) (ct (.int 0))) (vr 1)) (.nm 2))
    (seq (setI (vr 0) (ct (.int 0)) (o2 fdivD (o2 ixD (vr 0) (ct (.int 0))) (vr 1)))
    (ret (vr 2)))) skp)
    (seq (setI (vr 0) (ct (.int 2)) (o2 (addD false) (o2 ixD (vr 0) (ct (.int 2))) (ct (.int 1))))
    (seq (asg (o2 modD (o2 powD (o2 (addD false) (o2 ixD (vr 0) (ct (.int 1))) (o2 (mulD false) (ct (.int 49979687)) (o2 ixD (vr 0) (ct (.int 2))))) (ct (.int 3))) (ct (.int 170141183460469231731687303715884105727))) (.nm 3))
    (seq (asg (o2 modD (o2 powD (o2 (addD false) (vr 3) (o2 (mulD false) (ct (.int 86028157)) (o2 ixD (vr 0) (ct (.int 2))))) (ct (.int 3))) (ct (.int 162259276829213363391578010288127))) (.nm 3))
    (ret (o2 modD (o2 fdivD (vr 3) (ct (.int 4096))) (vr 1)))))))
def Bag (h : DH) (n c : Nat) : Prop := ∃ b0 b1 b2 : Int, h[n]? = some (.lst [.int b0, .int b1, .int b2]) ∧ 0 ≤ b0 ∧ 0 ≤ b1 ∧ b1 < 2 ^ 130 ∧ 0 ≤ b2 ∧ b2 ≤ c
theorem Bag.lt {h : DH} {n c : Nat} (b : Bag h n c) : n < h.length := by
  obtain ⟨_, _, _, e, _⟩ := b
  exact (List.getElem?_eq_some_iff.mp e).1
theorem Bag.set {h : DH} {n c m : Nat} {o : O} (b : Bag h n c) (hm : m ≠ n) : Bag (h.set m o) n c := by
  obtain ⟨b0, b1, b2, e, r⟩ := b
  exact ⟨b0, b1, b2, by rw [List.getElem?_set_ne hm]; exact e, r⟩
theorem Bag.app {h g : DH} {n c : Nat} (b : Bag h n c) : Bag (h ++ g) n c := by
  have hl := b.lt
  obtain ⟨b0, b1, b2, e, r⟩ := b
  exact ⟨b0, b1, b2, by rw [List.getElem?_append_left hl]; exact e, r⟩
theorem Bag.le {h : DH} {n c c' : Nat} (b : Bag h n c) (hc : c ≤ c') : Bag h n c' := by
  obtain ⟨b0, b1, b2, e, r1, r2, r3, r4, r5⟩ := b
  exact ⟨b0, b1, b2, e, r1, r2, r3, r4, by omega⟩
theorem draw_ok {h : DH} {n c : Nat} {m : Int} (hb : Bag h n c) (hc : c < 1000000000) (hm : 0 < m) (hm2 : m < 1000000) :
    ∃ (r : Nat) (bs : List D), drawF [.ref n, .int m] h = .ok (.int r) (h.set n (.lst bs)) ∧ (r : Int) < m ∧ Bag (h.set n (.lst bs)) n (c + 1) := by
  have hl := hb.lt
  obtain ⟨b0, b1, b2, hn, p0, p1, q1, p2, q2⟩ := hb
  have i0 : ixD (.ref n) (.int 0) h = .ok (.int b0) h := ev_ixR (i := 0) hn rfl
  have i1 : ∀ (x y z : D), ixD (.ref n) (.int 1) (h.set n (.lst [x, y, z])) = .ok y (h.set n (.lst [x, y, z])) := fun x y z => ev_ixR (i := 1) (by rw [List.getElem?_set_self hl]) rfl
  have i2 : ∀ (x y z : D), ixD (.ref n) (.int 2) (h.set n (.lst [x, y, z])) = .ok z (h.set n (.lst [x, y, z])) := fun x y z => ev_ixR (i := 2) (by rw [List.getElem?_set_self hl]) rfl
  have j2 : ixD (.ref n) (.int 2) h = .ok (.int b2) h := ev_ixR (i := 2) hn rfl
  have s0 : ∀ d, setItD (.ref n) (.int 0) d h = some (h.set n (.lst [d, .int b1, .int b2])) := fun d => ev_setIt (i := 0) hn (by simp)
  have s2 : ∀ d, setItD (.ref n) (.int 2) d h = some (h.set n (.lst [.int b0, .int b1, d])) := fun d => ev_setIt (i := 2) hn (by simp)
  have ml : m < 1809251394333065553493296640760748560207343510400633813116524750123642650624 := Int.lt_trans hm2 (by decide)
  have dv : ∀ h, fdivD (.int b0) (.int m) h = .ok (.int (b0 / m)) h := fun h => ev_div ⟨hm, ml⟩
  have dw : ∀ x h, fdivD (.int x) (.int 4096) h = .ok (.int (x / 4096)) h := fun x h => ev_div ⟨by decide, by decide⟩
  by_cases hgt : b0 > 1
  · refine ⟨(b0 % m).toNat, [.int (b0 / m), .int b1, .int b2], ?_, ?_, ?_⟩
    · have e1 : ((b0 % m).toNat : Int) = b0 % m := Int.toNat_of_nonneg (Int.emod_nonneg _ (by omega))
      rw [e1]
      simp [drawF, raw, startD, List.replicate, i0, hgt, hm, dv, s0, ev_mod]
    · rw [Int.toNat_of_nonneg (Int.emod_nonneg _ (by omega))]
      exact Int.emod_lt_of_pos _ hm
    · exact ⟨b0 / m, b1, b2, by rw [List.getElem?_set_self hl], Int.ediv_nonneg p0 (by omega), p1, q1, p2, by omega⟩
  · have a1 : smal (49979687 : Int) := smal_of (by decide) (by decide)
    have a2 : smal (b2 + 1) := smal_of (by omega) (by omega)
    have a3 : smal (86028157 : Int) := smal_of (by decide) (by decide)
    have e130 : (2 : Int) ^ 130 = 1361129467683753853853498429727072845824 := by decide
    have e140 : (2 : Int) ^ 140 = 1393796574908163946345982392040522594123776 := by decide
    rw [e130] at q1
    have a4 : smal (b1 + 49979687 * (b2 + 1)) := smal_of (by omega) (by omega)
    have a5 : ∀ x : Int, smal (x % 170141183460469231731687303715884105727 + 86028157 * (b2 + 1)) := fun x => smal_of (by
      have := Int.emod_nonneg x (b := 170141183460469231731687303715884105727) (by decide)
      omega) (by
      have := Int.emod_lt_of_pos x (b := 170141183460469231731687303715884105727) (by decide)
      omega)
    obtain ⟨v, hv⟩ : ∃ v : Int, v = ((((b1 + 49979687 * (b2 + 1)) ^ 3 % 170141183460469231731687303715884105727 + 86028157 * (b2 + 1)) ^ 3 % 162259276829213363391578010288127) / 4096) % m := ⟨_, rfl⟩
    have v0 : 0 ≤ v := by rw [hv]; exact Int.emod_nonneg _ (by omega)
    have v1 : v < m := by rw [hv]; exact Int.emod_lt_of_pos _ hm
    refine ⟨v.toNat, [.int b0, .int b1, .int (b2 + 1)], ?_, ?_, ?_⟩
    · rw [Int.toNat_of_nonneg v0, hv]
      have z3 : (3 : Int).toNat = 3 := rfl
      have d1 : (4096 : Int) < 2 ^ 250 := by decide
      simp [drawF, raw, startD, List.replicate, i0, hgt, hm, s2, j2, i1, i2, a1, a2, a3, a4, a5, z3, dw, ev_mod, ev_mul, ev_pow]
    · rw [Int.toNat_of_nonneg v0]; exact v1
    · exact ⟨b0, b1, b2 + 1, by rw [List.getElem?_set_self hl], p0, p1, by rw [e130]; exact q1, by omega, by omega⟩
end Dt

namespace Dt
open PySem PySem.Spec PyProof.Rows L2
/-- a text of these signs -/
abbrev tx (l : List Nat) : Str := ⟨l.toArray⟩
theorem tx_len (l : List Nat) : (tx l).length = l.length := by simp [Str.length]
theorem tx_ok {l : List Nat} (h : ∀ c ∈ l, c < 1114112) : PyData.strOk (tx l) = true := by
  simp only [PyData.strOk, Array.all_eq_true, decide_eq_true_eq]
  intro i hi
  simp at hi ⊢
  exact h _ (List.getElem_mem _)
theorem tx_join (a : List Nat) (ys : List (List Nat)) : Txt.join (tx a) (ys.map tx) = tx (TL.joinL a ys) := SX.join_S a ys
/-- the signs of a number -/
def dg (n : Nat) : List Nat := (Nat.toDigits 10 n).map Char.toNat
theorem dg_str (n : Nat) : (Str.ofString (toString (n : Int))) = tx (dg n) := by
  have e := PySem.W.KIN.signs_num n
  unfold dg
  rw [← e]
theorem dg_digit {n c : Nat} (h : c ∈ dg n) : 48 ≤ c ∧ c ≤ 57 := by
  obtain ⟨ch, hch, e⟩ := List.mem_map.mp h
  have r := PyProof.Rows.digit_range (Nat.isDigit_of_mem_toDigits (by decide) (by decide) hch)
  rw [← e]
  exact r
theorem dg_ne (n : Nat) : dg n ≠ [] := by
  unfold dg
  intro e
  have := PyProof.Rows.tDigits_len_ge 10 n
  rw [List.map_eq_nil_iff] at e
  rw [e] at this
  simp at this
theorem dg_len {n k : Nat} (hk : 1 ≤ k) (hn : n < 10 ^ k) : (dg n).length ≤ k := by
  unfold dg
  rw [List.length_map]
  exact PyProof.Rows.digits10_le hk hn
theorem dg_reads {n : Nat} (h : n < 10 ^ 10) : PySem.intText? (tx (dg n)) = some (n : Int) := by
  rw [← dg_str]
  exact PySem.W.KIN.num_reads (by omega) (by
    have : ((10 ^ 10 : Nat) : Int) = 10 ^ 10 := by decide
    omega)
theorem dg_step {n : Nat} (h : 10 ≤ n) : dg n = dg (n / 10) ++ dg (n % 10) := by
  have t : Nat.toDigits 10 (n / 10) ++ Nat.toDigits 10 (n % 10) = Nat.toDigits 10 (10 * (n / 10) + n % 10) := Nat.toDigits_append_toDigits (by decide) (by omega) (by omega)
  rw [Nat.div_add_mod] at t
  unfold dg
  rw [← t, List.map_append]
theorem dg_zero : dg 0 = [48] := by decide
theorem dg_head {n : Nat} (h : (dg n)[0]? = some 48) : n = 0 := by
  induction n using Nat.strongRecOn with
  | _ n ih =>
    by_cases hn : n < 10
    · have q : ∀ m, m < 10 → (dg m)[0]? = some 48 → m = 0 := by decide
      exact q n hn h
    · rw [dg_step (by omega), List.getElem?_append_left (List.length_pos_iff.mpr (dg_ne _))] at h
      have := ih (n / 10) (by omega) h
      omega
/-! ### fields, methods -/
section
variable {env : Env'} {h h1 : DH} {C : Addr} {fs : List Str} {ds : List D} {d : D} {fo fe : EF} {as : AF} {f m : Str} {s n : Nat} {G : FD}
theorem insOf_at (hi : h[s]? = some (.ins C fs ds)) : insOf h C (.ref s) = some (s, fs, ds) := by
  simp [insOf, hi]
theorem ev_fld (hx : fo env h = .ok (.ref s) h1) (hi : h1[s]? = some (.ins C fs ds)) (hf : flk fs ds f = some d) : fld C f fo env h = .ok d h1 := by
  simp [fld, hx, insOf_at hi, hf]
theorem ev_mcl (hx : fo env h = .ok (.ref s) h1) (hi : h1[s]? = some (.ins C fs ds)) (hm : m ∉ fs) : mcl C m n G fo as env h = bd (as env h1) fun es h2 => if es.length + 1 = n then G (.ref s :: es) h2 else .bad := by
  simp [mcl, hx, insOf_at hi, hm]
theorem ev_setF (hv : fe env h = .ok d h) (hx : fo env h = .ok (.ref s) h) (hi : h[s]? = some (.ins C fs ds)) (hl : fs.length < 900) : setF C f fo fe env h = .nx env (h.set s (.ins C (fput fs ds f d).1 (fput fs ds f d).2)) := by
  simp [setF, hv, hx, insOf_at hi, hl]
theorem ev_augF {i j : Int} (hx : fo env h = .ok (.ref s) h) (hi : h[s]? = some (.ins C fs ds)) (hf : flk fs ds f = some (.int i)) (hv : fe env h = .ok (.int j) h) (hl : fs.length < 900) :
    augF C f fo fe env h = .nx env (h.set s (.ins C (fput fs ds f (.int (i + j))).1 (fput fs ds f (.int (i + j))).2)) := by
  simp [augF, hx, insOf_at hi, hf, hv, augP, hl]
end
/-! ### the reader of texts -/
section
variable {C : Addr}
def srcO (C : Addr) (l : List Nat) (a : Nat) : O := .ins C ["whole", "at"] [.str (tx l), .int a]
noncomputable def isOverF (C : Addr) : FD := raw ["self"] (ret (o2 eqD (fld C "at" (vr 0)) (oA lenD (ac (fld C "whole" (vr 0)) an))))
noncomputable def nowF (C : Addr) : FD := raw ["self"] (ret (esl false (fld C "whole" (vr 0)) (ps (fld C "at" (vr 0))) (ps (o2 (addD false) (fld C "at" (vr 0)) (ct (.int 1))))))
noncomputable def skipsF (C : Addr) : FD := raw ["self", "word"] (seq (ife (tnot (tv (mth strK starts3D (fld C "whole" (vr 0)) (ac (vr 1) (ac (fld C "at" (vr 0)) an))))) (ret (ct (.bl false))) skp)
    (seq (augF C "at" (vr 0) (oA lenD (ac (vr 1) an)))
    (ret (ct (.bl true)))))
noncomputable def runF (C : Addr) : FD := raw ["self", "signs", "begun"] (seq (asg (fld C "at" (vr 0)) (.nm 2))
    (seq (whF (tand (tnot (tv (mcl C "is_over" 1 (isOverF C) (vr 0) an))) (tv (o2 inD (mcl C "now" 1 (nowF C) (vr 0) an) (vr 1)))) (augF C "at" (vr 0) (ct (.int 1))) many)
    (ret (esl false (fld C "whole" (vr 0)) (ps (vr 2)) (ps (fld C "at" (vr 0)))))))
noncomputable def countF (C : Addr) : FD := raw ["self", "figures"] (seq (asg (mcl C "run" 2 (runF C) (vr 0) (ac (ct (.str "0123456789")) an)) (.nm 1))
    (seq (ife (tor (tnot (tv (och leD leD (ct (.int 1)) (oA lenD (ac (vr 1) an)) (ct (.int 20))))) (tand (tv (o2 eqD (o2 ixD (vr 1) (ct (.int 0))) (ct (.str "0")))) (tv (o2 neD (vr 1) (ct (.str "0")))))) nev skp)
    (ret (oA intD (ac (vr 1) an)))))
variable {h : DH} {s a : Nat} {l : List Nat} {env : Env'}
theorem sf_at : flk (["whole", "at"] : List Str) [.str (tx l), .int a] "at" = some (.int a) := by
  have e : (("at" : Str) = "whole") = False := eq_false (by decide)
  simp [flk, e]
theorem sf_wh : flk (["whole", "at"] : List Str) [.str (tx l), .int a] "whole" = some (.str (tx l)) := by
  simp [flk]
theorem sp_at {d : D} : fput (["whole", "at"] : List Str) [.str (tx l), .int a] "at" d = ((["whole", "at"] : List Str), [D.str (tx l), d]) := by
  have e : (("whole" : Str) = "at") = False := eq_false (by decide)
  simp [fput, e]
theorem nin1 : ("is_over" : Str) ∉ (["whole", "at"] : List Str) := by decide
theorem nin2 : ("now" : Str) ∉ (["whole", "at"] : List Str) := by decide
theorem nin3 : ("run" : Str) ∉ (["whole", "at"] : List Str) := by decide
theorem nin4 : ("count" : Str) ∉ (["whole", "at"] : List Str) := by decide
theorem nin5 : ("skips" : Str) ∉ (["whole", "at"] : List Str) := by decide
theorem isOver_ok (hs : h[s]? = some (srcO C l a)) (hl : l.length ≤ 1000000) : isOverF C [.ref s] h = .ok (.bl (decide (a = l.length))) h := by
  have e1 : ∀ e, fld C "at" (vr 0) (some (.ref s) :: e) h = .ok (.int a) h := fun e => ev_fld rfl hs sf_at
  have e2 : ∀ e, fld C "whole" (vr 0) (some (.ref s) :: e) h = .ok (.str (tx l)) h := fun e => ev_fld rfl hs sf_wh
  have e3 : lenD [.str (tx l)] h = .ok (.int l.length) h := by
    rw [ev_lenZ (by rw [tx_len]; exact hl), tx_len]
  have e4 : ((a : Int) = (l.length : Int)) = (a = l.length) := propext (by omega)
  simp [isOverF, raw, startD, e1, e2, e3, ev_eqI, e4]
theorem cut_one {c : Nat} (hc : l[a]? = some c) : cutS (tx l) (some (a : Int)) (some ((a : Int) + 1)) = tx [c] := by
  have hlt := (List.getElem?_eq_some_iff.mp hc).1
  have e1 : HT.sIx (tx l).length 0 (some (a : Int)) = a := by rw [HT.sIx_nat, tx_len]; omega
  have e2 : HT.sIx (tx l).length (tx l).length (some ((a : Int) + 1)) = a + 1 := by
    have : ((a : Int) + 1) = ((a + 1 : Nat) : Int) := by omega
    rw [this, HT.sIx_nat, tx_len]; omega
  unfold cutS
  rw [e1, e2]
  have e3 : a + 1 - a = 1 := by omega
  rw [e3]
  show (⟨((l.toArray.toList.drop a).take 1).toArray⟩ : Str) = _
  rw [List.toList_toArray, List.drop_eq_getElem_cons hlt]
  have e4 : l[a] = c := by
    have := List.getElem?_eq_getElem hlt
    rw [hc] at this; cases this; rfl
  rw [e4]
  rfl
theorem cut_mid {b : Nat} (hb : a + b ≤ l.length) : cutS (tx l) (some (a : Int)) (some ((a + b : Nat) : Int)) = tx ((l.drop a).take b) := by
  have e1 : HT.sIx (tx l).length 0 (some (a : Int)) = a := by rw [HT.sIx_nat, tx_len]; omega
  have e2 : HT.sIx (tx l).length (tx l).length (some ((a + b : Nat) : Int)) = a + b := by rw [HT.sIx_nat, tx_len]; omega
  unfold cutS
  rw [e1, e2]
  have e3 : a + b - a = b := by omega
  rw [e3]
theorem now_ok {c : Nat} (hs : h[s]? = some (srcO C l a)) (hl : l.length ≤ 1000000) (hc : l[a]? = some c) : nowF C [.ref s] h = .ok (.str (tx [c])) h := by
  have e1 : ∀ e, fld C "at" (vr 0) (some (.ref s) :: e) h = .ok (.int a) h := fun e => ev_fld rfl hs sf_at
  have e2 : ∀ e, fld C "whole" (vr 0) (some (.ref s) :: e) h = .ok (.str (tx l)) h := fun e => ev_fld rfl hs sf_wh
  have e3 : slD false (.str (tx l)) (some (a : Int)) (some ((a : Int) + 1)) h = .ok (.str (tx [c])) h := by
    have q : (tx l).length ≤ 1000000 := by rw [tx_len]; exact hl
    show (if (tx l).length ≤ 1000000 then Rs.ok (D.str (cutS (tx l) (some (a : Int)) (some ((a : Int) + 1)))) h else .bad) = _
    rw [if_pos q, cut_one hc]
  simp [nowF, raw, startD, e1, e2, e3]
/-- a word of one sign -/
theorem starts_one {c : Nat} (hl : a ≤ l.length) : Txt.startswith3 (tx l) (tx [c]) (a : Int) = decide (l[a]? = some c) := by
  unfold Txt.startswith3
  have e1 : fromIndex (tx l).length (a : Int) = a := by
    unfold fromIndex
    have h1 : ¬ ((a : Int) < 0) := by omega
    rw [if_neg h1]; omega
  rw [e1, StrLaws.subAt_eq, tx_len, tx_len]
  show (decide (a + 1 ≤ l.length) && (List.take 1 (List.drop a l.toArray.toList) == [c].toArray.toList)) = _
  rw [List.toList_toArray, List.toList_toArray]
  by_cases hlt : a < l.length
  · rw [List.drop_eq_getElem_cons hlt, List.getElem?_eq_getElem hlt]
    have h1 : a + 1 ≤ l.length := hlt
    simp only [List.take_succ_cons, List.take_zero, h1, decide_true, Bool.true_and]
    by_cases he : l[a] = c <;> simp [he]
  · have h1 : ¬ a + 1 ≤ l.length := hlt
    rw [List.getElem?_eq_none (by omega)]
    simp [h1]
theorem skips_ok {c : Nat} (hs : h[s]? = some (srcO C l a)) (ha : a ≤ l.length) (hc : l[a]? = some c) : skipsF C [.ref s, .str (tx [c])] h = .ok (.bl true) (h.set s (srcO C l (a + 1))) := by
  have e1 : ∀ e, fld C "at" (vr 0) (some (.ref s) :: e) h = .ok (.int a) h := fun e => ev_fld rfl hs sf_at
  have e2 : ∀ e, fld C "whole" (vr 0) (some (.ref s) :: e) h = .ok (.str (tx l)) h := fun e => ev_fld rfl hs sf_wh
  have e3 : starts3D (.str (tx l)) [.str (tx [c]), .int a] h = .ok (.bl true) h := by
    show Rs.ok (D.bl (Txt.startswith3 (tx l) (tx [c]) a)) h = _
    rw [starts_one ha, hc]; simp
  have e4 : lenD [.str (tx [c])] h = .ok (.int 1) h := by
    rw [ev_lenZ (by rw [tx_len]; simp), tx_len]; rfl
  have e5 : ∀ e, augF C "at" (vr 0) (oA lenD (ac (vr 1) an)) (some (.ref s) :: some (.str (tx [c])) :: e) h = .nx (some (.ref s) :: some (.str (tx [c])) :: e) (h.set s (srcO C l (a + 1))) := fun e => by
    rw [ev_augF (s := s) (j := 1) rfl hs sf_at (by simp [e4]) (by decide), sp_at]
    rfl
  simp [skipsF, raw, startD, e1, e2, e3, e5]
theorem skips_no {c : Nat} (hs : h[s]? = some (srcO C l a)) (ha : a ≤ l.length) (hc : l[a]? ≠ some c) : skipsF C [.ref s, .str (tx [c])] h = .ok (.bl false) h := by
  have e1 : ∀ e, fld C "at" (vr 0) (some (.ref s) :: e) h = .ok (.int a) h := fun e => ev_fld rfl hs sf_at
  have e2 : ∀ e, fld C "whole" (vr 0) (some (.ref s) :: e) h = .ok (.str (tx l)) h := fun e => ev_fld rfl hs sf_wh
  have e3 : starts3D (.str (tx l)) [.str (tx [c]), .int a] h = .ok (.bl false) h := by
    show Rs.ok (D.bl (Txt.startswith3 (tx l) (tx [c]) a)) h = _
    rw [starts_one ha]; simp [hc]
  simp [skipsF, raw, startD, e1, e2, e3]
/-- a run of signs of a kind -/
theorem run_ok {signs ds : List Nat} (hs : h[s]? = some (srcO C l a)) (hl : l.length ≤ 100000) (hd : (l.drop a).take ds.length = ds) (hle : a + ds.length ≤ l.length) (hin : ∀ c ∈ ds, c ∈ signs)
    (hout : ∀ c, l[a + ds.length]? = some c → c ∉ signs) : runF C [.ref s, .str (tx signs)] h = .ok (.str (tx ds)) (h.set s (srcO C l (a + ds.length))) := by
  have hls : s < h.length := (List.getElem?_eq_some_iff.mp hs).1
  have hl2 : l.length ≤ 1000000 := by omega
  have get : ∀ j, j < ds.length → l[a + j]? = ds[j]? := fun j hj => by
    have : ((l.drop a).take ds.length)[j]? = ds[j]? := by rw [hd]
    rw [List.getElem?_take_of_lt hj, List.getElem?_drop] at this
    exact this
  have H : ∀ j, (h.set s (srcO C l (a + j)))[s]? = some (srcO C l (a + j)) := fun j => List.getElem?_set_self hls
  have found : ∀ (c : Nat) (h : DH), inD (.str (tx [c])) (.str (tx signs)) h = .ok (.bl (decide (c ∈ signs))) h := fun c h => by
    unfold inD inB
    dsimp only
    rw [StrLaws.found_one (tx signs) c]
  let env : Env' := [some (.ref s), some (.str (tx signs)), some (.int a)]
  obtain ⟨e2, h2, hw, rfl, rfl⟩ := whF_run (t := tand (tnot (tv (mcl C "is_over" 1 (isOverF C) (vr 0) an))) (tv (o2 inD (mcl C "now" 1 (nowF C) (vr 0) an) (vr 1)))) (body := augF C "at" (vr 0) (ct (.int 1)))
    (fun j e g => e = env ∧ g = h.set s (srcO C l (a + j))) (fun e g => e = env ∧ g = h.set s (srcO C l (a + ds.length))) ds.length 0 many env (h.set s (srcO C l a)) (by unfold many; omega) ⟨rfl, rfl⟩
    (fun j e g hj ⟨e1, e2⟩ => by
      subst e1; subst e2
      have hj : j < ds.length := by omega
      have hc : l[a + j]? = some ds[j] := by rw [get j hj, List.getElem?_eq_getElem hj]
      have m1 : mcl C "is_over" 1 (isOverF C) (vr 0) an env (h.set s (srcO C l (a + j))) = .ok (.bl false) (h.set s (srcO C l (a + j))) := by
        rw [ev_mcl rfl (H j) nin1]
        simp only [ev_an, bd_ok, List.length_nil]
        rw [if_pos trivial, isOver_ok (H j) hl2]
        have : ¬ (a + j = l.length) := by omega
        simp [this]
      have m2 : mcl C "now" 1 (nowF C) (vr 0) an env (h.set s (srcO C l (a + j))) = .ok (.str (tx [ds[j]])) (h.set s (srcO C l (a + j))) := by
        rw [ev_mcl rfl (H j) nin2]
        simp only [ev_an, bd_ok, List.length_nil]
        rw [if_pos trivial, now_ok (H j) hl2 hc]
      have hmem : ds[j] ∈ signs := hin _ (List.getElem_mem hj)
      have v1 : ∀ g, vr 1 env g = .ok (.str (tx signs)) g := fun g => rfl
      refine ⟨h.set s (srcO C l (a + j)), env, h.set s (srcO C l (a + (j + 1))), ?_, ?_, rfl, rfl⟩
      · simp [m1, m2, v1, found, hmem]
      · rw [ev_augF (s := s) (j := 1) rfl (H j) sf_at rfl (by decide), sp_at, List.set_set]
        rfl)
    (fun e g ⟨e1, e2⟩ => by
      subst e1; subst e2
      rw [Nat.zero_add]
      refine ⟨_, ?_, rfl, rfl⟩
      have m1 : mcl C "is_over" 1 (isOverF C) (vr 0) an env (h.set s (srcO C l (a + ds.length))) = .ok (.bl (decide (a + ds.length = l.length))) (h.set s (srcO C l (a + ds.length))) := by
        rw [ev_mcl rfl (H _) nin1]
        simp only [ev_an, bd_ok, List.length_nil]
        rw [if_pos trivial, isOver_ok (H _) hl2]
      by_cases hend : a + ds.length = l.length
      · rw [decide_eq_true hend] at m1
        simp [m1]
      · have hlt : a + ds.length < l.length := by omega
        have m2 : mcl C "now" 1 (nowF C) (vr 0) an env (h.set s (srcO C l (a + ds.length))) = .ok (.str (tx [l[a + ds.length]])) (h.set s (srcO C l (a + ds.length))) := by
          rw [ev_mcl rfl (H _) nin2]
          simp only [ev_an, bd_ok, List.length_nil]
          rw [if_pos trivial, now_ok (H _) hl2 (List.getElem?_eq_getElem hlt)]
        have hmem : l[a + ds.length] ∉ signs := hout _ (List.getElem?_eq_getElem hlt)
        have v1 : ∀ g, vr 1 env g = .ok (.str (tx signs)) g := fun g => rfl
        rw [decide_eq_false hend] at m1
        simp [m1, m2, v1, found, hmem])
  have same : h.set s (srcO C l a) = h := by
    apply List.ext_getElem?
    intro k
    by_cases hk : k = s
    · subst hk; rw [List.getElem?_set_self hls, hs]
    · rw [List.getElem?_set_ne (Ne.symm hk)]
  rw [same] at hw
  have e1 : ∀ e, fld C "at" (vr 0) (some (.ref s) :: e) h = .ok (.int a) h := fun e => ev_fld rfl hs sf_at
  have e3 : fld C "at" (vr 0) env (h.set s (srcO C l (a + ds.length))) = .ok (.int ((a + ds.length : Nat) : Int)) (h.set s (srcO C l (a + ds.length))) := ev_fld rfl (H _) sf_at
  have e4 : fld C "whole" (vr 0) env (h.set s (srcO C l (a + ds.length))) = .ok (.str (tx l)) (h.set s (srcO C l (a + ds.length))) := ev_fld rfl (H _) sf_wh
  have e5 : ∀ g, slD false (.str (tx l)) (some (a : Int)) (some ((a + ds.length : Nat) : Int)) g = .ok (.str (tx ds)) g := fun g => by
    have q : (tx l).length ≤ 1000000 := by rw [tx_len]; exact hl2
    show (if (tx l).length ≤ 1000000 then Rs.ok (D.str (cutS (tx l) (some (a : Int)) (some ((a + ds.length : Nat) : Int)))) g else .bad) = _
    rw [if_pos q, cut_mid hle, hd]
  have v2 : ∀ g, vr 2 env g = .ok (.int a) g := fun g => rfl
  have hst : startD ["self", "signs", "begun"] [.ref s, .str (tx signs)] = [some (.ref s), some (.str (tx signs)), none] := rfl
  unfold runF raw
  rw [hst]
  simp only [ev_seq, ev_asg, e1, ev_bs_ok, ev_sq_nx]
  have st2 : ([some (.ref s), some (.str (tx signs)), none] : Env').set 2 (some (.int a)) = env := rfl
  rw [st2, hw]
  simp only [ev_sq_nx, ev_ret, ev_esl, e4, bd_ok, ev_ps, v2, e3, e5, ev_bs_ok]
theorem count_ok {n : Nat} (hs : h[s]? = some (srcO C l a)) (hl : l.length ≤ 100000) (hd : (l.drop a).take (dg n).length = dg n) (hle : a + (dg n).length ≤ l.length) (hn : n < 10 ^ 10)
    (hout : ∀ c, l[a + (dg n).length]? = some c → c < 48 ∨ 57 < c) : countF C [.ref s] h = .ok (.int n) (h.set s (srcO C l (a + (dg n).length))) := by
  have fig : ("0123456789" : Str) = tx [48, 49, 50, 51, 52, 53, 54, 55, 56, 57] := by decide
  have r := run_ok (C := C) (signs := [48, 49, 50, 51, 52, 53, 54, 55, 56, 57]) hs hl hd hle (fun c hc => by
    have := dg_digit hc
    simp; omega) (fun c hc => by
    have := hout c hc
    simp; omega)
  have m1 : ∀ e, mcl C "run" 2 (runF C) (vr 0) (ac (ct (.str "0123456789")) an) (some (.ref s) :: e) h = .ok (.str (tx (dg n))) (h.set s (srcO C l (a + (dg n).length))) := fun e => by
    rw [ev_mcl rfl hs nin3]
    simp only [ev_ac, ev_ct, ev_an, bd_ok, List.length_cons, List.length_nil]
    rw [if_pos trivial, fig, r]
  have l1 : 1 ≤ (dg n).length := List.length_pos_iff.mpr (dg_ne n)
  have l2 : (dg n).length ≤ 10 := dg_len (by decide) hn
  have e1 : ∀ g, lenD [.str (tx (dg n))] g = .ok (.int (dg n).length) g := fun g => by
    rw [ev_lenZ (by rw [tx_len]; omega), tx_len]
  obtain ⟨c, hc⟩ : ∃ c, (dg n)[0]? = some c := ⟨_, List.getElem?_eq_getElem (by omega)⟩
  have e2 : ∀ g, ixD (.str (tx (dg n))) (.int 0) g = .ok (.str (tx [c])) g := fun g => by
    have q : atI (tx (dg n)).cps.toList (0 : Int) = some c := by
      show atI (dg n).toArray.toList (0 : Int) = some c
      rw [List.toList_toArray]
      have e1 : ixN (dg n).length (0 : Int) = some 0 := by
        unfold ixN
        have h2 : (0 : Int) < ((dg n).length : Nat) := by omega
        rw [if_pos (by decide), if_pos h2]
        rfl
      unfold atI
      rw [e1]
      exact hc
    unfold ixD
    dsimp only
    rw [if_pos (by rw [tx_len]; omega), q]
  have hcm : c ∈ dg n := List.mem_of_getElem? hc
  have ok1 : PyData.strOk (tx [c]) = true := tx_ok fun x hx => by
    have := dg_digit hcm
    simp at hx; omega
  have ok2 : PyData.strOk ("0" : Str) = true := by decide +kernel
  have ok3 : PyData.strOk (tx (dg n)) = true := tx_ok fun x hx => by
    have := dg_digit hx
    omega
  have z0 : ("0" : Str) = tx [48] := by decide
  have key : tx [c] = ("0" : Str) → tx (dg n) = ("0" : Str) := fun e => by
    rw [z0] at e ⊢
    have e' : [c] = [48] := congrArg (fun x : Str => x.cps.toList) e
    have hc0 : c = 48 := by simpa using e'
    subst hc0
    rw [dg_head hc]
    rfl
  have e6 : ∀ g, intD [.str (tx (dg n))] g = .ok (.int n) g := fun g => by
    unfold intD
    dsimp only
    rw [dg_reads hn]
    have : (tx (dg n)).length ≤ 640 := by rw [tx_len]; omega
    simp only [this, if_true]
  have hst : startD ["self", "figures"] [.ref s] = [some (.ref s), none] := rfl
  have c1 : (1 : Int) ≤ ((dg n).length : Nat) := by omega
  have c2 : (((dg n).length : Nat) : Int) ≤ 20 := by omega
  unfold countF raw
  rw [hst]
  by_cases hz : tx [c] = ("0" : Str)
  · have hz2 := key hz
    have e7 : ∀ g, neD (.str (tx (dg n))) (.str ("0" : Str)) g = .ok (.bl false) g := fun g => by
      rw [ev_neZ ok3 ok2, decide_eq_true hz2]; rfl
    have e8 : ∀ g, eqD (.str (tx [c])) (.str ("0" : Str)) g = .ok (.bl true) g := fun g => by
      rw [ev_eqZ ok1 ok2, decide_eq_true hz]
    simp [m1, e1, e2, c1, c2, e7, e8, e6]
  · simp [m1, e1, e2, c1, c2, ev_eqZ ok1 ok2, ev_neZ ok3 ok2, hz, e6]
end
end Dt

namespace Dt
open PySem PySem.Spec PyProof.Rows L2
section
variable {h : DH} {x : D}
theorem enc_i {n : Nat} : encD h (iD n) = iP n := rfl
theorem enc_r {p : List Nat} : encD h (rD p) = rP p := by
  unfold encD
  rw [show toP h 60 (rD p) = some (rP p) from toP_tupI]
  rfl
/-- sorted whole numbers -/
theorem sort_ints {ns ms : List Nat} (hs : sq h x = some (ns.map iD)) (hp : ms.Perm ns) (ho : ms.Pairwise (· ≤ ·)) (hl : ns.length ≤ 1000000) : sortD false [x] h = .ok (.lst (ms.map iD)) h := by
  have c1 : ∀ d ∈ ns.map iD, (toP h 60 d).isSome = true := fun d hd => by
    obtain ⟨n, _, rfl⟩ := List.mem_map.mp hd; rfl
  have c2 : ∀ d ∈ ns.map iD, (encD h d).depth ≤ 64 := fun d hd => by
    obtain ⟨n, _, rfl⟩ := List.mem_map.mp hd
    rw [enc_i]; simp [PyData.depth]
  have em : (ns.map iD).map (encD h) = ns.map fun n : Nat => PyData.int n := by
    rw [List.map_map]; rfl
  have c3 : PySem.W.AllAlike ((ns.map iD).map (encD h)) := by
    rw [em]
    exact PySem.W.AllAlike.of fun b b' => by simp [PySem.W.alike]
  have c4 : PySem.W.Sortable ((ns.map iD).map (encD h)) := by
    rw [em]
    exact PySem.W.Sortable.others fun b => ⟨by simp, fun xs => by simp⟩
  have e1 : (ns.map iD).mergeSort (PySem.W.dataLe false (encD h)) = ms.map iD := by
    rw [← List.map_mergeSort (r := fun a b : Nat => decide (a ≤ b))]
    · congr 1
      refine List.Perm.eq_of_pairwise (le := (· ≤ ·)) (fun a b _ _ => Nat.le_antisymm) ?_ ho ((List.mergeSort_perm _ _).trans hp.symm)
      have := List.pairwise_mergeSort (le := fun a b : Nat => decide (a ≤ b)) (fun a b c q r => by simp at q r ⊢; omega) (fun a b => by simp; omega) ns
      exact this.imp fun q => of_decide_eq_true q
    · intro a _ b _
      show decide (a ≤ b) = PySem.W.dataLe false (encD h) (iD a) (iD b)
      rw [PySem.W.dataLe_eq]
      show _ = !PySem.W.dataLt (encD h (iD b)) (encD h (iD a))
      rw [enc_i, enc_i, PySem.W.dataLt_int]
      by_cases hab : a ≤ b
      · have : ¬ ((b : Int) < a) := by omega
        simp [hab, this]
      · have : ((b : Int) < a) := by omega
        simp [hab, this]
  unfold sortD
  simp only [hs]
  rw [if_pos ⟨c1, c2, c3, c4⟩, e1]
  exact ev_mkF (by rw [List.length_map, hp.length_eq]; exact hl)
/-- rows in order stay -/
theorem sort_rows {p : List (List Nat)} (hs : sq h x = some (p.map rD)) (hne : ∀ q ∈ p, q ≠ []) (ho : (p.map fun q => q.headD 0).Pairwise (· < ·)) (hl : p.length ≤ 1000000) : sortD false [x] h = .ok (.lst (p.map rD)) h := by
  have c1 : ∀ d ∈ p.map rD, (toP h 60 d).isSome = true := fun d hd => by
    obtain ⟨q, _, rfl⟩ := List.mem_map.mp hd
    rw [show toP h 60 (rD q) = some (rP q) from toP_tupI]; rfl
  have c2 : ∀ d ∈ p.map rD, (encD h d).depth ≤ 64 := fun d hd => by
    obtain ⟨q, _, rfl⟩ := List.mem_map.mp hd
    rw [enc_r]
    exact SeqAt.depth_of_shaped shp_row
  have em : (p.map rD).map (encD h) = p.map rP := by
    rw [List.map_map]
    exact List.map_congr_left fun q _ => enc_r
  have c3 : PySem.W.AllAlike ((p.map rD).map (encD h)) := by
    rw [em]
    refine PySem.W.AllAlike.of fun b b' => ?_
    have := PySem.W.alike_ints (b.map fun n : Nat => (n : Int)) (b'.map fun n : Nat => (n : Int))
    rw [List.map_map, List.map_map] at this
    unfold rP
    simp only [PySem.W.alike]
    exact this
  have c4 : PySem.W.Sortable ((p.map rD).map (encD h)) := by
    rw [em]
    refine .inl fun d hd => ?_
    obtain ⟨q, hq, rfl⟩ := List.mem_map.mp hd
    cases q with
    | nil => exact absurd rfl (hne _ hq)
    | cons a r => exact ⟨iP a, r.map iP, rfl⟩
  have e1 : (p.map rD).mergeSort (PySem.W.dataLe false (encD h)) = p.map rD := by
    refine List.mergeSort_of_pairwise ?_
    rw [List.pairwise_map]
    rw [List.pairwise_map] at ho
    refine List.Pairwise.imp_of_mem (fun {a b} ha hb hab => ?_) ho
    show (!PySem.W.dataLt (encD h (rD b)) (encD h (rD a))) = true
    rw [enc_r, enc_r, PySem.W.dataLt_tuple]
    have e2 := PySem.W.dataLt_ints (b.map fun n : Nat => (n : Int)) (a.map fun n : Nat => (n : Int))
    rw [List.map_map, List.map_map] at e2
    have e3 : PyProof.Rows.lexLt PyProof.Rows.itemOrd (PySem.W.keyToksAll (b.map iP)) (PySem.W.keyToksAll (a.map iP)) = decide (b.map (fun n : Nat => (n : Int)) < a.map fun n : Nat => (n : Int)) := e2
    rw [e3]
    cases a with
    | nil => exact absurd rfl (hne _ ha)
    | cons a0 ar =>
      cases b with
      | nil => exact absurd rfl (hne _ hb)
      | cons b0 br =>
        simp only [List.headD_cons] at hab
        have : ¬ ((b0 :: br).map (fun n : Nat => (n : Int)) < (a0 :: ar).map fun n : Nat => (n : Int)) := by
          rw [List.map_cons, List.map_cons, List.cons_lt_cons_iff]
          rintro (q | ⟨q, _⟩) <;> omega
        rw [decide_eq_false this]; rfl
  unfold sortD
  simp only [hs]
  rw [if_pos ⟨c1, c2, c3, c4⟩, e1]
  exact ev_mkF (by rw [List.length_map]; exact hl)
end
/-! ### two fors over values -/
section
variable {α β : Type} {env : Env'} {h : DH} {fe : EF} {fi1 : IF} {i j : Nat} {vs1 : List Nat}
theorem lc2S_nm {it : ItD} (so : srcOk it h) (g : α → D) (sub : α → List β) (g1 f : β → D) : ∀ (xs : List α) (acc : List D),
    (∀ x ∈ xs, fi1 (env.set i (some (g x))) h = .ok ⟨none, (sub x).map g1⟩ h ∧ ∀ y ∈ sub x, fe ((wipD (env.set i (some (g x))) vs1).set j (some (g1 y))) h = .ok (f y) h) → acc.length + (xs.flatMap sub).length ≤ 1000000 →
    lc2S it (.nm i) tyes fi1 (.nm j) tyes fe vs1 env (xs.map g) acc h = .ok (acc ++ (xs.flatMap sub).map f) h
  | [], acc, _, _ => by simp [lc2S, so]
  | x :: xs, acc, hf, hl => by
    obtain ⟨e1, e2⟩ := hf x List.mem_cons_self
    rw [List.flatMap_cons, List.length_append] at hl
    have in1 := lcS_nm (i := j) (env := wipD (env.set i (some (g x))) vs1) (it := ⟨none, (sub x).map g1⟩) (h := h) rfl g1 f (sub x) acc e2 (by omega)
    have ih := lc2S_nm so g sub g1 f xs (acc ++ (sub x).map f) (fun y hy => hf y (List.mem_cons_of_mem _ hy)) (by rw [List.length_append, List.length_map]; omega)
    rw [List.map_cons]
    unfold lc2S
    simp only [so, if_true, tgF, ev_tyes, e1, in1, ih]
    simp
theorem ev_lc2 (g : α → D) (sub : α → List β) (g1 f : β → D) (xs : List α) {fi : IF} {it : ItD} {vs : List Nat} (hi : fi env h = .ok it h) (so : srcOk it h) (hx : it.items = xs.map g)
    (hf : ∀ x ∈ xs, fi1 ((wipD env vs).set i (some (g x))) h = .ok ⟨none, (sub x).map g1⟩ h ∧ ∀ y ∈ sub x, fe ((wipD ((wipD env vs).set i (some (g x))) vs1).set j (some (g1 y))) h = .ok (f y) h) (hl : (xs.flatMap sub).length ≤ 1000000) :
    lc2E fi (.nm i) tyes fi1 (.nm j) tyes fe vs vs1 env h = .ok (.lst ((xs.flatMap sub).map f)) h := by
  unfold lc2E
  rw [hi]
  simp only [bd_ok, hx]
  rw [lc2S_nm so g sub g1 f xs [] hf (by simpa using hl)]
  simp
end
/-! ### texts joined -/
theorem join_cons {c : Nat} {x : List Nat} {ys : List (List Nat)} : TL.joinL [c] (x :: ys) = x ++ ys.flatMap fun y => c :: y := by
  induction ys generalizing x with
  | nil => simp [TL.joinL]
  | cons y ys ih =>
    have e : TL.joinL [c] (x :: y :: ys) = x ++ ([c] ++ TL.joinL [c] (y :: ys)) := rfl
    rw [e, ih]
    simp
theorem join_mem {c d : Nat} {ys : List (List Nat)} (h : d ∈ TL.joinL [c] ys) : d = c ∨ ∃ y ∈ ys, d ∈ y := by
  cases ys with
  | nil => simp [TL.joinL] at h
  | cons x ys =>
    rw [join_cons] at h
    rcases List.mem_append.mp h with h | h
    · exact .inr ⟨x, List.mem_cons_self, h⟩
    · obtain ⟨y, hy, hd⟩ := List.mem_flatMap.mp h
      rcases List.mem_cons.mp hd with hd | hd
      · exact .inl hd
      · exact .inr ⟨y, List.mem_cons_of_mem _ hy, hd⟩
theorem join_len {c : Nat} (k : Nat) : ∀ {ys : List (List Nat)}, (∀ y ∈ ys, y.length ≤ k) → (TL.joinL [c] ys).length ≤ ys.length * (k + 1)
  | [], _ => by simp [TL.joinL]
  | x :: ys, h => by
    rw [join_cons, List.length_append]
    have h1 := h x List.mem_cons_self
    have h2 : ∀ zs : List (List Nat), (∀ y ∈ zs, y.length ≤ k) → (zs.flatMap fun y => c :: y).length ≤ zs.length * (k + 1) := fun zs => by
      induction zs with
      | nil => intro _; simp
      | cons z zs ih =>
        intro q
        have q1 := q z List.mem_cons_self
        have q2 := ih fun y hy => q y (List.mem_cons_of_mem _ hy)
        rw [List.flatMap_cons, List.length_append, List.length_cons, List.length_cons, Nat.succ_mul]
        omega
    have h3 := h2 ys fun y hy => h y (List.mem_cons_of_mem _ hy)
    rw [List.length_cons, Nat.succ_mul]
    omega
theorem sum_len (k : Nat) : ∀ {ys : List (List Nat)}, (∀ y ∈ ys, y.length ≤ k) → ((ys.map tx).map (·.length)).sum ≤ ys.length * k
  | [], _ => by simp
  | x :: ys, h => by
    have h1 := h x List.mem_cons_self
    have h2 := sum_len k fun y hy => h y (List.mem_cons_of_mem _ hy)
    rw [List.map_cons, List.map_cons, List.sum_cons, tx_len, List.length_cons, Nat.succ_mul]
    omega
theorem toS_strs {α : Type} {f : α → Str} : ∀ {xs : List α}, toS (xs.map fun x => D.str (f x)) = some (xs.map f)
  | [] => rfl
  | x :: xs => by
    have ih := toS_strs (f := f) (xs := xs)
    simp only [List.map_cons, toS, ih]
    rfl
theorem ev_joinT {α : Type} {h : DH} {c : Nat} {f : α → List Nat} {xs : List α} (k : Nat) (hk : ∀ x ∈ xs, (f x).length ≤ k) (hx : xs.length * (k + 1) ≤ 1000000) : joinD (.str (tx [c])) [.lst (xs.map fun x => D.str (tx (f x)))] h = .ok (.str (tx (TL.joinL [c] (xs.map f)))) h := by
  have e1 : (sq h (.lst (xs.map fun x => D.str (tx (f x))))).bind toS = some ((xs.map f).map tx) := by
    show toS (xs.map fun x => D.str (tx (f x))) = _
    rw [toS_strs, List.map_map]; rfl
  have e2 := sum_len k (ys := xs.map f) fun y hy => by
    obtain ⟨x, hx, rfl⟩ := List.mem_map.mp hy
    exact hk x hx
  unfold joinD
  simp only [e1]
  rw [if_pos ?_, tx_join]
  rw [List.length_map] at e2
  rw [List.length_map, List.length_map, tx_len]
  have : xs.length * (k + 1) = xs.length * k + xs.length := Nat.mul_succ _ _
  simp only [List.length_cons, List.length_nil]
  omega
/-- where a text goes on -/
theorem at_drop {l x y : List Nat} {a : Nat} (e : l.drop a = x ++ y) (hx : x ≠ []) : (l.drop a).take x.length = x ∧ a + x.length ≤ l.length ∧ l[a + x.length]? = y[0]? ∧ l.drop (a + x.length) = y := by
  have hl := congrArg List.length e
  rw [List.length_drop, List.length_append] at hl
  have h0 : 0 < x.length := List.length_pos_iff.mpr hx
  have e2 : l.drop (a + x.length) = y := by
    rw [← List.drop_drop, e, List.drop_left]
  refine ⟨by rw [e, List.take_left], by omega, ?_, e2⟩
  rw [← e2, List.getElem?_drop]
  rfl
end Dt

namespace P43
open PySem PySem.Spec PyProof.Rows L2 Dt
section
def top (i : Nat) : Stmt := PySem.Challenge.pw_beatnet_k43_partings_written.main.body.getD i (.Pass ⟨0, 0, 0, 0⟩)
abbrev st_show_parting : Stmt := (top 8)
abbrev N_show_parting : List Str := ["parting", "part", "hand"]
theorem sc_show_parting : FnScope N_show_parting ["parting"] (defScope st_show_parting) := ⟨rfl, rfl, rfl, by decide +kernel, rfl, by decide +kernel, by decide +kernel⟩
def dd_show_parting : He.DefD := ⟨("show_parting", none), "show_parting", "show_parting", defArgs st_show_parting, defBody st_show_parting, defScope st_show_parting, [], []⟩
abbrev st_Source_init : Stmt := (inClass (top 9) 0)
abbrev N_Source_init : List Str := ["self", "text"]
theorem sc_Source_init : FnScope N_Source_init ["self", "text"] (defScope st_Source_init) := ⟨rfl, rfl, rfl, by decide +kernel, rfl, by decide +kernel, by decide +kernel⟩
def dd_Source_init : He.DefD := ⟨("Source", some "__init__"), "__init__", "Source.__init__", defArgs st_Source_init, defBody st_Source_init, defScope st_Source_init, [], []⟩
abbrev st_Source_is_over : Stmt := (inClass (top 9) 1)
abbrev N_Source_is_over : List Str := ["self"]
theorem sc_Source_is_over : FnScope N_Source_is_over ["self"] (defScope st_Source_is_over) := ⟨rfl, rfl, rfl, by decide +kernel, rfl, by decide +kernel, by decide +kernel⟩
def dd_Source_is_over : He.DefD := ⟨("Source", some "is_over"), "is_over", "Source.is_over", defArgs st_Source_is_over, defBody st_Source_is_over, defScope st_Source_is_over, [], []⟩
abbrev st_Source_now : Stmt := (inClass (top 9) 2)
abbrev N_Source_now : List Str := ["self"]
theorem sc_Source_now : FnScope N_Source_now ["self"] (defScope st_Source_now) := ⟨rfl, rfl, rfl, by decide +kernel, rfl, by decide +kernel, by decide +kernel⟩
def dd_Source_now : He.DefD := ⟨("Source", some "now"), "now", "Source.now", defArgs st_Source_now, defBody st_Source_now, defScope st_Source_now, [], []⟩
abbrev st_Source_skips : Stmt := (inClass (top 9) 3)
abbrev N_Source_skips : List Str := ["self", "word"]
theorem sc_Source_skips : FnScope N_Source_skips ["self", "word"] (defScope st_Source_skips) := ⟨rfl, rfl, rfl, by decide +kernel, rfl, by decide +kernel, by decide +kernel⟩
def dd_Source_skips : He.DefD := ⟨("Source", some "skips"), "skips", "Source.skips", defArgs st_Source_skips, defBody st_Source_skips, defScope st_Source_skips, [], []⟩
abbrev st_Source_must : Stmt := (inClass (top 9) 4)
abbrev N_Source_must : List Str := ["self", "word"]
theorem sc_Source_must : FnScope N_Source_must ["self", "word"] (defScope st_Source_must) := ⟨rfl, rfl, rfl, by decide +kernel, rfl, by decide +kernel, by decide +kernel⟩
def dd_Source_must : He.DefD := ⟨("Source", some "must"), "must", "Source.must", defArgs st_Source_must, defBody st_Source_must, defScope st_Source_must, [], []⟩
abbrev st_Source_run : Stmt := (inClass (top 9) 5)
abbrev N_Source_run : List Str := ["self", "signs", "begun"]
theorem sc_Source_run : FnScope N_Source_run ["self", "signs"] (defScope st_Source_run) := ⟨rfl, rfl, rfl, by decide +kernel, rfl, by decide +kernel, by decide +kernel⟩
def dd_Source_run : He.DefD := ⟨("Source", some "run"), "run", "Source.run", defArgs st_Source_run, defBody st_Source_run, defScope st_Source_run, [], []⟩
abbrev st_Source_count : Stmt := (inClass (top 9) 6)
abbrev N_Source_count : List Str := ["self", "figures"]
theorem sc_Source_count : FnScope N_Source_count ["self"] (defScope st_Source_count) := ⟨rfl, rfl, rfl, by decide +kernel, rfl, by decide +kernel, by decide +kernel⟩
def dd_Source_count : He.DefD := ⟨("Source", some "count"), "count", "Source.count", defArgs st_Source_count, defBody st_Source_count, defScope st_Source_count, [], []⟩
abbrev st_part_read : Stmt := (top 10)
abbrev N_part_read : List Str := ["source", "hands"]
theorem sc_part_read : FnScope N_part_read ["source"] (defScope st_part_read) := ⟨rfl, rfl, rfl, by decide +kernel, rfl, by decide +kernel, by decide +kernel⟩
def dd_part_read : He.DefD := ⟨("part_read", none), "part_read", "part_read", defArgs st_part_read, defBody st_part_read, defScope st_part_read, [], []⟩
abbrev st_read_parting : Stmt := (top 11)
abbrev N_read_parting : List Str := ["text", "source", "parts", "hands", "part", "hand", "in_order"]
theorem sc_read_parting : FnScope N_read_parting ["text"] (defScope st_read_parting) := ⟨rfl, rfl, rfl, by decide +kernel, rfl, by decide +kernel, by decide +kernel⟩
def dd_read_parting : He.DefD := ⟨("read_parting", none), "read_parting", "read_parting", defArgs st_read_parting, defBody st_read_parting, defScope st_read_parting, [], []⟩
abbrev st_law_cell_at : Stmt := (top 13)
abbrev N_law_cell_at : List Str := ["script", "k"]
theorem sc_law_cell_at : FnScope N_law_cell_at ["script", "k"] (defScope st_law_cell_at) := ⟨rfl, rfl, rfl, by decide +kernel, rfl, by decide +kernel, by decide +kernel⟩
def dd_law_cell_at : He.DefD := ⟨("_law_cell_at", none), "_law_cell_at", "_law_cell_at", defArgs st_law_cell_at, defBody st_law_cell_at, defScope st_law_cell_at, [], []⟩
abbrev st_law_bag : Stmt := (top 14)
abbrev N_law_bag : List Str := ["cell", "nth"]
theorem sc_law_bag : FnScope N_law_bag ["cell", "nth"] (defScope st_law_bag) := ⟨rfl, rfl, rfl, by decide +kernel, rfl, by decide +kernel, by decide +kernel⟩
def dd_law_bag : He.DefD := ⟨("_law_bag", none), "_law_bag", "_law_bag", defArgs st_law_bag, defBody st_law_bag, defScope st_law_bag, [], []⟩
abbrev st_law_draw : Stmt := (top 15)
abbrev N_law_draw : List Str := ["bag", "many", "found", "mixed"]
theorem sc_law_draw : FnScope N_law_draw ["bag", "many"] (defScope st_law_draw) := ⟨rfl, rfl, rfl, by decide +kernel, rfl, by decide +kernel, by decide +kernel⟩
def dd_law_draw : He.DefD := ⟨("_law_draw", none), "_law_draw", "_law_draw", defArgs st_law_draw, defBody st_law_draw, defScope st_law_draw, [], []⟩
abbrev st_law_parts : Stmt := (top 16)
abbrev N_law_parts : List Str := ["bag", "many", "groups", "parts", "who", "at"]
theorem sc_law_parts : FnScope N_law_parts ["bag"] (defScope st_law_parts) := ⟨rfl, rfl, rfl, by decide +kernel, rfl, by decide +kernel, by decide +kernel⟩
def dd_law_parts : He.DefD := ⟨("_law_parts", none), "_law_parts", "_law_parts", defArgs st_law_parts, defBody st_law_parts, defScope st_law_parts, [], []⟩
abbrev st_law_same : Stmt := (top 17)
abbrev N_law_same : List Str := ["found", "due", "k"]
theorem sc_law_same : FnScope N_law_same ["found", "due"] (defScope st_law_same) := ⟨rfl, rfl, rfl, by decide +kernel, rfl, by decide +kernel, by decide +kernel⟩
def dd_law_same : He.DefD := ⟨("_law_same", none), "_law_same", "_law_same", defArgs st_law_same, defBody st_law_same, defScope st_law_same, [], []⟩
abbrev st_law : Stmt := (top 18)
abbrev N_law : List Str := ["script", "k", "parts", "due", "text", "part", "who"]
theorem sc_law : FnScope N_law ["script"] (defScope st_law) := ⟨rfl, rfl, rfl, by decide +kernel, rfl, by decide +kernel, by decide +kernel⟩
def dd_law : He.DefD := ⟨("law", none), "law", "law", defArgs st_law, defBody st_law, defScope st_law, [], []⟩
structure Fx (K : PySem.W.Frag) (mg : Str → Option Value) where
  z_str : mg "str" = none
  z_isinstance : mg "isinstance" = none
  c_Source : Cls K (He.ga K "Source")
  n_Source_whole : NoAttr K (He.ga K "Source") "whole"
  n_Source_at : NoAttr K (He.ga K "Source") "at"
  z_len : mg "len" = none
  m_Source_is_over : Meth K (He.ga K "Source") "is_over" (He.ma K (He.ga K "Source") "is_over")
  m_Source_now : Meth K (He.ga K "Source") "now" (He.ma K (He.ga K "Source") "now")
  s_FIGURES : ∃ t, mg "FIGURES" = some (.str "0123456789" t)
  m_Source_run : Meth K (He.ga K "Source") "run" (He.ma K (He.ga K "Source") "run")
  i_MOST_FIGURES : ∃ t, mg "MOST_FIGURES" = some (.int 20 t)
  z_int : mg "int" = none
  m_Source_count : Meth K (He.ga K "Source") "count" (He.ma K (He.ga K "Source") "count")
  m_Source_skips : Meth K (He.ga K "Source") "skips" (He.ma K (He.ga K "Source") "skips")
  z_tuple : mg "tuple" = none
  k_Source : Mk K (He.ga K "Source") (He.ma K (He.ga K "Source") "__init__")
  g_Source : mg "Source" = some (.ref (He.ga K "Source"))
  g_part_read : mg "part_read" = some (.ref (He.ga K "part_read"))
  z_sorted : mg "sorted" = none
  z_list : mg "list" = none
  z_all : mg "all" = none
  i_MOST_HANDS : ∃ t, mg "MOST_HANDS" = some (.int 16 t)
  z_range : mg "range" = none
  z_max : mg "max" = none
  g__law_draw : mg "_law_draw" = some (.ref (He.ga K "_law_draw"))
  g__law_same : mg "_law_same" = some (.ref (He.ga K "_law_same"))
  z_bool : mg "bool" = none
  z_min : mg "min" = none
  g__law_cell_at : mg "_law_cell_at" = some (.ref (He.ga K "_law_cell_at"))
  g__law_bag : mg "_law_bag" = some (.ref (He.ga K "_law_bag"))
  g__law_parts : mg "_law_parts" = some (.ref (He.ga K "_law_parts"))
  g_show_parting : mg "show_parting" = some (.ref (He.ga K "show_parting"))
  g_read_parting : mg "read_parting" = some (.ref (He.ga K "read_parting"))
  g_law : mg "law" = some (.ref (He.ga K "law"))
  fd_show_parting : FuncData
  F_show_parting : FunD K "show_parting" "show_parting" (defArgs st_show_parting) (defBody st_show_parting) (defScope st_show_parting) [] [] (He.ga K "show_parting") fd_show_parting
  B_show_parting : Binds K fd_show_parting ["parting"] []
  fd_Source_init : FuncData
  F_Source_init : FunD K "__init__" "Source.__init__" (defArgs st_Source_init) (defBody st_Source_init) (defScope st_Source_init) [] [] (He.ma K (He.ga K "Source") "__init__") fd_Source_init
  B_Source_init : Binds K fd_Source_init ["self", "text"] []
  fd_Source_is_over : FuncData
  F_Source_is_over : FunD K "is_over" "Source.is_over" (defArgs st_Source_is_over) (defBody st_Source_is_over) (defScope st_Source_is_over) [] [] (He.ma K (He.ga K "Source") "is_over") fd_Source_is_over
  B_Source_is_over : Binds K fd_Source_is_over ["self"] []
  fd_Source_now : FuncData
  F_Source_now : FunD K "now" "Source.now" (defArgs st_Source_now) (defBody st_Source_now) (defScope st_Source_now) [] [] (He.ma K (He.ga K "Source") "now") fd_Source_now
  B_Source_now : Binds K fd_Source_now ["self"] []
  fd_Source_skips : FuncData
  F_Source_skips : FunD K "skips" "Source.skips" (defArgs st_Source_skips) (defBody st_Source_skips) (defScope st_Source_skips) [] [] (He.ma K (He.ga K "Source") "skips") fd_Source_skips
  B_Source_skips : Binds K fd_Source_skips ["self", "word"] []
  fd_Source_must : FuncData
  F_Source_must : FunD K "must" "Source.must" (defArgs st_Source_must) (defBody st_Source_must) (defScope st_Source_must) [] [] (He.ma K (He.ga K "Source") "must") fd_Source_must
  B_Source_must : Binds K fd_Source_must ["self", "word"] []
  fd_Source_run : FuncData
  F_Source_run : FunD K "run" "Source.run" (defArgs st_Source_run) (defBody st_Source_run) (defScope st_Source_run) [] [] (He.ma K (He.ga K "Source") "run") fd_Source_run
  B_Source_run : Binds K fd_Source_run ["self", "signs"] []
  fd_Source_count : FuncData
  F_Source_count : FunD K "count" "Source.count" (defArgs st_Source_count) (defBody st_Source_count) (defScope st_Source_count) [] [] (He.ma K (He.ga K "Source") "count") fd_Source_count
  B_Source_count : Binds K fd_Source_count ["self"] []
  fd_part_read : FuncData
  F_part_read : FunD K "part_read" "part_read" (defArgs st_part_read) (defBody st_part_read) (defScope st_part_read) [] [] (He.ga K "part_read") fd_part_read
  B_part_read : Binds K fd_part_read ["source"] []
  fd_read_parting : FuncData
  F_read_parting : FunD K "read_parting" "read_parting" (defArgs st_read_parting) (defBody st_read_parting) (defScope st_read_parting) [] [] (He.ga K "read_parting") fd_read_parting
  B_read_parting : Binds K fd_read_parting ["text"] []
  fd_law_cell_at : FuncData
  F_law_cell_at : FunD K "_law_cell_at" "_law_cell_at" (defArgs st_law_cell_at) (defBody st_law_cell_at) (defScope st_law_cell_at) [] [] (He.ga K "_law_cell_at") fd_law_cell_at
  B_law_cell_at : Binds K fd_law_cell_at ["script", "k"] []
  fd_law_bag : FuncData
  F_law_bag : FunD K "_law_bag" "_law_bag" (defArgs st_law_bag) (defBody st_law_bag) (defScope st_law_bag) [] [] (He.ga K "_law_bag") fd_law_bag
  B_law_bag : Binds K fd_law_bag ["cell", "nth"] []
  fd_law_draw : FuncData
  F_law_draw : FunD K "_law_draw" "_law_draw" (defArgs st_law_draw) (defBody st_law_draw) (defScope st_law_draw) [] [] (He.ga K "_law_draw") fd_law_draw
  B_law_draw : Binds K fd_law_draw ["bag", "many"] []
  fd_law_parts : FuncData
  F_law_parts : FunD K "_law_parts" "_law_parts" (defArgs st_law_parts) (defBody st_law_parts) (defScope st_law_parts) [] [] (He.ga K "_law_parts") fd_law_parts
  B_law_parts : Binds K fd_law_parts ["bag"] []
  fd_law_same : FuncData
  F_law_same : FunD K "_law_same" "_law_same" (defArgs st_law_same) (defBody st_law_same) (defScope st_law_same) [] [] (He.ga K "_law_same") fd_law_same
  B_law_same : Binds K fd_law_same ["found", "due"] []
  fd_law : FuncData
  F_law : FunD K "law" "law" (defArgs st_law) (defBody st_law) (defScope st_law) [] [] (He.ga K "law") fd_law
  B_law : Binds K fd_law ["script"] []
noncomputable def b_show_parting (K : PySem.W.Frag) : SF :=
  (ret (mth strK joinD (ct (.str "/")) (ac (lcE (isq (vr 0)) (.nm 1) tyes (mth strK joinD (ct (.str "+")) (ac (lcE (isq (vr 1)) (.nm 2) tyes (oA strID (ac (vr 2) an)) [2]) an)) [1]) an)))
noncomputable def G_show_parting (K : PySem.W.Frag) : FD := raw N_show_parting (b_show_parting K)
noncomputable def b_Source_init (K : PySem.W.Frag) : SF :=
  (seq (ife (tnot (tv (oA isiD (ac (vr 1) (ac (ct (.con (.ty "str"))) an))))) nev skp)
    (seq (setF (He.ga K "Source") "whole" (vr 0) (vr 1))
    (setF (He.ga K "Source") "at" (vr 0) (ct (.int 0)))))
noncomputable def G_Source_init (K : PySem.W.Frag) : FD := raw N_Source_init (b_Source_init K)
noncomputable def b_Source_is_over (K : PySem.W.Frag) : SF :=
  (ret (o2 eqD (fld (He.ga K "Source") "at" (vr 0)) (oA lenD (ac (fld (He.ga K "Source") "whole" (vr 0)) an))))
noncomputable def G_Source_is_over (K : PySem.W.Frag) : FD := raw N_Source_is_over (b_Source_is_over K)
noncomputable def b_Source_now (K : PySem.W.Frag) : SF :=
  (ret (esl false (fld (He.ga K "Source") "whole" (vr 0)) (ps (fld (He.ga K "Source") "at" (vr 0))) (ps (o2 (addD false) (fld (He.ga K "Source") "at" (vr 0)) (ct (.int 1))))))
noncomputable def G_Source_now (K : PySem.W.Frag) : FD := raw N_Source_now (b_Source_now K)
noncomputable def b_Source_skips (K : PySem.W.Frag) : SF :=
  (seq (ife (tnot (tv (mth strK starts3D (fld (He.ga K "Source") "whole" (vr 0)) (ac (vr 1) (ac (fld (He.ga K "Source") "at" (vr 0)) an))))) (ret (ct (.bl false))) skp)
    (seq (augF (He.ga K "Source") "at" (vr 0) (oA lenD (ac (vr 1) an)))
    (ret (ct (.bl true)))))
noncomputable def G_Source_skips (K : PySem.W.Frag) : FD := raw N_Source_skips (b_Source_skips K)
noncomputable def b_Source_must (K : PySem.W.Frag) : SF :=
  nev
noncomputable def G_Source_must (K : PySem.W.Frag) : FD := raw N_Source_must (b_Source_must K)
noncomputable def b_Source_run (K : PySem.W.Frag) : SF :=
  (seq (asg (fld (He.ga K "Source") "at" (vr 0)) (.nm 2))
    (seq (whF (tand (tnot (tv (mcl (He.ga K "Source") "is_over" 1 (G_Source_is_over K) (vr 0) an))) (tv (o2 inD (mcl (He.ga K "Source") "now" 1 (G_Source_now K) (vr 0) an) (vr 1)))) (augF (He.ga K "Source") "at" (vr 0) (ct (.int 1))) many)
    (ret (esl false (fld (He.ga K "Source") "whole" (vr 0)) (ps (vr 2)) (ps (fld (He.ga K "Source") "at" (vr 0)))))))
noncomputable def G_Source_run (K : PySem.W.Frag) : FD := raw N_Source_run (b_Source_run K)
noncomputable def b_Source_count (K : PySem.W.Frag) : SF :=
  (seq (asg (mcl (He.ga K "Source") "run" 2 (G_Source_run K) (vr 0) (ac (ct (.str "0123456789")) an)) (.nm 1))
    (seq (ife (tor (tnot (tv (och leD leD (ct (.int 1)) (oA lenD (ac (vr 1) an)) (ct (.int 20))))) (tand (tv (o2 eqD (o2 ixD (vr 1) (ct (.int 0))) (ct (.str "0")))) (tv (o2 neD (vr 1) (ct (.str "0")))))) nev skp)
    (ret (oA intD (ac (vr 1) an)))))
noncomputable def G_Source_count (K : PySem.W.Frag) : FD := raw N_Source_count (b_Source_count K)
noncomputable def b_part_read (K : PySem.W.Frag) : SF :=
  (seq (asg (oA (mkL true) (ac (mcl (He.ga K "Source") "count" 1 (G_Source_count K) (vr 0) an) an)) (.nm 1))
    (seq (whF (tv (mcl (He.ga K "Source") "skips" 2 (G_Source_skips K) (vr 0) (ac (ct (.str "+")) an))) (drp (mth lstK appendD (vr 1) (ac (mcl (He.ga K "Source") "count" 1 (G_Source_count K) (vr 0) an) an))) many)
    (ret (oA tupleD (ac (vr 1) an)))))
noncomputable def G_part_read (K : PySem.W.Frag) : FD := raw N_part_read (b_part_read K)
noncomputable def b_read_parting (K : PySem.W.Frag) : SF :=
  (seq (asg (mko (He.ga K "Source") 2 (G_Source_init K) (ac (vr 0) an)) (.nm 1))
    (seq (asg (oA (mkL true) (ac (cll 1 (G_part_read K) (ac (vr 1) an)) an)) (.nm 2))
    (seq (whF (tv (mcl (He.ga K "Source") "skips" 2 (G_Source_skips K) (vr 1) (ac (ct (.str "/")) an))) (drp (mth lstK appendD (vr 2) (ac (cll 1 (G_part_read K) (ac (vr 1) an)) an))) many)
    (seq (asg (oA (sortD false) (ac (lc2E (isq (vr 2)) (.nm 4) tyes (isq (vr 4)) (.nm 5) tyes (vr 5) [4, 5] [5]) an)) (.nm 3))
    (seq (asg (eand (oA allD (ac (lcE (isq (vr 2)) (.nm 4) tyes (o2 eqD (oA (listD false) (ac (vr 4) an)) (oA (sortD false) (ac (vr 4) an))) [4]) an)) (o2 eqD (vr 2) (oA (sortD false) (ac (vr 2) an)))) (.nm 6))
    (seq (ife (tor (tnot (tv (mcl (He.ga K "Source") "is_over" 1 (G_Source_is_over K) (vr 1) an))) (tor (tnot (tv (vr 6))) (tor (tv (o2 gtD (oA lenD (ac (vr 3) an)) (ct (.int 16)))) (tv (o2 neD (vr 3) (lrg false (oA lenD (ac (vr 3) an)))))))) nev skp)
    (ret (oA tupleD (ac (vr 2) an)))))))))
noncomputable def G_read_parting (K : PySem.W.Frag) : FD := raw N_read_parting (b_read_parting K)
noncomputable def b_law_cell_at (K : PySem.W.Frag) : SF :=
  (seq (ife (tv (o2 ltD (vr 1) (oA lenD (ac (vr 0) an)))) (ret (o2 ixD (vr 0) (vr 1))) skp)
    (ret (ct (.int 0))))
noncomputable def G_law_cell_at (K : PySem.W.Frag) : FD := raw N_law_cell_at (b_law_cell_at K)
noncomputable def b_law_bag (K : PySem.W.Frag) : SF :=
  (ret (oA (mkL true) (ac (oA max2D (ac (ct (.int 0)) (ac (o2 subD (vr 0) (o2 powD (ct (.int 10)) (ct (.int 18)))) an))) (ac (o2 (addD false) (o2 modD (vr 0) (ct (.int 170141183460469231731687303715884105727))) (o2 (mulD false) (ct (.int 86028121)) (vr 1))) (ac (ct (.int 0)) an)))))
noncomputable def G_law_bag (K : PySem.W.Frag) : FD := raw N_law_bag (b_law_bag K)
noncomputable def b_law_draw (K : PySem.W.Frag) : SF :=
  (seq (ife (tv (o2 gtD (o2 ixD (vr 0) (ct (.int 0))) (ct (.int 1)))) (seq (asg (o2 modD (o2 ixD (vr 0) (ct (.int 0))) (vr 1)) (.nm 2))
    (seq (setI (vr 0) (ct (.int 0)) (o2 fdivD (o2 ixD (vr 0) (ct (.int 0))) (vr 1)))
    (ret (vr 2)))) skp)
    (seq (setI (vr 0) (ct (.int 2)) (o2 (addD false) (o2 ixD (vr 0) (ct (.int 2))) (ct (.int 1))))
    (seq (asg (o2 modD (o2 powD (o2 (addD false) (o2 ixD (vr 0) (ct (.int 1))) (o2 (mulD false) (ct (.int 49979687)) (o2 ixD (vr 0) (ct (.int 2))))) (ct (.int 3))) (ct (.int 170141183460469231731687303715884105727))) (.nm 3))
    (seq (asg (o2 modD (o2 powD (o2 (addD false) (vr 3) (o2 (mulD false) (ct (.int 86028157)) (o2 ixD (vr 0) (ct (.int 2))))) (ct (.int 3))) (ct (.int 162259276829213363391578010288127))) (.nm 3))
    (ret (o2 modD (o2 fdivD (vr 3) (ct (.int 4096))) (vr 1)))))))
noncomputable def G_law_draw (K : PySem.W.Frag) : FD := raw N_law_draw (b_law_draw K)
noncomputable def b_law_parts (K : PySem.W.Frag) : SF :=
  (seq (asg (o2 (addD false) (ct (.int 1)) (cll 2 (G_law_draw K) (ac (vr 0) (ac (o2 ixD (oA (mkL false) (ac (ct (.int 5)) (ac (ct (.int 16)) an))) (cll 2 (G_law_draw K) (ac (vr 0) (ac (ct (.int 2)) an)))) an)))) (.nm 1))
    (seq (asg (o2 (addD false) (ct (.int 1)) (cll 2 (G_law_draw K) (ac (vr 0) (ac (vr 1) an)))) (.nm 2))
    (seq (asg (oA (mkL true) an) (.nm 3))
    (seq (forE (rng1 (ac (vr 1) an)) (.nm 4) (seq (asg (cll 2 (G_law_draw K) (ac (vr 0) (ac (vr 2) an))) (.nm 5))
    (ife (tv (o2 ltD (vr 5) (oA lenD (ac (vr 3) an)))) (setI (vr 3) (vr 5) (o2 (addD false) (o2 ixD (vr 3) (vr 5)) (oA mkT (ac (vr 4) an)))) (drp (mth lstK appendD (vr 3) (ac (oA mkT (ac (vr 4) an)) an))))))
    (ret (oA tupleD (ac (vr 3) an)))))))
noncomputable def G_law_parts (K : PySem.W.Frag) : FD := raw N_law_parts (b_law_parts K)
noncomputable def b_law_same (K : PySem.W.Frag) (G : FD) : SF :=
  (seq (ife (tv (oA isiD (ac (vr 1) (ac (oA mkT (ac (ct (.con (.ty "list"))) (ac (ct (.con (.ty "tuple"))) an))) an)))) (seq (ife (tor (tnot (tv (oA isiD (ac (vr 0) (ac (oA mkT (ac (ct (.con (.ty "list"))) (ac (ct (.con (.ty "tuple"))) an))) an))))) (tv (o2 neD (oA isiD (ac (vr 0) (ac (ct (.con (.ty "list"))) an))) (oA isiD (ac (vr 1) (ac (ct (.con (.ty "list"))) an)))))) (ret (ct (.bl false))) skp)
    (ret (eand (o2 eqD (oA lenD (ac (vr 0) an)) (oA lenD (ac (vr 1) an))) (oA allD (ac (lcE (rng1 (ac (oA lenD (ac (vr 1) an)) an)) (.nm 2) tyes (cll 2 G (ac (o2 ixD (vr 0) (vr 2)) (ac (o2 ixD (vr 1) (vr 2)) an))) [2]) an))))) skp)
    (seq (ife (tor (tv (o2 isD (vr 1) (ct .non))) (tv (oA isiD (ac (vr 1) (ac (ct (.con (.ty "str"))) an))))) (ret (o2 eqD (vr 0) (vr 1))) skp)
    (ret (eand (oA isiD (ac (vr 0) (ac (ct (.con (.ty "int"))) an))) (eand (o2 eqD (oA isiD (ac (vr 0) (ac (ct (.con (.ty "bool"))) an))) (oA isiD (ac (vr 1) (ac (ct (.con (.ty "bool"))) an)))) (o2 eqD (vr 0) (vr 1)))))))
noncomputable def Gs_law_same (K : PySem.W.Frag) : Nat → FD
  | 0 => fun _ _ => .bad
  | i + 1 => raw N_law_same (b_law_same K (Gs_law_same K i))
noncomputable def b_law (K : PySem.W.Frag) : SF :=
  (seq (forE (rng1 (ac (oA max2D (ac (ct (.int 1)) (ac (oA min2D (ac (ct (.int 16)) (ac (oA lenD (ac (vr 0) an)) an))) an))) an)) (.nm 1) (seq (asg (cll 1 (G_law_parts K) (ac (cll 2 (G_law_bag K) (ac (cll 2 (G_law_cell_at K) (ac (vr 0) (ac (vr 1) an))) (ac (vr 1) an))) an)) (.nm 2))
    (seq (asg (mth strK joinD (ct (.str "/")) (ac (lcE (isq (vr 2)) (.nm 5) tyes (mth strK joinD (ct (.str "+")) (ac (lcE (isq (vr 5)) (.nm 6) tyes (oA strID (ac (vr 6) an)) [6]) an)) [5]) an)) (.nm 3))
    (seq (asg (cll 1 (G_show_parting K) (ac (vr 2) an)) (.nm 4))
    (ife (tor (tnot (tv (cll 2 (Gs_law_same K 5) (ac (vr 4) (ac (vr 3) an))))) (tnot (tv (cll 2 (Gs_law_same K 5) (ac (cll 1 (G_read_parting K) (ac (vr 4) an)) (ac (vr 2) an)))))) (ret (ct (.bl false))) skp)))))
    (ret (ct (.bl true))))
noncomputable def G_law (K : PySem.W.Frag) : FD := raw N_law (b_law K)
end
end P43

namespace P43
open PySem PySem.Spec PyProof.Rows L2 Dt
section
variable {P : Program} {w : World} {K : PySem.W.Frag} {mg : Str → Option Value} {base : Heap}
theorem ok_show_parting (T : Fx K mg) : FnD P w K mg base 1 (He.ga K "show_parting") T.fd_show_parting ["parting"] (G_show_parting K) :=
  fnd_raw T.F_show_parting sc_show_parting (fun cdv A outer s H E hr => ((dss_one (ds_ret (de_bm PySem.F.plainAttrs_str PySem.F.slot_str_join PySem.F.type_str_join mt_join ty_str md_join de_str (da_cons (de_lc (own := [("part", 1)]) rfl sc_show_parting.nd (di_seq (de_var (pv 0))) (blkOk_by (by rfl)) (fun _ _ _ _ _ => by exact (pg_name (i := 1) sc_show_parting.nd rfl (by first | exact Or.inl rfl | exact Or.inr rfl))) (fun _ _ _ _ _ => by exact dts_nil) (fun _ _ _ _ _ => by exact (de_bm PySem.F.plainAttrs_str PySem.F.slot_str_join PySem.F.type_str_join mt_join ty_str md_join de_str (da_cons (de_lc (own := [("hand", 2)]) rfl sc_show_parting.nd (di_seq (de_var (pv 1))) (blkOk_by (by rfl)) (fun _ _ _ _ _ => by exact (pg_name (i := 2) sc_show_parting.nd rfl (by first | exact Or.inl rfl | exact Or.inr rfl))) (fun _ _ _ _ _ => by exact dts_nil) (fun _ _ _ _ _ => by exact (de_callTy (call_str_int) cd_strI (by rfl) T.z_str boot_str (da_cons (de_var (pv 2)) da_nil)))) da_nil)))) da_nil)))) : PSs _ _ (tS K (WE E) (b_show_parting K))))
theorem ok_Source_init (T : Fx K mg) : FnD P w K mg base 1 (He.ma K (He.ga K "Source") "__init__") T.fd_Source_init ["self", "text"] (G_Source_init K) :=
  fnd_raw T.F_Source_init sc_Source_init (fun cdv A outer s H E hr => ((dss_cons (ds_if (dt_not (dt_val (de_callB (call_isiAll) cd_isi (by rfl) T.z_isinstance (by decide +kernel) (da_cons (de_var (pv 1)) (da_cons (de_ty (T := "str") (by rfl) T.z_str boot_str) da_nil))))) (dss_one ds_nev) dss_nil)
    (dss_cons (ds_setF (de_var (pv 0)) (de_var (pv 1)) T.c_Source T.n_Source_whole)
    (dss_one (ds_setF (de_var (pv 0)) de_int T.c_Source T.n_Source_at)))) : PSs _ _ (tS K (WE E) (b_Source_init K))))
theorem ok_Source_is_over (T : Fx K mg) : FnD P w K mg base 1 (He.ma K (He.ga K "Source") "is_over") T.fd_Source_is_over ["self"] (G_Source_is_over K) :=
  fnd_raw T.F_Source_is_over sc_Source_is_over (fun cdv A outer s H E hr => ((dss_one (ds_ret (de_cmp (op_eqD (un64 hr)) opd_eq (de_fld (de_var (pv 0)) T.c_Source T.n_Source_at) (de_callB (call_lenAll) cd_len (by rfl) T.z_len (by decide +kernel) (da_cons (de_fld (de_var (pv 0)) T.c_Source T.n_Source_whole) da_nil)) (nomark _)))) : PSs _ _ (tS K (WE E) (b_Source_is_over K))))
theorem ok_Source_now (T : Fx K mg) : FnD P w K mg base 1 (He.ma K (He.ga K "Source") "now") T.fd_Source_now ["self"] (G_Source_now K) :=
  fnd_raw T.F_Source_now sc_Source_now (fun cdv A outer s H E hr => ((dss_one (ds_ret (de_sl false (de_fld (de_var (pv 0)) T.c_Source T.n_Source_whole) (dp_some (de_fld (de_var (pv 0)) T.c_Source T.n_Source_at)) (dp_some (de_op op_addAll (opd_add false) (de_fld (de_var (pv 0)) T.c_Source T.n_Source_at) de_int))))) : PSs _ _ (tS K (WE E) (b_Source_now K))))
theorem ok_Source_skips (T : Fx K mg) : FnD P w K mg base 1 (He.ma K (He.ga K "Source") "skips") T.fd_Source_skips ["self", "word"] (G_Source_skips K) :=
  fnd_raw T.F_Source_skips sc_Source_skips (fun cdv A outer s H E hr => ((dss_cons (ds_if (dt_not (dt_val (de_bm PySem.F.plainAttrs_str PySem.F.slot_str_startswith PySem.F.type_str_startswith mt_startswith3 ty_str md_starts3 (de_fld (de_var (pv 0)) T.c_Source T.n_Source_whole) (da_cons (de_var (pv 1)) (da_cons (de_fld (de_var (pv 0)) T.c_Source T.n_Source_at) da_nil))))) (dss_one (ds_ret de_bl)) dss_nil)
    (dss_cons (ds_augF (de_var (pv 0)) (de_callB (call_lenAll) cd_len (by rfl) T.z_len (by decide +kernel) (da_cons (de_var (pv 1)) da_nil)) T.c_Source T.n_Source_at)
    (dss_one (ds_ret de_bl)))) : PSs _ _ (tS K (WE E) (b_Source_skips K))))
theorem ok_Source_must (T : Fx K mg) : FnD P w K mg base 1 (He.ma K (He.ga K "Source") "must") T.fd_Source_must ["self", "word"] (G_Source_must K) :=
  fnd_raw T.F_Source_must sc_Source_must (fun cdv A outer s H E hr => ((dss_one ds_nev) : PSs _ _ (tS K (WE E) (b_Source_must K))))
theorem ok_Source_run (T : Fx K mg) : FnD P w K mg base 2 (He.ma K (He.ga K "Source") "run") T.fd_Source_run ["self", "signs"] (G_Source_run K) :=
  fnd_raw T.F_Source_run sc_Source_run (fun cdv A outer s H E hr => ((dss_cons (ds_set (i := 2) sc_Source_run.nd rfl (by first | exact Or.inl rfl | exact Or.inr rfl) (de_fld (de_var (pv 0)) T.c_Source T.n_Source_at))
    (dss_cons (ds_while many pof (PW.pt (dw_and (dt_not (dt_val (de_meth0 (de_var (pv 0)) T.c_Source T.m_Source_is_over (ok_Source_is_over T) tkf (hr.mono (by first | decide | omega)) T.B_Source_is_over))) (dw_and1 (dt_cmp (op_inAll (un65 hr)) opd_in (de_meth0 (de_var (pv 0)) T.c_Source T.m_Source_now (ok_Source_now T) tkf (hr.mono (by first | decide | omega)) T.B_Source_now) (de_var (pv 1)) (by rfl))))) (dss_one (ds_augF (de_var (pv 0)) de_int T.c_Source T.n_Source_at)))
    (dss_one (ds_ret (de_sl false (de_fld (de_var (pv 0)) T.c_Source T.n_Source_whole) (dp_some (de_var (pv 2))) (dp_some (de_fld (de_var (pv 0)) T.c_Source T.n_Source_at))))))) : PSs _ _ (tS K (WE E) (b_Source_run K))))
theorem ok_Source_count (T : Fx K mg) : FnD P w K mg base 3 (He.ma K (He.ga K "Source") "count") T.fd_Source_count ["self"] (G_Source_count K) :=
  fnd_raw T.F_Source_count sc_Source_count (fun cdv A outer s H E hr => ((dss_cons (ds_set (i := 1) sc_Source_count.nd rfl (by first | exact Or.inl rfl | exact Or.inr rfl) (de_meth (de_var (pv 0)) T.c_Source T.m_Source_run (ok_Source_run T) tkf (hr.mono (by first | decide | omega)) T.B_Source_run (da_cons (de_gstr (by rfl) T.s_FIGURES) da_nil)))
    (dss_cons (ds_if (PW.pt (dw_or (dt_not (dt_chain (op_le) opd_le (op_le) opd_le de_int (de_callB (call_lenAll) cd_len (by rfl) T.z_len (by decide +kernel) (da_cons (de_var (pv 1)) da_nil)) (de_gint (by rfl) T.i_MOST_FIGURES))) (dw_or1 (PW.pt (dw_and (dt_cmp (op_eqD (un64 hr)) opd_eq (de_ix (un1 hr) (de_var (pv 1)) de_int (fun _ _ => rfl)) de_str (nomark _)) (dw_and1 (dt_cmp (op_neD (un64 hr)) opd_ne (de_var (pv 1)) de_str (nomark _)))))))) (dss_one ds_nev) dss_nil)
    (dss_one (ds_ret (de_callTy (call_intAll) cd_int (by rfl) T.z_int boot_int (da_cons (de_var (pv 1)) da_nil)))))) : PSs _ _ (tS K (WE E) (b_Source_count K))))
theorem ok_part_read (T : Fx K mg) : FnD P w K mg base 4 (He.ga K "part_read") T.fd_part_read ["source"] (G_part_read K) :=
  fnd_raw T.F_part_read sc_part_read (fun cdv A outer s H E hr => ((dss_cons (ds_set (i := 1) sc_part_read.nd rfl (by first | exact Or.inl rfl | exact Or.inr rfl) (de_lst true (da_cons (de_meth0 (de_var (pv 0)) T.c_Source T.m_Source_count (ok_Source_count T) tkf (hr.mono (by first | decide | omega)) T.B_Source_count) da_nil)))
    (dss_cons (ds_while many pof (dt_val (de_meth (de_var (pv 0)) T.c_Source T.m_Source_skips (ok_Source_skips T) tkf (hr.mono (by first | decide | omega)) T.B_Source_skips (da_cons de_str da_nil))) (dss_one (ds_expr (de_bm PySem.F.plainAttrs_list PySem.F.slot_list_append PySem.F.type_list_append mt_append ty_lst md_append (de_var (pv 1)) (da_cons (de_meth0 (de_var (pv 0)) T.c_Source T.m_Source_count (ok_Source_count T) tkf (hr.mono (by first | decide | omega)) T.B_Source_count) da_nil)))))
    (dss_one (ds_ret (de_callTy (call_tuple_of) cd_tuple (by rfl) T.z_tuple boot_tuple (da_cons (de_var (pv 1)) da_nil)))))) : PSs _ _ (tS K (WE E) (b_part_read K))))
theorem ok_read_parting (T : Fx K mg) : FnD P w K mg base 5 (He.ga K "read_parting") T.fd_read_parting ["text"] (G_read_parting K) :=
  fnd_raw T.F_read_parting sc_read_parting (fun cdv A outer s H E hr => ((dss_cons (ds_set (i := 1) sc_read_parting.nd rfl (by first | exact Or.inl rfl | exact Or.inr rfl) (de_make T.k_Source (ok_Source_init T) tkf (hr.mono (by first | decide | omega)) (by rfl) T.g_Source T.B_Source_init (da_cons (de_var (pv 0)) da_nil)))
    (dss_cons (ds_set (i := 2) sc_read_parting.nd rfl (by first | exact Or.inl rfl | exact Or.inr rfl) (de_lst true (da_cons (de_call (ok_part_read T) tkf (hr.mono (by first | decide | omega)) (by rfl) T.g_part_read T.F_part_read.kp T.B_part_read (da_cons (de_var (pv 1)) da_nil)) da_nil)))
    (dss_cons (ds_while many pof (dt_val (de_meth (de_var (pv 1)) T.c_Source T.m_Source_skips (ok_Source_skips T) tkf (hr.mono (by first | decide | omega)) T.B_Source_skips (da_cons de_str da_nil))) (dss_one (ds_expr (de_bm PySem.F.plainAttrs_list PySem.F.slot_list_append PySem.F.type_list_append mt_append ty_lst md_append (de_var (pv 2)) (da_cons (de_call (ok_part_read T) tkf (hr.mono (by first | decide | omega)) (by rfl) T.g_part_read T.F_part_read.kp T.B_part_read (da_cons (de_var (pv 1)) da_nil)) da_nil)))))
    (dss_cons (ds_set (i := 3) sc_read_parting.nd rfl (by first | exact Or.inl rfl | exact Or.inr rfl) (de_callB (call_sortedD (un68 hr)) (cd_sorted false) (by rfl) T.z_sorted (by decide +kernel) (da_cons (de_lc2 (own := [("part", 4), ("hand", 5)]) (vs1 := [5]) rfl sc_read_parting.nd (di_seq (de_var (pv 2))) (blkOk_by (by rfl)) (fun _ _ _ _ _ => by exact (pg_name (i := 4) sc_read_parting.nd rfl (by first | exact Or.inl rfl | exact Or.inr rfl))) (fun _ _ _ _ _ => by exact dts_nil) (fun _ _ _ _ _ => by exact (di_seq (de_var (pv 4)))) (fun _ _ _ _ _ => by exact (pg_name (i := 5) sc_read_parting.nd rfl (by first | exact Or.inl rfl | exact Or.inr rfl))) (fun _ _ _ _ _ => by exact dts_nil) (fun _ _ _ _ _ => by exact (de_var (pv 5)))) da_nil)))
    (dss_cons (ds_set (i := 6) sc_read_parting.nd rfl (by first | exact Or.inl rfl | exact Or.inr rfl) (de_and (de_callB (cr_all rfl) cd_all (by rfl) T.z_all (by decide +kernel) (da_cons (de_lc (own := [("part", 4)]) rfl sc_read_parting.nd (di_seq (de_var (pv 2))) (blkOk_by (by rfl)) (fun _ _ _ _ _ => by exact (pg_name (i := 4) sc_read_parting.nd rfl (by first | exact Or.inl rfl | exact Or.inr rfl))) (fun _ _ _ _ _ => by exact dts_nil) (fun _ _ _ _ _ => by exact (de_cmp (op_eqD (un64 hr)) opd_eq (de_callTy call_list_of (cd_list false) (by rfl) T.z_list boot_list (da_cons (de_var (pv 4)) da_nil)) (de_callB (call_sortedD (un68 hr)) (cd_sorted false) (by rfl) T.z_sorted (by decide +kernel) (da_cons (de_var (pv 4)) da_nil)) (nomark _)))) da_nil)) (de_one (de_cmp (op_eqD (un64 hr)) opd_eq (de_var (pv 2)) (de_callB (call_sortedD (un68 hr)) (cd_sorted false) (by rfl) T.z_sorted (by decide +kernel) (da_cons (de_var (pv 2)) da_nil)) (nomark _)))))
    (dss_cons (ds_if (PW.pt (dw_or (dt_not (dt_val (de_meth0 (de_var (pv 1)) T.c_Source T.m_Source_is_over (ok_Source_is_over T) tkf (hr.mono (by first | decide | omega)) T.B_Source_is_over))) (dw_or (dt_not (dt_val (de_var (pv 6)))) (dw_or (dt_cmp (op_gt) opd_gt (de_callB (call_lenAll) cd_len (by rfl) T.z_len (by decide +kernel) (da_cons (de_var (pv 3)) da_nil)) (de_gint (by rfl) T.i_MOST_HANDS) (nomark _)) (dw_or1 (dt_cmp (op_neD (un64 hr)) opd_ne (de_var (pv 3)) (de_lrg false rfl (by rfl) T.z_list (by rfl) T.z_range (de_callB (call_lenAll) cd_len (by rfl) T.z_len (by decide +kernel) (da_cons (de_var (pv 3)) da_nil))) (nomark _))))))) (dss_one ds_nev) dss_nil)
    (dss_one (ds_ret (de_callTy (call_tuple_of) cd_tuple (by rfl) T.z_tuple boot_tuple (da_cons (de_var (pv 2)) da_nil)))))))))) : PSs _ _ (tS K (WE E) (b_read_parting K))))
theorem ok_law_cell_at (T : Fx K mg) : FnD P w K mg base 1 (He.ga K "_law_cell_at") T.fd_law_cell_at ["script", "k"] (G_law_cell_at K) :=
  fnd_raw T.F_law_cell_at sc_law_cell_at (fun cdv A outer s H E hr => ((dss_cons (ds_if (dt_cmp (op_ltAll (un0 hr)) opd_lt (de_var (pv 1)) (de_callB (call_lenAll) cd_len (by rfl) T.z_len (by decide +kernel) (da_cons (de_var (pv 0)) da_nil)) (nomark _)) (dss_one (ds_ret (de_ix (un1 hr) (de_var (pv 0)) (de_var (pv 1)) (fun _ _ => rfl)))) dss_nil)
    (dss_one (ds_ret de_int))) : PSs _ _ (tS K (WE E) (b_law_cell_at K))))
theorem ok_law_bag (T : Fx K mg) : FnD P w K mg base 1 (He.ga K "_law_bag") T.fd_law_bag ["cell", "nth"] (G_law_bag K) :=
  fnd_raw T.F_law_bag sc_law_bag (fun cdv A outer s H E hr => ((dss_one (ds_ret (de_lst true (da_cons (de_callB (call_max2 rfl) cd_max2 (by rfl) T.z_max (by decide +kernel) (da_cons de_int (da_cons (de_op op_sub opd_sub (de_var (pv 0)) (de_op op_powW opd_pow de_int de_int)) da_nil))) (da_cons (de_op op_addAll (opd_add false) (de_op op_mod opd_mod (de_var (pv 0)) de_int) (de_op op_mulAll (opd_mul false) de_int (de_var (pv 1)))) (da_cons de_int da_nil)))))) : PSs _ _ (tS K (WE E) (b_law_bag K))))
theorem ok_law_draw (T : Fx K mg) : FnD P w K mg base 1 (He.ga K "_law_draw") T.fd_law_draw ["bag", "many"] (G_law_draw K) :=
  fnd_raw T.F_law_draw sc_law_draw (fun cdv A outer s H E hr => ((dss_cons (ds_if (dt_cmp (op_gt) opd_gt (de_ix (un1 hr) (de_var (pv 0)) de_int (fun _ _ => rfl)) de_int (nomark _)) (dss_cons (ds_set (i := 2) sc_law_draw.nd rfl (by first | exact Or.inl rfl | exact Or.inr rfl) (de_op op_mod opd_mod (de_ix (un1 hr) (de_var (pv 0)) de_int (fun _ _ => rfl)) (de_var (pv 1))))
    (dss_cons (ds_setI (de_var (pv 0)) de_int (de_op op_fdivW opd_fdiv (de_ix (un1 hr) (de_var (pv 0)) de_int (fun _ _ => rfl)) (de_var (pv 1))))
    (dss_one (ds_ret (de_var (pv 2)))))) dss_nil)
    (dss_cons (ds_setI (de_var (pv 0)) de_int (de_op op_addAll (opd_add false) (de_ix (un1 hr) (de_var (pv 0)) de_int (fun _ _ => rfl)) de_int))
    (dss_cons (ds_set (i := 3) sc_law_draw.nd rfl (by first | exact Or.inl rfl | exact Or.inr rfl) (de_op op_mod opd_mod (de_op op_powW opd_pow (de_op op_addAll (opd_add false) (de_ix (un1 hr) (de_var (pv 0)) de_int (fun _ _ => rfl)) (de_op op_mulAll (opd_mul false) de_int (de_ix (un1 hr) (de_var (pv 0)) de_int (fun _ _ => rfl)))) de_int) de_int))
    (dss_cons (ds_set (i := 3) sc_law_draw.nd rfl (by first | exact Or.inl rfl | exact Or.inr rfl) (de_op op_mod opd_mod (de_op op_powW opd_pow (de_op op_addAll (opd_add false) (de_var (pv 3)) (de_op op_mulAll (opd_mul false) de_int (de_ix (un1 hr) (de_var (pv 0)) de_int (fun _ _ => rfl)))) de_int) de_int))
    (dss_one (ds_ret (de_op op_mod opd_mod (de_op op_fdivW opd_fdiv (de_var (pv 3)) de_int) (de_var (pv 1))))))))) : PSs _ _ (tS K (WE E) (b_law_draw K))))
theorem ok_law_parts (T : Fx K mg) : FnD P w K mg base 2 (He.ga K "_law_parts") T.fd_law_parts ["bag"] (G_law_parts K) :=
  fnd_raw T.F_law_parts sc_law_parts (fun cdv A outer s H E hr => ((dss_cons (ds_set (i := 1) sc_law_parts.nd rfl (by first | exact Or.inl rfl | exact Or.inr rfl) (de_op op_addAll (opd_add false) de_int (de_call (ok_law_draw T) tkf (hr.mono (by first | decide | omega)) (by rfl) T.g__law_draw T.F_law_draw.kp T.B_law_draw (da_cons (de_var (pv 0)) (da_cons (de_ix (un1 hr) (de_lst false (da_cons de_int (da_cons de_int da_nil))) (de_call (ok_law_draw T) tkf (hr.mono (by first | decide | omega)) (by rfl) T.g__law_draw T.F_law_draw.kp T.B_law_draw (da_cons (de_var (pv 0)) (da_cons de_int da_nil))) (fun _ _ => rfl)) da_nil)))))
    (dss_cons (ds_set (i := 2) sc_law_parts.nd rfl (by first | exact Or.inl rfl | exact Or.inr rfl) (de_op op_addAll (opd_add false) de_int (de_call (ok_law_draw T) tkf (hr.mono (by first | decide | omega)) (by rfl) T.g__law_draw T.F_law_draw.kp T.B_law_draw (da_cons (de_var (pv 0)) (da_cons (de_var (pv 1)) da_nil)))))
    (dss_cons (ds_set (i := 3) sc_law_parts.nd rfl (by first | exact Or.inl rfl | exact Or.inr rfl) (de_lst true da_nil))
    (dss_cons (ds_for pof rfl (di_rng1 (by rfl) T.z_range (da_cons (de_var (pv 1)) da_nil)) (show PG _ _ (tgR K (.nm 4)) from (pg_name (i := 4) sc_law_parts.nd rfl (by first | exact Or.inl rfl | exact Or.inr rfl))) (dss_cons (ds_set (i := 5) sc_law_parts.nd rfl (by first | exact Or.inl rfl | exact Or.inr rfl) (de_call (ok_law_draw T) tkf (hr.mono (by first | decide | omega)) (by rfl) T.g__law_draw T.F_law_draw.kp T.B_law_draw (da_cons (de_var (pv 0)) (da_cons (de_var (pv 2)) da_nil))))
    (dss_one (ds_if (dt_cmp (op_ltAll (un0 hr)) opd_lt (de_var (pv 5)) (de_callB (call_lenAll) cd_len (by rfl) T.z_len (by decide +kernel) (da_cons (de_var (pv 3)) da_nil)) (nomark _)) (dss_one (ds_setI (de_var (pv 3)) (de_var (pv 5)) (de_op op_addAll (opd_add false) (de_ix (un1 hr) (de_var (pv 3)) (de_var (pv 5)) (fun _ _ => rfl)) (de_tup (da_cons (de_var (pv 4)) da_nil))))) (dss_one (ds_expr (de_bm PySem.F.plainAttrs_list PySem.F.slot_list_append PySem.F.type_list_append mt_append ty_lst md_append (de_var (pv 3)) (da_cons (de_tup (da_cons (de_var (pv 4)) da_nil)) da_nil))))))))
    (dss_one (ds_ret (de_callTy (call_tuple_of) cd_tuple (by rfl) T.z_tuple boot_tuple (da_cons (de_var (pv 3)) da_nil)))))))) : PSs _ _ (tS K (WE E) (b_law_parts K))))
theorem ok_law_same (T : Fx K mg) (i : Nat) : FnD P w K mg base (i + 3) (He.ga K "_law_same") T.fd_law_same ["found", "due"] (Gs_law_same K i) := by
  induction i with
  | zero => exact fnd_mk T.F_law_same sc_law_same (body := nev) (fun cdv A outer s H E hr => dss_nev) fun _ _ _ e => (e rfl).elim
  | succ i ih =>
    refine fnd_raw T.F_law_same sc_law_same fun cdv A outer s H E hr => ?_
    unfold b_law_same
    exact (dss_cons (ds_if (dt_val (de_callB (call_isiAll) cd_isi (by rfl) T.z_isinstance (by decide +kernel) (da_cons (de_var (pv 1)) (da_cons (de_tup (da_cons (de_ty (T := "list") (by rfl) T.z_list boot_list) (da_cons (de_ty (T := "tuple") (by rfl) T.z_tuple boot_tuple) da_nil))) da_nil)))) (dss_cons (ds_if (PW.pt (dw_or (dt_not (dt_val (de_callB (call_isiAll) cd_isi (by rfl) T.z_isinstance (by decide +kernel) (da_cons (de_var (pv 0)) (da_cons (de_tup (da_cons (de_ty (T := "list") (by rfl) T.z_list boot_list) (da_cons (de_ty (T := "tuple") (by rfl) T.z_tuple boot_tuple) da_nil))) da_nil))))) (dw_or1 (dt_cmp (op_neD (un64 hr)) opd_ne (de_callB (call_isiAll) cd_isi (by rfl) T.z_isinstance (by decide +kernel) (da_cons (de_var (pv 0)) (da_cons (de_ty (T := "list") (by rfl) T.z_list boot_list) da_nil))) (de_callB (call_isiAll) cd_isi (by rfl) T.z_isinstance (by decide +kernel) (da_cons (de_var (pv 1)) (da_cons (de_ty (T := "list") (by rfl) T.z_list boot_list) da_nil))) (nomark _))))) (dss_one (ds_ret de_bl)) dss_nil)
    (dss_one (ds_ret (de_and (de_cmp (op_eqD (un64 hr)) opd_eq (de_callB (call_lenAll) cd_len (by rfl) T.z_len (by decide +kernel) (da_cons (de_var (pv 0)) da_nil)) (de_callB (call_lenAll) cd_len (by rfl) T.z_len (by decide +kernel) (da_cons (de_var (pv 1)) da_nil)) (nomark _)) (de_one (de_callB (cr_all rfl) cd_all (by rfl) T.z_all (by decide +kernel) (da_cons (de_lc (own := [("k", 2)]) rfl sc_law_same.nd (di_rng1 (by rfl) T.z_range (da_cons (de_callB (call_lenAll) cd_len (by rfl) T.z_len (by decide +kernel) (da_cons (de_var (pv 1)) da_nil)) da_nil)) (blkOk_by (by rfl)) (fun _ _ _ _ _ => by exact (pg_name (i := 2) sc_law_same.nd rfl (by first | exact Or.inl rfl | exact Or.inr rfl))) (fun _ _ _ _ _ => by exact dts_nil) (fun _ _ _ _ _ => by exact (de_call ih tk0 (hr.mono (by omega)) (by rfl) T.g__law_same T.F_law_same.kp T.B_law_same (da_cons (de_ix (un1 hr) (de_var (pv 0)) (de_var (pv 2)) (fun _ _ => rfl)) (da_cons (de_ix (un1 hr) (de_var (pv 1)) (de_var (pv 2)) (fun _ _ => rfl)) da_nil))))) da_nil))))))) dss_nil)
    (dss_cons (ds_if (PW.pt (dw_or (dt_cmp (op_isN) opd_is (de_var (pv 1)) de_non (nomark _)) (dw_or1 (dt_val (de_callB (call_isiAll) cd_isi (by rfl) T.z_isinstance (by decide +kernel) (da_cons (de_var (pv 1)) (da_cons (de_ty (T := "str") (by rfl) T.z_str boot_str) da_nil))))))) (dss_one (ds_ret (de_cmp (op_eqD (un64 hr)) opd_eq (de_var (pv 0)) (de_var (pv 1)) (nomark _)))) dss_nil)
    (dss_one (ds_ret (de_and (de_callB (call_isiAll) cd_isi (by rfl) T.z_isinstance (by decide +kernel) (da_cons (de_var (pv 0)) (da_cons (de_ty (T := "int") (by rfl) T.z_int boot_int) da_nil))) (de_and (de_cmp (op_eqD (un64 hr)) opd_eq (de_callB (call_isiAll) cd_isi (by rfl) T.z_isinstance (by decide +kernel) (da_cons (de_var (pv 0)) (da_cons (de_ty (T := "bool") (by rfl) T.z_bool boot_bool) da_nil))) (de_callB (call_isiAll) cd_isi (by rfl) T.z_isinstance (by decide +kernel) (da_cons (de_var (pv 1)) (da_cons (de_ty (T := "bool") (by rfl) T.z_bool boot_bool) da_nil))) (nomark _)) (de_one (de_cmp (op_eqD (un64 hr)) opd_eq (de_var (pv 0)) (de_var (pv 1)) (nomark _)))))))))
theorem ok_law (T : Fx K mg) : FnD P w K mg base 9 (He.ga K "law") T.fd_law ["script"] (G_law K) :=
  fnd_raw T.F_law sc_law (fun cdv A outer s H E hr => ((dss_cons (ds_for pof rfl (di_rng1 (by rfl) T.z_range (da_cons (de_callB (call_max2 rfl) cd_max2 (by rfl) T.z_max (by decide +kernel) (da_cons de_int (da_cons (de_callB (call_min2 rfl) cd_min2 (by rfl) T.z_min (by decide +kernel) (da_cons de_int (da_cons (de_callB (call_lenAll) cd_len (by rfl) T.z_len (by decide +kernel) (da_cons (de_var (pv 0)) da_nil)) da_nil))) da_nil))) da_nil)) (show PG _ _ (tgR K (.nm 1)) from (pg_name (i := 1) sc_law.nd rfl (by first | exact Or.inl rfl | exact Or.inr rfl))) (dss_cons (ds_set (i := 2) sc_law.nd rfl (by first | exact Or.inl rfl | exact Or.inr rfl) (de_call (ok_law_parts T) tkf (hr.mono (by first | decide | omega)) (by rfl) T.g__law_parts T.F_law_parts.kp T.B_law_parts (da_cons (de_call (ok_law_bag T) tkf (hr.mono (by first | decide | omega)) (by rfl) T.g__law_bag T.F_law_bag.kp T.B_law_bag (da_cons (de_call (ok_law_cell_at T) tkf (hr.mono (by first | decide | omega)) (by rfl) T.g__law_cell_at T.F_law_cell_at.kp T.B_law_cell_at (da_cons (de_var (pv 0)) (da_cons (de_var (pv 1)) da_nil))) (da_cons (de_var (pv 1)) da_nil))) da_nil)))
    (dss_cons (ds_set (i := 3) sc_law.nd rfl (by first | exact Or.inl rfl | exact Or.inr rfl) (de_bm PySem.F.plainAttrs_str PySem.F.slot_str_join PySem.F.type_str_join mt_join ty_str md_join de_str (da_cons (de_lc (own := [("part", 5)]) rfl sc_law.nd (di_seq (de_var (pv 2))) (blkOk_by (by rfl)) (fun _ _ _ _ _ => by exact (pg_name (i := 5) sc_law.nd rfl (by first | exact Or.inl rfl | exact Or.inr rfl))) (fun _ _ _ _ _ => by exact dts_nil) (fun _ _ _ _ _ => by exact (de_bm PySem.F.plainAttrs_str PySem.F.slot_str_join PySem.F.type_str_join mt_join ty_str md_join de_str (da_cons (de_lc (own := [("who", 6)]) rfl sc_law.nd (di_seq (de_var (pv 5))) (blkOk_by (by rfl)) (fun _ _ _ _ _ => by exact (pg_name (i := 6) sc_law.nd rfl (by first | exact Or.inl rfl | exact Or.inr rfl))) (fun _ _ _ _ _ => by exact dts_nil) (fun _ _ _ _ _ => by exact (de_callTy (call_str_int) cd_strI (by rfl) T.z_str boot_str (da_cons (de_var (pv 6)) da_nil)))) da_nil)))) da_nil)))
    (dss_cons (ds_set (i := 4) sc_law.nd rfl (by first | exact Or.inl rfl | exact Or.inr rfl) (de_call (ok_show_parting T) tkf (hr.mono (by first | decide | omega)) (by rfl) T.g_show_parting T.F_show_parting.kp T.B_show_parting (da_cons (de_var (pv 2)) da_nil)))
    (dss_one (ds_if (PW.pt (dw_or (dt_not (dt_val (de_call (ok_law_same T 5) tkf (hr.mono (by first | decide | omega)) (by rfl) T.g__law_same T.F_law_same.kp T.B_law_same (da_cons (de_var (pv 4)) (da_cons (de_var (pv 3)) da_nil))))) (dw_or1 (dt_not (dt_val (de_call (ok_law_same T 5) tkf (hr.mono (by first | decide | omega)) (by rfl) T.g__law_same T.F_law_same.kp T.B_law_same (da_cons (de_call (ok_read_parting T) tkf (hr.mono (by first | decide | omega)) (by rfl) T.g_read_parting T.F_read_parting.kp T.B_read_parting (da_cons (de_var (pv 4)) da_nil)) (da_cons (de_var (pv 2)) da_nil)))))))) (dss_one (ds_ret de_bl)) dss_nil))))))
    (dss_one (ds_ret de_bl))) : PSs _ _ (tS K (WE E) (b_law K))))
end
end P43

namespace P43
open PySem PySem.Spec PyProof.Rows L2 Dt
section
def fn : List He.DefD := [dd_show_parting, dd_Source_init, dd_Source_is_over, dd_Source_now, dd_Source_skips, dd_Source_must, dd_Source_run, dd_Source_count, dd_part_read, dd_read_parting, dd_law_cell_at, dd_law_bag, dd_law_draw, dd_law_parts, dd_law_same, dd_law]
def fa : List He.Fa := [.free "str", .free "isinstance", .cls "Source", .noat "Source" "whole", .noat "Source" "at", .free "len", .meth "Source" "is_over", .meth "Source" "now", .str "FIGURES" "0123456789", .meth "Source" "run", .int "MOST_FIGURES" 20, .free "int", .meth "Source" "count", .meth "Source" "skips", .free "tuple", .mkr "Source", .glo "Source", .glo "part_read", .free "sorted", .free "list", .free "all", .int "MOST_HANDS" 16, .free "range", .free "max", .glo "_law_draw", .glo "_law_same", .free "bool", .free "min", .glo "_law_cell_at", .glo "_law_bag", .glo "_law_parts", .glo "show_parting", .glo "read_parting", .glo "law"]
theorem facts {K : PySem.W.Frag} {h : Heap} {mg : Str → Option Value} (X : K.In h) (G : h.Ns mainGlobals mg) (c : He.SaysD fa fn K) : Nonempty (Fx K mg) := by
  obtain ⟨fd0, F0⟩ := c.def_ 0 (d := dd_show_parting) rfl
  obtain ⟨fd1, F1⟩ := c.def_ 1 (d := dd_Source_init) rfl
  obtain ⟨fd2, F2⟩ := c.def_ 2 (d := dd_Source_is_over) rfl
  obtain ⟨fd3, F3⟩ := c.def_ 3 (d := dd_Source_now) rfl
  obtain ⟨fd4, F4⟩ := c.def_ 4 (d := dd_Source_skips) rfl
  obtain ⟨fd5, F5⟩ := c.def_ 5 (d := dd_Source_must) rfl
  obtain ⟨fd6, F6⟩ := c.def_ 6 (d := dd_Source_run) rfl
  obtain ⟨fd7, F7⟩ := c.def_ 7 (d := dd_Source_count) rfl
  obtain ⟨fd8, F8⟩ := c.def_ 8 (d := dd_part_read) rfl
  obtain ⟨fd9, F9⟩ := c.def_ 9 (d := dd_read_parting) rfl
  obtain ⟨fd10, F10⟩ := c.def_ 10 (d := dd_law_cell_at) rfl
  obtain ⟨fd11, F11⟩ := c.def_ 11 (d := dd_law_bag) rfl
  obtain ⟨fd12, F12⟩ := c.def_ 12 (d := dd_law_draw) rfl
  obtain ⟨fd13, F13⟩ := c.def_ 13 (d := dd_law_parts) rfl
  obtain ⟨fd14, F14⟩ := c.def_ 14 (d := dd_law_same) rfl
  obtain ⟨fd15, F15⟩ := c.def_ 15 (d := dd_law) rfl
  exact ⟨⟨He.free_ok X G (c.fact 0 (f := .free "str") rfl),
    He.free_ok X G (c.fact 1 (f := .free "isinstance") rfl),
    He.cls_ok (c.fact 2 (f := .cls "Source") rfl),
    He.noat_ok (c.fact 3 (f := .noat "Source" "whole") rfl),
    He.noat_ok (c.fact 4 (f := .noat "Source" "at") rfl),
    He.free_ok X G (c.fact 5 (f := .free "len") rfl),
    He.meth_ok (c.fact 6 (f := .meth "Source" "is_over") rfl),
    He.meth_ok (c.fact 7 (f := .meth "Source" "now") rfl),
    He.str_ok X G (c.fact 8 (f := .str "FIGURES" "0123456789") rfl),
    He.meth_ok (c.fact 9 (f := .meth "Source" "run") rfl),
    He.int_ok X G (c.fact 10 (f := .int "MOST_FIGURES" 20) rfl),
    He.free_ok X G (c.fact 11 (f := .free "int") rfl),
    He.meth_ok (c.fact 12 (f := .meth "Source" "count") rfl),
    He.meth_ok (c.fact 13 (f := .meth "Source" "skips") rfl),
    He.free_ok X G (c.fact 14 (f := .free "tuple") rfl),
    He.mkr_ok (c.fact 15 (f := .mkr "Source") rfl),
    He.glo_ok X G (c.fact 16 (f := .glo "Source") rfl),
    He.glo_ok X G (c.fact 17 (f := .glo "part_read") rfl),
    He.free_ok X G (c.fact 18 (f := .free "sorted") rfl),
    He.free_ok X G (c.fact 19 (f := .free "list") rfl),
    He.free_ok X G (c.fact 20 (f := .free "all") rfl),
    He.int_ok X G (c.fact 21 (f := .int "MOST_HANDS" 16) rfl),
    He.free_ok X G (c.fact 22 (f := .free "range") rfl),
    He.free_ok X G (c.fact 23 (f := .free "max") rfl),
    He.glo_ok X G (c.fact 24 (f := .glo "_law_draw") rfl),
    He.glo_ok X G (c.fact 25 (f := .glo "_law_same") rfl),
    He.free_ok X G (c.fact 26 (f := .free "bool") rfl),
    He.free_ok X G (c.fact 27 (f := .free "min") rfl),
    He.glo_ok X G (c.fact 28 (f := .glo "_law_cell_at") rfl),
    He.glo_ok X G (c.fact 29 (f := .glo "_law_bag") rfl),
    He.glo_ok X G (c.fact 30 (f := .glo "_law_parts") rfl),
    He.glo_ok X G (c.fact 31 (f := .glo "show_parting") rfl),
    He.glo_ok X G (c.fact 32 (f := .glo "read_parting") rfl),
    He.glo_ok X G (c.fact 33 (f := .glo "law") rfl),
    fd0,
    F0,
    FunD.bindsN F0 fun _ _ _ _ _ _ us hl => match us, hl with | [_], _ => rfl,
    fd1,
    F1,
    FunD.bindsN F1 fun _ _ _ _ _ _ us hl => match us, hl with | [_, _], _ => rfl,
    fd2,
    F2,
    FunD.bindsN F2 fun _ _ _ _ _ _ us hl => match us, hl with | [_], _ => rfl,
    fd3,
    F3,
    FunD.bindsN F3 fun _ _ _ _ _ _ us hl => match us, hl with | [_], _ => rfl,
    fd4,
    F4,
    FunD.bindsN F4 fun _ _ _ _ _ _ us hl => match us, hl with | [_, _], _ => rfl,
    fd5,
    F5,
    FunD.bindsN F5 fun _ _ _ _ _ _ us hl => match us, hl with | [_, _], _ => rfl,
    fd6,
    F6,
    FunD.bindsN F6 fun _ _ _ _ _ _ us hl => match us, hl with | [_, _], _ => rfl,
    fd7,
    F7,
    FunD.bindsN F7 fun _ _ _ _ _ _ us hl => match us, hl with | [_], _ => rfl,
    fd8,
    F8,
    FunD.bindsN F8 fun _ _ _ _ _ _ us hl => match us, hl with | [_], _ => rfl,
    fd9,
    F9,
    FunD.bindsN F9 fun _ _ _ _ _ _ us hl => match us, hl with | [_], _ => rfl,
    fd10,
    F10,
    FunD.bindsN F10 fun _ _ _ _ _ _ us hl => match us, hl with | [_, _], _ => rfl,
    fd11,
    F11,
    FunD.bindsN F11 fun _ _ _ _ _ _ us hl => match us, hl with | [_, _], _ => rfl,
    fd12,
    F12,
    FunD.bindsN F12 fun _ _ _ _ _ _ us hl => match us, hl with | [_, _], _ => rfl,
    fd13,
    F13,
    FunD.bindsN F13 fun _ _ _ _ _ _ us hl => match us, hl with | [_], _ => rfl,
    fd14,
    F14,
    FunD.bindsN F14 fun _ _ _ _ _ _ us hl => match us, hl with | [_, _], _ => rfl,
    fd15,
    F15,
    FunD.bindsN F15 fun _ _ _ _ _ _ us hl => match us, hl with | [_], _ => rfl⟩⟩
end
end P43

namespace P43
open PySem PySem.Spec PyProof.Rows L2 Dt
def nms0 : List Str := ["_wall", "BeatError", "NoText", "FIGURES", "MOST_FIGURES", "MOST_HANDS", "show_parting", "Source", "part_read", "read_parting", "_law_cell_at", "_law_bag", "_law_draw", "_law_parts", "_law_same"]
def nms : List Str := nms0
abbrev Rw : PySem.W.OpenRow := PySem.W.OpenLaw.row PySem.Challenge.rw_beatnet_k43_partings_written
abbrev hk : PySem.W.Hook := He.hookD 4 fa fn
def ob (s : PySem.W.SharedT) : He.AlD := He.obsDG 4 fa fn (HandSHeadRun.getT s)
theorem ob_eq (s : PySem.W.SharedT) : ob s = hk.obs s.abs := He.obsDG_eq (HandSHeadRun.getT_eq s)
theorem headRun (w : World) : HandSHeadRun.RunEq Rw (PySem.W.view Rw.prog [18]) hk ob 3000 nms w := by
  intro os
  kernel_rfl
def M : Nat := 3000
def li : Nat := 18
end P43

namespace P43
open PySem PySem.Spec PyProof.Rows L2 Dt
variable {K : PySem.W.Frag} {h : DH}
/-! ### what is written -/
abbrev pt (q : List Nat) : List Nat := TL.joinL [43] (q.map dg)
abbrev wr (p : List (List Nat)) : List Nat := TL.joinL [47] (p.map pt)
theorem plus_tx : ("+" : Str) = tx [43] := by decide
theorem bar_tx : ("/" : Str) = tx [47] := by decide
/-- few, and low -/
structure Low (p : List (List Nat)) : Prop where
  len : p.length ≤ 16
  row : ∀ q ∈ p, q.length ≤ 16
  low : ∀ q ∈ p, ∀ n ∈ q, n < 16
theorem dg_low {n : Nat} (h : n < 16) : (dg n).length ≤ 2 := dg_len (by decide) (by omega)
theorem pt_len {q : List Nat} (h1 : q.length ≤ 16) (h2 : ∀ n ∈ q, n < 16) : (pt q).length ≤ 48 := by
  have := join_len (c := 43) 2 (ys := q.map dg) fun y hy => by
    obtain ⟨n, hn, rfl⟩ := List.mem_map.mp hy
    exact dg_low (h2 n hn)
  rw [List.length_map] at this
  unfold pt
  omega
theorem wr_len {p : List (List Nat)} (l : Low p) : (wr p).length ≤ 784 := by
  have := join_len (c := 47) 48 (ys := p.map pt) fun y hy => by
    obtain ⟨q, hq, rfl⟩ := List.mem_map.mp hy
    exact pt_len (l.row q hq) (l.low q hq)
  rw [List.length_map] at this
  have := l.len
  unfold wr
  omega
theorem wr_sign {p : List (List Nat)} {c : Nat} (h : c ∈ wr p) : c < 128 := by
  rcases join_mem h with rfl | ⟨y, hy, hc⟩
  · decide
  · obtain ⟨q, _, rfl⟩ := List.mem_map.mp hy
    rcases join_mem hc with rfl | ⟨z, hz, hd⟩
    · decide
    · obtain ⟨n, _, rfl⟩ := List.mem_map.mp hz
      have := dg_digit hd
      omega
theorem smal16 {n : Nat} (c : n < 16) : smal (n : Int) := by
  refine smal_of (Int.natCast_nonneg n) ?_
  refine Int.lt_trans (b := 16) ?_ (by decide)
  exact Int.ofNat_lt.mpr c
theorem str_low {n : Nat} (c : n < 16) : strID [.int (n : Int)] h = .ok (.str (tx (dg n))) h := by
  have e := ev_str (h := h) (smal16 c)
  have e2 := dg_str n
  rw [e]
  exact congrArg (fun s => Rs.ok (D.str s) h) e2
/-- the writing of one part, in any place -/
theorem row_join {q : List Nat} (h1 : q.length ≤ 16) (h2 : ∀ n ∈ q, n < 16) {fi : IF} {i : Nat} {env : Env'} {vs : List Nat} (hi : fi env h = .ok ⟨none, q.map iD⟩ h)
    (hv : ∀ d : D, vr i ((wipD env vs).set i (some d)) h = .ok d h) : mth strK joinD (ct (.str "+")) (ac (lcE fi (.nm i) tyes (oA strID (ac (vr i) an)) vs) an) env h = .ok (.str (tx (pt q))) h := by
  have e1 := ev_lc (env := env) (h := h) (fe := oA strID (ac (vr i) an)) (i := i) (vs := vs) iD (fun n => D.str (tx (dg n))) q hi rfl rfl (fun n hn => by
    rw [ev_oA, ev_ac, hv, bd_ok, ev_an, bd_ok, bd_ok, str_low (h2 n hn)]) (by omega)
  rw [ev_mth]
  simp only [ev_ct, bd_ok, ev_strK, if_true, ev_ac, e1, ev_an, plus_tx]
  exact ev_joinT (h := h) 2 (fun n hn => dg_low (h2 n hn)) (by omega)
theorem rows_join {p : List (List Nat)} (l : Low p) {fi : IF} {i j : Nat} {env : Env'} {vs ws : List Nat} (hi : fi env h = .ok ⟨none, p.map rD⟩ h)
    (hv : ∀ d : D, vr i ((wipD env vs).set i (some d)) h = .ok d h) (hw : ∀ d e : D, vr j ((wipD ((wipD env vs).set i (some d)) ws).set j (some e)) h = .ok e h) :
    mth strK joinD (ct (.str "/")) (ac (lcE fi (.nm i) tyes (mth strK joinD (ct (.str "+")) (ac (lcE (isq (vr i)) (.nm j) tyes (oA strID (ac (vr j) an)) ws) an)) vs) an) env h = .ok (.str (tx (wr p))) h := by
  have e1 := ev_lc (env := env) (h := h) (fe := mth strK joinD (ct (.str "+")) (ac (lcE (isq (vr i)) (.nm j) tyes (oA strID (ac (vr j) an)) ws) an)) (i := i) (vs := vs) rD (fun q => D.str (tx (pt q))) p hi rfl rfl (fun q hq =>
    row_join (l.row q hq) (l.low q hq) (by simp [hv]) (hw _)) (by have := l.len; omega)
  rw [ev_mth]
  simp only [ev_ct, bd_ok, ev_strK, if_true, ev_ac, e1, ev_an, bar_tx]
  exact ev_joinT (h := h) 48 (fun q hq => pt_len (l.row q hq) (l.low q hq)) (by have := l.len; omega)
theorem show_ok {p : List (List Nat)} (l : Low p) : G_show_parting K [.tup (p.map rD)] h = .ok (.str (tx (wr p))) h := by
  have e := rows_join (h := h) l (fi := isq (vr 0)) (i := 1) (j := 2) (env := startD N_show_parting [.tup (p.map rD)]) (vs := [1]) (ws := [2]) rfl (fun d => rfl) (fun d e => rfl)
  unfold G_show_parting raw b_show_parting
  simp only [ev_ret, e, ev_bs_ok]
/-! ### like and like -/
theorem isi_str {x : Str} : isiD [.str x, .tup [.con (.ty "list"), .con (.ty "tuple")]] h = .ok (.bl false) h := by rfl
theorem isi_int {n : Int} : isiD [.int n, .tup [.con (.ty "list"), .con (.ty "tuple")]] h = .ok (.bl false) h := by rfl
theorem isi_tup {ds : List D} : isiD [.tup ds, .tup [.con (.ty "list"), .con (.ty "tuple")]] h = .ok (.bl true) h := by rfl
theorem isi_tup1 {ds : List D} : isiD [.tup ds, .con (.ty "list")] h = .ok (.bl false) h := by rfl
theorem isi_s {x : Str} : isiD [.str x, .con (.ty "str")] h = .ok (.bl true) h := by rfl
theorem isi_is {n : Int} : isiD [.int n, .con (.ty "str")] h = .ok (.bl false) h := by rfl
theorem isi_i {n : Int} : isiD [.int n, .con (.ty "int")] h = .ok (.bl true) h := by rfl
theorem isi_b {n : Int} : isiD [.int n, .con (.ty "bool")] h = .ok (.bl false) h := by rfl
theorem mk2 {a b : D} : mkT [a, b] h = .ok (.tup [a, b]) h := ev_mkT (by simp)
theorem same_str {x : Str} {i : Nat} (hx : PyData.strOk x = true) : Gs_law_same K (i + 1) [.str x, .str x] h = .ok (.bl true) h := by
  have e1 : isD (.str x) .non h = .ok (.bl false) h := rfl
  have e2 : eqD (.str x) (.str x) h = .ok (.bl true) h := by rw [ev_eqZ hx hx]; simp
  simp [Gs_law_same, raw, startD, b_law_same, N_law_same, List.replicate, mk2, isi_str, isi_s, e1, e2]
theorem same_int {n : Int} {i : Nat} : Gs_law_same K (i + 1) [.int n, .int n] h = .ok (.bl true) h := by
  have e1 : isD (.int n) .non h = .ok (.bl false) h := rfl
  simp [Gs_law_same, raw, startD, b_law_same, N_law_same, List.replicate, mk2, isi_int, isi_is, isi_i, isi_b, e1, ev_eqB, ev_eqI]
theorem all_true {α : Type} {xs : List α} : allD [.lst (xs.map fun _ => D.bl true)] h = .ok (.bl true) h := by
  have e : (lsq h (.lst (xs.map fun _ => D.bl true))).bind toB = some (xs.map fun _ => true) := by
    show toB (xs.map fun _ => D.bl true) = _
    induction xs with
    | nil => rfl
    | cons x xs ih => simp only [List.map_cons, toB, ih]; rfl
  have e2 : (xs.map fun _ => true).all id = true := by simp
  simp only [allD, e, e2]
theorem same_tup {ds : List D} {i : Nat} (hl : ds.length ≤ 1000000) (ih : ∀ d ∈ ds, Gs_law_same K (i + 1) [d, d] h = .ok (.bl true) h) : Gs_law_same K (i + 2) [.tup ds, .tup ds] h = .ok (.bl true) h := by
  have sm : smR (ds.length : Int) := by unfold smR; omega
  have e1 : rng1 (ac (oA lenD (ac (vr 1) an)) an) [some (.tup ds), some (.tup ds), none] h = .ok (rgI 0 (ds.length : Int)) h := ev_rng1 (by simp) sm
  have e2 := ev_lc (env := [some (.tup ds), some (.tup ds), none]) (h := h) (i := 2) (vs := [2]) (fe := cll 2 (Gs_law_same K (i + 1)) (ac (o2 ixD (vr 0) (vr 2)) (ac (o2 ixD (vr 1) (vr 2)) an))) (fun k : Nat => D.int (0 + (k : Int))) (fun _ => D.bl true) (List.range ds.length) e1 rfl
    (by unfold rgI; simp) (fun k hk => by
      have hk : k < ds.length := List.mem_range.mp hk
      have e3 : ixD (.tup ds) (.int (k : Int)) h = .ok ds[k] h := ev_ixT (List.getElem?_eq_getElem hk)
      simp [wipD, e3, ih _ (List.getElem_mem hk)]) (by simpa using hl)
  have e4 : allD [.lst ((List.range ds.length).map fun _ => D.bl true)] h = .ok (.bl true) h := all_true
  have st : startD N_law_same [.tup ds, .tup ds] = [some (.tup ds), some (.tup ds), none] := rfl
  unfold Gs_law_same raw
  rw [st]
  unfold b_law_same
  simp [mk2, isi_tup, isi_tup1, ev_neB, ev_eqI, e2, e4]
theorem same_rows {p : List (List Nat)} (l : Low p) : Gs_law_same K 5 [.tup (p.map rD), .tup (p.map rD)] h = .ok (.bl true) h := by
  refine same_tup (i := 3) (by rw [List.length_map]; have := l.len; omega) fun d hd => ?_
  obtain ⟨q, hq, rfl⟩ := List.mem_map.mp hd
  refine same_tup (i := 2) (by rw [List.length_map]; have := l.row q hq; omega) fun d hd => ?_
  obtain ⟨n, hn, rfl⟩ := List.mem_map.mp hd
  exact same_int

/-! ### parts drawn -/
structure Gd (p : List (List Nat)) (k : Nat) : Prop where
  ne : ∀ q ∈ p, q ≠ []
  asc : ∀ q ∈ p, q.Pairwise (· < ·)
  hd : (p.map fun q => q.headD 0).Pairwise (· < ·)
  all : p.flatten.Perm (List.range k)
theorem Gd.lt {p : List (List Nat)} {k : Nat} (g : Gd p k) {q : List Nat} (hq : q ∈ p) {n : Nat} (hn : n ∈ q) : n < k :=
  List.mem_range.mp (g.all.subset (List.mem_flatten.mpr ⟨q, hq, hn⟩))
theorem Gd.nil : Gd [] 0 := ⟨by simp, by simp, by simp, by simp⟩
theorem Gd.more {p : List (List Nat)} {k : Nat} (g : Gd p k) : Gd (p ++ [[k]]) (k + 1) where
  ne := fun q hq => by
    rcases List.mem_append.mp hq with hq | hq
    · exact g.ne q hq
    · rw [List.mem_singleton.mp hq]; simp
  asc := fun q hq => by
    rcases List.mem_append.mp hq with hq | hq
    · exact g.asc q hq
    · rw [List.mem_singleton.mp hq]; simp
  hd := by
    rw [List.map_append, List.pairwise_append]
    refine ⟨g.hd, by simp, fun a ha b hb => ?_⟩
    obtain ⟨q, hq, rfl⟩ := List.mem_map.mp ha
    simp at hb
    subst hb
    cases q with
    | nil => exact absurd rfl (g.ne _ hq)
    | cons x r => exact g.lt hq List.mem_cons_self
  all := by
    rw [List.flatten_append, List.range_succ]
    simpa using g.all.append_right [k]
theorem flat_set {p : List (List Nat)} {i k : Nat} (hi : i < p.length) : (p.set i (p[i] ++ [k])).flatten.Perm (p.flatten ++ [k]) := by
  induction p generalizing i with
  | nil => simp at hi
  | cons q p ih =>
    cases i with
    | zero =>
      simp only [List.set_cons_zero, List.flatten_cons, List.getElem_cons_zero, List.append_assoc]
      exact (List.Perm.refl q).append (List.perm_append_comm)
    | succ i =>
      simp only [List.set_cons_succ, List.flatten_cons, List.getElem_cons_succ, List.append_assoc]
      exact (List.Perm.refl q).append (ih (by simpa using hi))
theorem Gd.grow {p : List (List Nat)} {k i : Nat} (g : Gd p k) (hi : i < p.length) : Gd (p.set i (p[i] ++ [k])) (k + 1) where
  ne := fun q hq => by
    rcases List.mem_or_eq_of_mem_set hq with hq | rfl
    · exact g.ne q hq
    · simp
  asc := fun q hq => by
    rcases List.mem_or_eq_of_mem_set hq with hq | rfl
    · exact g.asc q hq
    · rw [List.pairwise_append]
      refine ⟨g.asc _ (List.getElem_mem hi), by simp, fun a ha b hb => ?_⟩
      rw [List.mem_singleton.mp hb]
      exact g.lt (List.getElem_mem hi) ha
  hd := by
    have e : (p.set i (p[i] ++ [k])).map (fun q => q.headD 0) = p.map fun q => q.headD 0 := by
      rw [List.map_set]
      have hne := g.ne _ (List.getElem_mem hi)
      have e1 : (p[i] ++ [k]).headD 0 = p[i].headD 0 := by
        cases hp : p[i] with
        | nil => exact absurd hp hne
        | cons x r => rfl
      rw [e1]
      apply List.ext_getElem?
      intro j
      by_cases hj : j = i
      · subst hj
        rw [List.getElem?_set_self (by simpa using hi), List.getElem?_map, List.getElem?_eq_getElem hi]; rfl
      · rw [List.getElem?_set_ne (Ne.symm hj)]
    rw [e]; exact g.hd
  all := by
    rw [List.range_succ]
    exact (flat_set hi).trans (g.all.append_right [k])
theorem Gd.len {p : List (List Nat)} {k : Nat} (g : Gd p k) : p.length ≤ k ∧ ∀ q ∈ p, q.length ≤ k := by
  have h1 := g.all.length_eq
  rw [List.length_range, List.length_flatten] at h1
  have h2 : ∀ p : List (List Nat), (∀ q ∈ p, q ≠ []) → p.length ≤ (p.map List.length).sum ∧ ∀ q ∈ p, q.length ≤ (p.map List.length).sum := fun p => by
    induction p with
    | nil => simp
    | cons q p ih =>
      intro hn
      obtain ⟨a, b⟩ := ih fun r hr => hn r (List.mem_cons_of_mem _ hr)
      have := List.length_pos_iff.mpr (hn q List.mem_cons_self)
      rw [List.map_cons, List.sum_cons, List.length_cons]
      refine ⟨by omega, fun r hr => ?_⟩
      rcases List.mem_cons.mp hr with rfl | hr
      · omega
      · have := b r hr; omega
  rw [← h1]
  exact h2 p g.ne
theorem Gd.low {p : List (List Nat)} {k : Nat} (g : Gd p k) (hk : k ≤ 16) : Low p :=
  ⟨by have := g.len.1; omega, fun q hq => by have := g.len.2 q hq; omega, fun q hq n hn => by have := g.lt hq hn; omega⟩
theorem draw_is : G_law_draw K = drawF := rfl
theorem bag_ok {c : Int} {k : Nat} (hk : k ≤ 1000) : ∃ bs, G_law_bag K [.int c, .int k] h = .ok (.ref h.length) (h ++ [.lst bs]) ∧ Bag (h ++ [.lst bs]) h.length 0 := by
  have e1 : powD (.int 10) (.int 18) h = .ok (.int (10 ^ 18)) h := ev_pow ⟨smal_of (by decide) (by decide), by decide, by decide⟩
  have s1 : smal (k : Int) := smal_of (Int.natCast_nonneg k) (Int.lt_trans (b := 1001) (Int.ofNat_lt.mpr (Nat.lt_succ_of_le hk)) (by decide))
  have e2 : mulD false (.int 86028121) (.int k) h = .ok (.int (86028121 * k)) h := ev_mul ⟨smal_of (by decide) (by decide), s1⟩
  have e3 : modD (.int c) (.int 170141183460469231731687303715884105727) h = .ok (.int (c % 170141183460469231731687303715884105727)) h := ev_mod (by decide)
  have e4 : ∀ x y z : D, mkL true [x, y, z] h = .ok (.ref h.length) (h ++ [.lst [x, y, z]]) := fun x y z => ev_mkO (by simp)
  refine ⟨[.int (max 0 (c - 10 ^ 18)), .int (c % 170141183460469231731687303715884105727 + 86028121 * k), .int 0], ?_, _, _, _, List.getElem?_concat_length .., ?_, ?_, ?_, ?_, ?_⟩
  · unfold G_law_bag raw b_law_bag
    have st : startD N_law_bag [.int c, .int k] = [some (.int c), some (.int k)] := rfl
    rw [st]
    simp only [ev_ret, ev_oA, ev_ac, ev_an, ev_ct, ev_o2, ev_vr0, ev_vrS, bd_ok, e1, e2, e3, ev_sub, ev_add, ev_max, e4, ev_bs_ok]
  · exact Int.le_max_left ..
  · have := Int.emod_nonneg c (b := 170141183460469231731687303715884105727) (by decide)
    omega
  · have q1 := Int.emod_lt_of_pos c (b := 170141183460469231731687303715884105727) (by decide)
    have q2 : (2 : Int) ^ 130 = 1361129467683753853853498429727072845824 := by decide
    rw [q2]
    omega
  · exact Int.le_refl _
  · exact Int.le_refl _
theorem cell_ok {ns : List Int} {k : Nat} : ∃ z, G_law_cell_at K [.scr ns, .int k] h = .ok (.int z) h := by
  have st : startD N_law_cell_at [.scr ns, .int k] = [some (.scr ns), some (.int k)] := rfl
  unfold G_law_cell_at raw b_law_cell_at
  rw [st]
  by_cases hk : k < ns.length
  · have e1 : ixD (.scr ns) (.int k) h = .ok (.int ns[k]) h := ev_ixS (List.getElem?_eq_getElem hk)
    have e2 : ((k : Int) < (ns.length : Int)) = True := eq_true (by omega)
    exact ⟨ns[k], by simp [e1, hk]⟩
  · have e2 : ¬ ((k : Int) < (ns.length : Int)) := by omega
    exact ⟨0, by simp [hk]⟩
theorem mk1 {a : D} : mkT [a] h = .ok (.tup [a]) h := ev_mkT (by simp)
theorem add_tup {a b : List D} (hl : a.length + b.length ≤ 1000000) : addD false (.tup a) (.tup b) h = .ok (.tup (a ++ b)) h := if_pos hl
theorem parts_turn {n p k : Nat} {m g : Int} {q : List (List Nat)} {e4 e5 : Option D} (hb : Bag h n (3 + k)) (hp : h[p]? = some (.lst (q.map rD))) (hnp : n ≠ p) (gd : Gd q k) (hk : k < 16) (hg : 0 < g) (hg2 : g ≤ 16) :
    ∃ q' h' e, (seq (asg (cll 2 (G_law_draw K) (ac (vr 0) (ac (vr 2) an))) (.nm 5))
    (ife (tv (o2 ltD (vr 5) (oA lenD (ac (vr 3) an)))) (setI (vr 3) (vr 5) (o2 (addD false) (o2 ixD (vr 3) (vr 5)) (oA mkT (ac (vr 4) an)))) (drp (mth lstK appendD (vr 3) (ac (oA mkT (ac (vr 4) an)) an))))) [some (.ref n), some (.int m), some (.int g), some (.ref p), some (.int k), e5] h
      = .nx [some (.ref n), some (.int m), some (.int g), some (.ref p), some (.int k), some e] h' ∧ Bag h' n (3 + (k + 1)) ∧ h'[p]? = some (.lst (q'.map rD)) ∧ Gd q' (k + 1) := by
  obtain ⟨r, bs, e1, hr, hb2⟩ := draw_ok hb (by omega) hg (by omega)
  have hp2 : (h.set n (.lst bs))[p]? = some (.lst (q.map rD)) := by rw [List.getElem?_set_ne hnp]; exact hp
  have hpl : p < (h.set n (.lst bs)).length := (List.getElem?_eq_some_iff.mp hp2).1
  have e2 : lenD [.ref p] (h.set n (.lst bs)) = .ok (.int (q.map rD).length) (h.set n (.lst bs)) := ev_lenR hp2
  have ql := (gd.low (by omega)).len
  by_cases hlt : r < q.length
  · have e3 : ixD (.ref p) (.int r) (h.set n (.lst bs)) = .ok (rD q[r]) (h.set n (.lst bs)) := ev_ixR hp2 (by rw [List.getElem?_map, List.getElem?_eq_getElem hlt]; rfl)
    have rl := (gd.low (by omega)).row _ (List.getElem_mem hlt)
    have e4 : addD false (rD q[r]) (.tup [.int k]) (h.set n (.lst bs)) = .ok (rD (q[r] ++ [k])) (h.set n (.lst bs)) := by
      rw [add_tup (by rw [List.length_map, List.length_singleton]; omega)]
      simp
    have e5 : setItD (.ref p) (.int r) (rD (q[r] ++ [k])) (h.set n (.lst bs)) = some ((h.set n (.lst bs)).set p (.lst ((q.map rD).set r (rD (q[r] ++ [k]))))) := ev_setIt hp2 (by simpa using hlt)
    refine ⟨q.set r (q[r] ++ [k]), (h.set n (.lst bs)).set p (.lst ((q.map rD).set r (rD (q[r] ++ [k])))), .int r, ?_, by
      have := hb2.set (m := p) (o := .lst ((q.map rD).set r (rD (q[r] ++ [k])))) (Ne.symm hnp)
      exact this, ?_, gd.grow hlt⟩
    · simp [draw_is, e1, e2, e3, mk1, e4, e5, hlt]
    · rw [List.getElem?_set_self hpl, List.map_set]
  · have e3 : lstK (h.set n (.lst bs)) (.ref p) = true := ev_lstK hp2
    have e4 : appendD (.ref p) [.tup [.int k]] (h.set n (.lst bs)) = .ok .non ((h.set n (.lst bs)).set p (.lst (q.map rD ++ [.tup [.int k]]))) := ev_app hp2 (by rw [List.length_map]; omega)
    refine ⟨q ++ [[k]], (h.set n (.lst bs)).set p (.lst (q.map rD ++ [.tup [.int k]])), .int r, ?_, hb2.set (Ne.symm hnp), ?_, gd.more⟩
    · simp [draw_is, e1, e2, e3, mk1, e4, hlt]
    · rw [List.getElem?_set_self hpl]
      simp
theorem parts_ok {n : Nat} (hb : Bag h n 0) : ∃ p m h', G_law_parts K [.ref n] h = .ok (.tup (p.map rD)) h' ∧ Gd p m ∧ 1 ≤ m ∧ m ≤ 16 := by
  obtain ⟨r0, bs0, e0, hr0, hb0⟩ := draw_ok (m := 2) hb (by omega) (by decide) (by decide)
  obtain ⟨wd, ew, w1, w2⟩ : ∃ wd : Nat, ([D.int 5, D.int 16])[r0]? = some (.int wd) ∧ 0 < wd ∧ wd ≤ 16 := by
    have : r0 = 0 ∨ r0 = 1 := by omega
    rcases this with rfl | rfl
    · exact ⟨5, rfl, by decide, by decide⟩
    · exact ⟨16, rfl, by decide, by decide⟩
  obtain ⟨h1, eh1⟩ : ∃ h1, h1 = h.set n (.lst bs0) := ⟨_, rfl⟩
  rw [← eh1] at e0 hb0
  have e1 : ixD (.lst [.int 5, .int 16]) (.int r0) h1 = .ok (.int wd) h1 := ev_ixL ew
  have em : mkL false [.int 5, .int 16] h = .ok (.lst [.int 5, .int 16]) h := ev_mkF (by simp)
  obtain ⟨r1, bs1, e2, hr1, hb1⟩ := draw_ok (m := (wd : Int)) hb0 (by omega) (by omega) (by omega)
  obtain ⟨h2, eh2⟩ : ∃ h2, h2 = h1.set n (.lst bs1) := ⟨_, rfl⟩
  rw [← eh2] at e2 hb1
  obtain ⟨r2, bs2, e3, hr2, hb2⟩ := draw_ok (m := 1 + (r1 : Int)) hb1 (by omega) (by omega) (by omega)
  obtain ⟨h3, eh3⟩ : ∃ h3, h3 = h2.set n (.lst bs2) := ⟨_, rfl⟩
  rw [← eh3] at e3 hb2
  have e4 : mkL true [] h3 = .ok (.ref h3.length) (h3 ++ [.lst []]) := ev_mkO (by simp)
  have nl := hb2.lt
  obtain ⟨ef, hf, lp, P, x, y, rfl, hp, gd⟩ := forS_all (it := rgI 0 (1 + (r1 : Int))) (i := 4) (env := [some (.ref n), some (.int (1 + r1)), some (.int (1 + r2)), some (.ref h3.length), none, none]) (h := h3 ++ [.lst []])
    (body := (seq (asg (cll 2 (G_law_draw K) (ac (vr 0) (ac (vr 2) an))) (.nm 5))
    (ife (tv (o2 ltD (vr 5) (oA lenD (ac (vr 3) an)))) (setI (vr 3) (vr 5) (o2 (addD false) (o2 ixD (vr 3) (vr 5)) (oA mkT (ac (vr 4) an)))) (drp (mth lstK appendD (vr 3) (ac (oA mkT (ac (vr 4) an)) an)))))) rfl
    (fun k e g => ∃ (P : List (List Nat)) (x y : Option D), e = [some (.ref n), some (.int (1 + r1)), some (.int (1 + r2)), some (.ref h3.length), x, y] ∧ (Bag g n (3 + k) ∧ g[h3.length]? = some (.lst (P.map rD))) ∧ Gd P k)
    ⟨[], none, none, rfl, ⟨(hb2.app (g := [.lst []])).le (by omega), by simp⟩, Gd.nil⟩
    (fun k e g d hI hd => by
      obtain ⟨P, x, y, rfl, ⟨b, q⟩, gd⟩ := hI
      have hk : k < 1 + r1 ∧ d = .int (k : Int) := by
        have := range_get (lo := 0) (n := (1 + (r1 : Int) - 0).toNat) hd
        refine ⟨by omega, by rw [this.2, Int.zero_add]⟩
      obtain ⟨hk1, rfl⟩ := hk
      obtain ⟨q', h', e, t1, t2, t3, t4⟩ := parts_turn (K := K) (m := 1 + (r1 : Int)) (g := 1 + (r2 : Int)) (e5 := y) (e4 := x) b q (by omega) gd (by omega) (by omega) (by omega)
      exact ⟨_, h', .inl t1, q', _, _, rfl, ⟨t2, t3⟩, t4⟩)
  obtain ⟨bf, hpf⟩ := hp
  simp only [draw_is] at lp
  have hlen : (rgI 0 (1 + (r1 : Int))).items.length = 1 + r1 := by
    unfold rgI; simp; omega
  rw [hlen] at gd
  have sm : smR (1 + (r1 : Int)) := by unfold smR; omega
  have er : ∀ e, rng1 (ac (vr 1) an) (some (.ref n) :: some (.int (1 + (r1 : Int))) :: e) (h3 ++ [.lst []]) = .ok (rgI 0 (1 + (r1 : Int))) (h3 ++ [.lst []]) := fun e => ev_rng1 (by simp) sm
  have ql := (gd.low (by omega)).len
  have et : tupleD [.ref h3.length] hf = .ok (.tup (P.map rD)) hf := ev_tupR hpf (by rw [List.length_map]; omega)
  refine ⟨P, 1 + r1, hf, ?_, gd, by omega, by omega⟩
  have st : startD N_law_parts [.ref n] = [some (.ref n), none, none, none, none, none] := rfl
  unfold G_law_parts raw b_law_parts
  rw [st]
  simp only [ev_seq, ev_asg, ev_o2, ev_ct, bd_ok, ev_cll, ev_ac, ev_vr0, ev_vrS, ev_oA, ev_an, em, draw_is, List.length_cons, List.length_nil, if_true, e0, e1, e2, e3, ev_add, ev_bs_ok, ev_sq_nx, List.set_cons_succ, List.set_cons_zero, e4, ev_forE, er, lp, ev_ret, et]

/-! ### parts read -/
abbrev Sc (K : PySem.W.Frag) : Addr := He.ga K "Source"
theorem skips_is : G_Source_skips K = skipsF (Sc K) := rfl
theorem count_is : G_Source_count K = countF (Sc K) := rfl
theorem over_is : G_Source_is_over K = isOverF (Sc K) := rfl
/-- no figure ahead -/
def Nd (y : List Nat) : Prop := ∀ c, y[0]? = some c → c < 48 ∨ 57 < c
abbrev tl1 (r : List Nat) : List Nat := r.flatMap fun n => 43 :: dg n
theorem nd_tl {r y : List Nat} (h : Nd y) : Nd (tl1 r ++ y) := by
  cases r with
  | nil => simpa using h
  | cons n r =>
    intro c hc
    simp at hc
    omega
theorem pt_cons {n : Nat} {r : List Nat} : pt (n :: r) = dg n ++ tl1 r := by
  unfold pt
  rw [List.map_cons, join_cons, List.flatMap_map]
section
variable {l rest : List Nat} {s p a : Nat}
theorem meth_skips {c : Nat} {w : Str} {e : Env'} (hw : w = tx [c]) (hs : h[s]? = some (srcO (Sc K) l a)) {i : Nat} (hv : vr i e h = .ok (.ref s) h) (ha : a ≤ l.length) (hc : l[a]? = some c) :
    mcl (Sc K) "skips" 2 (G_Source_skips K) (vr i) (ac (ct (.str w)) an) e h = .ok (.bl true) (h.set s (srcO (Sc K) l (a + 1))) := by
  rw [ev_mcl hv hs nin5]
  simp only [ev_ac, ev_ct, ev_an, bd_ok, List.length_cons, List.length_nil]
  rw [if_pos trivial, skips_is, hw, skips_ok hs ha hc]
theorem meth_skips0 {c : Nat} {w : Str} {e : Env'} (hw : w = tx [c]) (hs : h[s]? = some (srcO (Sc K) l a)) {i : Nat} (hv : vr i e h = .ok (.ref s) h) (ha : a ≤ l.length) (hc : l[a]? ≠ some c) :
    mcl (Sc K) "skips" 2 (G_Source_skips K) (vr i) (ac (ct (.str w)) an) e h = .ok (.bl false) h := by
  rw [ev_mcl hv hs nin5]
  simp only [ev_ac, ev_ct, ev_an, bd_ok, List.length_cons, List.length_nil]
  rw [if_pos trivial, skips_is, hw, skips_no hs ha hc]
theorem meth_count {n : Nat} {e : Env'} {y : List Nat} (hs : h[s]? = some (srcO (Sc K) l a)) {i : Nat} (hv : vr i e h = .ok (.ref s) h) (hl : l.length ≤ 100000) (hd : l.drop a = dg n ++ y) (hn : n < 16) (nd : Nd y) :
    mcl (Sc K) "count" 1 (G_Source_count K) (vr i) an e h = .ok (.int n) (h.set s (srcO (Sc K) l (a + (dg n).length))) := by
  obtain ⟨d1, d2, d3, _⟩ := at_drop hd (dg_ne n)
  rw [ev_mcl hv hs nin4]
  simp only [ev_an, bd_ok, List.length_nil]
  rw [if_pos trivial, count_is, count_ok hs hl d1 d2 (by omega) fun c hc => nd c (by rw [← d3]; exact hc)]
theorem part_loop (hl : l.length ≤ 100000) (hr0 : rest[0]? ≠ some 43) (nd : Nd rest) (hsp : s ≠ p) : ∀ (r acc : List Nat) (a fuel : Nat) (h : DH), h[s]? = some (srcO (Sc K) l a) → h[p]? = some (.lst (acc.map iD)) → a ≤ l.length → l.drop a = tl1 r ++ rest →
    (∀ n ∈ r, n < 16) → acc.length + r.length ≤ 100 → r.length < fuel →
    ∃ h', whF (tv (mcl (Sc K) "skips" 2 (G_Source_skips K) (vr 0) (ac (ct (.str "+")) an))) (drp (mth lstK appendD (vr 1) (ac (mcl (Sc K) "count" 1 (G_Source_count K) (vr 0) an) an))) fuel [some (.ref s), some (.ref p)] h = .nx [some (.ref s), some (.ref p)] h' ∧
      h'[s]? = some (srcO (Sc K) l (a + (tl1 r).length)) ∧ h'[p]? = some (.lst ((acc ++ r).map iD)) ∧ ∀ k, k ≠ s → k ≠ p → h'[k]? = h[k]?
  | _, _, _, 0, _, _, _, _, _, _, _, hf => by omega
  | [], acc, a, fuel + 1, h, hs, hp, ha, hd, hlow, hlen, hf => by
    have e0 : l[a]? = rest[0]? := by
      have : (l.drop a)[0]? = rest[0]? := by rw [hd]; rfl
      rw [List.getElem?_drop] at this
      exact this
    have e1 := meth_skips0 (K := K) (e := [some (.ref s), some (.ref p)]) (i := 0) plus_tx hs rfl ha (by rw [e0]; exact hr0)
    refine ⟨h, ?_, by simpa using hs, by simpa using hp, fun _ _ _ => rfl⟩
    unfold whF
    simp [e1]
  | n :: r, acc, a, fuel + 1, h, hs, hp, ha, hd, hlow, hlen, hf => by
    have hsl : s < h.length := (List.getElem?_eq_some_iff.mp hs).1
    have hpl : p < h.length := (List.getElem?_eq_some_iff.mp hp).1
    have hd' : l.drop a = [43] ++ (dg n ++ (tl1 r ++ rest)) := by rw [hd]; simp
    obtain ⟨_, d2, _, d4⟩ := at_drop hd' (by simp)
    have e0 : l[a]? = some 43 := by
      have : (l.drop a)[0]? = some 43 := by rw [hd']; rfl
      rw [List.getElem?_drop] at this
      exact this
    have e1 := meth_skips (K := K) (e := [some (.ref s), some (.ref p)]) (i := 0) plus_tx hs rfl ha e0
    simp only [List.length_singleton] at d2 d4
    have hs1 : (h.set s (srcO (Sc K) l (a + 1)))[s]? = some (srcO (Sc K) l (a + 1)) := List.getElem?_set_self hsl
    have e2 := meth_count (K := K) (e := [some (.ref s), some (.ref p)]) (i := 0) hs1 rfl hl d4 (hlow n List.mem_cons_self) (nd_tl nd)
    rw [List.set_set] at e2
    obtain ⟨_, f2, _, f4⟩ := at_drop d4 (dg_ne n)
    obtain ⟨h2, eh2⟩ : ∃ h2, h2 = h.set s (srcO (Sc K) l (a + 1 + (dg n).length)) := ⟨_, rfl⟩
    rw [← eh2] at e2
    have hp2 : h2[p]? = some (.lst (acc.map iD)) := by rw [eh2, List.getElem?_set_ne hsp]; exact hp
    have e3 : appendD (.ref p) [.int n] h2 = .ok .non (h2.set p (.lst (acc.map iD ++ [.int n]))) := ev_app hp2 (by rw [List.length_map]; simp at hlen; omega)
    have hp1 : (h.set s (srcO (Sc K) l (a + 1)))[p]? = some (.lst (acc.map iD)) := by rw [List.getElem?_set_ne hsp]; exact hp
    have e4 : lstK (h.set s (srcO (Sc K) l (a + 1))) (.ref p) = true := ev_lstK hp1
    obtain ⟨h3, eh3⟩ : ∃ h3, h3 = h2.set p (.lst (acc.map iD ++ [.int n])) := ⟨_, rfl⟩
    rw [← eh3] at e3
    have hs3 : h3[s]? = some (srcO (Sc K) l (a + 1 + (dg n).length)) := by
      rw [eh3, List.getElem?_set_ne (Ne.symm hsp), eh2, List.getElem?_set_self hsl]
    have hp3 : h3[p]? = some (.lst ((acc ++ [n]).map iD)) := by
      rw [eh3, List.getElem?_set_self (by rw [eh2, List.length_set]; exact hpl)]; simp
    obtain ⟨h', t1, t2, t3, t4⟩ := part_loop hl hr0 nd hsp r (acc ++ [n]) (a + 1 + (dg n).length) fuel h3 hs3 hp3 f2 f4 (fun m hm => hlow m (List.mem_cons_of_mem _ hm)) (by simp at hlen ⊢; omega) (by simpa using hf)
    refine ⟨h', ?_, ?_, by simpa using t3, fun k k1 k2 => ?_⟩
    · unfold whF
      simp [e1, e4, e2, e3, t1]
    · rw [t2]
      have : a + 1 + (dg n).length + (tl1 r).length = a + (tl1 (n :: r)).length := by simp; omega
      rw [this]
    · rw [t4 k k1 k2, eh3, List.getElem?_set_ne (Ne.symm k2), eh2, List.getElem?_set_ne (Ne.symm k1)]
theorem part_ok {q : List Nat} (hl : l.length ≤ 100000) (hr0 : rest[0]? ≠ some 43) (nd : Nd rest) (hs : h[s]? = some (srcO (Sc K) l a)) (hd : l.drop a = pt q ++ rest) (hne : q ≠ []) (hlow : ∀ n ∈ q, n < 16) (hlen : q.length ≤ 16) :
    ∃ h', G_part_read K [.ref s] h = .ok (rD q) h' ∧ h'[s]? = some (srcO (Sc K) l (a + (pt q).length)) ∧ a + (pt q).length ≤ l.length ∧ l.drop (a + (pt q).length) = rest ∧ h.length ≤ h'.length ∧ ∀ k, k < h.length → k ≠ s → h'[k]? = h[k]? := by
  cases q with
  | nil => exact absurd rfl hne
  | cons n r =>
    have hsl : s < h.length := (List.getElem?_eq_some_iff.mp hs).1
    have pne : pt (n :: r) ≠ [] := by rw [pt_cons]; simp [dg_ne]
    obtain ⟨_, g2, _, g4⟩ := at_drop hd pne
    have hd' : l.drop a = dg n ++ (tl1 r ++ rest) := by rw [hd, pt_cons, List.append_assoc]
    obtain ⟨_, f2, _, f4⟩ := at_drop hd' (dg_ne n)
    have e1 := meth_count (K := K) (e := [some (.ref s), none]) (i := 0) hs rfl hl hd' (hlow n List.mem_cons_self) (nd_tl nd)
    obtain ⟨h1, eh1⟩ : ∃ h1, h1 = h.set s (srcO (Sc K) l (a + (dg n).length)) := ⟨_, rfl⟩
    rw [← eh1] at e1
    have l1 : h1.length = h.length := by rw [eh1, List.length_set]
    have e2 : mkL true [.int n] h1 = .ok (.ref h.length) (h1 ++ [.lst [.int n]]) := by rw [← l1]; exact ev_mkO (by simp)
    have hs2 : (h1 ++ [.lst [.int n]])[s]? = some (srcO (Sc K) l (a + (dg n).length)) := by
      rw [List.getElem?_append_left (by rw [l1]; exact hsl), eh1, List.getElem?_set_self hsl]
    have hp2 : (h1 ++ [.lst [.int n]])[h.length]? = some (.lst ([n].map iD)) := by
      rw [← l1]; simp
    obtain ⟨h', t1, t2, t3, t4⟩ := part_loop (K := K) hl hr0 nd (Nat.ne_of_lt hsl) r [n] (a + (dg n).length) many (h1 ++ [.lst [.int n]]) hs2 hp2 f2 f4 (fun m hm => hlow m (List.mem_cons_of_mem _ hm)) (by simp at hlen ⊢; omega) (by simp at hlen; unfold many; omega)
    have e3 : tupleD [.ref h.length] h' = .ok (.tup ((n :: r).map iD)) h' := ev_tupR t3 (by rw [List.length_map]; omega)
    have e5 : a + (dg n).length + (tl1 r).length = a + (pt (n :: r)).length := by rw [pt_cons, List.length_append]; omega
    rw [e5] at t2
    refine ⟨h', ?_, t2, g2, g4, ?_, fun k k1 k2 => ?_⟩
    · have st : startD N_part_read [.ref s] = [some (.ref s), none] := rfl
      unfold G_part_read raw b_part_read
      rw [st]
      simp [e1, e2, t1, e3]
    · have := (List.getElem?_eq_some_iff.mp t3).1; omega
    · rw [t4 k k2 (Nat.ne_of_lt k1), List.getElem?_append_left (by rw [l1]; exact k1), eh1, List.getElem?_set_ne (Ne.symm k2)]
end

/-! ### the whole text read -/
theorem init_ok {l : List Nat} : G_Source_init K [.ref h.length, .str (tx l)] (h ++ [.ins (Sc K) [] []]) = .ok .non (h ++ [srcO (Sc K) l 0]) := by
  have st : startD N_Source_init [.ref h.length, .str (tx l)] = [some (.ref h.length), some (.str (tx l))] := rfl
  have g0 : (h ++ [O.ins (Sc K) [] []])[h.length]? = some (.ins (Sc K) [] []) := by simp
  have s1 := ev_setF (C := Sc K) (f := "whole") (fe := vr 1) (fo := vr 0) (env := [some (.ref h.length), some (.str (tx l))]) (h := h ++ [O.ins (Sc K) [] []]) (d := .str (tx l)) rfl rfl g0 (by decide)
  have g1 : ((h ++ [O.ins (Sc K) [] []]).set h.length (.ins (Sc K) ["whole"] [.str (tx l)]))[h.length]? = some (.ins (Sc K) ["whole"] [.str (tx l)]) := by simp
  have s2 := ev_setF (C := Sc K) (f := "at") (fe := ct (.int 0)) (fo := vr 0) (env := [some (.ref h.length), some (.str (tx l))]) (d := .int 0) rfl rfl g1 (by decide)
  have p1 : fput ([] : List Str) [] "whole" (.str (tx l)) = ((["whole"] : List Str), [D.str (tx l)]) := rfl
  have p2 : fput (["whole"] : List Str) [.str (tx l)] "at" (.int 0) = ((["whole", "at"] : List Str), [D.str (tx l), .int 0]) := by
    have e : (("whole" : Str) = "at") = False := eq_false (by decide)
    simp [fput, e]
  rw [p1] at s1
  rw [p2] at s2
  have fin : ((h ++ [O.ins (Sc K) [] []]).set h.length (.ins (Sc K) ["whole"] [.str (tx l)])).set h.length (.ins (Sc K) ["whole", "at"] [.str (tx l), .int 0]) = h ++ [srcO (Sc K) l 0] := by
    rw [List.set_set]
    simp [srcO]
  rw [fin] at s2
  unfold G_Source_init raw b_Source_init
  rw [st]
  simp only [ev_seq, ev_ife, ev_tnot, ev_tv, ev_oA, ev_ac, ev_an, ev_vr0, ev_vrS, ev_ct, bd_ok, isi_s, ev_tst, Bool.not_true, Bool.false_eq_true, if_false, ev_bs_ok, ev_skp, ev_sq_nx, s1, s2]
abbrev tl2 (p : List (List Nat)) : List Nat := p.flatMap fun q => 47 :: pt q
theorem wr_cons {q : List Nat} {p : List (List Nat)} : wr (q :: p) = pt q ++ tl2 p := by
  unfold wr
  rw [List.map_cons, join_cons, List.flatMap_map]
theorem tl2_head {p : List (List Nat)} : (tl2 p)[0]? ≠ some 43 ∧ Nd (tl2 p) ∧ (p = [] → (tl2 p)[0]? = none) := by
  cases p with
  | nil => simp [Nd]
  | cons q p => refine ⟨by simp, fun c hc => ?_, fun e => nomatch e⟩; simp at hc; omega
theorem call_part {l : List Nat} {s i : Nat} {e : Env'} {q : List Nat} {h' : DH} (hv : vr i e h = .ok (.ref s) h) (t : G_part_read K [.ref s] h = .ok (rD q) h') : cll 1 (G_part_read K) (ac (vr i) an) e h = .ok (rD q) h' := by
  simp [hv, t]
theorem rows_loop {l : List Nat} {s p : Nat} {x : D} {e3 e4 e5 e6 : Option D} (hl : l.length ≤ 100000) (hsp : s ≠ p) : ∀ (r acc : List (List Nat)) (a fuel : Nat) (h : DH), h[s]? = some (srcO (Sc K) l a) → h[p]? = some (.lst (acc.map rD)) → a ≤ l.length → l.drop a = tl2 r →
    (∀ q ∈ r, q ≠ [] ∧ q.length ≤ 16 ∧ ∀ n ∈ q, n < 16) → acc.length + r.length ≤ 100 → r.length < fuel →
    ∃ h', whF (tv (mcl (Sc K) "skips" 2 (G_Source_skips K) (vr 1) (ac (ct (.str "/")) an))) (drp (mth lstK appendD (vr 2) (ac (cll 1 (G_part_read K) (ac (vr 1) an)) an))) fuel [some x, some (.ref s), some (.ref p), e3, e4, e5, e6] h = .nx [some x, some (.ref s), some (.ref p), e3, e4, e5, e6] h' ∧
      h'[s]? = some (srcO (Sc K) l l.length) ∧ h'[p]? = some (.lst ((acc ++ r).map rD))
  | _, _, _, 0, _, _, _, _, _, _, _, hf => by omega
  | [], acc, a, fuel + 1, h, hs, hp, ha, hd, hlow, hlen, hf => by
    have hal : a = l.length := by
      have := congrArg List.length hd
      simp at this; omega
    have e0 : l[a]? = none := List.getElem?_eq_none (by omega)
    have e1 := meth_skips0 (K := K) (e := [some x, some (.ref s), some (.ref p), e3, e4, e5, e6]) (i := 1) bar_tx hs rfl ha (by rw [e0]; simp)
    refine ⟨h, ?_, by rw [← hal]; exact hs, by simpa using hp⟩
    unfold whF
    simp [e1]
  | q :: r, acc, a, fuel + 1, h, hs, hp, ha, hd, hlow, hlen, hf => by
    obtain ⟨q1, q2, q3⟩ := hlow q List.mem_cons_self
    have hsl : s < h.length := (List.getElem?_eq_some_iff.mp hs).1
    have hpl : p < h.length := (List.getElem?_eq_some_iff.mp hp).1
    have hd' : l.drop a = [47] ++ (pt q ++ tl2 r) := by rw [hd]; simp
    obtain ⟨_, d2, _, d4⟩ := at_drop hd' (by simp)
    have e0 : l[a]? = some 47 := by
      have : (l.drop a)[0]? = some 47 := by rw [hd']; rfl
      rw [List.getElem?_drop] at this
      exact this
    have e1 := meth_skips (K := K) (e := [some x, some (.ref s), some (.ref p), e3, e4, e5, e6]) (i := 1) bar_tx hs rfl ha e0
    simp only [List.length_singleton] at d2 d4
    obtain ⟨h1, eh1⟩ : ∃ h1, h1 = h.set s (srcO (Sc K) l (a + 1)) := ⟨_, rfl⟩
    rw [← eh1] at e1
    have hs1 : h1[s]? = some (srcO (Sc K) l (a + 1)) := by rw [eh1]; exact List.getElem?_set_self hsl
    have hp1 : h1[p]? = some (.lst (acc.map rD)) := by rw [eh1, List.getElem?_set_ne hsp]; exact hp
    have l1 : h1.length = h.length := by rw [eh1, List.length_set]
    obtain ⟨h2, t1, t2, t3, t4, t5, t6⟩ := part_ok (K := K) hl (tl2_head (p := r)).1 (tl2_head (p := r)).2.1 hs1 d4 q1 q3 q2
    have e2 := call_part (K := K) (l := l) (e := [some x, some (.ref s), some (.ref p), e3, e4, e5, e6]) (i := 1) rfl t1
    have hp2 : h2[p]? = some (.lst (acc.map rD)) := by rw [t6 p (by omega) (Ne.symm hsp)]; exact hp1
    have e3' : appendD (.ref p) [rD q] h2 = .ok .non (h2.set p (.lst (acc.map rD ++ [rD q]))) := ev_app hp2 (by rw [List.length_map]; simp at hlen; omega)
    have e4' : lstK h1 (.ref p) = true := ev_lstK hp1
    obtain ⟨h3, eh3⟩ : ∃ h3, h3 = h2.set p (.lst (acc.map rD ++ [rD q])) := ⟨_, rfl⟩
    rw [← eh3] at e3'
    have hs3 : h3[s]? = some (srcO (Sc K) l (a + 1 + (pt q).length)) := by rw [eh3, List.getElem?_set_ne (Ne.symm hsp)]; exact t2
    have hp3 : h3[p]? = some (.lst ((acc ++ [q]).map rD)) := by
      rw [eh3, List.getElem?_set_self (by omega)]; simp
    obtain ⟨h', u1, u2, u3⟩ := rows_loop (x := x) (e3 := e3) (e4 := e4) (e5 := e5) (e6 := e6) hl hsp r (acc ++ [q]) (a + 1 + (pt q).length) fuel h3 hs3 hp3 t3 t4 (fun m hm => hlow m (List.mem_cons_of_mem _ hm)) (by simp at hlen ⊢; omega) (by simpa using hf)
    refine ⟨h', ?_, u2, by simpa using u3⟩
    have mt : mth lstK appendD (vr 2) (ac (cll 1 (G_part_read K) (ac (vr 1) an)) an) [some x, some (.ref s), some (.ref p), e3, e4, e5, e6] h1 = .ok .non h3 := by
      simp only [ev_mth, ev_vrS, ev_vr0, bd_ok, e4', if_true, ev_ac, ev_an, e2, e3']
    unfold whF
    simp only [ev_tv, e1, bd_ok, ev_tst, ev_bs_ok, if_true, ev_drp, mt, u1]
theorem read_ok {p : List (List Nat)} {m : Nat} (g : Gd p m) (h1 : 1 ≤ m) (h16 : m ≤ 16) : ∃ h', G_read_parting K [.str (tx (wr p))] h = .ok (.tup (p.map rD)) h' := by
  have low := g.low h16
  have wl := wr_len low
  cases p with
  | nil =>
    have := g.all.length_eq
    simp at this; omega
  | cons q r =>
    obtain ⟨l, el⟩ : ∃ l, l = wr (q :: r) := ⟨_, rfl⟩
    rw [← el] at wl ⊢
    have hl : l.length ≤ 100000 := by omega
    have st : startD N_read_parting [.str (tx l)] = [some (.str (tx l)), none, none, none, none, none, none] := rfl
    have e1 : mko (Sc K) 2 (G_Source_init K) (ac (vr 0) an) [some (.str (tx l)), none, none, none, none, none, none] h = .ok (.ref h.length) (h ++ [srcO (Sc K) l 0]) := by
      simp [mko, init_ok]
    have hs1 : (h ++ [srcO (Sc K) l 0])[h.length]? = some (srcO (Sc K) l 0) := by simp
    have hd1 : l.drop 0 = pt q ++ tl2 r := by rw [List.drop_zero, el, wr_cons]
    have q1 := g.ne q List.mem_cons_self
    obtain ⟨h2, t1, t2, t3, t4, t5, t6⟩ := part_ok (K := K) hl (tl2_head (p := r)).1 (tl2_head (p := r)).2.1 hs1 hd1 q1 (low.low q List.mem_cons_self) (low.row q List.mem_cons_self)
    have e2 := call_part (K := K) (l := l) (e := [some (.str (tx l)), some (.ref h.length), none, none, none, none, none]) (i := 1) rfl t1
    have e3 : mkL true [rD q] h2 = .ok (.ref h2.length) (h2 ++ [.lst [rD q]]) := ev_mkO (by simp)
    have l2 : h.length < h2.length := by simp at t5; omega
    have hs3 : (h2 ++ [.lst [rD q]])[h.length]? = some (srcO (Sc K) l (0 + (pt q).length)) := by rw [List.getElem?_append_left l2]; exact t2
    have hp3 : (h2 ++ [.lst [rD q]])[h2.length]? = some (.lst (([q] : List (List Nat)).map rD)) := by simp
    obtain ⟨h4, u1, u2, u3⟩ := rows_loop (K := K) (x := .str (tx l)) (e3 := none) (e4 := none) (e5 := none) (e6 := none) hl (Nat.ne_of_lt l2) r [q] (0 + (pt q).length) many (h2 ++ [.lst [rD q]]) hs3 hp3 t3 t4
      (fun z hz => ⟨g.ne z (List.mem_cons_of_mem _ hz), low.row z (List.mem_cons_of_mem _ hz), low.low z (List.mem_cons_of_mem _ hz)⟩) (by have := low.len; simp at this ⊢; omega) (by have := low.len; simp at this; unfold many; omega)
    obtain ⟨P, eP⟩ : ∃ P, P = q :: r := ⟨_, rfl⟩
    have u3 : h4[h2.length]? = some (.lst (P.map rD)) := by rw [eP]; exact u3
    rw [← eP] at g low ⊢
    obtain ⟨pp, epp⟩ : ∃ pp, pp = h2.length := ⟨_, rfl⟩
    rw [← epp] at u1 u3
    -- all hands
    have hp := low.len
    have fl : P.flatMap id = P.flatten := by rw [List.flatMap_id]
    have fll : P.flatten.length = m := by have := g.all.length_eq; simpa using this
    have e4 : lc2E (isq (vr 2)) (.nm 4) tyes (isq (vr 4)) (.nm 5) tyes (vr 5) [4, 5] [5] [some (.str (tx l)), some (.ref h.length), some (.ref pp), none, none, none, none] h4 = .ok (.lst (P.flatten.map iD)) h4 := by
      have := ev_lc2 (fi := isq (vr 2)) (it := ⟨some pp, P.map rD⟩) (env := [some (.str (tx l)), some (.ref h.length), some (.ref pp), none, none, none, none]) (h := h4) (i := 4) (j := 5) (vs := [4, 5]) (vs1 := [5]) (fe := vr 5) (fi1 := isq (vr 4)) rD id iD iD P (ev_sqR u3) (fun n e => by cases e; exact u3) rfl
        (fun z hz => ⟨rfl, fun y hy => rfl⟩) (by rw [fl]; omega)
      rw [fl] at this
      exact this
    have e5 : sortD false [.lst (P.flatten.map iD)] h4 = .ok (.lst ((List.range m).map iD)) h4 := sort_ints rfl g.all.symm (List.pairwise_lt_range.imp Nat.le_of_lt) (by omega)
    have e6 : lcE (isq (vr 2)) (.nm 4) tyes (o2 eqD (oA (listD false) (ac (vr 4) an)) (oA (sortD false) (ac (vr 4) an))) [4] [some (.str (tx l)), some (.ref h.length), some (.ref pp), some (.lst ((List.range m).map iD)), none, none, none] h4 = .ok (.lst (P.map fun _ => .bl true)) h4 := by
      refine ev_lcR (it := ⟨some pp, P.map rD⟩) (n := pp) rD (fun _ => .bl true) P (ev_sqR u3) rfl u3 rfl (fun z hz => ?_) (by omega)
      have zl := low.row z hz
      have f1 : listD false [rD z] h4 = .ok (.lst (z.map iD)) h4 := ev_mkF (by rw [List.length_map]; omega)
      have f2 : sortD false [rD z] h4 = .ok (.lst (z.map iD)) h4 := sort_ints rfl (List.Perm.refl z) ((g.asc z hz).imp Nat.le_of_lt) (by omega)
      have f3 : eqD (.lst (z.map iD)) (.lst (z.map iD)) h4 = .ok (.bl true) h4 := ev_same toP_lstI toP_lstI shp_lstI
      have f4 : ∀ g, vr 4 ((wipD [some (.str (tx l)), some (.ref h.length), some (.ref pp), some (.lst ((List.range m).map iD)), none, none, none] [4]).set 4 (some (rD z))) g = .ok (rD z) g := fun _ => rfl
      simp only [ev_o2, ev_oA, ev_ac, ev_an, bd_ok, f4, f1, f2, f3]
    have e7 : allD [.lst (P.map fun _ => D.bl true)] h4 = .ok (.bl true) h4 := all_true
    have e8 : sortD false [.ref pp] h4 = .ok (.lst (P.map rD)) h4 := sort_rows (by simp [sq, lsq, u3]) g.ne g.hd (by omega)
    have e9 : eqD (.ref pp) (.lst (P.map rD)) h4 = .ok (.bl true) h4 := ev_same (toP_refR u3) toP_lstR shp_lstR
    have lr : ((List.range m).map iD).length = m := by simp
    have over : ∀ e, mcl (Sc K) "is_over" 1 (G_Source_is_over K) (vr 1) an (some (.str (tx l)) :: some (.ref h.length) :: e) h4 = .ok (.bl true) h4 := fun e => by
      rw [ev_mcl rfl u2 nin1]
      simp only [ev_an, bd_ok, List.length_nil]
      rw [if_pos trivial, over_is, isOver_ok u2 (by omega)]
      simp
    have e10 : rgsD (m : Int) = (List.range m).map iD := by unfold rgsD; simp
    have e11 : mkL false ((List.range m).map iD) h4 = .ok (.lst ((List.range m).map iD)) h4 := ev_mkF (by rw [lr]; omega)
    have e12 : neD (.lst ((List.range m).map iD)) (.lst ((List.range m).map iD)) h4 = .ok (.bl false) h4 := ev_nsame toP_lstI toP_lstI shp_lstI
    have e13 : ∀ e, lrg false (oA lenD (ac (vr 3) an)) (some (.str (tx l)) :: some (.ref h.length) :: some (.ref pp) :: some (.lst ((List.range m).map iD)) :: e) h4 = .ok (.lst ((List.range m).map iD)) h4 := fun e => by
      unfold lrg
      simp only [ev_oA, ev_ac, ev_an, ev_vrS, ev_vr0, bd_ok, ev_lenL, lr]
      rw [if_pos ⟨by omega, by omega⟩, e10, e11]
    have e14 : tupleD [.ref pp] h4 = .ok (.tup (P.map rD)) h4 := ev_tupR u3 (by rw [List.length_map]; omega)
    have g16 : decide ((m : Int) > 16) = false := decide_eq_false (by omega)
    refine ⟨h4, ?_⟩
    unfold G_read_parting raw b_read_parting
    rw [st]
    simp only [ev_seq, ev_asg, e1, ev_bs_ok, ev_sq_nx, List.set_cons_succ, List.set_cons_zero, ev_oA, ev_ac, ev_an, e2, bd_ok, e3, ← epp, u1, e4, e5, ev_eand, e6, e7, ev_tst, if_true, ev_o2, ev_vrS, ev_vr0, e8, e9, ev_ife, ev_tor, ev_tnot, ev_tv, over, Bool.not_true, Bool.false_eq_true, if_false, ev_lenL, lr, ev_ct, ev_gt, g16, e13, e12, ev_skp, ev_ret, e14]

/-! ### the law -/
theorem law_turn {ns : List Int} {k : Nat} (hk : k ≤ 1000) {b c d : Option D} : ∃ b' c' d' h', (seq (asg (cll 1 (G_law_parts K) (ac (cll 2 (G_law_bag K) (ac (cll 2 (G_law_cell_at K) (ac (vr 0) (ac (vr 1) an))) (ac (vr 1) an))) an)) (.nm 2))
    (seq (asg (mth strK joinD (ct (.str "/")) (ac (lcE (isq (vr 2)) (.nm 5) tyes (mth strK joinD (ct (.str "+")) (ac (lcE (isq (vr 5)) (.nm 6) tyes (oA strID (ac (vr 6) an)) [6]) an)) [5]) an)) (.nm 3))
    (seq (asg (cll 1 (G_show_parting K) (ac (vr 2) an)) (.nm 4))
    (ife (tor (tnot (tv (cll 2 (Gs_law_same K 5) (ac (vr 4) (ac (vr 3) an))))) (tnot (tv (cll 2 (Gs_law_same K 5) (ac (cll 1 (G_read_parting K) (ac (vr 4) an)) (ac (vr 2) an)))))) (ret (ct (.bl false))) skp)))) [some (.scr ns), some (.int k), b, c, d, none, none] h
      = .nx [some (.scr ns), some (.int k), b', c', d', none, none] h' := by
  obtain ⟨z, e1⟩ := cell_ok (K := K) (h := h) (ns := ns) (k := k)
  obtain ⟨bs, e2, hb⟩ := bag_ok (K := K) (h := h) (c := z) hk
  obtain ⟨p, m, h1, e3, g, m1, m16⟩ := parts_ok (K := K) hb
  have low := g.low m16
  have e4 := rows_join (h := h1) low (fi := isq (vr 2)) (i := 5) (j := 6) (env := [some (.scr ns), some (.int k), some (.tup (p.map rD)), c, d, none, none]) (vs := [5]) (ws := [6]) rfl (fun d => rfl) (fun d e => rfl)
  have e5 := show_ok (K := K) (h := h1) low
  have so : PyData.strOk (tx (wr p)) = true := tx_ok fun x hx => by have := wr_sign hx; omega
  have e6 := same_str (K := K) (h := h1) (i := 4) so
  obtain ⟨h2, e7⟩ := read_ok (K := K) (h := h1) g m1 m16
  have e8 := same_rows (K := K) (h := h2) low
  refine ⟨some (.tup (p.map rD)), some (.str (tx (wr p))), some (.str (tx (wr p))), h2, ?_⟩
  simp only [ev_seq, ev_asg, ev_cll, ev_ac, ev_an, ev_vr0, ev_vrS, bd_ok, List.length_cons, List.length_nil, if_true, e1, e2, e3, ev_bs_ok, ev_sq_nx, List.set_cons_succ, List.set_cons_zero, e4, e5, ev_ife, ev_tor, ev_tnot, ev_tv, e6, ev_tst, Bool.not_true, Bool.false_eq_true, if_false, e7, e8, ev_skp]
theorem law_true (K : PySem.W.Frag) (ns : List Int) (hl : ns.length ≤ 63) : ∃ h, G_law K [.scr ns] [] = .ok (.bl true) h := by
  have st : startD N_law [.scr ns] = [some (.scr ns), none, none, none, none, none, none] := rfl
  obtain ⟨j, ej⟩ : ∃ j : Int, j = max 1 (min 16 (ns.length : Int)) := ⟨_, rfl⟩
  have j1 : j ≤ 16 := by omega
  have j0 : 1 ≤ j := by omega
  have sm : smR j := by unfold smR; omega
  have er : rng1 (ac (oA max2D (ac (ct (.int 1)) (ac (oA min2D (ac (ct (.int 16)) (ac (oA lenD (ac (vr 0) an)) an))) an))) an) [some (.scr ns), none, none, none, none, none, none] [] = .ok (rgI 0 j) [] :=
    ev_rng1 (by simp only [ev_ac, ev_oA, ev_ct, ev_an, ev_vr0, bd_ok, ev_lenS, ev_min, ev_max, ej]) sm
  obtain ⟨ef, hf, lp, _⟩ := forS_all (it := rgI 0 j) (i := 1) (env := [some (.scr ns), none, none, none, none, none, none]) (h := [])
    (body := (seq (asg (cll 1 (G_law_parts K) (ac (cll 2 (G_law_bag K) (ac (cll 2 (G_law_cell_at K) (ac (vr 0) (ac (vr 1) an))) (ac (vr 1) an))) an)) (.nm 2))
    (seq (asg (mth strK joinD (ct (.str "/")) (ac (lcE (isq (vr 2)) (.nm 5) tyes (mth strK joinD (ct (.str "+")) (ac (lcE (isq (vr 5)) (.nm 6) tyes (oA strID (ac (vr 6) an)) [6]) an)) [5]) an)) (.nm 3))
    (seq (asg (cll 1 (G_show_parting K) (ac (vr 2) an)) (.nm 4))
    (ife (tor (tnot (tv (cll 2 (Gs_law_same K 5) (ac (vr 4) (ac (vr 3) an))))) (tnot (tv (cll 2 (Gs_law_same K 5) (ac (cll 1 (G_read_parting K) (ac (vr 4) an)) (ac (vr 2) an)))))) (ret (ct (.bl false))) skp))))) rfl
    (fun _ e _ => ∃ a b c d, e = [some (.scr ns), a, b, c, d, none, none]) ⟨_, _, _, _, rfl⟩
    (fun k e g d hI hd => by
      obtain ⟨a, b, c, d', rfl⟩ := hI
      obtain ⟨hk, rfl⟩ := range_get (lo := 0) (n := (j - 0).toNat) hd
      obtain ⟨b', c', d'', h', t⟩ := law_turn (K := K) (h := g) (ns := ns) (k := k) (by omega) (b := b) (c := c) (d := d')
      rw [Int.zero_add]
      exact ⟨_, h', .inl t, _, _, _, _, rfl⟩)
  refine ⟨hf, ?_⟩
  unfold G_law raw b_law
  rw [st]
  simp only [ev_seq, ev_forE, er, ev_bs_ok, lp, ev_sq_nx, ev_ret, ev_ct]
end P43

open PySem PySem.W PySem.Calls PyProof.Rows
theorem PySem.Challenge.cw_beatnet_k43_partings_written_holds : PySem.Challenge.rw_beatnet_k43_partings_written.Holds := by
  w_on; o_law
  refine HandSHeadRun.head_any (r := OpenLaw.row PySem.Challenge.rw_beatnet_k43_partings_written) (q := view (OpenLaw.row PySem.Challenge.rw_beatnet_k43_partings_written).prog [18]) (H := P43.hk) (ob := P43.ob) (M := 3000) (loose := P43.nms) (d := HandSHeadRun.topDef (OpenLaw.row PySem.Challenge.rw_beatnet_k43_partings_written).prog 18) (kwd := []) P43.ob_eq
    (by kernel_rfl) (fun s => by kernel_rfl) P43.headRun (by kernel_rfl) (by kernel_rfl) (by kernel_rfl) (by rfl) (by first | assumption | decide +kernel) (by decide +kernel) ⟨rfl, rfl, rfl, rfl, rfl, by decide +kernel⟩ ?hw ?hc
  case hw => w_witness2
  case hc =>
    refine Dt.walk_dt (l := PySem.Challenge.rw_beatnet_k43_partings_written) (n := 63) (k := 9) (x := "script") rfl (by decide) (by kernel_rfl) ⟨rfl, by decide, by decide⟩ ?_
    intro w mg fa h Y G hmg0
    obtain ⟨K, KX, c⟩ := Y
    have hmg : mg ("law" : PySem.Str) = some (.ref fa) := by
      have e : (HandSHeadRun.topDef (OpenLaw.row PySem.Challenge.rw_beatnet_k43_partings_written).prog 18).name = ("law" : PySem.Str) := by kernel_rfl
      rw [← e]
      exact hmg0
    obtain ⟨T⟩ := P43.facts KX G c
    have e := hmg.symm.trans (He.glo_ok KX G (c.fact 33 (f := .glo "law") rfl))
    cases e
    exact ⟨K, T.fd_law, P43.G_law K, KX, fun s u => T.F_law.bindsA (ps := ["script"]) (fun _ _ _ _ _ _ us hl => match us, hl with | [_], _ => rfl) s [u] rfl, fun ns hl => P43.law_true K ns hl, fun base _ _ => P43.ok_law T⟩
