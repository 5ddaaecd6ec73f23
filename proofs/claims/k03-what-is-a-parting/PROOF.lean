import PyProof.Rows.All
import Wide.All
import OpenK.AllK
import Wide.FinOn
import PyProof.EqAt
import PyProof.EqKinds
import PyProof.TupleCall
import HandS.Base
import HandS.Call
import HandS.List
import HandS.Comp
import HandS.Ends
import HandS.Exc
import HandS.TryOnly
import HandS.ExcOwn
import HandS.Words
import HandS.WordsExc
import HandS.Wide
import HandS.TupAny
import HandS.Dict
import HandS.SortInts
import HandS.IsInst
import HandS.FStr
import HandS.Text
import HandS.StrMore
import HandS.Deep
import HandS.Conv
import HandS.More
import KE.SortData
import KE.DataMinMax
import HandS.WordsDict
import HandS.Iter
import HandS.Zip
import HandS.Defaults
import HandS.HeadHook1
import HandS.HeadHook2
import HandS.HeadEnd
import HandS.Head2
import KE.KIntText
import HandS.Codes
import HandS.DictComp
import HandS.CallLocal
import HandS.HeadHook3
import PyProof.EnumIter
import HandS.TupSets
import HandS.Flow
import HandS.Replace
import KE.KUnpackStar
import HandS.SetBool
import HandS.SetKeys
import PyProof.ReprRoads
import HandS.DictTup
import HandS.SetFor
import OpenK.KMore
import HandS.Style
import KE.KDictSum
import KE.KDictCopyH
import HandS.Sort
import KE.GoesEnum
import Wide.Once
import PyProof.ReprLen
import PySem.Challenge.RW_beatnet_k03_what_is_a_parting
set_option Elab.async false
set_option linter.all false
set_option maxRecDepth 100000
set_option maxHeartbeats 4000000
namespace Dt
open PySem PySem.Spec PyProof.Rows L2
inductive D where
  | non | bl (b : Bool) | int (i : Int) | str (x : Str) | con (v : V)
  | tup (ds : List D)
  | wt (ds : List D)
  | lst (ds : List D)
  | scr (ns : List Int)
  | dk (ks : List Key) (ds : List D)
  | dt (ks : List (List Key)) (ds : List D)
  | ref (n : Nat)
inductive O where
  | lst (ds : List D)
  | dk (ks : List Key) (ds : List D)
  | dt (ks : List (List Key)) (ds : List D)
  | ins (C : Addr) (fs : List Str) (ds : List D)
abbrev DH := List O
abbrev Env' := List (Option D)
structure Exn where
  cls : Value
  fs : List Str
  ds : List D
  own : Bool
inductive Rs (α : Type) where
  | ok (a : α) (h : DH) | rz (x : Exn) (h : DH) | bad
/-- addresses of ours: by their numbers, and those that nobody may see -/
structure Rg where
  ix : List Addr
  bn : List Addr
instance : Membership Addr Rg := ⟨fun r a => a ∈ r.ix ∨ a ∈ r.bn⟩
theorem Rg.mem {r : Rg} {a : Addr} : a ∈ r ↔ a ∈ r.ix ∨ a ∈ r.bn := Iff.rfl
def Rg.snoc (r : Rg) (a : Addr) : Rg := ⟨r.ix ++ [a], r.bn⟩
def Rg.ban (r : Rg) (a : Addr) : Rg := ⟨r.ix, a :: r.bn⟩
def WrL (K : PySem.W.Frag) (a : Addr) (xs : List V) : Prop :=
  ∃ (o : Obj) (its : Array Value) (n : Nat), K.lookup a = some o ∧ o.cls = .type "list" ∧ o.dict = none ∧ o.data = .seq its n ∧ its.size ≤ sizeLine ∧ Vals xs its.toList
def WrT (K : PySem.W.Frag) (a : Addr) (xs : List V) : Prop :=
  ∃ (o : Obj) (its : Array Value) (n : Nat), K.lookup a = some o ∧ o.cls = .type "tuple" ∧ o.data = .seq its n ∧ its.size ≤ sizeLine ∧ Vals xs its.toList
/-- a list that nobody may change any more -/
def FzL (r : Rg) (H : Hp) (a : Addr) (xs : List V) : Prop := H a = some (.lst xs) ∧ a ∉ r
/-- the script -/
def FzS (K : PySem.W.Frag) (r : Rg) (H : Hp) (a : Addr) (xs : List V) : Prop := (Rd H a (.lst xs) ∧ a ∉ r) ∨ WrL K a xs
def FzT (r : Rg) (H : Hp) (a : Addr) (xs : List V) : Prop := H a = some (.tup xs) ∧ a ∉ r
theorem FzL.sq {K : PySem.W.Frag} {r : Rg} {H : Hp} {a : Addr} {xs : List V} (h : FzL r H a xs) : SqL K H a xs := .inl (.inl h.1)
theorem FzS.sq {K : PySem.W.Frag} {r : Rg} {H : Hp} {a : Addr} {xs : List V} (h : FzS K r H a xs) : SqL K H a xs := h.elim (fun x => .inl x.1) .inr
theorem FzT.sq {K : PySem.W.Frag} {r : Rg} {H : Hp} {a : Addr} {xs : List V} (h : FzT r H a xs) : SqT K H a xs := .inl (.inl h.1)
mutual
def RV (K : PySem.W.Frag) (r : Rg) (H : Hp) : D → V → Prop
  | .non, v => v = .non
  | .bl b, v => v = .bl b
  | .int i, v => v = .int i
  | .str x, v => v = .str x
  | .con c, v => v = c
  | .tup ds, v => ∃ a vs, v = .ref a ∧ FzT r H a vs ∧ RVs K r H ds vs
  | .wt ds, v => ∃ a vs, v = .ref a ∧ WrT K a vs ∧ RVs K r H ds vs
  | .lst ds, v => ∃ a vs, v = .ref a ∧ FzL r H a vs ∧ RVs K r H ds vs
  | .scr ns, v => ∃ a, v = .ref a ∧ FzS K r H a (ns.map V.int)
  | .dk ks ds, v => ∃ a vs, v = .ref a ∧ Rd H a (.dK (ks.zip vs)) ∧ a ∉ r ∧ ks.length = vs.length ∧ RVs K r H ds vs
  | .dt ks ds, v => ∃ a vs, v = .ref a ∧ Rd H a (.dT (ks.zip vs)) ∧ a ∉ r ∧ ks.length = vs.length ∧ RVs K r H ds vs
  | .ref n, v => ∃ a, r.ix[n]? = some a ∧ v = .ref a
def RVs (K : PySem.W.Frag) (r : Rg) (H : Hp) : List D → List V → Prop
  | [], vs => vs = []
  | d :: ds, vs => ∃ v t, vs = v :: t ∧ RV K r H d v ∧ RVs K r H ds t
end
def RO (K : PySem.W.Frag) (r : Rg) (H : Hp) (a : Addr) : O → Prop
  | .lst ds => ∃ vs, H a = some (.lst vs) ∧ RVs K r H ds vs
  | .dk ks ds => ∃ vs, H a = some (.dK (ks.zip vs)) ∧ ks.length = vs.length ∧ RVs K r H ds vs
  | .dt ks ds => ∃ vs, H a = some (.dT (ks.zip vs)) ∧ ks.length = vs.length ∧ RVs K r H ds vs
  | .ins C fs ds => ∃ dx vs, H a = some (.ins C dx (fs.zip vs)) ∧ fs.length = vs.length ∧ RVs K r H ds vs
structure RH (K : PySem.W.Frag) (r : Rg) (h : DH) (H : Hp) : Prop where
  len : r.ix.length = h.length
  nd : (r.ix ++ r.bn).Nodup
  at_ : ∀ (i : Nat) (a : Addr) (o : O), r.ix[i]? = some a → h[i]? = some o → RO K r H a o
  bt : ∀ a, a ∈ r.bn → H a ≠ none ∧ ∀ xs, H a ≠ some (.tup xs)
structure Ext (r r' : Rg) (H H' : Hp) : Prop where
  pre : ∀ (i : Nat) (a : Addr), r.ix[i]? = some a → r'.ix[i]? = some a
  bn : r'.bn = r.bn
  bk : ∀ a, a ∈ r.bn → H' a = H a
  keep : ∀ a o, H a = some o → a ∉ r → H' a = some o
  new : ∀ a, a ∈ r' → a ∉ r → H a = none
  dom : ∀ a, H' a = none → H a = none
/-- all that values lean on -/
structure Wx (r r' : Rg) (H H' : Hp) : Prop where
  pre : ∀ (i : Nat) (a : Addr), r.ix[i]? = some a → r'.ix[i]? = some a
  keep : ∀ a o, H a = some o → a ∉ r → H' a = some o
  new : ∀ a, a ∈ r' → a ∉ r → H a = none
  dom : ∀ a, H' a = none → H a = none
theorem Ext.wx {r r' : Rg} {H H' : Hp} (e : Ext r r' H H') : Wx r r' H H' := ⟨e.pre, e.keep, e.new, e.dom⟩
theorem Wx.refl {r : Rg} {H : Hp} : Wx r r H H := ⟨fun _ _ e => e, fun _ _ e _ => e, fun _ a b => absurd a b, fun _ e => e⟩
theorem Wx.trans {r r1 r2 : Rg} {H H1 H2 : Hp} (a : Wx r r1 H H1) (b : Wx r1 r2 H1 H2) : Wx r r2 H H2 where
  pre := fun i x e => b.pre i x (a.pre i x e)
  keep := fun x o e n => by
    have e1 := a.keep x o e n
    refine b.keep x o e1 fun m => ?_
    have := a.new x m n
    rw [e] at this; cases this
  new := fun x m n => by
    by_cases hx : x ∈ r1
    · exact a.new x hx n
    · exact a.dom x (b.new x m hx)
  dom := fun x e => a.dom x (b.dom x e)
def RS (K : PySem.W.Frag) (r : Rg) (H : Hp) (env : Env') (σ : L2.St) : Prop :=
  env.length = σ.length ∧ ∀ (i : Nat) (d : D), env[i]? = some (some d) → ∃ v, σ[i]? = some (some v) ∧ RV K r H d v
section
variable {K : PySem.W.Frag} {r r' r1 r2 : Rg} {H H' H1 H2 : Hp} {h h' : DH} {d : D} {v : V} {ds : List D} {vs : List V} {a : Addr} {env : Env'} {σ : L2.St}
theorem Ext.refl : Ext r r H H := ⟨fun _ _ e => e, rfl, fun _ _ => rfl, fun _ _ e _ => e, fun _ a b => absurd a b, fun _ e => e⟩
theorem Ext.mem (e : Ext r r' H H') (h : a ∈ r) : a ∈ r' := by
  rcases h with h | h
  · obtain ⟨i, hi⟩ := List.getElem?_of_mem h
    exact .inl (List.mem_of_getElem? (e.pre i a hi))
  · exact .inr (by rw [e.bn]; exact h)
theorem Ext.trans (a : Ext r r1 H H1) (b : Ext r1 r2 H1 H2) : Ext r r2 H H2 where
  pre := fun i x e => b.pre i x (a.pre i x e)
  bn := b.bn.trans a.bn
  bk := fun x m => (b.bk x (by rw [a.bn]; exact m)).trans (a.bk x m)
  keep := fun x o e n => by
    have e1 := a.keep x o e n
    refine b.keep x o e1 fun m => ?_
    have := a.new x m n
    rw [e] at this; cases this
  new := fun x m n => by
    by_cases hx : x ∈ r1
    · exact a.new x hx n
    · exact a.dom x (b.new x m hx)
  dom := fun x e => a.dom x (b.dom x e)
theorem Rd.keep {u : HO} (e : Wx r r' H H') (h : Rd H a u) (n : a ∉ r) : Rd H' a u ∧ a ∉ r' := by
  rcases h with h | ⟨o, h⟩
  · exact ⟨.inl (e.keep a _ h n), fun m => by have := e.new a m n; rw [h] at this; cases this⟩
  · exact ⟨.inr ⟨o, e.keep a _ h n⟩, fun m => by have := e.new a m n; rw [h] at this; cases this⟩
theorem FzL.wmono (e : Wx r r' H H') (h : FzL r H a vs) : FzL r' H' a vs :=
  ⟨e.keep a _ h.1 h.2, fun m => by have := e.new a m h.2; rw [h.1] at this; cases this⟩
theorem FzS.wmono (e : Wx r r' H H') (h : FzS K r H a vs) : FzS K r' H' a vs := by
  rcases h with ⟨h, n⟩ | h
  · exact .inl (Rd.keep e h n)
  · exact .inr h
theorem FzT.wmono (e : Wx r r' H H') (h : FzT r H a vs) : FzT r' H' a vs :=
  ⟨e.keep a _ h.1 h.2, fun m => by have := e.new a m h.2; rw [h.1] at this; cases this⟩
mutual
theorem RV.wmono (e : Wx r r' H H') : ∀ {d : D} {v : V}, RV K r H d v → RV K r' H' d v
  | .non, _, x => by simp only [RV] at x ⊢; exact x
  | .bl _, _, x => by simp only [RV] at x ⊢; exact x
  | .int _, _, x => by simp only [RV] at x ⊢; exact x
  | .str _, _, x => by simp only [RV] at x ⊢; exact x
  | .con _, _, x => by simp only [RV] at x ⊢; exact x
  | .tup ds, _, x => by
    simp only [RV] at x ⊢
    obtain ⟨a, vs, rfl, f, y⟩ := x
    exact ⟨a, vs, rfl, f.wmono e, RVs.wmono e y⟩
  | .wt ds, _, x => by
    simp only [RV] at x ⊢
    obtain ⟨a, vs, rfl, f, y⟩ := x
    exact ⟨a, vs, rfl, f, RVs.wmono e y⟩
  | .lst ds, _, x => by
    simp only [RV] at x ⊢
    obtain ⟨a, vs, rfl, f, y⟩ := x
    exact ⟨a, vs, rfl, f.wmono e, RVs.wmono e y⟩
  | .scr ns, _, x => by
    simp only [RV] at x ⊢
    obtain ⟨a, rfl, f⟩ := x
    exact ⟨a, rfl, f.wmono e⟩
  | .dk ks ds, _, x => by
    simp only [RV] at x ⊢
    obtain ⟨a, vs, rfl, f, n, l, y⟩ := x
    exact ⟨a, vs, rfl, (Rd.keep e f n).1, (Rd.keep e f n).2, l, RVs.wmono e y⟩
  | .dt ks ds, _, x => by
    simp only [RV] at x ⊢
    obtain ⟨a, vs, rfl, f, n, l, y⟩ := x
    exact ⟨a, vs, rfl, (Rd.keep e f n).1, (Rd.keep e f n).2, l, RVs.wmono e y⟩
  | .ref n, _, x => by
    simp only [RV] at x ⊢
    obtain ⟨a, y, rfl⟩ := x
    exact ⟨a, e.pre _ _ y, rfl⟩
theorem RVs.wmono (e : Wx r r' H H') : ∀ {ds : List D} {vs : List V}, RVs K r H ds vs → RVs K r' H' ds vs
  | [], _, x => by simp only [RVs] at x ⊢; exact x
  | d :: ds, _, x => by
    simp only [RVs] at x ⊢
    obtain ⟨v, t, rfl, y, z⟩ := x
    exact ⟨v, t, rfl, RV.wmono e y, RVs.wmono e z⟩
end
theorem RV.mono (e : Ext r r' H H') (x : RV K r H d v) : RV K r' H' d v := x.wmono e.wx
theorem RVs.mono (e : Ext r r' H H') (x : RVs K r H ds vs) : RVs K r' H' ds vs := x.wmono e.wx
theorem RVs.length : ∀ {ds : List D} {vs : List V}, RVs K r H ds vs → ds.length = vs.length
  | [], _, x => by simp only [RVs] at x; subst x; rfl
  | d :: ds, _, x => by
    simp only [RVs] at x
    obtain ⟨v, t, rfl, y, z⟩ := x
    simp [RVs.length z]
theorem RVs.get : ∀ {ds : List D} {vs : List V} {i : Nat} {d : D}, RVs K r H ds vs → ds[i]? = some d → ∃ v, vs[i]? = some v ∧ RV K r H d v
  | [], _, i, d, x, e => by simp at e
  | d :: ds, _, 0, d', x, e => by
    simp only [RVs] at x
    obtain ⟨v, t, rfl, y, z⟩ := x
    simp at e; subst e
    exact ⟨v, rfl, y⟩
  | d :: ds, _, i + 1, d', x, e => by
    simp only [RVs] at x
    obtain ⟨v, t, rfl, y, z⟩ := x
    exact RVs.get (i := i) z (by simpa using e)
theorem RVs.nil : RVs K r H [] [] := by simp only [RVs]
theorem RVs.cons (a : RV K r H d v) (b : RVs K r H ds vs) : RVs K r H (d :: ds) (v :: vs) := by
  simp only [RVs]; exact ⟨v, vs, rfl, a, b⟩
theorem RVs.one (a : RV K r H d v) : RVs K r H [d] [v] := .cons a .nil
theorem RVs.inv (x : RVs K r H (d :: ds) vs) : ∃ v t, vs = v :: t ∧ RV K r H d v ∧ RVs K r H ds t := by simpa only [RVs] using x
theorem RVs.inv0 (x : RVs K r H [] vs) : vs = [] := by simpa only [RVs] using x
theorem RVs.append : ∀ {ds es : List D} {vs ws : List V}, RVs K r H ds vs → RVs K r H es ws → RVs K r H (ds ++ es) (vs ++ ws)
  | [], _, _, _, x, y => by rw [x.inv0]; exact y
  | d :: ds, _, _, _, x, y => by
    obtain ⟨v, t, rfl, a, b⟩ := x.inv
    exact .cons a (RVs.append b y)
theorem RVs.take : ∀ {ds : List D} {vs : List V} (n : Nat), RVs K r H ds vs → RVs K r H (ds.take n) (vs.take n)
  | [], _, n, x => by rw [x.inv0]; simp; exact .nil
  | d :: ds, _, 0, x => by simp; exact .nil
  | d :: ds, _, n + 1, x => by
    obtain ⟨v, t, rfl, a, b⟩ := x.inv
    exact .cons a (RVs.take n b)
theorem RVs.drop : ∀ {ds : List D} {vs : List V} (n : Nat), RVs K r H ds vs → RVs K r H (ds.drop n) (vs.drop n)
  | [], _, n, x => by rw [x.inv0]; simp; exact .nil
  | d :: ds, _, 0, x => by simpa using x
  | d :: ds, _, n + 1, x => by
    obtain ⟨v, t, rfl, a, b⟩ := x.inv
    exact RVs.drop n b
theorem RVs.set (q : RV K r H d v) : ∀ {ds : List D} {vs : List V} (i : Nat), RVs K r H ds vs → RVs K r H (ds.set i d) (vs.set i v)
  | [], _, n, x => by rw [x.inv0]; exact .nil
  | e :: ds, _, 0, x => by
    obtain ⟨v', t, rfl, a, b⟩ := x.inv
    exact .cons q b
  | e :: ds, _, n + 1, x => by
    obtain ⟨v', t, rfl, a, b⟩ := x.inv
    exact .cons a (RVs.set q n b)
theorem RVs.eraseIdx : ∀ {ds : List D} {vs : List V} (i : Nat), RVs K r H ds vs → RVs K r H (ds.eraseIdx i) (vs.eraseIdx i)
  | [], _, n, x => by rw [x.inv0]; exact .nil
  | e :: ds, _, 0, x => by
    obtain ⟨v', t, rfl, a, b⟩ := x.inv
    exact b
  | e :: ds, _, n + 1, x => by
    obtain ⟨v', t, rfl, a, b⟩ := x.inv
    exact .cons a (RVs.eraseIdx n b)
theorem RVs.reverse {ds : List D} {vs : List V} (x : RVs K r H ds vs) : RVs K r H ds.reverse vs.reverse := by
  induction ds generalizing vs with
  | nil => rw [x.inv0]; exact .nil
  | cons d ds ih =>
    obtain ⟨v', t, rfl, a, b⟩ := x.inv
    rw [List.reverse_cons, List.reverse_cons]
    exact (ih b).append (.one a)
theorem RVs.ints {ns : List Int} : RVs K r H (ns.map D.int) (ns.map V.int) := by
  induction ns with
  | nil => exact .nil
  | cons n ns ih => exact .cons (by simp only [RV]) ih
theorem RO.mono (e : Ext r r' H H') {o : O} (x : RO K r H a o) (n : H' a = H a) : RO K r' H' a o := by
  cases o with
  | lst ds => obtain ⟨vs, p, q⟩ := x; exact ⟨vs, n.trans p, q.mono e⟩
  | dk ks ds => obtain ⟨vs, p, l, q⟩ := x; exact ⟨vs, n.trans p, l, q.mono e⟩
  | dt ks ds => obtain ⟨vs, p, l, q⟩ := x; exact ⟨vs, n.trans p, l, q.mono e⟩
  | ins C fs ds => obtain ⟨dx, vs, p, l, q⟩ := x; exact ⟨dx, vs, n.trans p, l, q.mono e⟩
theorem RO.wmono (e : Wx r r' H H') {o : O} (x : RO K r H a o) (n : H' a = H a) : RO K r' H' a o := by
  cases o with
  | lst ds => obtain ⟨vs, p, q⟩ := x; exact ⟨vs, n.trans p, q.wmono e⟩
  | dk ks ds => obtain ⟨vs, p, l, q⟩ := x; exact ⟨vs, n.trans p, l, q.wmono e⟩
  | dt ks ds => obtain ⟨vs, p, l, q⟩ := x; exact ⟨vs, n.trans p, l, q.wmono e⟩
  | ins C fs ds => obtain ⟨dx, vs, p, l, q⟩ := x; exact ⟨dx, vs, n.trans p, l, q.wmono e⟩
theorem RO.some {o : O} (x : RO K r H a o) : H a ≠ none := by
  cases o with
  | lst ds => obtain ⟨vs, p, q⟩ := x; rw [p]; simp
  | dk ks ds => obtain ⟨vs, p, l, q⟩ := x; rw [p]; simp
  | dt ks ds => obtain ⟨vs, p, l, q⟩ := x; rw [p]; simp
  | ins C fs ds => obtain ⟨dx, vs, p, l, q⟩ := x; rw [p]; simp
theorem RH.there (x : RH K r h H) (m : a ∈ r) : H a ≠ none := by
  rcases m with m | m
  · obtain ⟨i, hi⟩ := List.getElem?_of_mem m
    have : i < h.length := by rw [← x.len]; exact (List.getElem?_eq_some_iff.mp hi).1
    exact (x.at_ i a _ hi (List.getElem?_eq_getElem this)).some
  · exact (x.bt a m).1
theorem RH.out (x : RH K r h H) (n : H a = none) : a ∉ r := fun m => x.there m n
theorem RS.wmono (e : Wx r r' H H') (x : RS K r H env σ) : RS K r' H' env σ := ⟨x.1, fun i d q => by
  obtain ⟨v, a, b⟩ := x.2 i d q
  exact ⟨v, a, b.wmono e⟩⟩
theorem RS.mono (e : Ext r r' H H') (x : RS K r H env σ) : RS K r' H' env σ := ⟨x.1, fun i d q => by
  obtain ⟨v, a, b⟩ := x.2 i d q
  exact ⟨v, a, b.mono e⟩⟩
theorem RH.ixnd (x : RH K r h H) : r.ix.Nodup := (List.nodup_append.mp x.nd).1
theorem RH.apart (x : RH K r h H) {b : Addr} (m : a ∈ r.ix) (n : b ∈ r.bn) : b ≠ a := fun e => (List.nodup_append.mp x.nd).2.2 a m b n e.symm
/-- a new object that is not ours to change is laid -/
theorem RH.lay {o : HO} (x : RH K r h H) (n : H a = none) : Ext r r H (upd H a o) ∧ RH K r h (upd H a o) := by
  have kp : ∀ b, H b ≠ none → upd H a o b = H b := fun b q => upd_ne fun z => q (z ▸ n)
  have e : Ext r r H (upd H a o) := ⟨fun _ _ q => q, rfl, fun b m => kp b (x.bt b m).1, fun b u q _ => (kp b (by rw [q]; simp)).trans q, fun _ m k => absurd m k, fun b q => by
    by_cases hb : b = a
    · rw [hb]; exact n
    · rw [upd_ne hb] at q; exact q⟩
  exact ⟨e, x.len, x.nd, fun i b u p q => (x.at_ i b u p q).mono e (kp b (x.at_ i b u p q).some), fun b m => by rw [kp b (x.bt b m).1]; exact x.bt b m⟩
/-- a new object that nobody may see -/
theorem RH.hide {o : HO} (x : RH K r h H) (n : H a = none) (ho : ∀ xs, o ≠ .tup xs := by intro _ z; cases z) : Wx r (r.ban a) H (upd H a o) ∧ RH K (r.ban a) h (upd H a o) := by
  have kp : ∀ b, H b ≠ none → upd H a o b = H b := fun b q => upd_ne fun z => q (z ▸ n)
  have w : Wx r (r.ban a) H (upd H a o) := ⟨fun _ _ q => q, fun b u q _ => (kp b (by rw [q]; simp)).trans q, fun b m k => by
    rcases m with m | m
    · exact absurd (.inl m) k
    · rcases List.mem_cons.mp m with rfl | m
      · exact n
      · exact absurd (.inr m) k, fun b q => by
    by_cases hb : b = a
    · rw [hb]; exact n
    · rw [upd_ne hb] at q; exact q⟩
  refine ⟨w, x.len, ?_, fun i b u p q => (x.at_ i b u p q).wmono w (kp b (x.at_ i b u p q).some), fun b m => ?_⟩
  · have := x.nd
    show (r.ix ++ a :: r.bn).Nodup
    rw [List.nodup_append] at this ⊢
    refine ⟨this.1, List.nodup_cons.mpr ⟨fun m => (x.bt a m).1 n, this.2.1⟩, fun b m c mc => ?_⟩
    rcases List.mem_cons.mp mc with rfl | mc
    · rintro rfl
      exact x.out n (.inl m)
    · exact this.2.2 b m c mc
  · rcases List.mem_cons.mp m with rfl | m
    · rw [upd_same]; exact ⟨by simp, fun xs z => ho xs (Option.some.inj z)⟩
    · rw [kp b (x.bt b m).1]; exact x.bt b m
/-- what was hidden is changed -/
theorem RH.rehide {u : HO} (x : RH K (r.ban a) h H) (hu : ∀ xs, u ≠ .tup xs := by intro _ z; cases z) : Wx (r.ban a) (r.ban a) H (upd H a u) ∧ RH K (r.ban a) h (upd H a u) := by
  have w : Wx (r.ban a) (r.ban a) H (upd H a u) := ⟨fun _ _ q => q, fun b o q k => by rw [upd_ne (show b ≠ a from fun z => k (by subst z; exact .inr List.mem_cons_self))]; exact q, fun b m k => absurd m k, fun b q => by
    by_cases hb : b = a
    · rw [hb, upd_same] at q; cases q
    · rw [upd_ne hb] at q; exact q⟩
  refine ⟨w, x.len, x.nd, fun i b o p q => (x.at_ i b o p q).wmono w (upd_ne fun z => ?_), fun b m => ?_⟩
  · subst z
    exact x.apart (List.mem_of_getElem? p) List.mem_cons_self rfl
  · by_cases hb : b = a
    · rw [hb, upd_same]; exact ⟨by simp, fun xs z => hu xs (Option.some.inj z)⟩
    · rw [upd_ne hb]; exact x.bt b m
/-- what was hidden is shown -/
theorem RH.show_ (x : RH K (r.ban a) h H) : Wx (r.ban a) r H H ∧ RH K r h H := by
  have w : Wx (r.ban a) r H H := ⟨fun _ _ q => q, fun _ _ q _ => q, fun b m k => absurd (m.elim .inl fun m => .inr (List.mem_cons_of_mem _ m)) k, fun _ q => q⟩
  refine ⟨w, x.len, ?_, fun i b o p q => (x.at_ i b o p q).wmono w rfl, fun b m => x.bt b (List.mem_cons_of_mem _ m)⟩
  have := x.nd
  rw [List.nodup_append] at this ⊢
  exact ⟨this.1, (List.nodup_cons.mp this.2.1).2, fun b m c mc => this.2.2 b m c (List.mem_cons_of_mem _ mc)⟩
theorem Rg.ban_out {r : Rg} {a : Addr} (x : RH K (r.ban a) h H) : a ∉ r := fun m => by
  rcases m with m | m
  · exact x.apart m List.mem_cons_self rfl
  · exact (List.nodup_cons.mp (List.nodup_append.mp x.nd).2.1).1 m
/-- a walk under a hidden object, seen from outside -/
theorem Ext.under {H3 : Hp} (e2 : Ext r r1 H H1) (e : Ext (r1.ban a) (r2.ban a) H1 H2) (n : H a = none) (nb : a ∉ r) (same : ∀ b, b ≠ a → H3 b = H2 b) (ne : H3 a ≠ none) : Ext r r2 H H3 where
  pre := fun i b q => e.pre i b (e2.pre i b q)
  bn := by
    have := e.bn
    exact (List.cons.inj this).2.trans e2.bn
  bk := fun b m => by
    rw [same b fun z => nb (z ▸ .inr m)]
    exact (e.bk b (List.mem_cons_of_mem _ (by rw [e2.bn]; exact m))).trans (e2.bk b m)
  keep := fun b o q k => by
    have hb : b ≠ a := fun z => by rw [z, n] at q; cases q
    rw [same b hb]
    refine e.keep b o (e2.keep b o q k) fun m => ?_
    have hr : b ∈ r1 := m.elim .inl fun m => .inr ((List.mem_cons.mp m).resolve_left hb)
    have := e2.new b hr k
    rw [q] at this; cases this
  new := fun b m k => by
    by_cases hb : b = a
    · rw [hb]; exact n
    · by_cases hr : b ∈ r1
      · exact e2.new b hr k
      · exact e2.dom b (e.new b (m.elim .inl fun m => .inr (List.mem_cons_of_mem _ m)) fun z => hr (z.elim .inl fun z => .inr ((List.mem_cons.mp z).resolve_left hb)))
  dom := fun b q => by
    by_cases hb : b = a
    · rw [hb]; exact n
    · rw [same b hb] at q
      exact e2.dom b (e.dom b q)
/-- a new object of ours -/
theorem RH.own {o : O} {u : HO} (x : RH K r h H) (n : H a = none) (hu : ∀ H', Ext r (r.snoc a) H H' → H' a = some u → RO K (r.snoc a) H' a o) :
    Ext r (r.snoc a) H (upd H a u) ∧ RH K (r.snoc a) (h ++ [o]) (upd H a u) := by
  have kp : ∀ b, H b ≠ none → upd H a u b = H b := fun b q => upd_ne fun z => q (z ▸ n)
  have e : Ext r (r.snoc a) H (upd H a u) := ⟨fun i b q => by
      show (r.ix ++ [a])[i]? = some b
      rw [List.getElem?_append_left (List.getElem?_eq_some_iff.mp q).1]; exact q, rfl, fun b m => kp b (x.bt b m).1, fun b w q _ => (kp b (by rw [q]; simp)).trans q, fun b m k => by
      rcases m with m | m
      · rcases List.mem_append.mp m with m | m
        · exact absurd (.inl m) k
        · rw [List.mem_singleton.mp m]; exact n
      · exact absurd (.inr m) k, fun b q => by
    by_cases hb : b = a
    · rw [hb]; exact n
    · rw [upd_ne hb] at q; exact q⟩
  refine ⟨e, by show (r.ix ++ [a]).length = _; simp [x.len], ?_, fun i b w p q => ?_, fun b m => by rw [kp b (x.bt b m).1]; exact x.bt b m⟩
  · have := x.nd
    show ((r.ix ++ [a]) ++ r.bn).Nodup
    rw [List.nodup_append] at this ⊢
    refine ⟨?_, this.2.1, fun b m c mc => ?_⟩
    · rw [List.nodup_append]
      exact ⟨this.1, by simp, fun b m c mc => by
        rw [List.mem_singleton.mp mc]
        rintro rfl
        exact x.out n (.inl m)⟩
    · rcases List.mem_append.mp m with m | m
      · exact this.2.2 b m c mc
      · rw [List.mem_singleton.mp m]
        rintro rfl
        exact (x.bt _ mc).1 n
  · replace p : (r.ix ++ [a])[i]? = some b := p
    by_cases hi : i < r.ix.length
    · rw [List.getElem?_append_left hi] at p
      rw [List.getElem?_append_left (by rw [← x.len]; exact hi)] at q
      exact (x.at_ i b w p q).mono e (kp b (x.at_ i b w p q).some)
    · have hi' : i = r.ix.length := by
        have := (List.getElem?_eq_some_iff.mp p).1
        simp at this; omega
      subst hi'
      rw [List.getElem?_append_right (Nat.le_refl _)] at p
      rw [List.getElem?_append_right (by rw [x.len]; exact Nat.le_refl _), x.len] at q
      simp at p q
      subst p; subst q
      exact hu _ e upd_same
/-- an object of ours is changed -/
theorem RH.put {o : O} {u : HO} {n : Nat} (x : RH K r h H) (ha : r.ix[n]? = some a) (hu : ∀ H', Ext r r H H' → H' a = some u → RO K r H' a o) :
    Ext r r H (upd H a u) ∧ RH K r (h.set n o) (upd H a u) := by
  have hm : a ∈ r.ix := List.mem_of_getElem? ha
  have e : Ext r r H (upd H a u) := ⟨fun _ _ q => q, rfl, fun b m => upd_ne (x.apart hm m), fun b w q k => by rw [upd_ne (show b ≠ a from fun z => k (z ▸ .inl hm))]; exact q, fun _ m k => absurd m k, fun b q => by
    by_cases hb : b = a
    · rw [hb, upd_same] at q; cases q
    · rw [upd_ne hb] at q; exact q⟩
  refine ⟨e, by simp [x.len], x.nd, fun i b w p q => ?_, fun b m => by rw [upd_ne (x.apart hm m)]; exact x.bt b m⟩
  by_cases hi : i = n
  · subst hi
    rw [ha] at p; cases p
    have hl : i < h.length := by rw [← x.len]; exact (List.getElem?_eq_some_iff.mp ha).1
    rw [List.getElem?_set_self hl] at q
    cases q
    exact hu _ e upd_same
  · rw [List.getElem?_set_ne (Ne.symm hi)] at q
    refine (x.at_ i b w p q).mono e (upd_ne fun z => ?_)
    subst z
    obtain ⟨h1, e1⟩ := List.getElem?_eq_some_iff.mp p
    obtain ⟨h2, e2⟩ := List.getElem?_eq_some_iff.mp ha
    exact hi ((List.getElem_inj x.ixnd).mp (e1.trans e2.symm))
end
end Dt
namespace Dt
open PySem PySem.Spec PyProof.Rows L2
def XR (K : PySem.W.Frag) (r : Rg) (H : Hp) (x : Exn) (dO : Option Addr) : Prop :=
  if x.own = true then ∃ a vs, dO = some a ∧ H a = some (.xd (x.fs.zip vs)) ∧ a ∉ r ∧ x.fs.length = vs.length ∧ RVs K r H x.ds vs else dO = none
/-- what is wanted of an outcome -/
def Po {α β : Type} (R : Rg → Hp → α → β → Prop) (K : PySem.W.Frag) (W : WX) (r : Rg) (σ : L2.St) (H : Hp) (x : Rs α) (Q : β → Hp → Prop) : Prop :=
  match x with
  | .ok a h => ∀ b r' H', Ext r r' H H' → RH K r' h H' → R r' H' a b → Q b H'
  | .rz x h => ∀ r' H' dO, Ext r r' H H' → RH K r' h H' → XR K r' H' x dO → W x.cls dO σ H'
  | .bad => False
def bd {α β : Type} (x : Rs α) (g : α → DH → Rs β) : Rs β := match x with
  | .ok a h => g a h
  | .rz x h => .rz x h
  | .bad => .bad
section
variable {α β γ δ : Type} {R : Rg → Hp → α → β → Prop} {R' : Rg → Hp → γ → δ → Prop} {K : PySem.W.Frag} {W : WX} {r r1 : Rg} {σ : L2.St} {H H1 : Hp} {x : Rs α} {Q : β → Hp → Prop} {Q' : δ → Hp → Prop} {g : α → DH → Rs γ}
@[simp] theorem bd_ok {a : α} {h : DH} : bd (.ok a h) g = g a h := rfl
@[simp] theorem bd_rz {y : Exn} {h : DH} : bd (.rz y h) g = .rz y h := rfl
@[simp] theorem bd_bad : bd (.bad : Rs α) g = .bad := rfl
theorem Po.later (e : Ext r r1 H H1) (p : Po R K W r σ H x Q) : Po R K W r1 σ H1 x Q := by
  cases x with
  | ok a h => exact fun b r' H' e' q q' => p b r' H' (e.trans e') q q'
  | rz y h => exact fun r' H' dO e' q q' => p r' H' dO (e.trans e') q q'
  | bad => exact p
theorem Po.bd (p : Po R' K W r σ H (bd x g) Q') : Po R K W r σ H x (fun b H1 => ∃ r1 h1 a, x = .ok a h1 ∧ Ext r r1 H H1 ∧ RH K r1 h1 H1 ∧ R r1 H1 a b ∧ Po R' K W r1 σ H1 (g a h1) Q') := by
  cases x with
  | ok a h => exact fun b r' H' e' q q' => ⟨r', h, a, rfl, e', q, q', Po.later e' p⟩
  | rz y h => exact p
  | bad => exact p
theorem Po.mono {Q2 : β → Hp → Prop} (p : Po R K W r σ H x Q) (h : ∀ b H', Q b H' → Q2 b H') : Po R K W r σ H x Q2 := by
  cases x with
  | ok a h' => exact fun b r' H' e' q q' => h _ _ (p b r' H' e' q q')
  | rz y h => exact p
  | bad => exact p
end
abbrev EF := Env' → DH → Rs D
abbrev AF := Env' → DH → Rs (List D)
abbrev TF := Env' → DH → Rs Bool
def tG {α β : Type} (R : Rg → Hp → α → β → Prop) (K : PySem.W.Frag) (W : WX) (f : Env' → DH → Rs α) (σ : L2.St) (H : Hp) (Q : β → Hp → Prop) : Prop :=
  ∃ r env h, RH K r h H ∧ RS K r H env σ ∧ Po R K W r σ H (f env h) Q
abbrev tE (K : PySem.W.Frag) (W : WX) (f : EF) : TE := tG (RV K) K W f
abbrev tA (K : PySem.W.Frag) (W : WX) (f : AF) : TA := tG (RVs K) K W f
def RB (_ : Rg) (_ : Hp) (a b : Bool) : Prop := a = b
abbrev tT (K : PySem.W.Frag) (W : WX) (f : TF) : TT := tG RB K W f
theorem PE.imp {X : Cx} {e : Expr} {t t' : TE} (h : PE X e t) (i : ∀ σ H Q, t' σ H Q → t σ H Q) : PE X e t' := ⟨fun pins s σ H Q I q => h.run pins s σ H Q I (i σ H Q q)⟩
theorem PT.imp {X : Cx} {e : Expr} {t t' : TT} (h : PT X e t) (i : ∀ σ H Q, t' σ H Q → t σ H Q) : PT X e t' := ⟨fun pins s σ H Q I q => h.run pins s σ H Q I (i σ H Q q)⟩
theorem PW.imp {X : Cx} {e : Expr} {t t' : TT} (h : PW X e t) (i : ∀ σ H Q, t' σ H Q → t σ H Q) : PW X e t' := ⟨fun wh pins s σ H Q I q => h.run wh pins s σ H Q I (i σ H Q q)⟩
theorem PA.imp {X : Cx} {e : List Expr} {t t' : TA} (h : PA X e t) (i : ∀ σ H Q, t' σ H Q → t σ H Q) : PA X e t' := ⟨fun pos pins s σ H Q I q => h.run pos pins s σ H Q I (i σ H Q q)⟩
/-- the move of all combinators: run the first, go on with what it gave -/
theorem tG.first {α β γ δ : Type} {R : Rg → Hp → α → β → Prop} {R' : Rg → Hp → γ → δ → Prop} {K : PySem.W.Frag} {W : WX} {f : Env' → DH → Rs α} {g : α → Env' → DH → Rs γ} {σ : L2.St} {H : Hp} {Q' : δ → Hp → Prop} {Q : β → Hp → Prop}
    (p : tG R' K W (fun env h => bd (f env h) fun a h1 => g a env h1) σ H Q')
    (k : ∀ r env h1 a b H1, RH K r h1 H1 → RS K r H1 env σ → R r H1 a b → Po R' K W r σ H1 (g a env h1) Q' → Q b H1) : tG R K W f σ H Q := by
  obtain ⟨r, env, h, rh, rs, p⟩ := p
  refine ⟨r, env, h, rh, rs, (Po.bd (R := R) p).mono fun b H1 ⟨r1, h1, a, _, e, rh1, ra, p1⟩ => ?_⟩
  exact k r1 env h1 a b H1 rh1 (rs.mono e) ra p1
def vr (i : Nat) : EF := fun env h => match env[i]? with | some (some d) => .ok d h | _ => .bad
def ct (d : D) : EF := fun _ h => .ok d h
def o1 (g : D → DH → Rs D) (fa : EF) : EF := fun env h => bd (fa env h) fun a h1 => g a h1
def o2 (g : D → D → DH → Rs D) (fa fb : EF) : EF := fun env h => bd (fa env h) fun a h1 => bd (fb env h1) fun b h2 => g a b h2
def an : AF := fun _ h => .ok [] h
def ac (fa : EF) (fr : AF) : AF := fun env h => bd (fa env h) fun a h1 => bd (fr env h1) fun as h2 => .ok (a :: as) h2
def oA (g : List D → DH → Rs D) (fa : AF) : EF := fun env h => bd (fa env h) fun a h1 => g a h1
def tstD (d : D) (h : DH) : Rs Bool := match d with | .bl b => .ok b h | _ => .bad
def tv (fa : EF) : TF := fun env h => bd (fa env h) fun a h1 => tstD a h1
/-- by values -/
def OpD (K : PySem.W.Frag) (g : D → D → DH → Rs D) (r : R2) : Prop :=
  ∀ (r0 : Rg) (h : DH) (H : Hp) (x y : D) (v u : V) (W : WX) (σ : L2.St) (Q : VK), RH K r0 h H → RV K r0 H x v → RV K r0 H y u → Po (RV K) K W r0 σ H (g x y h) Q → r v u H Q
def UnD (K : PySem.W.Frag) (g : D → DH → Rs D) (r : V → Hp → VK → Prop) : Prop :=
  ∀ (r0 : Rg) (h : DH) (H : Hp) (x : D) (v : V) (W : WX) (σ : L2.St) (Q : VK), RH K r0 h H → RV K r0 H x v → Po (RV K) K W r0 σ H (g x h) Q → r v H Q
def CallD (K : PySem.W.Frag) (g : List D → DH → Rs D) (r : List V → Hp → VK → Prop) : Prop :=
  ∀ (r0 : Rg) (h : DH) (H : Hp) (xs : List D) (vs : List V) (W : WX) (σ : L2.St) (Q : VK), RH K r0 h H → RVs K r0 H xs vs → Po (RV K) K W r0 σ H (g xs h) Q → r vs H Q
def MtD (K : PySem.W.Frag) (g : D → List D → DH → Rs D) (r : V → List V → Hp → VK → Prop) : Prop :=
  ∀ (r0 : Rg) (h : DH) (H : Hp) (x : D) (v : V) (xs : List D) (vs : List V) (W : WX) (σ : L2.St) (Q : VK), RH K r0 h H → RV K r0 H x v → RVs K r0 H xs vs → Po (RV K) K W r0 σ H (g x xs h) Q → r v vs H Q
section
variable {X : Cx} {W : WX} {a b c e : Expr} {es : List Expr} {fa fb fc : EF} {pos : Pos} {as : AF}
theorem de_var {i : Nat} (h : PE X e (tVar i)) : PE X e (tE X.K W (vr i)) := PE.imp h fun σ H Q p => by
  obtain ⟨r, env, h, rh, rs, p⟩ := p
  unfold vr at p
  split at p
  · rename_i d hd
    obtain ⟨v, e1, e2⟩ := rs.2 i d hd
    exact ⟨v, e1, p v r H .refl rh e2⟩
  · exact p.elim
theorem de_c {v : V} {d : D} (h : PE X e (tC v)) (hd : ∀ r H, RV X.K r H d v) : PE X e (tE X.K W (ct d)) := PE.imp h fun σ H Q p => by
  obtain ⟨r, env, h, rh, rs, p⟩ := p
  exact p v r H .refl rh (hd r H)
theorem de_int {i : Int} {j} : PE X (.Constant (.int i) j pos) (tE X.K W (ct (.int i))) := de_c pe_int fun _ _ => by simp only [RV]
theorem de_str {i : Str} {j} : PE X (.Constant (.str i) j pos) (tE X.K W (ct (.str i))) := de_c pe_str fun _ _ => by simp only [RV]
theorem de_bl {i : Bool} {j} : PE X (.Constant (.bool i) j pos) (tE X.K W (ct (.bl i))) := de_c pe_bl fun _ _ => by simp only [RV]
theorem de_non {j} : PE X (.Constant .none j pos) (tE X.K W (ct .non)) := de_c pe_non fun _ _ => by simp only [RV]
theorem tOp_of {g : D → D → DH → Rs D} {r : R2} (hg : OpD X.K g r) {σ : L2.St} {H : Hp} {Q : VK} (p : tE X.K W (o2 g fa fb) σ H Q) : tOp r (tE X.K W fa) (tE X.K W fb) σ H Q := by
  refine tG.first (R := RV X.K) (g := fun a env h1 => bd (fb env h1) fun b h2 => g a b h2) p fun r0 env h1 x v H1 rh rs rx p1 => ?_
  refine ⟨r0, env, h1, rh, rs, (Po.bd (R := RV X.K) p1).mono fun u H2 ⟨r2, h2, y, _, e2, rh2, ry, p2⟩ => ?_⟩
  exact hg r2 h2 H2 x y v u W σ Q rh2 (rx.mono e2) ry p2
theorem tUn_of {g : D → DH → Rs D} {r : V → Hp → VK → Prop} (hg : UnD X.K g r) {σ : L2.St} {H : Hp} {Q : VK} (p : tE X.K W (o1 g fa) σ H Q) : tUn r (tE X.K W fa) σ H Q :=
  tG.first (R := RV X.K) (g := fun a env h1 => g a h1) p fun r0 env h1 x v H1 rh rs rx p1 => hg r0 h1 H1 x v W σ Q rh rx p1
theorem de_op {op : Operator} {g : D → D → DH → Rs D} {r : R2} (ho : OpR X (binaryOp op) r) (hg : OpD X.K g r) (ha : PE X a (tE X.K W fa)) (hb : PE X b (tE X.K W fb)) : PE X (.BinOp a op b pos) (tE X.K W (o2 g fa fb)) :=
  PE.imp (pe_op ho ha hb) fun _ _ _ p => tOp_of hg p
theorem de_un {op : UnaryOp} {g : D → DH → Rs D} {r : V → Hp → VK → Prop} (ho : UnR X (unaryOp op) r) (hg : UnD X.K g r) (ha : PE X a (tE X.K W fa)) : PE X (.UnaryOp op a pos) (tE X.K W (o1 g fa)) :=
  PE.imp (pe_un ho ha) fun _ _ _ p => tUn_of hg p
theorem de_cmp {op : CmpOp} {g : D → D → DH → Rs D} {r : R2} (ho : OpR X (compareOp op) r) (hg : OpD X.K g r) (ha : PE X a (tE X.K W fa)) (hb : PE X b (tE X.K W fb)) (hm : behindInMarks op b = false) : PE X (.Compare a [op] [b] pos) (tE X.K W (o2 g fa fb)) :=
  PE.imp (pe_cmpR ho ha hb hm) fun _ _ _ p => tOp_of hg p
theorem tst_of {K : PySem.W.Frag} {r : Rg} {σ : L2.St} {H : Hp} {h : DH} {x : D} {v : V} {Q : Bool → Hp → Prop} (rh : RH K r h H) (rx : RV K r H x v) (p : Po RB K W r σ H (tstD x h) Q) : ∃ k, v = .bl k ∧ Q k H := by
  cases x with
  | bl k =>
    simp only [RV] at rx
    exact ⟨k, rx, p k r H .refl rh rfl⟩
  | _ => exact p.elim
theorem dt_cmp {op : CmpOp} {g : D → D → DH → Rs D} {r : R2} (ho : OpR X (compareOp op) r) (hg : OpD X.K g r) (ha : PE X a (tE X.K W fa)) (hb : PE X b (tE X.K W fb)) (hm : behindInMarks op b = false) : PT X (.Compare a [op] [b] pos) (tT X.K W (tv (o2 g fa fb))) :=
  PT.imp (pt_cmpR ho ha hb hm) fun σ H Q p => by
    refine tOp_of (W := W) hg (Q := fun x H' => ∃ k, x = .bl k ∧ Q k H') (tG.first (R := RV X.K) (f := o2 g fa fb) (g := fun d _ h => tstD d h) p ?_ : tE X.K W (o2 g fa fb) σ H fun x H' => ∃ k, x = .bl k ∧ Q k H')
    exact fun r0 env h1 x v H1 rh rs rx p1 => tst_of rh rx p1
/-- any expression whose value is a truth, as a test -/
theorem dt_val (ha : PE X a (tE X.K W fa)) (he : ∀ whole, isTrue a X.env whole = (do let v ← whole; standAt a.pos; holding [v] (truthy v)) := by intro _; rfl) : PT X a (tT X.K W (tv fa)) :=
  PT.imp (pt_val ha he) fun σ H Q p => tG.first (R := RV X.K) (f := fa) (g := fun d _ h => tstD d h) p fun r0 env h1 x v H1 rh rs rx p1 => tst_of rh rx p1
def tnot (t : TF) : TF := fun env h => bd (t env h) fun b h1 => .ok (!b) h1
def tand (t u : TF) : TF := fun env h => bd (t env h) fun b h1 => if b = true then u env h1 else .ok false h1
def tor (t u : TF) : TF := fun env h => bd (t env h) fun b h1 => if b = true then .ok true h1 else u env h1
def eif (t : TF) (fa fb : EF) : EF := fun env h => bd (t env h) fun b h1 => if b = true then fa env h1 else fb env h1
def eand (fa fb : EF) : EF := fun env h => bd (fa env h) fun a h1 => bd (tstD a h1) fun b h2 => if b = true then fb env h2 else .ok (.bl false) h2
def eor (fa fb : EF) : EF := fun env h => bd (fa env h) fun a h1 => bd (tstD a h1) fun b h2 => if b = true then .ok (.bl true) h2 else fb env h2
def enot (fa : EF) : EF := fun env h => bd (fa env h) fun a h1 => bd (tstD a h1) fun b h2 => .ok (.bl (!b)) h2
variable {t u : TF} {rest : List Expr}
theorem dt_not (ha : PT X a (tT X.K W t)) : PT X (.UnaryOp .Not a pos) (tT X.K W (tnot t)) :=
  PT.imp (pt_not ha) fun σ H Q p => tG.first (R := RB) (f := t) (g := fun b _ h => .ok (!b) h) p fun r0 env h1 x v H1 rh rs rx p1 => by
    cases rx
    exact p1 _ _ _ .refl rh rfl
theorem dw_and1 (ha : PT X a (tT X.K W t)) : PW X (.BoolOp .And [a] pos) (tT X.K W t) := pw_and1 ha
theorem dw_or1 (ha : PT X a (tT X.K W t)) : PW X (.BoolOp .Or [a] pos) (tT X.K W t) := pw_or1 ha
theorem dw_and (ha : PT X a (tT X.K W t)) (hb : PW X (.BoolOp .And (b :: rest) pos) (tT X.K W u)) : PW X (.BoolOp .And (a :: b :: rest) pos) (tT X.K W (tand t u)) :=
  PW.imp (pw_and ha hb) fun σ H Q p => tG.first (R := RB) (f := t) (g := fun b env h => if b = true then u env h else .ok false h) p fun r0 env h1 x v H1 rh rs rx p1 => by
    cases rx
    cases x with
    | true => exact iteT ⟨r0, env, h1, rh, rs, p1⟩
    | false => exact iteF (p1 _ _ _ .refl rh rfl)
theorem dw_or (ha : PT X a (tT X.K W t)) (hb : PW X (.BoolOp .Or (b :: rest) pos) (tT X.K W u)) : PW X (.BoolOp .Or (a :: b :: rest) pos) (tT X.K W (tor t u)) :=
  PW.imp (pw_or ha hb) fun σ H Q p => tG.first (R := RB) (f := t) (g := fun b env h => if b = true then .ok true h else u env h) p fun r0 env h1 x v H1 rh rs rx p1 => by
    cases rx
    cases x with
    | true => exact iteT (p1 _ _ _ .refl rh rfl)
    | false => exact iteF ⟨r0, env, h1, rh, rs, p1⟩
theorem de_and (ha : PE X a (tE X.K W fa)) (hb : PE X (.BoolOp .And (b :: rest) pos) (tE X.K W fb)) : PE X (.BoolOp .And (a :: b :: rest) pos) (tE X.K W (eand fa fb)) :=
  PE.imp (pe_and ha hb) fun σ H Q p => tG.first (R := RV X.K) (f := fa) (g := fun a env h1 => bd (tstD a h1) fun b h2 => if b = true then fb env h2 else .ok (.bl false) h2) p fun r0 env h1 x v H1 rh rs rx p1 => by
    cases x with
    | bl k =>
      simp only [RV] at rx
      subst rx
      refine ⟨k, rfl, ?_⟩
      cases k with
      | true => exact iteT ⟨r0, env, h1, rh, rs, p1⟩
      | false => exact iteF (p1 (.bl false) r0 H1 .refl rh (by simp only [RV]))
    | _ => exact p1.elim
theorem de_one {op} (h : PE X a (tE X.K W fa)) : PE X (.BoolOp op [a] pos) (tE X.K W fa) := pe_one h
theorem de_not (ha : PE X a (tE X.K W fa)) : PE X (.UnaryOp .Not a pos) (tE X.K W (enot fa)) :=
  PE.imp (pe_not ha) fun σ H Q p => tG.first (R := RV X.K) (f := fa) (g := fun a _ h1 => bd (tstD a h1) fun b h2 => .ok (D.bl (!b)) h2) p fun r0 env h1 x v H1 rh rs rx p1 => by
    cases x with
    | bl k =>
      simp only [RV] at rx
      subst rx
      exact ⟨k, rfl, p1 (.bl (!k)) r0 H1 .refl rh (by simp only [RV])⟩
    | _ => exact p1.elim
theorem da_nil : PA X [] (tA X.K W an) := PA.imp pa_nil fun σ H Q ⟨r, env, h, rh, rs, p⟩ => p [] r H .refl rh .nil
theorem da_cons {fr : AF} (ha : PE X e (tE X.K W fa)) (hr : PA X es (tA X.K W fr)) (hs : starEach (e :: es) X.env = (false, eval e X.env) :: starEach es X.env := by rfl) : PA X (e :: es) (tA X.K W (ac fa fr)) :=
  PA.imp (pa_cons ha hr hs) fun σ H Q p => tG.first (R := RV X.K) (f := fa) (g := fun a env h1 => bd (fr env h1) fun as h2 => .ok (a :: as) h2) p fun r0 env h1 x v H1 rh rs rx p1 =>
    ⟨r0, env, h1, rh, rs, (Po.bd (R := RVs X.K) p1).mono fun u H2 ⟨r2, h2, y, _, e2, rh2, ry, p2⟩ => p2 _ r2 H2 .refl rh2 (.cons (rx.mono e2) ry)⟩
def mkT (ds : List D) (h : DH) : Rs D := if ds.length ≤ 1000000 then .ok (.tup ds) h else .bad
def mkL (own : Bool) (ds : List D) (h : DH) : Rs D := if ds.length ≤ 1000000 then (if own = true then .ok (.ref h.length) (h ++ [.lst ds]) else .ok (.lst ds) h) else .bad
theorem line_le {n : Nat} (h : n ≤ 1000000) : n ≤ sizeLine := Nat.le_trans h (by decide)
theorem line_lt {n : Nat} (h : n ≤ 1000000) : n < sizeLine := Nat.lt_of_le_of_lt h (by decide)
theorem po_mkT {K : PySem.W.Frag} {r : Rg} {σ : L2.St} {H : Hp} {h : DH} {ds : List D} {vs : List V} {Q : VK} (rh : RH K r h H) (rv : RVs K r H ds vs) (p : Po (RV K) K W r σ H (mkT ds h) Q) :
    vs.length ≤ sizeLine ∧ ∀ q, H q = none → Q (.ref q) (upd H q (.tup vs)) := by
  unfold mkT at p
  split at p
  · rename_i hl
    refine ⟨by rw [← rv.length]; exact line_le hl, fun q hq => ?_⟩
    obtain ⟨e, rh'⟩ := rh.lay (o := .tup vs) hq
    refine p _ r _ e rh' ?_
    simp only [RV]
    exact ⟨q, vs, rfl, ⟨upd_same, rh.out hq⟩, rv.mono e⟩
  · exact p.elim
theorem po_mkL {K : PySem.W.Frag} {r : Rg} {σ : L2.St} {H : Hp} {h : DH} {own : Bool} {ds : List D} {vs : List V} {Q : VK} (rh : RH K r h H) (rv : RVs K r H ds vs) (p : Po (RV K) K W r σ H (mkL own ds h) Q) :
    vs.length ≤ sizeLine ∧ ∀ q, H q = none → Q (.ref q) (upd H q (.lst vs)) := by
  unfold mkL at p
  split at p
  · rename_i hl
    refine ⟨by rw [← rv.length]; exact line_le hl, fun q hq => ?_⟩
    cases own with
    | true =>
      obtain ⟨e, rh'⟩ := rh.own (o := .lst ds) (u := .lst vs) hq fun H' e e' => ⟨vs, e', rv.mono e⟩
      refine p _ _ _ e rh' ?_
      simp only [RV]
      exact ⟨q, by show (r.ix ++ [q])[h.length]? = some q; rw [← rh.len]; simp, rfl⟩
    | false =>
      obtain ⟨e, rh'⟩ := rh.lay (o := .lst vs) hq
      refine p _ r _ e rh' ?_
      simp only [RV]
      exact ⟨q, vs, rfl, ⟨upd_same, rh.out hq⟩, rv.mono e⟩
  · exact p.elim
theorem de_tup {k} (ha : PA X es (tA X.K W as)) : PE X (.Tuple es k pos) (tE X.K W (oA mkT as)) :=
  PE.imp (pe_tup ha) fun σ H Q p => tG.first (R := RVs X.K) (f := as) (g := fun a _ h1 => mkT a h1) p fun r0 env h1 x v H1 rh rs rx p1 => po_mkT rh rx p1
theorem de_lst (own : Bool) (ha : PA X es (tA X.K W as)) : PE X (.List es pos) (tE X.K W (oA (mkL own) as)) :=
  PE.imp (pe_lst ha) fun σ H Q p => tG.first (R := RVs X.K) (f := as) (g := fun a _ h1 => mkL own a h1) p fun r0 env h1 x v H1 rh rs rx p1 => po_mkL rh rx p1
end
end Dt
namespace Dt
open PySem PySem.Spec PyProof.Rows L2
def lsq (h : DH) : D → Option (List D)
  | .lst ds => some ds
  | .scr ns => some (ns.map D.int)
  | .ref n => match h[n]? with | some (.lst ds) => some ds | _ => none
  | _ => none
def xsq (h : DH) : D → Option (List D)
  | .lst ds => some ds
  | .ref n => match h[n]? with | some (.lst ds) => some ds | _ => none
  | _ => none
def tsq : D → Option (List D)
  | .tup ds => some ds
  | .wt ds => some ds
  | _ => none
def sq (h : DH) (d : D) : Option (List D) := match d with
  | .tup ds => some ds
  | .wt ds => some ds
  | d => lsq h d
section
variable {K : PySem.W.Frag} {r : Rg} {H : Hp} {h : DH} {d x y : D} {v u : V} {ds : List D} {W : WX} {σ : L2.St} {Q : VK}
theorem RH.lst_at {n : Nat} (rh : RH K r h H) (rv : RV K r H (.ref n) v) (e : h[n]? = some (.lst ds)) : ∃ a vs, v = .ref a ∧ r.ix[n]? = some a ∧ H a = some (.lst vs) ∧ RVs K r H ds vs := by
  simp only [RV] at rv
  obtain ⟨a, ha, rfl⟩ := rv
  obtain ⟨vs, p, q⟩ := rh.at_ n a _ ha e
  exact ⟨a, vs, rfl, ha, p, q⟩
theorem xsq_at (rh : RH K r h H) (rv : RV K r H d v) (e : xsq h d = some ds) : ∃ a vs, v = .ref a ∧ H a = some (.lst vs) ∧ RVs K r H ds vs := by
  unfold xsq at e
  split at e
  · simp only [RV] at rv
    obtain ⟨a, vs, rfl, f, q⟩ := rv
    cases e
    exact ⟨a, vs, rfl, f.1, q⟩
  · split at e
    · rename_i e2
      cases e
      obtain ⟨a, vs, rfl, _, p, q⟩ := rh.lst_at rv e2
      exact ⟨a, vs, rfl, p, q⟩
    · cases e
  · cases e
theorem lsq_at (rh : RH K r h H) (rv : RV K r H d v) (e : lsq h d = some ds) : ∃ a vs, v = .ref a ∧ SqL K H a vs ∧ RVs K r H ds vs := by
  unfold lsq at e
  split at e
  · simp only [RV] at rv
    obtain ⟨a, vs, rfl, f, q⟩ := rv
    cases e
    exact ⟨a, vs, rfl, f.sq, q⟩
  · simp only [RV] at rv
    obtain ⟨a, rfl, f⟩ := rv
    cases e
    exact ⟨a, _, rfl, f.sq, RVs.ints⟩
  · split at e
    · rename_i e2
      cases e
      obtain ⟨a, vs, rfl, _, p, q⟩ := rh.lst_at rv e2
      exact ⟨a, vs, rfl, .of p, q⟩
    · cases e
  · cases e
theorem tsq_at (rv : RV K r H d v) (e : tsq d = some ds) : ∃ a vs, v = .ref a ∧ SqT K H a vs ∧ RVs K r H ds vs := by
  unfold tsq at e
  split at e
  · simp only [RV] at rv
    obtain ⟨a, vs, rfl, f, q⟩ := rv
    cases e
    exact ⟨a, vs, rfl, f.sq, q⟩
  · simp only [RV] at rv
    obtain ⟨a, vs, rfl, f, q⟩ := rv
    cases e
    exact ⟨a, vs, rfl, .inr f, q⟩
  · cases e
theorem sq_at (rh : RH K r h H) (rv : RV K r H d v) (e : sq h d = some ds) : ∃ a vs, v = .ref a ∧ (SqL K H a vs ∨ SqT K H a vs) ∧ RVs K r H ds vs := by
  unfold sq at e
  split at e
  · obtain ⟨a, vs, p, q, s⟩ := tsq_at (ds := ds) rv e
    exact ⟨a, vs, p, .inr q, s⟩
  · obtain ⟨a, vs, p, q, s⟩ := tsq_at (ds := ds) rv e
    exact ⟨a, vs, p, .inr q, s⟩
  · obtain ⟨a, vs, p, q, s⟩ := lsq_at rh rv e
    exact ⟨a, vs, p, .inl q, s⟩
end
def addD (own : Bool) (x y : D) (h : DH) : Rs D := match x, y with
  | .int i, .int j => .ok (.int (i + j)) h
  | .str a, .str b => if a.length + b.length ≤ 1000000 then .ok (.str (a ++ b)) h else .bad
  | .tup a, .tup b => if a.length + b.length ≤ 1000000 then .ok (.tup (a ++ b)) h else .bad
  | x, y => match xsq h x, xsq h y with
    | some a, some b => mkL own (a ++ b) h
    | _, _ => .bad
def subD (x y : D) (h : DH) : Rs D := match x, y with
  | .int i, .int j => .ok (.int (i - j)) h
  | _, _ => .bad
/-- below 2 ^ 250 either way -/
def smal (i : Int) : Prop := -1809251394333065553493296640760748560207343510400633813116524750123642650624 < i ∧ i < 1809251394333065553493296640760748560207343510400633813116524750123642650624
noncomputable instance (i : Int) : Decidable (smal i) := Classical.propDecidable _
noncomputable def mulD (own : Bool) (x y : D) (h : DH) : Rs D := match x, y with
  | .int i, .int j => if smal i ∧ smal j then .ok (.int (i * j)) h else .bad
  | x, .int j => match xsq h x with
    | some a => if -4611686018427387904 ≤ j ∧ j < 4611686018427387904 ∧ a.length * j.toNat ≤ 1000000 then mkL own (List.replicate j.toNat a).flatten h else .bad
    | _ => .bad
  | _, _ => .bad
def fdivD (x y : D) (h : DH) : Rs D := match x, y with
  | .int i, .int j => if 0 < j ∧ j < 1809251394333065553493296640760748560207343510400633813116524750123642650624 then .ok (.int (i / j)) h else .bad
  | _, _ => .bad
def modD (x y : D) (h : DH) : Rs D := match x, y with
  | .int i, .int j => if 0 < j then .ok (.int (i % j)) h else .bad
  | _, _ => .bad
noncomputable def powD (x y : D) (h : DH) : Rs D := match x, y with
  | .int i, .int j => if smal i ∧ 0 ≤ j ∧ j ≤ 1000 then .ok (.int (i ^ j.toNat)) h else .bad
  | _, _ => .bad
def negD (x : D) (h : DH) : Rs D := match x with
  | .int i => .ok (.int (-i)) h
  | _ => .bad
def toI : List D → Option (List Int)
  | [] => some []
  | .int i :: r => (toI r).map (i :: ·)
  | _ => none
def toB : List D → Option (List Bool)
  | [] => some []
  | .bl i :: r => (toB r).map (i :: ·)
  | _ => none
def ltD (x y : D) (h : DH) : Rs D := match x, y with
  | .int i, .int j => .ok (.bl (decide (i < j))) h
  | .tup a, .tup b => match toI a, toI b with
    | some p, some q => .ok (.bl (HT.lexLt p q)) h
    | _, _ => .bad
  | _, _ => .bad
def leD (x y : D) (h : DH) : Rs D := match x, y with
  | .int i, .int j => .ok (.bl (decide (i ≤ j))) h
  | _, _ => .bad
def gtD (x y : D) (h : DH) : Rs D := match x, y with
  | .int i, .int j => .ok (.bl (decide (j < i))) h
  | _, _ => .bad
def geD (x y : D) (h : DH) : Rs D := match x, y with
  | .int i, .int j => .ok (.bl (decide (j ≤ i))) h
  | _, _ => .bad
section
variable {X : Cx} {K : PySem.W.Frag} {r0 : Rg} {h : DH} {H : Hp} {x y : D} {v u : V} {W : WX} {σ : L2.St} {Q : VK}
theorem po_v {d : D} {v : V} (rh : RH K r0 h H) (rv : RV K r0 H d v) (p : Po (RV K) K W r0 σ H (.ok d h) Q) : Q v H := p v r0 H .refl rh rv
theorem toI_map : ∀ {ds : List D} {ns : List Int}, toI ds = some ns → ds = ns.map D.int
  | [], ns, e => by simp [toI] at e; subst e; rfl
  | .int i :: r, ns, e => by
    simp only [toI, Option.map_eq_some_iff] at e
    obtain ⟨m, e1, rfl⟩ := e
    rw [toI_map e1]; rfl
  | .non :: _, _, e => by simp [toI] at e
  | .bl _ :: _, _, e => by simp [toI] at e
  | .str _ :: _, _, e => by simp [toI] at e
  | .con _ :: _, _, e => by simp [toI] at e
  | .tup _ :: _, _, e => by simp [toI] at e
  | .wt _ :: _, _, e => by simp [toI] at e
  | .lst _ :: _, _, e => by simp [toI] at e
  | .scr _ :: _, _, e => by simp [toI] at e
  | .dk _ _ :: _, _, e => by simp [toI] at e
  | .dt _ _ :: _, _, e => by simp [toI] at e
  | .ref _ :: _, _, e => by simp [toI] at e
@[simp] theorem toI_of (ns : List Int) : toI (ns.map D.int) = some ns := by
  induction ns with
  | nil => rfl
  | cons n ns ih => rw [List.map_cons, toI, ih]; rfl
theorem toB_map : ∀ {ds : List D} {ns : List Bool}, toB ds = some ns → ds = ns.map D.bl
  | [], ns, e => by simp [toB] at e; subst e; rfl
  | .bl i :: r, ns, e => by
    simp only [toB, Option.map_eq_some_iff] at e
    obtain ⟨m, e1, rfl⟩ := e
    rw [toB_map e1]; rfl
  | .non :: _, _, e => by simp [toB] at e
  | .int _ :: _, _, e => by simp [toB] at e
  | .str _ :: _, _, e => by simp [toB] at e
  | .con _ :: _, _, e => by simp [toB] at e
  | .tup _ :: _, _, e => by simp [toB] at e
  | .wt _ :: _, _, e => by simp [toB] at e
  | .lst _ :: _, _, e => by simp [toB] at e
  | .scr _ :: _, _, e => by simp [toB] at e
  | .dk _ _ :: _, _, e => by simp [toB] at e
  | .dt _ _ :: _, _, e => by simp [toB] at e
  | .ref _ :: _, _, e => by simp [toB] at e
@[simp] theorem toB_of (ns : List Bool) : toB (ns.map D.bl) = some ns := by
  induction ns with
  | nil => rfl
  | cons n ns ih => rw [List.map_cons, toB, ih]; rfl
theorem RVs.of_ints : ∀ {ns : List Int} {vs : List V}, RVs K r0 H (ns.map D.int) vs → vs = ns.map V.int
  | [], vs, e => e.inv0
  | n :: ns, vs, e => by
    obtain ⟨v, t, rfl, a, b⟩ := e.inv
    simp only [RV] at a
    rw [a, RVs.of_ints b]; rfl
theorem RVs.of_bls : ∀ {ns : List Bool} {vs : List V}, RVs K r0 H (ns.map D.bl) vs → vs = ns.map V.bl
  | [], vs, e => e.inv0
  | n :: ns, vs, e => by
    obtain ⟨v, t, rfl, a, b⟩ := e.inv
    simp only [RV] at a
    rw [a, RVs.of_bls b]; rfl
theorem rv_int {i : Int} : RV K r0 H (.int i) v ↔ v = .int i := by simp only [RV]
theorem rv_bl {i : Bool} : RV K r0 H (.bl i) v ↔ v = .bl i := by simp only [RV]
theorem rv_str {i : Str} : RV K r0 H (.str i) v ↔ v = .str i := by simp only [RV]
theorem rv_non : RV K r0 H .non v ↔ v = .non := by simp only [RV]
def rAddAll (K : PySem.W.Frag) : R2 := fun x y H Q => rI0 (fun i j => .int (i + j)) x y H Q ∨ ((∃ i j, x = .str i ∧ y = .str j ∧ i.length + j.length ≤ sizeLine ∧ Q (.str (i ++ j)) H) ∨ (rCatA K x y H Q ∨ rCat x y H Q))
theorem op_addAll : OpR X (binaryOp .Add) (rAddAll X.K) := op_add.or (op_add_str.or (op_catA.or op_cat))
theorem opd_add (own : Bool) : OpD K (addD own) (rAddAll K) := by
  intro r0 h H x y v u W σ Q rh rx ry p
  unfold addD at p
  split at p
  · exact .inl ⟨_, _, rv_int.mp rx, rv_int.mp ry, po_v rh (rv_int.mpr rfl) p⟩
  · split at p
    · rename_i hl
      exact .inr (.inl ⟨_, _, rv_str.mp rx, rv_str.mp ry, line_le hl, po_v rh (rv_str.mpr rfl) p⟩)
    · exact p.elim
  · split at p
    · rename_i a b hl
      obtain ⟨p1, vs, rfl, f1, q1⟩ := (by simpa only [RV] using rx : ∃ a' vs, v = .ref a' ∧ FzT r0 H a' vs ∧ RVs K r0 H a vs)
      obtain ⟨p2, ws, rfl, f2, q2⟩ := (by simpa only [RV] using ry : ∃ a' vs, u = .ref a' ∧ FzT r0 H a' vs ∧ RVs K r0 H b vs)
      refine .inr (.inr (.inl ⟨p1, p2, vs, ws, rfl, rfl, f1.sq, f2.sq, by rw [← q1.length, ← q2.length]; exact line_le hl, fun z => ?_, fun _ z => ?_, fun _ _ q hq => ?_⟩))
      · subst z
        refine po_v rh ?_ p
        have : a = [] := List.eq_nil_of_length_eq_zero (by rw [q1.length]; rfl)
        subst this
        exact ry
      · subst z
        refine po_v rh ?_ p
        have : b = [] := List.eq_nil_of_length_eq_zero (by rw [q2.length]; rfl)
        subst this
        rw [List.append_nil]
        exact rx
      · obtain ⟨e, rh'⟩ := rh.lay (o := .tup (vs ++ ws)) hq
        refine p _ r0 _ e rh' ?_
        simp only [RV]
        exact ⟨q, vs ++ ws, rfl, ⟨upd_same, rh.out hq⟩, (q1.mono e).append (q2.mono e)⟩
    · exact p.elim
  · split at p
    · rename_i e1 e2
      obtain ⟨a, vs, rfl, f1, q1⟩ := xsq_at rh rx e1
      obtain ⟨b, ws, rfl, f2, q2⟩ := xsq_at rh ry e2
      obtain ⟨hl, k⟩ := po_mkL rh (q1.append q2) p
      exact .inr (.inr (.inr ⟨a, b, vs, ws, rfl, rfl, f1, f2, by simpa using hl, k⟩))
    · exact p.elim
theorem opd_sub : OpD K subD (rI0 fun i j => .int (i - j)) := by
  intro r0 h H x y v u W σ Q rh rx ry p
  unfold subD at p
  split at p
  · exact ⟨_, _, rv_int.mp rx, rv_int.mp ry, po_v rh (rv_int.mpr rfl) p⟩
  · exact p.elim
theorem e250 : (2 : Nat) ^ 250 = 1809251394333065553493296640760748560207343510400633813116524750123642650624 := by decide
theorem smal.abs {i : Int} (h : smal i) : i.natAbs < 2 ^ 250 := by rw [e250]; unfold smal at h; omega
def rMulAll : R2 := fun x y H Q => rI CMulW (fun i j => .int (i * j)) x y H Q ∨ rRep x y H Q
theorem op_mulAll : OpR X (binaryOp .Mult) rMulAll := op_mulW.or op_rep
theorem opd_mul (own : Bool) : OpD K (mulD own) rMulAll := by
  intro r0 h H x y v u W σ Q rh rx ry p
  unfold mulD at p
  split at p
  · split at p
    · rename_i hc
      exact .inl ⟨_, _, rv_int.mp rx, rv_int.mp ry, wide_mul hc.1.abs hc.2.abs (by decide) (by decide) (by decide), po_v rh (rv_int.mpr rfl) p⟩
    · exact p.elim
  · split at p
    · rename_i e1
      split at p
      · rename_i hc
        obtain ⟨a, vs, rfl, f1, q1⟩ := xsq_at rh rx e1
        have q2 : ∀ k : Nat, RVs K r0 H (List.replicate k _).flatten (List.replicate k vs).flatten := fun k => by
          induction k with
          | zero => exact .nil
          | succ k ih => rw [List.replicate_succ, List.replicate_succ, List.flatten_cons, List.flatten_cons]; exact q1.append ih
        obtain ⟨hl, k⟩ := po_mkL rh (q2 _) p
        exact .inr ⟨a, _, vs, rfl, rv_int.mp ry, f1, by omega, by omega, by rw [← q1.length]; exact line_le hc.2.2, k⟩
      · exact p.elim
    · exact p.elim
  · exact p.elim
theorem opd_fdiv : OpD K fdivD (rI CDivW fun i j => .int (i / j)) := by
  intro r0 h H x y v u W σ Q rh rx ry p
  unfold fdivD at p
  split at p
  · split at p
    · rename_i hc
      exact ⟨_, _, rv_int.mp rx, rv_int.mp ry, wide_div (b := 250) hc.1 (by omega) (by decide) (by decide), po_v rh (rv_int.mpr rfl) p⟩
    · exact p.elim
  · exact p.elim
theorem opd_mod : OpD K modD (rI (fun _ j => 0 < j) fun i j => .int (i % j)) := by
  intro r0 h H x y v u W σ Q rh rx ry p
  unfold modD at p
  split at p
  · split at p
    · rename_i hc
      exact ⟨_, _, rv_int.mp rx, rv_int.mp ry, hc, po_v rh (rv_int.mpr rfl) p⟩
    · exact p.elim
  · exact p.elim
theorem bits_250 {i : Int} (h : i.natAbs < 2 ^ 250) : (Builtin.Int.intBits i : Int) ≤ 250 := by
  exact Int.ofNat_le.mpr (intBits_le h)
theorem op_powW : OpR X (binaryOp .Pow) (rI (fun i j => smal i ∧ 0 ≤ j ∧ j ≤ 1000) fun i j => .int (i ^ j.toNat)) :=
  opI fun i j t u s Q E hc hq => pow_int hc.2.1 (by
    have h1 := bits_250 hc.1.abs
    have h2 : (Builtin.Int.intBits i : Int) * j ≤ 250 * 1000 := Int.mul_le_mul h1 hc.2.2 hc.2.1 (by decide)
    omega) hq
theorem opd_pow : OpD K powD (rI (fun i j => smal i ∧ 0 ≤ j ∧ j ≤ 1000) fun i j => .int (i ^ j.toNat)) := by
  intro r0 h H x y v u W σ Q rh rx ry p
  unfold powD at p
  split at p
  · split at p
    · rename_i hc
      exact ⟨_, _, rv_int.mp rx, rv_int.mp ry, hc, po_v rh (rv_int.mpr rfl) p⟩
    · exact p.elim
  · exact p.elim
theorem und_neg : UnD K negD (rU fun i => .int (-i)) := by
  intro r0 h H x v W σ Q rh rx p
  unfold negD at p
  split at p
  · exact ⟨_, rv_int.mp rx, po_v rh (rv_int.mpr rfl) p⟩
  · exact p.elim
def rLtAll (K : PySem.W.Frag) : R2 := fun x y H Q => rI0 (fun i j => .bl (decide (i < j))) x y H Q ∨ rLtT K x y H Q
theorem op_ltAll (hu : X.A.units < cLine) : OpR X (compareOp .Lt) (rLtAll X.K) := op_lt.or (op_ltT hu)
theorem opd_lt : OpD K ltD (rLtAll K) := by
  intro r0 h H x y v u W σ Q rh rx ry p
  unfold ltD at p
  split at p
  · exact .inl ⟨_, _, rv_int.mp rx, rv_int.mp ry, po_v rh (rv_bl.mpr rfl) p⟩
  · split at p
    · rename_i e1 e2
      obtain ⟨a, vs, rfl, f1, q1⟩ := tsq_at rx rfl
      obtain ⟨b, ws, rfl, f2, q2⟩ := tsq_at ry rfl
      rw [toI_map e1] at q1
      rw [toI_map e2] at q2
      obtain rfl := q1.of_ints
      obtain rfl := q2.of_ints
      exact .inr ⟨a, b, _, _, rfl, rfl, f1, f2, po_v rh (rv_bl.mpr rfl) p⟩
    · exact p.elim
  · exact p.elim
theorem opd_le : OpD K leD (rI0 fun i j => .bl (decide (i ≤ j))) := by
  intro r0 h H x y v u W σ Q rh rx ry p
  unfold leD at p
  split at p
  · exact ⟨_, _, rv_int.mp rx, rv_int.mp ry, po_v rh (rv_bl.mpr rfl) p⟩
  · exact p.elim
theorem opd_gt : OpD K gtD (rI0 fun i j => .bl (decide (j < i))) := by
  intro r0 h H x y v u W σ Q rh rx ry p
  unfold gtD at p
  split at p
  · exact ⟨_, _, rv_int.mp rx, rv_int.mp ry, po_v rh (rv_bl.mpr rfl) p⟩
  · exact p.elim
end
end Dt
namespace Dt
open PySem PySem.Spec PyProof.Rows L2
def mapO {α β : Type} (f : α → Option β) : List α → Option (List β)
  | [] => some []
  | a :: r => match f a, mapO f r with
    | some b, some s => some (b :: s)
    | _, _ => none
/-- as data, k within one another at most -/
def toP (h : DH) : Nat → D → Option PyData
  | 0, _ => none
  | k + 1, d => match d with
    | .non => some .none
    | .bl b => some (.bool b)
    | .int i => some (.int i)
    | .str x => some (.str x)
    | d => match tsq d with
      | some ds => (mapO (toP h k) ds).map .tuple
      | none => match lsq h d with
        | some ds => (mapO (toP h k) ds).map .list
        | none => none
def fl : D → Option V
  | .non => some .non
  | .bl b => some (.bl b)
  | .int i => some (.int i)
  | .str x => some (.str x)
  | _ => none
def eqB (x y : D) (h : DH) : Option Bool := match toP h 60 x, toP h 60 y with
  | some p, some q => if SeqAt.shaped p = true ∧ SeqAt.shaped q = true then some (PyData.eqv p q) else none
  | _, _ => none
def eqD (x y : D) (h : DH) : Rs D := match eqB x y h with
  | some b => .ok (.bl b) h
  | none => .bad
def neD (x y : D) (h : DH) : Rs D := match eqB x y h with
  | some b => .ok (.bl (!b)) h
  | none => .bad
def isB (x : D) : Option Bool := match x with
  | .non => some true
  | .con (.ref _) => some false
  | .con _ => none
  | _ => some false
def isD (x y : D) (h : DH) : Rs D := match y, isB x with
  | .non, some b => .ok (.bl b) h
  | _, _ => .bad
def isntD (x y : D) (h : DH) : Rs D := match y, isB x with
  | .non, some b => .ok (.bl (!b)) h
  | _, _ => .bad
def keyOf : D → Option Key
  | .int i => some (.inl i)
  | .str x => some (.inr x)
  | _ => none
/-- a dict's keys and values -/
def dkq (h : DH) : D → Option (List Key × List D)
  | .dk ks ds => some (ks, ds)
  | .ref n => match h[n]? with | some (.dk ks ds) => some (ks, ds) | _ => none
  | _ => none
def dtq (h : DH) : D → Option (List (List Key) × List D)
  | .dt ks ds => some (ks, ds)
  | .ref n => match h[n]? with | some (.dt ks ds) => some (ks, ds) | _ => none
  | _ => none
def lk {α : Type} [DecidableEq α] : List α → List D → α → Option D
  | k :: ks, d :: ds, x => if k = x then some d else lk ks ds x
  | _, _, _ => none
def tkey : D → Option (List Key)
  | .tup ds => mapO keyOf ds
  | _ => none
/-- what a dict tells of a key: none where it can't be asked so -/
def lkD (h : DH) (x y : D) : Option (Option D) := match dkq h x, keyOf y with
  | some (ks, ds), some k => some (lk ks ds k)
  | _, _ => match dtq h x, tkey y with
    | some (ks, ds), some k => some (lk ks ds k)
    | _, _ => none
/-- x in y -/
def inB (x y : D) (h : DH) : Option Bool := match x, y with
  | .str a, .str b => some (!(Builtin.Str.occurrences b a 0 b.length 1).isEmpty)
  | x, y => match lkD h y x with
    | some o => some o.isSome
    | none => match fl x, (sq h y).bind (mapO fl) with
      | some v, some vs => some (inV v vs)
      | _, _ => match toP h 60 x, toP h 60 y with
        | some p, some (.list q) => if SeqAt.shaped p = true ∧ SeqAt.shaped (.list q) = true then some (q.any fun z => PyData.eqv z p) else none
        | _, _ => none
def inD (x y : D) (h : DH) : Rs D := match inB x y h with
  | some b => .ok (.bl b) h
  | none => .bad
def ninD (x y : D) (h : DH) : Rs D := match inB x y h with
  | some b => .ok (.bl (!b)) h
  | none => .bad
/-- x[y] -/
def ixD (x y : D) (h : DH) : Rs D := match x, y with
  | .str z, .int i => if z.length ≤ 1000000 then (match atI z.cps.toList i with | some c => .ok (.str ⟨#[c]⟩) h | none => .bad) else .bad
  | x, y => match lkD h x y with
    | some (some d) => .ok d h
    | some none => .bad
    | none => match sq h x, y with
      | some ds, .int i => (match atI ds i with | some d => .ok d h | none => .bad)
      | _, _ => .bad
section
variable {X : Cx} {K : PySem.W.Frag} {r r0 : Rg} {h : DH} {H : Hp} {d x y : D} {v u : V} {W : WX} {σ : L2.St} {Q : VK} {ds : List D} {vs : List V}
theorem mapO_dp {f : D → Option PyData} (hf : ∀ d v p, f d = some p → RV K r H d v → Dp K H v p) : ∀ {ds : List D} {vs : List V} {ps : List PyData}, mapO f ds = some ps → RVs K r H ds vs → DpAll K H vs ps
  | [], vs, ps, e, q => by
    rw [q.inv0]
    simp [mapO] at e
    subst e
    exact .nil
  | d :: ds, vs, ps, e, q => by
    obtain ⟨v, t, rfl, a, b⟩ := q.inv
    unfold mapO at e
    split at e
    · rename_i e1 e2
      cases e
      exact .cons (hf _ _ _ e1 a) (mapO_dp hf e2 b)
    · cases e
theorem toP_dp (rh : RH K r h H) : ∀ {k : Nat} {d : D} {v : V} {p : PyData}, toP h k d = some p → RV K r H d v → Dp K H v p
  | 0, d, v, p, e, q => by simp [toP] at e
  | k + 1, d, v, p, e, q => by
    unfold toP at e
    split at e
    · cases e; rw [rv_non.mp q]; exact .non
    · cases e; rw [rv_bl.mp q]; exact .bl _
    · cases e; rw [rv_int.mp q]; exact .int _
    · cases e; rw [rv_str.mp q]; exact .str _
    · split at e
      · rename_i e1
        obtain ⟨a, vs, rfl, f, z⟩ := tsq_at q e1
        obtain ⟨ps, e2, rfl⟩ := Option.map_eq_some_iff.mp e
        exact .tup f (mapO_dp (fun d v p e q => toP_dp rh e q) e2 z)
      · split at e
        · rename_i e1
          obtain ⟨a, vs, rfl, f, z⟩ := lsq_at rh q e1
          obtain ⟨ps, e2, rfl⟩ := Option.map_eq_some_iff.mp e
          exact .lst f (mapO_dp (fun d v p e q => toP_dp rh e q) e2 z)
        · cases e
theorem fl_at {w : V} (e : fl d = some w) (q : RV K r H d v) : v = w ∧ flatV w = true := by
  unfold fl at e
  split at e
  · cases e; exact ⟨rv_non.mp q, rfl⟩
  · cases e; exact ⟨rv_bl.mp q, rfl⟩
  · cases e; exact ⟨rv_int.mp q, rfl⟩
  · cases e; exact ⟨rv_str.mp q, rfl⟩
  · cases e
theorem fls_at : ∀ {ds : List D} {vs ws : List V}, mapO fl ds = some ws → RVs K r H ds vs → vs = ws ∧ ws.all flatV = true
  | [], vs, ws, e, q => by
    simp [mapO] at e
    subst e
    exact ⟨q.inv0, rfl⟩
  | d :: ds, vs, ws, e, q => by
    obtain ⟨v, t, rfl, a, b⟩ := q.inv
    unfold mapO at e
    split at e
    · rename_i e1 e2
      cases e
      obtain ⟨rfl, f1⟩ := fl_at e1 a
      obtain ⟨rfl, f2⟩ := fls_at e2 b
      exact ⟨rfl, by rw [List.all_cons, f1, f2]; rfl⟩
    · cases e
theorem opd_eq : OpD K eqD (rEqD K) := by
  intro r0 h H x y v u W σ Q rh rx ry p
  unfold eqD eqB at p
  split at p
  · rename_i b e
    split at e
    · rename_i e1 e2
      split at e
      · rename_i hc
        cases e
        exact ⟨_, _, toP_dp rh e1 rx, toP_dp rh e2 ry, hc.1, hc.2, po_v rh (rv_bl.mpr rfl) p⟩
      · cases e
    · cases e
  · exact p.elim
theorem opd_ne : OpD K neD (rNeD K) := by
  intro r0 h H x y v u W σ Q rh rx ry p
  unfold neD eqB at p
  split at p
  · rename_i b e
    split at e
    · rename_i e1 e2
      split at e
      · rename_i hc
        cases e
        exact ⟨_, _, toP_dp rh e1 rx, toP_dp rh e2 ry, hc.1, hc.2, po_v rh (rv_bl.mpr rfl) p⟩
      · cases e
    · cases e
  · exact p.elim
theorem isB_at {b : Bool} (e : isB x = some b) (q : RV K r H x v) : decide (v = .non) = b := by
  cases x with
  | non => simp [isB] at e; subst e; rw [rv_non.mp q]; rfl
  | con c =>
    simp only [RV] at q
    subst q
    cases v <;> simp [isB] at e
    subst e; rfl
  | bl b => simp [isB] at e; subst e; rw [rv_bl.mp q]; rfl
  | int b => simp [isB] at e; subst e; rw [rv_int.mp q]; rfl
  | str b => simp [isB] at e; subst e; rw [rv_str.mp q]; rfl
  | tup _ => simp [isB] at e; subst e; simp only [RV] at q; obtain ⟨a, vs, rfl, _⟩ := q; rfl
  | wt _ => simp [isB] at e; subst e; simp only [RV] at q; obtain ⟨a, vs, rfl, _⟩ := q; rfl
  | lst _ => simp [isB] at e; subst e; simp only [RV] at q; obtain ⟨a, vs, rfl, _⟩ := q; rfl
  | scr _ => simp [isB] at e; subst e; simp only [RV] at q; obtain ⟨a, rfl, _⟩ := q; rfl
  | dk _ _ => simp [isB] at e; subst e; simp only [RV] at q; obtain ⟨a, vs, rfl, _⟩ := q; rfl
  | dt _ _ => simp [isB] at e; subst e; simp only [RV] at q; obtain ⟨a, vs, rfl, _⟩ := q; rfl
  | ref n => simp [isB] at e; subst e; simp only [RV] at q; obtain ⟨a, _, rfl⟩ := q; rfl
theorem opd_is : OpD K isD (fun x y H Q => y = .non ∧ Q (.bl (decide (x = .non))) H) := by
  intro r0 h H x y v u W σ Q rh rx ry p
  unfold isD at p
  split at p
  · rename_i e
    refine ⟨rv_non.mp ry, ?_⟩
    rw [isB_at e rx]
    exact po_v rh (rv_bl.mpr rfl) p
  · exact p.elim
theorem opd_isnt : OpD K isntD (fun x y H Q => y = .non ∧ Q (.bl (!decide (x = .non))) H) := by
  intro r0 h H x y v u W σ Q rh rx ry p
  unfold isntD at p
  split at p
  · rename_i e
    refine ⟨rv_non.mp ry, ?_⟩
    rw [isB_at e rx]
    exact po_v rh (rv_bl.mpr rfl) p
  · exact p.elim
theorem keyOf_at {k : Key} (e : keyOf d = some k) (q : RV K r H d v) : v = kV k := by
  unfold keyOf at e
  split at e
  · cases e; exact rv_int.mp q
  · cases e; exact rv_str.mp q
  · cases e
theorem keysOf_at : ∀ {ds : List D} {vs : List V} {ks : List Key}, mapO keyOf ds = some ks → RVs K r H ds vs → vs = ks.map kV
  | [], vs, ks, e, q => by simp [mapO] at e; subst e; exact q.inv0
  | d :: ds, vs, ks, e, q => by
    obtain ⟨v, t, rfl, a, b⟩ := q.inv
    unfold mapO at e
    split at e
    · rename_i e1 e2
      cases e
      rw [keyOf_at e1 a, keysOf_at e2 b]; rfl
    · cases e
def LkR (K : PySem.W.Frag) (r : Rg) (H : Hp) : Option D → Option V → Prop
  | some d, w => ∃ z, w = some z ∧ RV K r H d z
  | none, w => w = none
theorem LkR.isSome {o : Option D} {w : Option V} (z : LkR K r H o w) : w.isSome = o.isSome := by
  cases o with
  | none => rw [show w = none from z]; rfl
  | some d => obtain ⟨t, rfl, _⟩ := (show ∃ z, w = some z ∧ RV K r H d z from z); rfl
theorem lk_at {α : Type} [DecidableEq α] : ∀ {ks : List α} {ds : List D} {vs : List V} {k : α}, ks.length = vs.length → RVs K r H ds vs → LkR K r H (lk ks ds k) (valV (ks.zip vs) k)
  | [], ds, vs, k, l, q => by simp [lk, LkR, valV_nil]
  | k0 :: ks, [], vs, k, l, q => by rw [q.inv0] at l; simp at l
  | k0 :: ks, d :: ds, vs, k, l, q => by
    obtain ⟨v, t, rfl, a, b⟩ := q.inv
    rw [List.zip_cons_cons]
    unfold lk
    by_cases hk : k0 = k
    · rw [if_pos hk]
      exact ⟨v, valV_pos hk, a⟩
    · rw [if_neg hk, valV_neg hk]
      exact lk_at (by simpa using l) b
theorem dkq_at {ks : List Key} (rh : RH K r h H) (rv : RV K r H d v) (e : dkq h d = some (ks, ds)) : ∃ a vs, v = .ref a ∧ Rd H a (.dK (ks.zip vs)) ∧ ks.length = vs.length ∧ RVs K r H ds vs := by
  unfold dkq at e
  split at e
  · simp only [RV] at rv
    obtain ⟨a, vs, rfl, f, n, l, q⟩ := rv
    cases e
    exact ⟨a, vs, rfl, f, l, q⟩
  · split at e
    · rename_i e2
      cases e
      simp only [RV] at rv
      obtain ⟨a, ha, rfl⟩ := rv
      obtain ⟨vs, p, l, q⟩ := rh.at_ _ a _ ha e2
      exact ⟨a, vs, rfl, .inl p, l, q⟩
    · cases e
  · cases e
theorem dtq_at {ks : List (List Key)} (rh : RH K r h H) (rv : RV K r H d v) (e : dtq h d = some (ks, ds)) : ∃ a vs, v = .ref a ∧ Rd H a (.dT (ks.zip vs)) ∧ ks.length = vs.length ∧ RVs K r H ds vs := by
  unfold dtq at e
  split at e
  · simp only [RV] at rv
    obtain ⟨a, vs, rfl, f, n, l, q⟩ := rv
    cases e
    exact ⟨a, vs, rfl, f, l, q⟩
  · split at e
    · rename_i e2
      cases e
      simp only [RV] at rv
      obtain ⟨a, ha, rfl⟩ := rv
      obtain ⟨vs, p, l, q⟩ := rh.at_ _ a _ ha e2
      exact ⟨a, vs, rfl, .inl p, l, q⟩
    · cases e
  · cases e
theorem lkD_at {o : Option D} (rh : RH K r h H) (rx : RV K r H x v) (ry : RV K r H y u) (e : lkD h x y = some o) :
    ∃ a w, v = .ref a ∧ DGet H a u w ∧ LkR K r H o w := by
  unfold lkD at e
  split at e
  · rename_i ks ds k e1 e2
    cases e
    obtain ⟨a, vs, rfl, f, l, q⟩ := dkq_at rh rx e1
    obtain rfl := keyOf_at e2 ry
    have z := lk_at (k := k) l q
    exact ⟨a, valV (ks.zip vs) k, rfl, .inl ⟨_, _, f, rfl, rfl⟩, z⟩
  · split at e
    · rename_i ks ds k e1 e2
      cases e
      obtain ⟨a, vs, rfl, f, l, q⟩ := dtq_at rh rx e1
      unfold tkey at e2
      split at e2
      · simp only [RV] at ry
        obtain ⟨b, ws, rfl, g, q2⟩ := ry
        obtain rfl := keysOf_at e2 q2
        have z := lk_at (k := k) l q
        exact ⟨a, valV (ks.zip vs) k, rfl, .inr ⟨_, _, b, f, rfl, g.1, rfl⟩, z⟩
      · cases e2
    · cases e
/-- d[k] by values -/
def rIxDct : R2 := fun x y H Q => ∃ a v, x = .ref a ∧ DGet H a y (some v) ∧ Q v H
theorem ix_dct (hu : X.A.units + 1 < cLine) : IxR X rIxDct := by
  intro value slice pins s σ H x y v u Q I rx ry h hs
  obtain ⟨a, z, rfl, g, q⟩ := h
  obtain rfl : v = Value.ref a := rx
  have hT := dict_typeIs I g
  unfold subscriptTail
  refine wpAny_bind ?_
  rw [getitemInPython_of_ne hT.not_modules]
  refine wpAny_bind (wpAny_specialOf hT PySem.F.slot_dict_getitem.lookup ?_)
  have fin : wpAny (model X.prog X.w) X.A (subscripted slice false (.ref a) u) (fun r s₃ => wpAny (model X.prog X.w) X.A (letTemporaryGo value (.ref a) r >>= fun _ => pure r) (EP X pins σ Q) X.xe s₃) X.xe s := by
    rw [hs]
    exact wpAny_operating (wpAny_mono (d_getItem hu I g ry fun w' s3 I3 rw' => (⟨z, H, I3, rw', q⟩ : EP X pins σ Q w' s3)) (fun r s₃ h₃ => wpAny_bind (wpAny_letTemporaryGo (wpAny_pure h₃))) fun _ _ x => x)
  first
    | exact wpAny_pure (wpAny_bind fin)
    | exact wpAny_bind (wpAny_pure (wpAny_bind fin))
    | exact wpAny_bind fin
def rIxAll (K : PySem.W.Frag) : R2 := fun x y H Q => rIx K x y H Q ∨ rIxDct x y H Q
theorem ix_all (hu : X.A.units + 1 < cLine) : IxR X (rIxAll X.K) := ix_seq.or (ix_dct hu)
theorem atI_rel {i : Int} (q : RVs K r H ds vs) (e : atI ds i = some d) : ∃ v, atI vs i = some v ∧ RV K r H d v := by
  unfold atI at e ⊢
  rw [← q.length]
  cases hh : ixN ds.length i with
  | none => rw [hh] at e; cases e
  | some j =>
    rw [hh] at e
    exact q.get e
theorem opd_ix : OpD K ixD (rIxAll K) := by
  intro r0 h H x y v u W σ Q rh rx ry p
  unfold ixD at p
  split at p
  · split at p
    · rename_i hl
      split at p
      · rename_i e
        exact .inl (.inr (.inr ⟨_, _, _, rv_str.mp rx, rv_int.mp ry, line_le hl, e, po_v rh (rv_str.mpr rfl) p⟩))
      · exact p.elim
    · exact p.elim
  · split at p
    · rename_i e
      obtain ⟨a, w, rfl, g, z, rfl, rz⟩ := lkD_at rh rx ry e
      exact .inr ⟨a, z, rfl, g, po_v rh rz p⟩
    · exact p.elim
    · split at p
      · rename_i e1 _ _
        split at p
        · rename_i e2
          obtain ⟨a, vs, rfl, f, q⟩ := sq_at rh rx (by assumption)
          obtain ⟨z, e3, rz⟩ := atI_rel q e2
          rcases f with f | f
          · exact .inl (.inl ⟨a, vs, _, z, rfl, rv_int.mp ry, f, e3, po_v rh rz p⟩)
          · exact .inl (.inr (.inl ⟨a, vs, _, z, rfl, rv_int.mp ry, f, e3, po_v rh rz p⟩))
        · exact p.elim
      · exact p.elim
theorem de_ix {a b : Expr} {fa fb : EF} {pos : Pos} (hu : X.A.units + 1 < cLine) (ha : PE X a (tE X.K W fa)) (hb : PE X b (tE X.K W fb)) (hs : PlainIx b) : PE X (.Subscript a b pos) (tE X.K W (o2 ixD fa fb)) :=
  PE.imp (pe_ix (ix_all hu) ha hb hs) fun _ _ _ p => tOp_of opd_ix p
def rInAll (K : PySem.W.Frag) : R2 := fun x y H Q => (∃ i j, x = .str i ∧ y = .str j ∧ Q (.bl (!(Builtin.Str.occurrences j i 0 j.length 1).isEmpty)) H) ∨
  ((∃ a o, y = .ref a ∧ DGet H a x o ∧ Q (.bl o.isSome) H) ∨ (rIn K false x y H Q ∨ rInD K x y H Q))
def rNinAll (K : PySem.W.Frag) : R2 := fun x y H Q => (∃ i j, x = .str i ∧ y = .str j ∧ Q (.bl (!(!(Builtin.Str.occurrences j i 0 j.length 1).isEmpty))) H) ∨
  ((∃ a o, y = .ref a ∧ DGet H a x o ∧ Q (.bl (!o.isSome)) H) ∨ (rIn K true x y H Q ∨ rNotInD K x y H Q))
theorem op_inDct (hu : X.A.units + 1 < cLine) : OpR X (compareOp .In) (fun x y H Q => ∃ a o, y = .ref a ∧ DGet H a x o ∧ Q (.bl o.isSome) H) := by
  intro pins s σ H x y v u Q I rx ry h
  obtain ⟨a, o, rfl, g, q⟩ := h
  obtain rfl : u = Value.ref a := ry
  exact d_in hu I g rx fun s3 I3 => ⟨.bl o.isSome, H, I3, rfl, q⟩
theorem op_ninDct (hu : X.A.units + 1 < cLine) : OpR X (compareOp .NotIn) (fun x y H Q => ∃ a o, y = .ref a ∧ DGet H a x o ∧ Q (.bl (!o.isSome)) H) := by
  intro pins s σ H x y v u Q I rx ry h
  obtain ⟨a, o, rfl, g, q⟩ := h
  obtain rfl : u = Value.ref a := ry
  exact d_notIn hu I g rx fun s3 I3 => ⟨.bl (!o.isSome), H, I3, rfl, q⟩
theorem op_inAll (hu : X.A.units + 65 < cLine) : OpR X (compareOp .In) (rInAll X.K) := op_in_str.or ((op_inDct (by omega)).or (op_in_seq.or (op_inD hu)))
theorem op_ninAll (hu : X.A.units + 65 < cLine) : OpR X (compareOp .NotIn) (rNinAll X.K) := op_notin_str.or ((op_ninDct (by omega)).or (op_notIn_seq.or (op_notInD hu)))
theorem opd_in : OpD K inD (rInAll K) := by
  intro r0 h H x y v u W σ Q rh rx ry p
  unfold inD inB at p
  split at p
  · rename_i b e
    split at e
    · cases e
      exact .inl ⟨_, _, rv_str.mp rx, rv_str.mp ry, po_v rh (rv_bl.mpr rfl) p⟩
    · split at e
      · rename_i o e1
        cases e
        obtain ⟨a, w, rfl, g, z⟩ := lkD_at rh ry rx e1
        refine .inr (.inl ⟨a, w, rfl, g, ?_⟩)
        rw [z.isSome]
        exact po_v rh (rv_bl.mpr rfl) p
      · split at e
        · rename_i e1 e2
          cases e
          obtain ⟨ds, e3, e4⟩ := Option.bind_eq_some_iff.mp e2
          obtain ⟨a, vs, rfl, f, q⟩ := sq_at rh ry e3
          obtain ⟨rfl, f1⟩ := fl_at e1 rx
          obtain ⟨rfl, f2⟩ := fls_at e4 q
          exact .inr (.inr (.inl ⟨a, _, rfl, f, f1, f2, po_v rh (rv_bl.mpr rfl) p⟩))
        · split at e
          · rename_i e1 e2
            split at e
            · rename_i hc
              cases e
              exact .inr (.inr (.inr ⟨_, _, toP_dp rh e1 rx, toP_dp rh e2 ry, hc.1, hc.2, po_v rh (rv_bl.mpr rfl) p⟩))
            · cases e
          · cases e
  · exact p.elim
theorem opd_nin : OpD K ninD (rNinAll K) := by
  intro r0 h H x y v u W σ Q rh rx ry p
  unfold ninD inB at p
  split at p
  · rename_i b e
    split at e
    · cases e
      exact .inl ⟨_, _, rv_str.mp rx, rv_str.mp ry, po_v rh (rv_bl.mpr rfl) p⟩
    · split at e
      · rename_i o e1
        cases e
        obtain ⟨a, w, rfl, g, z⟩ := lkD_at rh ry rx e1
        refine .inr (.inl ⟨a, w, rfl, g, ?_⟩)
        rw [z.isSome]
        exact po_v rh (rv_bl.mpr rfl) p
      · split at e
        · rename_i e1 e2
          cases e
          obtain ⟨ds, e3, e4⟩ := Option.bind_eq_some_iff.mp e2
          obtain ⟨a, vs, rfl, f, q⟩ := sq_at rh ry e3
          obtain ⟨rfl, f1⟩ := fl_at e1 rx
          obtain ⟨rfl, f2⟩ := fls_at e4 q
          exact .inr (.inr (.inl ⟨a, _, rfl, f, f1, f2, po_v rh (rv_bl.mpr rfl) p⟩))
        · split at e
          · rename_i e1 e2
            split at e
            · rename_i hc
              cases e
              exact .inr (.inr (.inr ⟨_, _, toP_dp rh e1 rx, toP_dp rh e2 ry, hc.1, hc.2, po_v rh (rv_bl.mpr rfl) p⟩))
            · cases e
          · cases e
  · exact p.elim
end
end Dt
namespace Dt
open PySem PySem.Spec PyProof.Rows L2
section
variable {X : Cx} {W : WX} {x id T : Str} {e o : Expr} {es : List Expr} {p pos apos : Pos} {as : AF} {fo : EF} {g : List D → DH → Rs D} {gm : D → List D → DH → Rs D} {r : List V → Hp → VK → Prop} {rm : V → List V → Hp → VK → Prop}
theorem tCB_of (hg : CallD X.K g r) {σ : L2.St} {H : Hp} {Q : VK} (p : tE X.K W (oA g as) σ H Q) : tCB r (tA X.K W as) σ H Q :=
  tG.first (R := RVs X.K) (f := as) (g := fun a _ h1 => g a h1) p fun r0 env h1 x v H1 rh rs rx p1 => hg r0 h1 H1 x v W σ Q rh rx p1
theorem de_callB {id : String} (hc : CallR X (.builtin id) r) (hg : CallD X.K g r) (hgx : Gl X x) (hm : X.mg x = none) (hv : bootBuiltins x = some (.builtin id)) (ha : PA X (e :: es) (tA X.K W as)) (hn : x ≠ "__name__" := by decide) (hdb : (x == ("__debug__" : Str)) = false := by decide)
    (he : starEach (e :: es) X.env = (false, eval e X.env) :: starEach es X.env := by rfl) (hpl : (backTo pos (starEach es X.env)).any (·.1) = false := by rfl) : PE X (.Call (.Name x p) (e :: es) [] pos) (tE X.K W (oA g as)) :=
  PE.imp (pe_callB hc hgx hm hv ha hn hdb he hpl) fun _ _ _ q => tCB_of hg q
theorem de_callTy {T : String} (hc : CallR X (.type T) r) (hg : CallD X.K g r) (hgx : Gl X x) (hm : X.mg x = none) (hv : bootBuiltins x = some (.type T)) (ha : PA X (e :: es) (tA X.K W as)) (hn : x ≠ "__name__" := by decide) (hdb : (x == ("__debug__" : Str)) = false := by decide)
    (he : starEach (e :: es) X.env = (false, eval e X.env) :: starEach es X.env := by rfl) (hpl : (backTo pos (starEach es X.env)).any (·.1) = false := by rfl) : PE X (.Call (.Name x p) (e :: es) [] pos) (tE X.K W (oA g as)) :=
  PE.imp (pe_callTy hc hgx hm hv ha hn hdb he hpl) fun _ _ _ q => tCB_of hg q
end
def lenD (xs : List D) (h : DH) : Rs D := match xs with
  | [.str z] => if z.length ≤ 1000000 then .ok (.int z.length) h else .bad
  | [x] => match sq h x with
    | some ds => .ok (.int ds.length) h
    | none => match dkq h x with
      | some (ks, _) => if ks.length ≤ 1000000 then .ok (.int ks.length) h else .bad
      | none => .bad
  | _ => .bad
def listD (own : Bool) (xs : List D) (h : DH) : Rs D := match xs with
  | [x] => match sq h x with
    | some ds => mkL own ds h
    | none => .bad
  | _ => .bad
def tupleD (xs : List D) (h : DH) : Rs D := match xs with
  | [.tup ds] => .ok (.tup ds) h
  | [x] => match lsq h x with
    | some ds => mkT ds h
    | none => .bad
  | _ => .bad
def max2D (xs : List D) (h : DH) : Rs D := match xs with
  | [.int i, .int j] => .ok (.int (max i j)) h
  | _ => .bad
def min2D (xs : List D) (h : DH) : Rs D := match xs with
  | [.int i, .int j] => .ok (.int (min i j)) h
  | _ => .bad
def maxL : List Int → Int
  | [] => 0
  | n :: ns => ns.foldl max n
def minL : List Int → Int
  | [] => 0
  | n :: ns => ns.foldl min n
def allD (xs : List D) (h : DH) : Rs D := match xs with
  | [x] => match (lsq h x).bind toB with
    | some ns => .ok (.bl (ns.all id)) h
    | none => .bad
  | _ => .bad
def intD (xs : List D) (h : DH) : Rs D := match xs with
  | [.int i] => .ok (.int i) h
  | [.bl k] => .ok (.int (if k = true then 1 else 0)) h
  | [.str a] => (match PySem.intText? a with | some n => if a.length ≤ 640 then .ok (.int n) h else .bad | none => .bad)
  | _ => .bad
section
variable {X : Cx} {K : PySem.W.Frag} {r r0 : Rg} {h : DH} {H : Hp} {d x y : D} {v u : V} {W : WX} {σ : L2.St} {Q : VK} {ds : List D} {vs : List V}
theorem RVs.inv1 (q : RVs K r H [d] vs) : ∃ v, vs = [v] ∧ RV K r H d v := by
  obtain ⟨v, t, rfl, a, b⟩ := q.inv
  rw [b.inv0]
  exact ⟨v, rfl, a⟩
theorem RVs.inv2 (q : RVs K r H [x, y] vs) : ∃ v u, vs = [v, u] ∧ RV K r H x v ∧ RV K r H y u := by
  obtain ⟨v, t, rfl, a, b⟩ := q.inv
  obtain ⟨u, rfl, c⟩ := b.inv1
  exact ⟨v, u, rfl, a, c⟩
def rLenAll (K : PySem.W.Frag) : List V → Hp → VK → Prop := fun xs H Q => (∃ p ys, xs = [.ref p] ∧ (SqL K H p ys ∨ SqT K H p ys) ∧ Q (.int ys.length) H) ∨ ((∃ z, xs = [.str z] ∧ z.length ≤ sizeLine ∧ Q (.int z.length) H) ∨
  ∃ a kvs, xs = [.ref a] ∧ Rd H a (.dK kvs) ∧ kvs.length ≤ 1000000 ∧ Q (.int kvs.length) H)
theorem call_len_dk : CallR X (.builtin "len") (fun xs H Q => ∃ a kvs, xs = [.ref a] ∧ Rd H a (.dK kvs) ∧ kvs.length ≤ 1000000 ∧ Q (.int kvs.length) H) := by
  intro pins s σ H xs us Q I rv ⟨a, kvs, e, f, _, q⟩
  subst e
  obtain ⟨u, rfl, ru⟩ := vals1 rv
  obtain rfl : u = Value.ref a := ru
  exact d_len I f fun t s2 I2 => ⟨.int kvs.length, H, I2, ⟨t, rfl⟩, q⟩
theorem call_lenAll : CallR X (.builtin "len") (rLenAll X.K) := call_len_seq.or (call_len_str.or call_len_dk)
theorem cd_len : CallD K lenD (rLenAll K) := by
  intro r0 h H xs vs W σ Q rh rx p
  unfold lenD at p
  split at p
  · split at p
    · rename_i hl
      obtain ⟨v, rfl, rv⟩ := rx.inv1
      exact .inr (.inl ⟨_, by rw [rv_str.mp rv], line_le hl, po_v rh (rv_int.mpr rfl) p⟩)
    · exact p.elim
  · obtain ⟨v, rfl, rv⟩ := rx.inv1
    split at p
    · rename_i e
      obtain ⟨a, ys, rfl, f, q⟩ := sq_at rh rv e
      refine .inl ⟨a, ys, rfl, f, ?_⟩
      rw [← q.length]
      exact po_v rh (rv_int.mpr rfl) p
    · split at p
      · rename_i e
        split at p
        · rename_i hl
          obtain ⟨a, ys, rfl, f, l, q⟩ := dkq_at rh rv e
          refine .inr (.inr ⟨a, _, rfl, f, ?_, ?_⟩)
          · rw [List.length_zip, ← l, Nat.min_self]; exact hl
          · rw [List.length_zip, ← l, Nat.min_self]
            exact po_v rh (rv_int.mpr rfl) p
        · exact p.elim
      · exact p.elim
  · exact p.elim
theorem cd_list (own : Bool) : CallD K (listD own) (fun xs H Q => ∃ p ys, xs = [.ref p] ∧ (SqL K H p ys ∨ SqT K H p ys) ∧ ∀ l, H l = none → Q (.ref l) (upd H l (.lst ys))) := by
  intro r0 h H xs vs W σ Q rh rx p
  unfold listD at p
  split at p
  · obtain ⟨v, rfl, rv⟩ := rx.inv1
    split at p
    · rename_i e
      obtain ⟨a, ys, rfl, f, q⟩ := sq_at rh rv e
      exact ⟨a, ys, rfl, f, (po_mkL rh q p).2⟩
    · exact p.elim
  · exact p.elim
theorem cd_tuple : CallD K tupleD (fun xs H Q => ∃ p ys, xs = [.ref p] ∧ ((SqL K H p ys ∧ ∀ l, H l = none → Q (.ref l) (upd H l (.tup ys))) ∨ (SqT K H p ys ∧ Q (.ref p) H))) := by
  intro r0 h H xs vs W σ Q rh rx p
  unfold tupleD at p
  split at p
  · obtain ⟨v, rfl, rv⟩ := rx.inv1
    obtain ⟨a, ys, rfl, f, q⟩ := tsq_at rv rfl
    exact ⟨a, ys, rfl, .inr ⟨f, po_v rh rv p⟩⟩
  · obtain ⟨v, rfl, rv⟩ := rx.inv1
    split at p
    · rename_i e
      obtain ⟨a, ys, rfl, f, q⟩ := lsq_at rh rv e
      exact ⟨a, ys, rfl, .inl ⟨f, (po_mkT rh q p).2⟩⟩
    · exact p.elim
  · exact p.elim
theorem cd_max2 : CallD K max2D (fun xs H Q => ∃ i j, xs = [.int i, .int j] ∧ Q (.int (if j > i then j else i)) H) := by
  intro r0 h H xs vs W σ Q rh rx p
  unfold max2D at p
  split at p
  · rename_i i j
    obtain ⟨v, u, rfl, rv, ru⟩ := rx.inv2
    refine ⟨i, j, by rw [rv_int.mp rv, rv_int.mp ru], ?_⟩
    have e : (if j > i then j else i) = max i j := by split <;> omega
    rw [e]
    exact po_v rh (rv_int.mpr rfl) p
  · exact p.elim
theorem cd_min2 : CallD K min2D (fun xs H Q => ∃ i j, xs = [.int i, .int j] ∧ Q (.int (if j < i then j else i)) H) := by
  intro r0 h H xs vs W σ Q rh rx p
  unfold min2D at p
  split at p
  · rename_i i j
    obtain ⟨v, u, rfl, rv, ru⟩ := rx.inv2
    refine ⟨i, j, by rw [rv_int.mp rv, rv_int.mp ru], ?_⟩
    have e : (if j < i then j else i) = min i j := by split <;> omega
    rw [e]
    exact po_v rh (rv_int.mpr rfl) p
  · exact p.elim
theorem ints_at {x : D} {v : V} {ns : List Int} (rh : RH K r h H) (rv : RV K r H x v) (e : (lsq h x).bind toI = some ns) : ∃ a, v = .ref a ∧ SqL K H a (ns.map V.int) := by
  obtain ⟨ds, e1, e2⟩ := Option.bind_eq_some_iff.mp e
  obtain ⟨a, vs, rfl, f, q⟩ := lsq_at rh rv e1
  rw [toI_map e2] at q
  obtain rfl := q.of_ints
  exact ⟨a, rfl, f⟩
theorem bls_at {x : D} {v : V} {ns : List Bool} (rh : RH K r h H) (rv : RV K r H x v) (e : (lsq h x).bind toB = some ns) : ∃ a, v = .ref a ∧ SqL K H a (ns.map V.bl) := by
  obtain ⟨ds, e1, e2⟩ := Option.bind_eq_some_iff.mp e
  obtain ⟨a, vs, rfl, f, q⟩ := lsq_at rh rv e1
  rw [toB_map e2] at q
  obtain rfl := q.of_bls
  exact ⟨a, rfl, f⟩
theorem cd_all : CallD K allD (rAll K) := by
  intro r0 h H xs vs W σ Q rh rx p
  unfold allD at p
  split at p
  · obtain ⟨v, rfl, rv⟩ := rx.inv1
    split at p
    · rename_i e
      obtain ⟨a, rfl, f⟩ := bls_at rh rv e
      exact ⟨a, _, rfl, f, po_v rh (rv_bl.mpr rfl) p⟩
    · exact p.elim
  · exact p.elim
def rIntAll : List V → Hp → VK → Prop := fun xs H Q => ((∃ i, xs = [.int i] ∧ Q (.int i) H) ∨ ∃ k, xs = [.bl k] ∧ Q (.int (if k then 1 else 0)) H) ∨ (∃ a n, xs = [.str a] ∧ PySem.intText? a = some n ∧ a.length ≤ 640 ∧ Q (.int n) H)
theorem call_intAll : CallR X (.type "int") rIntAll := call_int1.or call_int_str
theorem cd_int : CallD K intD rIntAll := by
  intro r0 h H xs vs W σ Q rh rx p
  unfold intD at p
  split at p
  · obtain ⟨v, rfl, rv⟩ := rx.inv1
    exact .inl (.inl ⟨_, by rw [rv_int.mp rv], po_v rh (rv_int.mpr rfl) p⟩)
  · obtain ⟨v, rfl, rv⟩ := rx.inv1
    exact .inl (.inr ⟨_, by rw [rv_bl.mp rv], po_v rh (rv_int.mpr rfl) p⟩)
  · split at p
    · rename_i e
      split at p
      · rename_i hl
        obtain ⟨v, rfl, rv⟩ := rx.inv1
        exact .inr ⟨_, _, by rw [rv_str.mp rv], e, hl, po_v rh (rv_int.mpr rfl) p⟩
      · exact p.elim
    · exact p.elim
  · exact p.elim
end
def encD (h : DH) (d : D) : PyData := (toP h 60 d).getD .none
open Classical in
noncomputable def sortD (own : Bool) (xs : List D) (h : DH) : Rs D := match xs with
  | [x] => match sq h x with
    | some ds => if (∀ d ∈ ds, (toP h 60 d).isSome = true) ∧ (∀ d ∈ ds, (encD h d).depth ≤ 64) ∧ PySem.W.AllAlike (ds.map (encD h)) ∧ PySem.W.Sortable (ds.map (encD h)) then mkL own (ds.mergeSort (PySem.W.dataLe false (encD h))) h else .bad
    | none => .bad
  | _ => .bad
def rSortedD (K : PySem.W.Frag) : List V → Hp → VK → Prop := fun vs H Q => ∃ (a : Addr) (ys : List V) (ps : List PyData), vs = [V.ref a] ∧ (SqL K H a ys ∨ SqT K H a ys) ∧ DpAll K H ys ps ∧ (∀ p ∈ ps, p.depth ≤ 64) ∧ PySem.W.AllAlike ps ∧ PySem.W.Sortable ps ∧
  ∀ q, H q = none → Q (.ref q) (upd H q (.lst (((ys.zip ps).mergeSort (PySem.W.dataLe false Prod.snd)).map Prod.fst)))
section
variable {X : Cx} {K : PySem.W.Frag} {r : Rg} {h : DH} {H : Hp} {d : D} {v : V} {W : WX} {σ : L2.St} {Q : VK} {ds : List D} {vs : List V}
theorem dpAll_len : ∀ {vs : List V} {ps : List PyData}, DpAll K H vs ps → vs.length = ps.length
  | _, _, .nil => rfl
  | _, _, .cons _ t => congrArg (· + 1) (dpAll_len t)
theorem each_of {pins : List (Addr × Obj)} {s : Shared} (I : Inv X pins σ H s) : ∀ {vs : List V} {ps : List PyData} {us : List Value}, DpAll X.K H vs ps → Vals vs us →
    PySem.W.EachIs (fun u (b : V × PyData) => RelV b.1 u) us (vs.zip ps) ∧ PySem.W.EachIs (fun u (b : V × PyData) => ∃ as, Reads s.heap u b.2 as) us (vs.zip ps)
  | _, _, _, .nil, .nil => ⟨.nil, .nil⟩
  | _, _, _, .cons a t, .cons b q => by
    obtain ⟨e1, e2⟩ := each_of I t q
    exact ⟨.cons b e1, .cons (Dp.reads I _ _ _ a b) e2⟩
theorem vals_each : ∀ {us : List Value} {bs : List (V × PyData)}, PySem.W.EachIs (fun u (b : V × PyData) => RelV b.1 u) us bs → Vals (bs.map Prod.fst) us
  | _, _, .nil => .nil
  | _, _, .cons a t => .cons a (vals_each t)
/-- sorted of a tuple's items -/
theorem sorted_ofTup {prog : Program} {w : World} {A : Around} {E : Value → Shared → Prop} {s : Shared} {β : Type} {R : Value → β → Prop} {enc : β → PyData} {vs : List Value} {bs : List β} {l : Addr} {Q : Value → Shared → Prop} (ht : s.heap.IsTuple l vs.toArray)
    (e : PySem.W.EachIs R vs bs) (er : PySem.W.EachIs (fun v b => ∃ as, Reads s.heap v (enc b) as) vs bs) (hal : PySem.W.AllAlike (bs.map enc)) (hk : PySem.W.Sortable (bs.map enc)) (hL : bs.length ≤ sizeLine) (hu : ∀ b, b ∈ bs → A.units + 2 + (enc b).depth < cLine)
    (h : ∀ (h1 h' : Heap) (out : List Value) (c : Nat), (∀ b o, s.heap.get? b = some o → h1.get? b = some o) → (∀ b o, h1.get? b = some o → h'.get? b = some o) → h'.get? h1.objs.size = some (seqObj "list" out.toArray c) → out.length = bs.length → PySem.W.EachIs R out (bs.mergeSort (PySem.W.dataLe false enc)) → Q (.ref h1.objs.size) { s with heap := h' }) :
    wpAny (model prog w) A (call (.builtin "sorted") [.ref l]) Q E s := by
  obtain ⟨o, ho, hc, n, hd⟩ := ht
  have hZ : vs.length ≤ sizeLine := by rw [e.length]; exact hL
  refine call_function_entry_kw kind_sorted plain_sorted entry_sorted (args_sorted1 _) ?_
  unfold Builtin.«sorted»
  refine wpAny_bind (m := checkCount "sorted" 1 1 _) (wpAny_pure ?_)
  refine wpAny_bind (wpAny_collect_seq l (.inr rfl) ho hc hd (fun h1 k1 => ?_) (by simpa using hZ))
  have ev : vs.toArray.toList = vs := List.toList_toArray
  rw [ev]
  refine wpAny_bind (wpAny_newList ?_ hZ)
  have at2 : (h1.push (seqObj "list" vs.toArray 0)).get? h1.objs.size = some (seqObj "list" vs.toArray 0) := Heap.get?_push_size _ rfl
  have old2 : ∀ b o, s.heap.get? b = some o → (h1.push (seqObj "list" vs.toArray 0)).get? b = some o := fun b o q => Heap.get?_push_of_some _ (k1 b o q)
  have lt1 : ∀ b o, s.heap.get? b = some o → b ≠ h1.objs.size := fun b o q => Nat.ne_of_lt (Heap.lt_size (k1 b o q))
  have er' : PySem.W.EachIs (fun v b => ∃ as, Reads (PySem.W.sortingHeap (h1.push (seqObj "list" vs.toArray 0)) h1.objs.size vs) v (enc b) as) vs bs :=
    er.mono fun _ _ ⟨as, r⟩ => ⟨as, PyProof.Rows.Reads.keeps (fun b o q => PySem.W.sortingHeap_old (lt1 b o q) (old2 b o q)) r⟩
  refine wpAny_bind (wpAny_holding (wpAny_call_entry_kw slot_list_sort ⟨_, at2, rfl⟩ entry_list_sort ?body (args_list_sort _)))
  case body =>
    refine PySem.W.list_sort_vals (s := { s with heap := h1.push (seqObj "list" vs.toArray 0) }) (κ := PySem.W.dataKind (PySem.W.sortingHeap (h1.push (seqObj "list" vs.toArray 0)) h1.objs.size vs) (bs.map enc)) at2
      (PySem.W.SortsAt.data (s := { s with heap := PySem.W.sortingHeap (h1.push (seqObj "list" vs.toArray 0)) h1.objs.size vs }) (PySem.W.each_map (R := fun v d => ∃ as, Reads (PySem.W.sortingHeap (h1.push (seqObj "list" vs.toArray 0)) h1.objs.size vs) v d as) enc er') hal hk (PySem.W.bound_map hu)) hZ ⟨.none, rfl, ?_⟩
    obtain ⟨c, hc2⟩ := sortedHeap_at (out := (PySem.W.sortVals (PySem.W.dataKind (PySem.W.sortingHeap (h1.push (seqObj "list" vs.toArray 0)) h1.objs.size vs) (bs.map enc)) false vs vs).toArray) at2
    refine wpAny_pure ⟨_, rfl, h h1 _ _ c k1 (fun b o q => ?_) hc2 (by rw [PySem.W.sortVals_length false rfl]; exact e.length) (PySem.W.sortVals_data false e er' hal)⟩
    have q2 : (h1.push (seqObj "list" vs.toArray 0)).get? b = some o := Heap.get?_push_of_some _ q
    rw [sortedHeap_old (Nat.ne_of_lt (Heap.lt_size q)) (Heap.lt_size q2)]
    exact q2
theorem call_sortedD (hu : X.A.units + 68 < cLine) : CallR X (.builtin "sorted") (rSortedD X.K) := by
  intro pins s σ H vs us Q I rv hyp
  obtain ⟨a, ys, ps, rfl, hS, hD, hdep, hal, hso, q⟩ := hyp
  have hlen := dpAll_len hD
  have hm2 : (ys.zip ps).map Prod.snd = ps := List.map_snd_zip (by omega)
  have hdp : ∀ b ∈ ys.zip ps, X.A.units + 2 + b.2.depth < cLine := fun b hb => by
    have h1 : b.2 ∈ ps := by rw [← hm2]; exact List.mem_map_of_mem hb
    have h2 := hdep _ h1
    omega
  obtain ⟨u, rfl, ru⟩ := vals1 rv
  cases (show u = Value.ref a from ru)
  rcases hS with hS | hS
  · obtain ⟨its, rv2, hl, hz⟩ := I.list hS
    obtain ⟨e1, e2⟩ := each_of I hD rv2
    refine PySem.W.sorted_data (enc := Prod.snd) hl.isList e1 e2 (by rw [hm2]; exact hal) (by rw [hm2]; exact hso) (by rw [List.length_zip]; omega) hdp fun out ho eo => ?_
    obtain ⟨ep, he⟩ := PyProof.Rows.sortedAll_at s.heap its out.toArray
    have hv := vals_each eo
    refine ⟨.ref _, _, I.laid (a := s.heap.objs.size + 1) (o := .lst _) (t' := s.toks) (fun _ _ w => PyProof.Rows.sortedAll_old w) (Nat.le_add_right _ 1) ⟨?_, out, ep, hv, he⟩, rfl, q _ (I.hok.fresh (Nat.le_add_right _ 1))⟩
    rw [List.length_map, List.length_mergeSort, List.length_zip]
    omega
  · obtain ⟨its, rv2, hl, hz⟩ := I.tuple hS
    obtain ⟨e1, e2⟩ := each_of I hD rv2
    refine sorted_ofTup (enc := Prod.snd) (vs := its) (show s.heap.IsTuple a its.toArray from hl) e1 e2 (by rw [hm2]; exact hal) (by rw [hm2]; exact hso) (by rw [List.length_zip]; omega) hdp fun h1 h' out c k1 k2 k3 ho eo => ?_
    have hv := vals_each eo
    have I1 : Inv X pins σ H { s with heap := h1 } := I.kept (t' := s.toks) k1
    refine ⟨.ref _, _, I1.laid (a := h1.objs.size) (o := .lst _) (t' := s.toks) k2 (Nat.le_refl _) ⟨?_, out, c, hv, k3⟩, rfl, q _ (I1.hok.fresh (Nat.le_refl _))⟩
    rw [List.length_map, List.length_mergeSort, List.length_zip]
    omega
theorem encs_at (rh : RH K r h H) : ∀ {ds : List D} {vs : List V}, (∀ d ∈ ds, (toP h 60 d).isSome = true) → RVs K r H ds vs → DpAll K H vs (ds.map (encD h)) ∧ PySem.W.EachIs (fun d (b : V × PyData) => RV K r H d b.1 ∧ encD h d = b.2) ds (vs.zip (ds.map (encD h)))
  | [], vs, _, q => by rw [q.inv0]; exact ⟨.nil, .nil⟩
  | d :: ds, vs, hs, q => by
    obtain ⟨v, t, rfl, a, b⟩ := q.inv
    obtain ⟨i1, i2⟩ := encs_at rh (fun d hd => hs d (List.mem_cons_of_mem _ hd)) b
    obtain ⟨p, hp⟩ := Option.isSome_iff_exists.mp (hs d List.mem_cons_self)
    have ep : encD h d = p := by unfold encD; rw [hp]; rfl
    exact ⟨.cons (by rw [ep]; exact toP_dp rh hp a) i1, .cons ⟨a, rfl⟩ i2⟩
theorem rvs_each : ∀ {ds : List D} {bs : List (V × PyData)}, PySem.W.EachIs (fun d (b : V × PyData) => RV K r H d b.1 ∧ encD h d = b.2) ds bs → RVs K r H ds (bs.map Prod.fst)
  | _, _, .nil => .nil
  | _, _, .cons a t => .cons a.1 (rvs_each t)
theorem each_in {R : D → (V × PyData) → Prop} : ∀ {ds : List D} {bs : List (V × PyData)}, PySem.W.EachIs R ds bs → ∀ p ∈ ds.zip bs, R p.1 p.2
  | _, _, .nil, p, hp => by simp at hp
  | _, _, .cons a t, p, hp => by
    rw [List.zip_cons_cons] at hp
    rcases List.mem_cons.mp hp with rfl | hp
    · exact a
    · exact each_in t p hp
theorem cd_sorted (own : Bool) : CallD K (sortD own) (rSortedD K) := by
  intro r0 h H xs vs W σ Q rh rx p
  unfold sortD at p
  split at p
  · obtain ⟨v, rfl, rv⟩ := rx.inv1
    split at p
    · rename_i ds e
      split at p
      · rename_i hc
        obtain ⟨c1, c2, c3, c4⟩ := hc
        obtain ⟨a, ys, rfl, f, q⟩ := sq_at rh rv e
        obtain ⟨e1, e2⟩ := encs_at rh c1 q
        refine ⟨a, ys, _, rfl, f, e1, fun p hp => ?_, c3, c4, ?_⟩
        · obtain ⟨d, hd, rfl⟩ := List.mem_map.mp hp
          exact c2 d hd
        · have hq : RVs K r0 H (ds.mergeSort (PySem.W.dataLe false (encD h))) (((ys.zip (ds.map (encD h))).mergeSort (PySem.W.dataLe false Prod.snd)).map Prod.fst) := by
            refine rvs_each (h := h) (PySem.W.sort_each e2 fun p hp q' hq' => ?_)
            have a1 := (each_in e2 p hp).2
            have a2 := (each_in e2 q' hq').2
            unfold PySem.W.dataLe PySem.W.sortLe
            simp only [a1, a2]
          exact (po_mkL rh hq p).2
      · exact p.elim
    · exact p.elim
  · exact p.elim
end
end Dt
namespace Dt
open PySem PySem.Spec PyProof.Rows L2
def strK (_ : DH) (x : D) : Bool := match x with | .str _ => true | _ => false
def lstK (h : DH) (x : D) : Bool := (lsq h x).isSome
def mth (k : DH → D → Bool) (g : D → List D → DH → Rs D) (fo : EF) (as : AF) : EF := fun env h => bd (fo env h) fun x h1 => if k h1 x = true then bd (as env h1) fun xs h2 => g x xs h2 else .bad
def mth0 (k : DH → D → Bool) (g : D → List D → DH → Rs D) (fo : EF) : EF := fun env h => bd (fo env h) fun x h1 => if k h1 x = true then g x [] h1 else .bad
def TyD (K : PySem.W.Frag) (T : String) (k : DH → D → Bool) : Prop := ∀ (r : Rg) (h : DH) (H : Hp) (x : D) (v : V), RH K r h H → RV K r H x v → k h x = true → tyV K T v H
theorem ty_lst {K : PySem.W.Frag} : TyD K "list" lstK := by
  intro r h H x v rh rv e
  obtain ⟨ds, e1⟩ := Option.isSome_iff_exists.mp e
  obtain ⟨a, vs, rfl, f, q⟩ := lsq_at rh rv e1
  exact .inl ⟨rfl, vs, f⟩
section
variable {X : Cx} {W : WX} {K : PySem.W.Frag} {name : Str} {T id : String} {o e : Expr} {es : List Expr} {apos cpos : Pos} {fo : EF} {as : AF} {k : DH → D → Bool} {g : D → List D → DH → Rs D} {r : V → List V → Hp → VK → Prop}
theorem de_bm (pa : PlainAttrs T) (slot : Slot T name id) (hty : typeOf (.builtin id) = pure (.type "method_descriptor")) (hm : MtR X id r) (ht : TyD X.K T k) (hg : MtD X.K g r) (ho : PE X o (tE X.K W fo)) (ha : PA X (e :: es) (tA X.K W as))
    (hbase : attributeBase o name X.env (eval o X.env) = eval o X.env := by rfl)
    (hfew : ((backTo cpos (starEach (e :: es) X.env)).all (fun x => !x.1) && (backToKw cpos (keywordEach [] X.env)).all (fun x => x.1.isSome)
      && decide ((e :: es).length + ([] : List Keyword).length + (if ([] : List Keyword).isEmpty then 0 else 1) < 30)) = true := by rfl)
    (hline : (apos.endLine == cpos.line) = true := by rfl) (hs : starEach (e :: es) X.env = (false, eval e X.env) :: starEach es X.env := by rfl) (hplain : (backTo cpos (starEach es X.env)).any (·.1) = false := by rfl) :
    PE X (.Call (.Attribute o name apos) (e :: es) [] cpos) (tE X.K W (mth k g fo as)) :=
  PE.imp (pe_bm pa slot hty hm ho ha hbase hfew hline hs hplain) fun σ H Q p => tG.first (R := RV X.K) (f := fo) (g := fun x env h1 => if k h1 x = true then bd (as env h1) fun xs h2 => g x xs h2 else .bad) p fun r0 env h1 x v H1 rh rs rx p1 => by
    by_cases hk : k h1 x = true
    · rw [if_pos hk] at p1
      exact ⟨ht r0 h1 H1 x v rh rx hk, r0, env, h1, rh, rs, (Po.bd (R := RVs X.K) p1).mono fun u H2 ⟨r2, h2, y, _, e2, rh2, ry, p2⟩ => hg r2 h2 H2 x v y u W σ Q rh2 (rx.mono e2) ry p2⟩
    · rw [if_neg hk] at p1
      exact p1.elim
end
def toS : List D → Option (List Str)
  | [] => some []
  | .str i :: r => (toS r).map (i :: ·)
  | _ => none
@[simp] theorem toS_of (ns : List Str) : toS (ns.map D.str) = some ns := by
  induction ns with
  | nil => rfl
  | cons n ns ih => rw [List.map_cons, toS, ih]; rfl
/-- a list of ours -/
def mlst (h : DH) : D → Option (Nat × List D)
  | .ref n => match h[n]? with | some (.lst ds) => some (n, ds) | _ => none
  | _ => none
def appendD (x : D) (xs : List D) (h : DH) : Rs D := match mlst h x, xs with
  | some (n, ds), [y] => if ds.length ≤ 1000000 then .ok .non (h.set n (.lst (ds ++ [y]))) else .bad
  | _, _ => .bad
def extendD (x : D) (xs : List D) (h : DH) : Rs D := match mlst h x, xs with
  | some (n, ds), [y] => match xsq h y with
    | some es => if ds.length + es.length ≤ 1000000 then .ok .non (h.set n (.lst (ds ++ es))) else .bad
    | none => .bad
  | _, _ => .bad
def popAtD (x : D) (xs : List D) (h : DH) : Rs D := match mlst h x, xs with
  | some (n, ds), [.int i] => if 0 ≤ i ∧ i < 1000000 then (match ds[i.toNat]? with | some d => .ok d (h.set n (.lst (ds.eraseIdx i.toNat))) | none => .bad) else .bad
  | _, _ => .bad
def insertD (x : D) (xs : List D) (h : DH) : Rs D := match mlst h x, xs with
  | some (n, ds), [.int i, y] => if ds.length ≤ 1000000 ∧ 0 ≤ i ∧ i < 1000000 then .ok .non (h.set n (.lst (ds.take i.toNat ++ [y] ++ ds.drop i.toNat))) else .bad
  | _, _ => .bad
section
variable {X : Cx} {W : WX} {K : PySem.W.Frag} {r r0 : Rg} {h : DH} {H : Hp} {d x y : D} {v u : V} {σ : L2.St} {Q : VK} {ds es : List D} {vs ws : List V}
theorem mlst_at {n : Nat} (rh : RH K r h H) (rv : RV K r H x v) (e : mlst h x = some (n, ds)) : ∃ a vs, v = .ref a ∧ r.ix[n]? = some a ∧ H a = some (.lst vs) ∧ RVs K r H ds vs := by
  unfold mlst at e
  split at e
  · split at e
    · rename_i e2
      cases e
      exact rh.lst_at rv e2
    · cases e
  · cases e
/-- behind a change of a list of ours -/
theorem po_put {n : Nat} {a : Addr} (rh : RH K r h H) (ha : r.ix[n]? = some a) (q : RVs K r H es ws) (rd : RV K r H d v) (p : Po (RV K) K W r σ H (.ok d (h.set n (.lst es))) Q) : Q v (upd H a (.lst ws)) := by
  obtain ⟨e, rh'⟩ := rh.put (o := .lst es) (u := .lst ws) ha fun H' e e' => ⟨ws, e', q.mono e⟩
  exact p v r _ e rh' (rd.mono e)
theorem md_append : MtD K appendD rAppend := by
  intro r0 h H x v xs vs W σ Q rh rx rxs p
  unfold appendD at p
  split at p
  · rename_i e
    split at p
    · rename_i hl
      obtain ⟨a, ys, rfl, ha, f, q⟩ := mlst_at rh rx e
      obtain ⟨u, rfl, ru⟩ := rxs.inv1
      exact ⟨a, ys, u, rfl, rfl, f, by rw [← q.length]; exact line_lt hl, po_put rh ha (q.append (.one ru)) (rv_non.mpr rfl) p⟩
    · exact p.elim
  · exact p.elim
theorem md_extend : MtD K extendD rExtend := by
  intro r0 h H x v xs vs W σ Q rh rx rxs p
  unfold extendD at p
  split at p
  · rename_i e
    split at p
    · rename_i e2
      split at p
      · rename_i hl
        obtain ⟨a, ys, rfl, ha, f, q⟩ := mlst_at rh rx e
        obtain ⟨u, rfl, ru⟩ := rxs.inv1
        obtain ⟨b, zs, rfl, g, q2⟩ := xsq_at rh ru e2
        exact ⟨a, b, ys, zs, rfl, rfl, f, g, by rw [← q.length, ← q2.length]; exact line_le hl, po_put rh ha (q.append q2) (rv_non.mpr rfl) p⟩
      · exact p.elim
    · exact p.elim
  · exact p.elim
theorem md_popAt : MtD K popAtD rPopAt := by
  intro r0 h H x v xs vs W σ Q rh rx rxs p
  unfold popAtD at p
  split at p
  · rename_i e
    split at p
    · rename_i hc
      split at p
      · rename_i ed
        obtain ⟨a, ys, rfl, ha, f, q⟩ := mlst_at rh rx e
        obtain ⟨u, rfl, ru⟩ := rxs.inv1
        obtain ⟨z, ez, rz⟩ := q.get ed
        have hlt : _ < ys.length := (List.getElem?_eq_some_iff.mp ez).1
        refine ⟨a, ys, _, _, z, rfl, by rw [rv_int.mp ru], f, by omega, by omega, ?_, ez, po_put rh ha (q.eraseIdx _) rz p⟩
        exact seqIndex_of hc.1 (by omega)
      · exact p.elim
    · exact p.elim
  · exact p.elim
end
abbrev PF := Env' → DH → Rs (Option Int)
def pn : PF := fun _ h => .ok none h
def ps (fa : EF) : PF := fun env h => bd (fa env h) fun d h1 => match d with | .int i => .ok (some i) h1 | _ => .bad
def RP (_ : Rg) (_ : Hp) (a b : Option Int) : Prop := a = b
def cutD {α : Type} (ds : List α) (lo hi : Option Int) : List α := (ds.drop (HT.sIx ds.length 0 lo)).take (HT.sIx ds.length ds.length hi - HT.sIx ds.length 0 lo)
def slD (own : Bool) (x : D) (lo hi : Option Int) (h : DH) : Rs D := match x with
  | .str z => if z.length ≤ 1000000 then .ok (.str (cutS z lo hi)) h else .bad
  | .tup ds => .ok (.tup (cutD ds lo hi)) h
  | x => match lsq h x with
    | some ds => mkL own (cutD ds lo hi) h
    | none => .bad
def esl (own : Bool) (fe : EF) (fl fh : PF) : EF := fun env h => bd (fe env h) fun x h1 => bd (fl env h1) fun l h2 => bd (fh env h2) fun u h3 => slD own x l u h3
section
variable {X : Cx} {W : WX} {K : PySem.W.Frag} {r r0 : Rg} {h : DH} {H : Hp} {d x y : D} {v u : V} {σ : L2.St} {Q : VK} {ds : List D} {vs : List V} {e : Expr} {fe : EF} {lo hi : Option Expr} {fl fh : PF} {pos p2 : Pos}
theorem dp_none : PO X none (tG RP X.K W pn) := ⟨fun pins s σ H Q I ⟨r, env, h, rh, rs, p⟩ => po_none.run pins s σ H Q I (p none r H .refl rh rfl)⟩
theorem dp_some (he : PE X e (tE X.K W fe)) : PO X (some e) (tG RP X.K W (ps fe)) := ⟨fun pins s σ H Q I p => (po_some he).run pins s σ H Q I
  (tG.first (R := RV X.K) (f := fe) (g := fun d _ h1 => match d with | .int i => .ok (some i) h1 | _ => .bad) p fun r0 env h1 x v H1 rh rs rx p1 => by
    cases x with
    | int i => exact ⟨i, rv_int.mp rx, p1 _ _ _ .refl rh rfl⟩
    | _ => exact p1.elim)⟩
theorem cut_rel (q : RVs K r H ds vs) (lo hi : Option Int) : RVs K r H (cutD ds lo hi) (cutV vs lo hi) := by
  unfold cutD cutV
  rw [q.length]
  exact (q.drop _).take _
theorem cut_whole {α : Type} {ds : List α} {lo hi : Option Int} (h : HT.sIx ds.length 0 lo = 0 ∧ HT.sIx ds.length ds.length hi = ds.length) : cutD ds lo hi = ds := by
  unfold cutD
  rw [h.1, h.2]
  simp
def rSlAll (K : PySem.W.Frag) : V → Option Int → Option Int → Hp → VK → Prop := fun x lo hi H Q => rSlL K x lo hi H Q ∨ (rSlA K x lo hi H Q ∨ rSlS x lo hi H Q)
theorem sl_all : SlR X (rSlAll X.K) := sl_list.or (sl_tupA.or sl_str)
theorem sd_all (own : Bool) {lo hi : Option Int} (rh : RH K r0 h H) (rx : RV K r0 H x v) (p : Po (RV K) K W r0 σ H (slD own x lo hi h) Q) : rSlAll K v lo hi H Q := by
  unfold slD at p
  split at p
  · split at p
    · rename_i hl
      exact .inr (.inr ⟨_, rv_str.mp rx, line_le hl, po_v rh (rv_str.mpr rfl) p⟩)
    · exact p.elim
  · rename_i ds
    have rx0 := rx
    simp only [RV] at rx
    obtain ⟨a, vs, rfl, f, q⟩ := rx
    refine .inr (.inl ⟨a, vs, rfl, f.sq, fun hw => ?_, fun hw w hq => ?_⟩)
    · rw [cut_whole (by rw [q.length]; exact hw)] at p
      exact po_v rh rx0 p
    · obtain ⟨e, rh'⟩ := rh.lay (o := .tup (cutV vs lo hi)) hq
      refine p _ r0 _ e rh' ?_
      simp only [RV]
      exact ⟨w, _, rfl, ⟨upd_same, rh.out hq⟩, (cut_rel q lo hi).mono e⟩
  · split at p
    · rename_i e
      obtain ⟨a, vs, rfl, f, q⟩ := lsq_at rh rx e
      exact .inl ⟨a, vs, rfl, f, (po_mkL rh (cut_rel q lo hi) p).2⟩
    · exact p.elim
theorem de_sl (own : Bool) (he : PE X e (tE X.K W fe)) (hl : PO X lo (tG RP X.K W fl)) (hu : PO X hi (tG RP X.K W fh)) : PE X (.Subscript e (.Slice lo hi none p2) pos) (tE X.K W (esl own fe fl fh)) :=
  PE.imp (pe_slice sl_all he hl hu) fun σ H Q p => tG.first (R := RV X.K) (f := fe) (g := fun x env h1 => bd (fl env h1) fun l h2 => bd (fh env h2) fun u h3 => slD own x l u h3) p fun r0 env h1 x v H1 rh rs rx p1 =>
    ⟨r0, env, h1, rh, rs, (Po.bd (R := RP) p1).mono fun l H2 ⟨r2, h2, l', _, e2, rh2, rl, p2⟩ => ⟨r2, env, h2, rh2, rs.mono e2, (Po.bd (R := RP) p2).mono fun u H3 ⟨r3, h3, u', _, e3, rh3, ru, p3⟩ => by
      cases rl; cases ru
      exact sd_all own rh3 ((rx.mono e2).mono e3) p3⟩⟩
end
def tyNm (h : DH) : D → Option String
  | .non => some "NoneType"
  | .bl _ => some "bool"
  | .int _ => some "int"
  | .str _ => some "str"
  | .tup _ => some "tuple"
  | .lst _ => some "list"
  | .dk _ _ => some "dict"
  | .ref n => match h[n]? with | some (.lst _) => some "list" | some (.dk _ _) => some "dict" | some (.dt _ _) => some "dict" | _ => none
  | _ => none
def tyCs : List D → Option (List String)
  | [] => some []
  | .con (.ty n) :: r => (tyCs r).map (n :: ·)
  | _ => none
def kitL (t : String) : List String → Option Bool
  | [] => some false
  | c :: r => match kitB t c with
    | some true => some true
    | some false => kitL t r
    | none => none
def isiD (xs : List D) (h : DH) : Rs D := match xs with
  | [x, .con (.ty c)] => match (tyNm h x).bind fun t => kitB t c with
    | some b => .ok (.bl b) h
    | none => .bad
  | [x, .tup cs] => match tyNm h x, tyCs cs with
    | some t, some us => (match kitL t us with | some b => .ok (.bl b) h | none => .bad)
    | _, _ => .bad
  | _ => .bad
section
variable {X : Cx} {W : WX} {K : PySem.W.Frag} {r r0 : Rg} {h : DH} {H : Hp} {d x y : D} {v u : V} {σ : L2.St} {Q : VK} {ds : List D} {vs : List V}
theorem tyNm_at {t : String} (rh : RH K r h H) (rv : RV K r H x v) (e : tyNm h x = some t) : TyX K H v (.type t) := by
  unfold tyNm at e
  split at e
  · cases e; rw [rv_non.mp rv]; exact .base .non
  · cases e; rw [rv_bl.mp rv]; exact .base (.bl _)
  · cases e; rw [rv_int.mp rv]; exact .base (.int _)
  · cases e; rw [rv_str.mp rv]; exact .base (.str _)
  · cases e; simp only [RV] at rv; obtain ⟨a, vs, rfl, f, _⟩ := rv; exact .base (.tup f.1)
  · cases e; simp only [RV] at rv; obtain ⟨a, vs, rfl, f, _⟩ := rv; exact .base (.lst f.1)
  · cases e; simp only [RV] at rv; obtain ⟨a, vs, rfl, f, _⟩ := rv
    rcases f with f | ⟨o, f⟩
    · exact .base (.dK f)
    · exact .fDict f
  · split at e
    · rename_i e2
      cases e
      obtain ⟨a, vs, rfl, _, f, _⟩ := rh.lst_at rv e2
      exact .base (.lst f)
    · rename_i e2
      cases e
      simp only [RV] at rv
      obtain ⟨a, ha, rfl⟩ := rv
      obtain ⟨vs, f, _⟩ := rh.at_ _ a _ ha e2
      exact .base (.dK f)
    · rename_i e2
      cases e
      simp only [RV] at rv
      obtain ⟨a, ha, rfl⟩ := rv
      obtain ⟨vs, f, _⟩ := rh.at_ _ a _ ha e2
      exact .base (.dT f)
    · cases e
  · cases e
theorem tyCs_at : ∀ {cs : List D} {vs : List V} {us : List String}, tyCs cs = some us → RVs K r H cs vs → Paired ClsV vs (us.map Value.type)
  | [], vs, us, e, q => by simp [tyCs] at e; subst e; rw [q.inv0]; exact .nil
  | d :: cs, vs, us, e, q => by
    obtain ⟨v, t, rfl, a, b⟩ := q.inv
    cases d with
    | con c =>
      cases c with
      | ty n =>
        simp only [tyCs, Option.map_eq_some_iff] at e
        obtain ⟨m, e1, rfl⟩ := e
        simp only [RV] at a
        subst a
        exact .cons (.ty _) (tyCs_at e1 b)
      | _ => simp [tyCs] at e
    | _ => simp [tyCs] at e
theorem kitL_at {t : String} : ∀ {us : List String} {b : Bool}, kitL t us = some b → PySem.W.kitAny K (.type t) (us.map Value.type) = some b
  | [], b, e => by simp [kitL] at e; subst e; rfl
  | c :: r, b, e => by
    unfold kitL at e
    rw [List.map_cons]
    unfold PySem.W.kitAny
    split at e
    · rename_i h1
      rw [kit_ty (K := K) h1]; exact e
    · rename_i h1
      rw [kit_ty (K := K) h1]; exact kitL_at e
    · cases e
theorem call_isiAll : CallR X (.builtin "isinstance") (fun xs H Q => rIsi X.K xs H Q ∨ rIsiT X.K xs H Q) := call_isi.or call_isiT
theorem cd_isi : CallD K isiD (fun xs H Q => rIsi K xs H Q ∨ rIsiT K xs H Q) := by
  intro r0 h H xs vs W σ Q rh rx p
  unfold isiD at p
  split at p
  · obtain ⟨v, u, rfl, rv, ru⟩ := rx.inv2
    split at p
    · rename_i e
      obtain ⟨t, e1, e2⟩ := Option.bind_eq_some_iff.mp e
      simp only [RV] at ru
      subst ru
      exact .inl ⟨v, _, _, _, _, rfl, .ty _, tyNm_at rh rv e1, kit_ty e2, po_v rh (rv_bl.mpr rfl) p⟩
    · exact p.elim
  · obtain ⟨v, u, rfl, rv, ru⟩ := rx.inv2
    split at p
    · rename_i e1 e2
      split at p
      · rename_i e3
        simp only [RV] at ru
        obtain ⟨a, ws, rfl, f, q⟩ := ru
        exact .inr ⟨v, a, ws, _, _, _, rfl, f.1, tyCs_at e2 q, tyNm_at rh rv e1, kitL_at e3, po_v rh (rv_bl.mpr rfl) p⟩
      · exact p.elim
    · exact p.elim
  · exact p.elim
end
end Dt
namespace Dt
open PySem PySem.Spec PyProof.Rows L2
structure ItD where
  src : List (Nat × List D)
  items : List D
abbrev IF := Env' → DH → Rs ItD
def srcOk (it : ItD) (h : DH) : Prop := ∀ p ∈ it.src, h[p.1]? = some (.lst p.2)
def RI (K : PySem.W.Frag) (r : Rg) (H : Hp) (it : ItD) (J : It) : Prop :=
  ∀ (r' : Rg) (h' : DH) (H' : Hp), Wx r r' H H' → RH K r' h' H' → srcOk it h' → ∀ i : Nat,
    (∀ d, it.items[i]? = some d → J.go i H' ∧ ∀ x H'', J.yld i H' x H'' → Ext r' r' H' H'' ∧ RH K r' h' H'' ∧ RV K r' H'' d x) ∧ (it.items.length ≤ i → J.stop i H')
abbrev tI (K : PySem.W.Frag) (W : WX) (f : IF) : TI := tG (RI K) K W f
theorem PI.imp {X : Cx} {tg e : Expr} {t t' : TI} (h : PI X tg e t) (i : ∀ σ H R, t' σ H R → t σ H R) : PI X tg e t' := ⟨fun pins s σ H R I q => h.run pins s σ H R I (i σ H R q)⟩
def sqI (d : D) (h : DH) : Rs ItD := match d with
  | .ref n => (match h[n]? with | some (.lst ds) => .ok ⟨[(n, ds)], ds⟩ h | _ => .bad)
  | d => match sq h d with
    | some ds => .ok ⟨[], ds⟩ h
    | none => .bad
def isq (fa : EF) : IF := fun env h => bd (fa env h) fun d h1 => sqI d h1
def rgI (lo hi : Int) : ItD := ⟨[], (List.range (hi - lo).toNat).map fun i : Nat => D.int (lo + i)⟩
def smR (i : Int) : Prop := -1152921504606846976 ≤ i ∧ i ≤ 1152921504606846976
noncomputable instance (i : Int) : Decidable (smR i) := Classical.propDecidable _
noncomputable def rng1 (as : AF) : IF := fun env h => bd (as env h) fun ds h1 => match ds with
  | [.int j] => if smR j then .ok (rgI 0 j) h1 else .bad
  | _ => .bad
noncomputable def rng2 (as : AF) : IF := fun env h => bd (as env h) fun ds h1 => match ds with
  | [.int i, .int j] => if smR i ∧ smR j then .ok (rgI i j) h1 else .bad
  | _ => .bad
section
variable {X : Cx} {W : WX} {K : PySem.W.Frag} {r r0 : Rg} {h : DH} {H : Hp} {d x y : D} {v u : V} {σ : L2.St} {Q : VK} {ds : List D} {vs : List V} {tg e : Expr} {fa : EF} {as : AF} {p pos : Pos}
/-- lists and tuples, walked -/
theorem pi_seqV {tl : TE} (hl : PE X e tl) : PI X tg e (fun σ H R => tl σ H fun x H1 => (∃ a, x = .ref a ∧ (∃ xs, SqL X.K H1 a xs) ∧ R (Itl X.K a) H1) ∨ ∃ a, x = .ref a ∧ (∃ xs, SqT X.K H1 a xs) ∧ R (Itt X.K a) H1) := by
  refine ⟨fun pins s σ H R I hyp => thn (hl.run pins s σ H _ I hyp) ?_⟩
  rintro v s1 ⟨x, H1, I1, r1, ⟨a, rfl, ⟨xs, hq⟩, q⟩ | ⟨a, rfl, ⟨xs, hq⟩, q⟩⟩
  · obtain rfl : v = Value.ref a := r1
    obtain ⟨its, rv, pl, _⟩ := I1.list hq
    exact wpAny_pyIter_list pl.isList ⟨_, [s1.heap.objs.size], _, _, H1, rfl, I1.kept (t' := s1.toks) fun b o w => Heap.get?_push_of_some _ w, turn_list a _, ⟨_, Heap.get?_push_size _ rfl, rfl, rfl⟩,
      fun b hb => (List.mem_singleton.mp hb) ▸ I1.fpOk (Nat.le_refl _) I1.fresh, q⟩
  · obtain rfl : v = Value.ref a := r1
    obtain ⟨its, rv, pl, _⟩ := I1.tuple hq
    exact wpAny_pyIter_tuple (show s1.heap.IsTuple a its.toArray from pl) ⟨_, [s1.heap.objs.size], _, _, H1, rfl, I1.kept (t' := s1.toks) fun b o w => Heap.get?_push_of_some _ w, turn_tuple a _, ⟨_, Heap.get?_push_size _ rfl, rfl, rfl⟩,
      fun b hb => (List.mem_singleton.mp hb) ▸ I1.fpOk (Nat.le_refl _) I1.fresh, q⟩
theorem di_seq (he : PE X e (tE X.K W fa)) : PI X tg e (tI X.K W (isq fa)) :=
  PI.imp (pi_seqV he) fun σ H R pp => tG.first (R := RV X.K) (f := fa) (g := fun d _ h1 => sqI d h1) pp fun r0 env h1 x v H1 rh rs rx p1 => by
    have keepL : ∀ {ds : List D} {n : List (Nat × List D)}, (∀ r' h' H', Wx r0 r' H1 H' → RH X.K r' h' H' → srcOk ⟨n, ds⟩ h' → ∃ a vs, v = .ref a ∧ SqL X.K H' a vs ∧ RVs X.K r' H' ds vs) → Po (RI X.K) X.K W r0 σ H1 (.ok ⟨n, ds⟩ h1) R → srcOk ⟨n, ds⟩ h1 →
        ∃ a, v = .ref a ∧ (∃ xs, SqL X.K H1 a xs) ∧ R (Itl X.K a) H1 := fun {ds n} f p2 so => by
      obtain ⟨a, vs, rfl, hs, q⟩ := f r0 h1 H1 .refl rh so
      refine ⟨a, rfl, ⟨vs, hs⟩, p2 _ _ _ .refl rh fun r' h' H' e rh' so' i => ?_⟩
      obtain ⟨b, ws, eb, hs', q'⟩ := f r' h' H' e rh' so'
      cases eb
      refine ⟨fun d hd => ?_, fun hi => ⟨ws, hs', by rw [← q'.length]; exact hi⟩⟩
      obtain ⟨z, hz, rz⟩ := q'.get hd
      refine ⟨⟨ws, z, hs', hz⟩, fun y H'' hy => ?_⟩
      obtain ⟨rfl, fx⟩ := hy
      have := fx ws hs'
      rw [hz] at this; cases this
      exact ⟨.refl, rh', rz⟩
    have keepT : ∀ {ds : List D}, (∀ r' H', Wx r0 r' H1 H' → ∃ a vs, v = .ref a ∧ SqT X.K H' a vs ∧ RVs X.K r' H' ds vs) → Po (RI X.K) X.K W r0 σ H1 (.ok ⟨[], ds⟩ h1) R →
        ∃ a, v = .ref a ∧ (∃ xs, SqT X.K H1 a xs) ∧ R (Itt X.K a) H1 := fun {ds} f p2 => by
      obtain ⟨a, vs, rfl, hs, q⟩ := f r0 H1 .refl
      refine ⟨a, rfl, ⟨vs, hs⟩, p2 _ _ _ .refl rh fun r' h' H' e rh' so' i => ?_⟩
      obtain ⟨b, ws, eb, hs', q'⟩ := f r' H' e
      cases eb
      refine ⟨fun d hd => ?_, fun hi => ⟨ws, hs', by rw [← q'.length]; exact hi⟩⟩
      obtain ⟨z, hz, rz⟩ := q'.get hd
      refine ⟨⟨ws, z, hs', hz⟩, fun y H'' hy => ?_⟩
      obtain ⟨rfl, fx⟩ := hy
      have := fx ws hs'
      rw [hz] at this; cases this
      exact ⟨.refl, rh', rz⟩
    have none_ok : ∀ {ds : List D} {h : DH}, srcOk ⟨[], ds⟩ h := fun p e => nomatch e
    unfold sqI at p1
    split at p1
    · rename_i n
      split at p1
      · rename_i ds e1
        refine .inl (keepL (fun r' h' H' e rh' so => ?_) p1 fun m em => ?_)
        · have e2 := so (n, ds) List.mem_cons_self
          obtain ⟨a, vs, ea, _, p, q⟩ := rh'.lst_at (rx.wmono e) e2
          exact ⟨a, vs, ea, .of p, q⟩
        · rw [List.mem_singleton.mp em]; exact e1
      · exact p1.elim
    · split at p1
      · rename_i hx _ ds e1
        unfold sq at e1
        split at e1
        · cases e1
          exact .inr (keepT (fun r' H' e => tsq_at (rx.wmono e) rfl) p1)
        · cases e1
          exact .inr (keepT (fun r' H' e => tsq_at (rx.wmono e) rfl) p1)
        · refine .inl (keepL (fun r' h' H' e rh' so => lsq_at rh' (rx.wmono e) ?_) p1 none_ok)
          unfold lsq at e1 ⊢
          split at e1
          · exact e1
          · exact e1
          · exact (hx _ rfl).elim
          · cases e1
      · exact p1.elim
theorem range_get {lo : Int} {n i : Nat} {d : D} (e : ((List.range n).map fun i : Nat => D.int (lo + i))[i]? = some d) : i < n ∧ d = .int (lo + i) := by
  rw [List.getElem?_map] at e
  obtain ⟨j, hj, rfl⟩ := Option.map_eq_some_iff.mp e
  obtain ⟨h1, h2⟩ := List.getElem?_eq_some_iff.mp hj
  rw [List.getElem_range] at h2
  subst h2
  exact ⟨by simpa using h1, rfl⟩
theorem ri_range {lo hi : Int} : RI K r H (rgI lo hi) (Itr lo (hi - lo).toNat) := by
  intro r' h' H' e rh so i
  refine ⟨fun d hd => ?_, fun hl => ?_⟩
  · obtain ⟨h1, rfl⟩ := range_get hd
    exact ⟨h1, fun x H'' hy => by
      obtain ⟨rfl, rfl⟩ := hy
      exact ⟨.refl, rh, rv_int.mpr rfl⟩⟩
  · unfold rgI at hl
    show (hi - lo).toNat ≤ i
    simpa using hl
theorem di_rng1 {a : Expr} (hg : Gl X "range") (hm : X.mg "range" = none) (ha : PA X [a] (tA X.K W as)) (hs : starEach [a] X.env = [(false, eval a X.env)] := by rfl) : PI X tg (.Call (.Name "range" p) [a] [] pos) (tI X.K W (rng1 as)) :=
  PI.imp (pi_range1 hg hm ha hs) fun σ H R pp => tG.first (R := RVs X.K) (f := as) (g := fun ds _ h1 => match ds with
  | [.int j] => if smR j then .ok (rgI 0 j) h1 else .bad
  | _ => .bad) pp fun r0 env h1 x v H1 rh rs rx p1 => by
    split at p1
    · rename_i j
      split at p1
      · rename_i hc
        unfold smR at hc
        obtain ⟨u, rfl, ru⟩ := rx.inv1
        refine ⟨j, by rw [rv_int.mp ru], by omega, by omega, p1 _ _ _ .refl rh ?_⟩
        have := ri_range (K := X.K) (r := r0) (H := H1) (lo := 0) (hi := j)
        rwa [Int.sub_zero] at this
      · exact p1.elim
    · exact p1.elim
theorem di_rng2 {a b : Expr} (hg : Gl X "range") (hm : X.mg "range" = none) (ha : PA X [a, b] (tA X.K W as)) (hs : starEach [a, b] X.env = [(false, eval a X.env), (false, eval b X.env)] := by rfl) (hs2 : starEach [b] X.env = [(false, eval b X.env)] := by rfl) : PI X tg (.Call (.Name "range" p) [a, b] [] pos) (tI X.K W (rng2 as)) :=
  PI.imp (pi_range2 hg hm ha hs hs2) fun σ H R pp => tG.first (R := RVs X.K) (f := as) (g := fun ds _ h1 => match ds with
  | [.int i, .int j] => if smR i ∧ smR j then .ok (rgI i j) h1 else .bad
  | _ => .bad) pp fun r0 env h1 x v H1 rh rs rx p1 => by
    split at p1
    · rename_i i j
      split at p1
      · rename_i hc
        obtain ⟨hc1, hc2⟩ := hc
        unfold smR at hc1 hc2
        obtain ⟨u, w, rfl, ru, rw_⟩ := rx.inv2
        exact ⟨i, j, by rw [rv_int.mp ru, rv_int.mp rw_], ⟨by omega, by omega, by omega, by omega⟩, p1 _ _ _ .refl rh ri_range⟩
      · exact p1.elim
    · exact p1.elim
theorem lay_pair {T : Addr} {v u : V} (rh : RH K r h H) (hn : H T = none) (ra : RV K r H x v) (rb : RV K r H y u) : Ext r r H (upd H T (.tup [v, u])) ∧ RH K r h (upd H T (.tup [v, u])) ∧ RV K r (upd H T (.tup [v, u])) (.tup [x, y]) (.ref T) := by
  obtain ⟨e, rh'⟩ := rh.lay (o := .tup [v, u]) hn
  refine ⟨e, rh', ?_⟩
  simp only [RV]
  exact ⟨T, _, rfl, ⟨upd_same, rh.out hn⟩, .cons (ra.mono e) (.one (rb.mono e))⟩
theorem zip_get {xs ys : List D} {i : Nat} {d : D} (e : ((xs.zip ys).map fun p => D.tup [p.1, p.2])[i]? = some d) : ∃ a b, xs[i]? = some a ∧ ys[i]? = some b ∧ d = .tup [a, b] := by
  rw [List.getElem?_map] at e
  obtain ⟨⟨a, b⟩, hp, rfl⟩ := Option.map_eq_some_iff.mp e
  rw [List.getElem?_zip_eq_some] at hp
  exact ⟨a, b, hp.1, hp.2, rfl⟩
end
end Dt
namespace Dt
open PySem PySem.Spec PyProof.Rows L2
inductive So where
  | nx (env : Env') (h : DH) | rt (d : D) (h : DH) | bk (env : Env') (h : DH) | cn (env : Env') (h : DH) | rz (x : Exn) (env : Env') (h : DH) | bad
abbrev SF := Env' → DH → So
def PoS (K : PySem.W.Frag) (W : WX) (r : Rg) (H : Hp) (x : So) (D : Ends) : Prop :=
  match x with
  | .nx env h => ∀ r' σ' H', Ext r r' H H' → RH K r' h H' → RS K r' H' env σ' → D.nx σ' H'
  | .rt d h => ∀ v r' H', Ext r r' H H' → RH K r' h H' → RV K r' H' d v → D.rt v H'
  | .bk env h => ∀ r' σ' H', Ext r r' H H' → RH K r' h H' → RS K r' H' env σ' → D.bk σ' H'
  | .cn env h => ∀ r' σ' H', Ext r r' H H' → RH K r' h H' → RS K r' H' env σ' → D.ct σ' H'
  | .rz x env h => ∀ r' σ' H' dO, Ext r r' H H' → RH K r' h H' → RS K r' H' env σ' → XR K r' H' x dO → W x.cls dO σ' H'
  | .bad => False
def tS (K : PySem.W.Frag) (W : WX) (f : SF) : TS := fun D σ H => ∃ r env h, RH K r h H ∧ RS K r H env σ ∧ PoS K W r H (f env h) D
/-- an expression ahead -/
def bs {α : Type} (env : Env') (x : Rs α) (g : α → DH → So) : So := match x with
  | .ok a h => g a h
  | .rz x h => .rz x env h
  | .bad => .bad
def sq2 (x : So) (g : SF) : So := match x with
  | .nx env h => g env h
  | o => o
def skp : SF := fun env h => .nx env h
def seq (f g : SF) : SF := fun env h => sq2 (f env h) g
def ife (t : TF) (f g : SF) : SF := fun env h => bs env (t env h) fun b h1 => if b = true then f env h1 else g env h1
def ret (fe : EF) : SF := fun env h => bs env (fe env h) fun d h1 => .rt d h1
def retN : SF := fun _ h => .rt .non h
def drp (fe : EF) : SF := fun env h => bs env (fe env h) fun _ h1 => .nx env h1
def brk : SF := fun env h => .bk env h
def cnt : SF := fun env h => .cn env h
/-- never reached -/
def nev : SF := fun _ _ => .bad
inductive Tg where
  | nm (i : Nat)
  | tp (ts : List Tg)
/-- what may be unpacked: a tuple, a list that never changes -/
def fsq : D → Option (List D)
  | .tup ds => some ds
  | .wt ds => some ds
  | .lst ds => some ds
  | _ => none
/-- a, b, .. = a tuple or a list of that length -/
def gSeq (K : PySem.W.Frag) (n : Nat) (t : TGs) : TG := fun v σ H Q => gTup K n t v σ H Q ∨ gLst K n t v σ H Q
mutual
def tgF : Tg → D → Env' → Option Env'
  | .nm i, d, env => some (env.set i (some d))
  | .tp ts, d, env => match fsq d with
    | some ds => tgsF ts ds env
    | none => none
def tgsF : List Tg → List D → Env' → Option Env'
  | [], [], env => some env
  | t :: ts, d :: ds, env => match tgF t d env with
    | some e => tgsF ts ds e
    | none => none
  | _, _, _ => none
end
mutual
def tgR (K : PySem.W.Frag) : Tg → TG
  | .nm i => gName i
  | .tp ts => gSeq K ts.length (tgsR K ts)
def tgsR (K : PySem.W.Frag) : List Tg → TGs
  | [] => gNil
  | t :: ts => gCons (tgR K t) (tgsR K ts)
end
mutual
def tgS : Tg → List Nat
  | .nm i => [i]
  | .tp ts => tgsS ts
def tgsS : List Tg → List Nat
  | [] => []
  | t :: ts => tgS t ++ tgsS ts
end
section
variable {α β : Type} {X : Cx} {W : WX} {K : PySem.W.Frag} {r r0 r1 : Rg} {h : DH} {H H1 : Hp} {d x y : D} {v u : V} {σ : L2.St} {Q : VK} {ds : List D} {vs : List V} {env env' : Env'} {E : Ends} {o : So}
theorem PoS.later (e : Ext r r1 H H1) (p : PoS K W r H o E) : PoS K W r1 H1 o E := by
  cases o with
  | nx env h => exact fun r' σ' H' e' => p r' σ' H' (e.trans e')
  | rt d h => exact fun v r' H' e' => p v r' H' (e.trans e')
  | bk env h => exact fun r' σ' H' e' => p r' σ' H' (e.trans e')
  | cn env h => exact fun r' σ' H' e' => p r' σ' H' (e.trans e')
  | rz x env h => exact fun r' σ' H' dO e' => p r' σ' H' dO (e.trans e')
  | bad => exact p
theorem PoS.bs {R : Rg → Hp → α → β → Prop} {f : Env' → DH → Rs α} {g : α → Env' → DH → So} (rh : RH K r h H) (rs : RS K r H env σ) (p : PoS K W r H (bs env (f env h) fun a h1 => g a env h1) E) {Q : β → Hp → Prop}
    (k : ∀ r1 h1 a b H1, Ext r r1 H H1 → RH K r1 h1 H1 → RS K r1 H1 env σ → R r1 H1 a b → PoS K W r1 H1 (g a env h1) E → Q b H1) : tG R K W f σ H Q := by
  refine ⟨r, env, h, rh, rs, ?_⟩
  cases hf : f env h with
  | ok a h1 =>
    rw [hf] at p
    exact fun b r' H' e q q' => k r' h1 a b H' e q (rs.mono e) q' (PoS.later e p)
  | rz x h1 =>
    rw [hf] at p
    exact fun r' H' dO e q q' => p r' σ H' dO e q (rs.mono e) q'
  | bad =>
    rw [hf] at p
    exact p
theorem RS.set {i : Nat} (rs : RS K r H env σ) (rv : RV K r H d v) : RS K r H (env.set i (some d)) (σ.set i (some v)) := by
  refine ⟨by rw [List.length_set, List.length_set, rs.1], fun j e hj => ?_⟩
  by_cases hij : j = i
  · subst hij
    have hl : j < env.length := by
      have := (List.getElem?_eq_some_iff.mp hj).1
      rwa [List.length_set] at this
    rw [List.getElem?_set_self hl] at hj
    cases hj
    exact ⟨v, List.getElem?_set_self (by rw [← rs.1]; exact hl), rv⟩
  · rw [List.getElem?_set_ne (Ne.symm hij)] at hj
    obtain ⟨w, h1, h2⟩ := rs.2 j e hj
    exact ⟨w, by rw [List.getElem?_set_ne (Ne.symm hij)]; exact h1, h2⟩
theorem wipe_set {i : Nat} {z : Option V} : ∀ {vs : List Nat} {σ : L2.St}, i ∈ vs → wipe (σ.set i z) vs = wipe σ vs
  | [], σ, h => by simp at h
  | j :: vs, σ, h => by
    unfold wipe
    by_cases hi : i ∈ vs
    · rw [wipe_set hi]
    · have hij : i = j := by
        rcases List.mem_cons.mp h with e | e
        · exact e
        · exact absurd e hi
      subst hij
      apply List.ext_getElem?
      intro k
      by_cases hk : k = i
      · subst hk
        rw [List.getElem?_set, List.getElem?_set]
        simp [wipe_length]
      · rw [List.getElem?_set_ne (Ne.symm hk), List.getElem?_set_ne (Ne.symm hk)]
        by_cases hv : k ∈ vs
        · have wk : ∀ {ws : List Nat} {τ : L2.St}, k ∈ ws → (wipe τ ws)[k]? = if k < τ.length then some none else none := fun {ws} => by
            induction ws with
            | nil => intro τ h; simp at h
            | cons w ws ih =>
              intro τ h
              unfold wipe
              by_cases hw : k = w
              · subst hw
                rw [List.getElem?_set]
                simp [wipe_length]
              · rw [List.getElem?_set_ne (Ne.symm hw)]
                exact ih ((List.mem_cons.mp h).resolve_left hw)
          rw [wk hv, wk hv, List.length_set]
        · rw [wipe_out hv, wipe_out hv, List.getElem?_set_ne (Ne.symm hk)]
theorem fsq_at (rv : RV K r H d v) (e : fsq d = some ds) : ∃ a vs, v = .ref a ∧ (SqT K H a vs ∨ SqL K H a vs) ∧ RVs K r H ds vs := by
  unfold fsq at e
  split at e
  · cases e
    obtain ⟨a, vs, e1, f, q⟩ := tsq_at rv (ds := ds) rfl
    exact ⟨a, vs, e1, .inl f, q⟩
  · cases e
    obtain ⟨a, vs, e1, f, q⟩ := tsq_at rv (ds := ds) rfl
    exact ⟨a, vs, e1, .inl f, q⟩
  · cases e
    simp only [RV] at rv
    obtain ⟨a, vs, rfl, f, q⟩ := rv
    exact ⟨a, vs, rfl, .inr f.sq, q⟩
  · cases e
theorem pg_seq {es : List Expr} {pos : Pos} {k : Nat} {t : TGs} {n : Nat} (hc : X.calm = true) (h : PGs X es t) (hn : (assignEach es X.env).length = n := by rfl) (hst : (assignEach es X.env).findIdx? (·.1) = none := by rfl) : PG X (.Tuple es k pos) (gSeq X.K n t) :=
  ⟨fun pins s σ H v u Q I r hw => hw.elim (fun hw => (pg_tup hc h hn hst).run pins s σ H v u Q I r hw) fun hw => (pg_lst hc h hn hst).run pins s σ H v u Q I r hw⟩
mutual
theorem tg_run : ∀ {t : Tg} {d : D} {v : V} {env env' : Env'} {σ : L2.St} {Q : L2.St → Hp → Prop}, RS K r H env σ → RV K r H d v → tgF t d env = some env' →
    (∀ σ', RS K r H env' σ' → (∀ vs : List Nat, (∀ i ∈ tgS t, i ∈ vs) → wipe σ' vs = wipe σ vs) → Q σ' H) → tgR K t v σ H Q
  | .nm i, d, v, env, env', σ, Q, rs, rv, e, k => by
    simp only [tgF, Option.some.injEq] at e
    subst e
    simp only [tgR]
    exact k _ (rs.set rv) fun vs hv => wipe_set (hv i (by simp [tgS]))
  | .tp ts, d, v, env, env', σ, Q, rs, rv, e, k => by
    unfold tgF at e
    split at e
    · rename_i ds e1
      obtain ⟨a, xs, rfl, f, q⟩ := fsq_at rv e1
      simp only [tgR]
      rcases f with f | f
      · exact .inl ⟨a, xs, rfl, f, by rw [← q.length]; exact tgs_len e, tgs_run rs q e fun σ' rs' hw => k σ' rs' fun vs hv => hw vs (by simpa [tgS] using hv)⟩
      · exact .inr ⟨a, xs, rfl, f, by rw [← q.length]; exact tgs_len e, tgs_run rs q e fun σ' rs' hw => k σ' rs' fun vs hv => hw vs (by simpa [tgS] using hv)⟩
    · cases e
theorem tgs_run : ∀ {ts : List Tg} {ds : List D} {vs : List V} {env env' : Env'} {σ : L2.St} {Q : L2.St → Hp → Prop}, RS K r H env σ → RVs K r H ds vs → tgsF ts ds env = some env' →
    (∀ σ', RS K r H env' σ' → (∀ vs : List Nat, (∀ i ∈ tgsS ts, i ∈ vs) → wipe σ' vs = wipe σ vs) → Q σ' H) → tgsR K ts vs σ H Q
  | [], [], vs, env, env', σ, Q, rs, q, e, k => by
    simp only [tgsF, Option.some.injEq] at e
    subst e
    rw [q.inv0]
    simp only [tgsR]
    exact ⟨rfl, k σ rs fun _ _ => rfl⟩
  | [], _ :: _, vs, env, env', σ, Q, rs, q, e, k => by simp [tgsF] at e
  | _ :: _, [], vs, env, env', σ, Q, rs, q, e, k => by simp [tgsF] at e
  | t :: ts, d :: ds, vs, env, env', σ, Q, rs, q, e, k => by
    obtain ⟨v, w, rfl, a, b⟩ := q.inv
    simp only [tgsF] at e
    split at e
    · rename_i e1 he
      simp only [tgsR]
      refine ⟨v, w, rfl, tg_run rs a he fun σ1 rs1 hw1 => tgs_run rs1 b e fun σ2 rs2 hw2 => k σ2 rs2 fun vs hv => ?_⟩
      rw [hw2 vs (fun i hi => hv i (by simp [tgsS, hi])), hw1 vs (fun i hi => hv i (by simp [tgsS, hi]))]
    · cases e
theorem tgs_len : ∀ {ts : List Tg} {ds : List D} {env env' : Env'}, tgsF ts ds env = some env' → ds.length = ts.length
  | [], [], _, _, _ => rfl
  | [], _ :: _, _, _, e => by simp [tgsF] at e
  | _ :: _, [], _, _, e => by simp [tgsF] at e
  | t :: ts, d :: ds, _, _, e => by
    simp only [tgsF] at e
    split at e
    · simp [tgs_len e]
    · cases e
end
end
end Dt
namespace Dt
open PySem PySem.Spec PyProof.Rows L2
theorem PS.imp {X : Cx} {st : Stmt} {t t' : TS} (h : PS X st t) (i : ∀ D σ H, t' D σ H → t D σ H) : PS X st t' := ⟨fun pins s σ H D I q => h.run pins s σ H D I (i D σ H q)⟩
theorem PSs.imp {X : Cx} {st : List Stmt} {t t' : TS} (h : PSs X st t) (i : ∀ D σ H, t' D σ H → t D σ H) : PSs X st t' := ⟨fun pins s σ H D I q => h.run pins s σ H D I (i D σ H q)⟩
def asg (fe : EF) (t : Tg) : SF := fun env h => bs env (fe env h) fun d h1 => match tgF t d env with
  | some e => .nx e h1
  | none => .bad
/-- o[i] = e, a list of ours -/
def setItD (o i v : D) (h : DH) : Option DH := match mlst h o, i with
  | some (n, ds), .int k => (ixN ds.length k).map fun j => h.set n (.lst (ds.set j v))
  | _, _ => none
def setI (fo fi fe : EF) : SF := fun env h => bs env (fe env h) fun v h1 => bs env (fo env h1) fun o h2 => bs env (fi env h2) fun i h3 => match setItD o i v h3 with
  | some h4 => .nx env h4
  | none => .bad
def augN (i : Nat) (fe : EF) (g : D → D → DH → Rs D) : SF := fun env h => match env[i]? with
  | some (some x) => bs env (fe env h) fun y h1 => bs env (g x y h1) fun z h2 => .nx (env.set i (some z)) h2
  | _ => .bad
def addI (x y : D) (h : DH) : Rs D := match x, y with
  | .int i, .int j => .ok (.int (i + j)) h
  | _, _ => .bad
open Classical in
noncomputable def forS (it : ItD) (t : Tg) (body : SF) : List D → SF
  | [] => fun env h => if srcOk it h then .nx env h else .bad
  | d :: rest => fun env h => if srcOk it h then (match tgF t d env with
      | some e1 => (match body e1 h with
        | .nx e2 h2 => forS it t body rest e2 h2
        | .cn e2 h2 => forS it t body rest e2 h2
        | .bk e2 h2 => .nx e2 h2
        | o => o)
      | none => .bad) else .bad
noncomputable def forE (fi : IF) (t : Tg) (body : SF) : SF := fun env h => bs env (fi env h) fun it h1 => forS it t body it.items env h1
def whF (t : TF) (body : SF) : Nat → SF
  | 0 => fun _ _ => .bad
  | n + 1 => fun env h => bs env (t env h) fun b h1 => if b = true then (match body env h1 with
      | .nx e2 h2 => whF t body n e2 h2
      | .cn e2 h2 => whF t body n e2 h2
      | .bk e2 h2 => .nx e2 h2
      | o => o) else .nx env h1
/-- turns enough for any loop -/
def many : Nat := 1000000
section
variable {X : Cx} {W : WX} {K : PySem.W.Frag} {r r0 r1 : Rg} {h : DH} {H H1 : Hp} {d x y : D} {v u : V} {σ : L2.St} {Q : VK} {ds : List D} {vs : List V} {env env' : Env'} {E : Ends} {o : So}
  {st : Stmt} {rest : List Stmt} {f g : SF} {e tg : Expr} {fe fo fi : EF} {t : Tg} {pos pos' : Pos} {tf : TF}
theorem dss_nil : PSs X [] (tS X.K W skp) := PSs.imp pss_nil fun D σ H ⟨r, env, h, rh, rs, p⟩ => p r σ H .refl rh rs
theorem dss_cons (h1 : PS X st (tS X.K W f)) (h2 : PSs X rest (tS X.K W g)) : PSs X (st :: rest) (tS X.K W (seq f g)) :=
  PSs.imp (pss_cons h1 h2) fun D σ H ⟨r, env, h, rh, rs, p⟩ => by
    refine ⟨r, env, h, rh, rs, ?_⟩
    unfold seq sq2 at p
    cases hf : f env h with
    | nx e1 h1 =>
      rw [hf] at p
      exact fun r' σ' H' ex q q' => ⟨r', e1, h1, q, q', PoS.later ex p⟩
    | rt d h1 => rw [hf] at p; exact p
    | bk e1 h1 => rw [hf] at p; exact p
    | cn e1 h1 => rw [hf] at p; exact p
    | rz z e1 h1 => rw [hf] at p; exact p
    | bad => rw [hf] at p; exact p
theorem dss_one (h1 : PS X st (tS X.K W f)) : PSs X [st] (tS X.K W f) := pss_one h1
theorem ds_ret (he : PE X e (tE X.K W fe)) : PS X (.Return (some e) pos) (tS X.K W (ret fe)) :=
  PS.imp (ps_ret he) fun D σ H ⟨r, env, h, rh, rs, p⟩ => PoS.bs (R := RV X.K) (g := fun d _ h1 => .rt d h1) rh rs p fun r1 h1 a b H1 ex rh1 rs1 ra p1 => p1 b r1 H1 .refl rh1 ra
theorem ds_expr (he : PE X e (tE X.K W fe)) (hs : swapsWith e none pos.line X.env = pure false := by rfl) : PS X (.Expr e pos) (tS X.K W (drp fe)) :=
  PS.imp (ps_expr he hs) fun D σ H ⟨r, env, h, rh, rs, p⟩ => PoS.bs (R := RV X.K) (g := fun _ env h1 => .nx env h1) rh rs p fun r1 h1 a b H1 ex rh1 rs1 ra p1 => p1 r1 σ H1 .refl rh1 rs1
theorem ds_if {c : Expr} {a b : List Stmt} (hc : PT X c (tT X.K W tf)) (ha : PSs X a (tS X.K W f)) (hb : PSs X b (tS X.K W g)) : PS X (.If c a b pos) (tS X.K W (ife tf f g)) :=
  PS.imp (ps_if hc ha hb) fun D σ H ⟨r, env, h, rh, rs, p⟩ => PoS.bs (R := RB) (g := fun b env h1 => if b = true then f env h1 else g env h1) rh rs p fun r1 h1 a b H1 ex rh1 rs1 ra p1 => by
    cases ra
    cases a with
    | true => exact iteT ⟨r1, env, h1, rh1, rs1, p1⟩
    | false => exact iteF ⟨r1, env, h1, rh1, rs1, p1⟩
theorem ds_asg (he : PE X e (tE X.K W fe)) (hg : PG X tg (tgR X.K t)) (hs : swapsWithSole [tg] e pos.line X.env = pure false := by rfl) (hw : swappedStores [tg] e X.env = pure none := by rfl)
    (h1 : (assignEach [tg] X.env).map (·.2) = [assign tg X.env] := by rfl) : PS X (.Assign [tg] e pos) (tS X.K W (asg fe t)) :=
  PS.imp (ps_asg he hg hs hw h1) fun D σ H ⟨r, env, h, rh, rs, p⟩ => PoS.bs (R := RV X.K) (g := fun d env h1 => match tgF t d env with
  | some e => .nx e h1
  | none => .bad) rh rs p fun r1 h1 a b H1 ex rh1 rs1 ra p1 => by
    split at p1
    · rename_i e1 he1
      exact tg_run rs1 ra he1 fun σ' rs' _ => p1 r1 σ' H1 .refl rh1 rs'
    · exact p1.elim
theorem ds_set {i : Nat} {z : Str} {pos' : Pos} (hN : X.N.Nodup) (hi : X.N[i]? = some z) (hx : Loc X.env.scope z) (he : PE X e (tE X.K W fe)) (hs : swapsWith e (some (.Name z pos')) pos.line X.env = pure false := by rfl)
    (hf : X.fn z = true ∨ X.env.scope.names.lookup z = some .local := by first | exact .inl rfl | exact .inr rfl | assumption) : PS X (.Assign [.Name z pos'] e pos) (tS X.K W (asg fe (.nm i))) :=
  PS.imp (ps_set hN hi hx he hs hf) fun D σ H ⟨r, env, h, rh, rs, p⟩ => PoS.bs (R := RV X.K) (g := fun d env h1 => match tgF (.nm i) d env with
  | some e => .nx e h1
  | none => .bad) rh rs p fun r1 h1 a b H1 ex rh1 rs1 ra p1 => p1 r1 _ H1 .refl rh1 (rs1.set ra)
theorem put_of {oo ii vv : D} {ov iv v : V} {h h4 : DH} (rh : RH K r h H) (ro : RV K r H oo ov) (ri : RV K r H ii iv) (rv : RV K r H vv v) (e : setItD oo ii vv h = some h4) {Q : Hp → Prop}
    (k : ∀ H', Ext r r H H' → RH K r h4 H' → Q H') : rSetL ov iv v H Q := by
  unfold setItD at e
  split at e
  · rename_i n ds kk e1
    obtain ⟨j, hj, rfl⟩ := Option.map_eq_some_iff.mp e
    obtain ⟨a, ws, rfl, ha, f, q⟩ := mlst_at rh ro e1
    refine ⟨a, ws, kk, j, rfl, rv_int.mp ri, f, by rw [← q.length]; exact hj, ?_⟩
    obtain ⟨ex, rh'⟩ := rh.put (o := .lst (ds.set j vv)) (u := .lst (ws.set j v)) ha fun H' ex e' => ⟨_, e', RVs.set (rv.mono ex) j (q.mono ex)⟩
    exact k _ ex rh'
  · cases e
theorem ds_setI {oe ie : Expr} (ho : PE X oe (tE X.K W fo)) (hi : PE X ie (tE X.K W fi)) (he : PE X e (tE X.K W fe))
    (ha : ∀ v, assign (.Subscript oe ie pos') X.env v = (do
      let ov ← holding [v] (eval oe X.env)
      let iv ← holding [v, ov] (eval ie X.env)
      standAt pos'
      holding [v, ov, iv] (setItem ov iv v)
      release [v, ov, iv] []) := by intro v; rfl) (hs : swapsWithSole [.Subscript oe ie pos'] e pos.line X.env = pure false := by rfl) (hw : swappedStores [.Subscript oe ie pos'] e X.env = pure none := by rfl)
    (h1 : (assignEach [.Subscript oe ie pos'] X.env).map (·.2) = [assign (.Subscript oe ie pos') X.env] := by rfl) : PS X (.Assign [.Subscript oe ie pos'] e pos) (tS X.K W (setI fo fi fe)) :=
  PS.imp (ps_asg he (pg_sub ho hi set_list ha) hs hw h1) fun D σ H ⟨r, env, h, rh, rs, p⟩ => PoS.bs (R := RV X.K) (g := fun v env h1 => bs env (fo env h1) fun o h2 => bs env (fi env h2) fun i h3 => match setItD o i v h3 with
  | some h4 => .nx env h4
  | none => .bad) rh rs p fun r1 h1 vd v H1 ex1 rh1 rs1 rv p1 =>
    PoS.bs (R := RV X.K) (f := fo) (g := fun o env h2 => bs env (fi env h2) fun i h3 => match setItD o i vd h3 with
  | some h4 => .nx env h4
  | none => .bad) rh1 rs1 p1 fun r2 h2 od ov H2 ex2 rh2 rs2 ro p2 =>
      PoS.bs (R := RV X.K) (f := fi) (g := fun i env h3 => match setItD od i vd h3 with
  | some h4 => .nx env h4
  | none => .bad) rh2 rs2 p2 fun r3 h3 id iv H3 ex3 rh3 rs3 ri p3 => by
        split at p3
        · rename_i h4 e4
          exact put_of rh3 (ro.mono ex3) ri ((rv.mono ex2).mono ex3) e4 fun H' ex rh' => p3 r3 σ H' ex rh' (rs3.mono ex)
        · exact p3.elim
theorem ds_aug {i : Nat} {z : Str} {pos' : Pos} (hN : X.N.Nodup) (hi : X.N[i]? = some z) (hx : Loc X.env.scope z) (he : PE X e (tE X.K W fe))
    (hf : X.fn z = true ∨ X.env.scope.names.lookup z = some .local := by first | exact .inl rfl | exact .inr rfl | assumption) : PS X (.AugAssign (.Name z pos') .Add e pos) (tS X.K W (augN i fe addI)) :=
  PS.imp (ps_aug hN hi hx he ip_add hf) fun D σ H ⟨r, env, h, rh, rs, p⟩ => by
    unfold augN at p
    split at p
    · rename_i x hx0
      obtain ⟨v, e1, rx⟩ := rs.2 i x hx0
      refine ⟨v, e1, PoS.bs (R := RV X.K) (g := fun y env h1 => bs env (addI x y h1) fun z h2 => .nx (env.set i (some z)) h2) rh rs p fun r1 h1 y u H1 ex rh1 rs1 ru p1 => ?_⟩
      unfold addI at p1
      split at p1
      · exact ⟨_, _, rv_int.mp (rx.mono ex), rv_int.mp ru, p1 r1 _ H1 .refl rh1 (rs1.set (rv_int.mpr rfl))⟩
      · exact p1.elim
    · exact p.elim
theorem ds_for {iter : Expr} {body : List Stmt} {fi : IF} (hp : PassesOwn (model X.prog X.w) X.A X.env X.xe) (hc : X.calm = true) (hi : PI X tg iter (tI X.K W fi)) (hg : PG X tg (tgR X.K t)) (hb : PSs X body (tS X.K W f))
    (hs : ∀ x, foldedSetIterable iter X.env x = pure x := by intro _; rfl) : PS X (.For tg iter body [] pos) (tS X.K W (forE fi t f)) :=
  PS.imp (ps_for hp hc hi hg hb hs) fun D σ H ⟨r, env, h, rh, rs, p⟩ => PoS.bs (R := RI X.K) (f := fi) (g := fun it env h1 => forS it t f it.items env h1) rh rs p fun r1 h1 it J H1 ex1 rh1 rs1 rj p1 => by
    refine ⟨fun i m σ H => i ≤ it.items.length ∧ m = it.items.length - i ∧ ∃ r env h, Ext r1 r H1 H ∧ RH X.K r h H ∧ RS X.K r H env σ ∧ PoS X.K W r H (forS it t f (it.items.drop i) env h) D,
      ⟨it.items.length, Nat.zero_le _, rfl, r1, env, h1, .refl, rh1, rs1, p1⟩, fun i m σ H hW => ?_⟩
    obtain ⟨hil, rfl, r2, env2, h2, ex2, rh2, rs2, p2⟩ := hW
    by_cases hi : i < it.items.length
    · rw [List.drop_eq_getElem_cons hi] at p2
      unfold forS at p2
      split at p2
      · rename_i so
        have key := rj r2 h2 H ex2.wx rh2 so i
        obtain ⟨go, yl⟩ := key.1 _ (List.getElem?_eq_getElem hi)
        split at p2
        · rename_i e3 he3
          refine .inr ⟨go, fun σ' H' => ∃ r env h, Ext r1 r H1 H' ∧ RH X.K r h H' ∧ RS X.K r H' env σ' ∧ PoS X.K W r H' (forS it t f (it.items.drop (i + 1)) env h) D, fun σ' H' ⟨r', e', h', q1, q2, q3, q4⟩ => ⟨_, by omega, by omega, rfl, r', e', h', q1, q2, q3, q4⟩, fun x H' hy => ?_⟩
          obtain ⟨exy, rhy, rvy⟩ := yl x H' hy
          refine tg_run (rs2.mono exy) rvy he3 fun σ' rs' _ => ⟨r2, e3, h2, rhy, rs', ?_⟩
          have p3 := PoS.later exy p2
          cases hbd : f e3 h2 with
          | nx e4 h4 =>
            rw [hbd] at p3
            exact fun r' σ'' H'' ex q q' => ⟨r', e4, h4, (ex2.trans exy).trans ex, q, q', PoS.later ex p3⟩
          | cn e4 h4 =>
            rw [hbd] at p3
            exact fun r' σ'' H'' ex q q' => ⟨r', e4, h4, (ex2.trans exy).trans ex, q, q', PoS.later ex p3⟩
          | bk e4 h4 => rw [hbd] at p3; exact p3
          | rt d h4 => rw [hbd] at p3; exact p3
          | rz z e4 h4 => rw [hbd] at p3; exact p3
          | bad => rw [hbd] at p3; exact p3
        · exact p2.elim
      · exact p2.elim
    · have hn : it.items.drop i = [] := List.drop_eq_nil_of_le (by omega)
      rw [hn] at p2
      unfold forS at p2
      split at p2
      · rename_i so
        exact .inl ⟨(rj r2 h2 H ex2.wx rh2 so i).2 (by omega), p2 r2 σ H .refl rh2 rs2⟩
      · exact p2.elim
theorem ds_while {c : Expr} {body : List Stmt} (n : Nat) (hp : PassesOwn (model X.prog X.w) X.A X.env X.xe) (hc : PT X c (tT X.K W tf)) (hb : PSs X body (tS X.K W f)) : PS X (.While c body [] pos) (tS X.K W (whF tf f n)) :=
  PS.imp (ps_while hp hc hb) fun D σ H ⟨r, env, h, rh, rs, p⟩ => by
    refine ⟨fun m σ H => ∃ r env h, RH X.K r h H ∧ RS X.K r H env σ ∧ PoS X.K W r H (whF tf f m env h) D, ⟨n, r, env, h, rh, rs, p⟩, fun m σ H ⟨r1, env1, h1, rh1, rs1, p1⟩ => ?_⟩
    cases m with
    | zero => exact p1.elim
    | succ m =>
      unfold whF at p1
      refine PoS.bs (R := RB) (f := tf) (g := fun b env h1 => if b = true then (match f env h1 with
      | .nx e2 h2 => whF tf f m e2 h2
      | .cn e2 h2 => whF tf f m e2 h2
      | .bk e2 h2 => .nx e2 h2
      | o => o) else .nx env h1) rh1 rs1 p1 fun r2 h2 a b H2 ex rh2 rs2 ra p2 => ?_
      cases ra
      cases a with
      | true =>
        refine iteT ⟨fun σ' H' => ∃ r env h, RH X.K r h H' ∧ RS X.K r H' env σ' ∧ PoS X.K W r H' (whF tf f m env h) D, fun σ' H' q => ⟨m, Nat.lt_succ_self m, q⟩, r2, env1, h2, rh2, rs2, ?_⟩
        have p3 := p2
        rw [if_pos rfl] at p3
        cases hbd : f env1 h2 with
        | nx e4 h4 =>
          rw [hbd] at p3
          exact fun r' σ'' H'' ex q q' => ⟨r', e4, h4, q, q', PoS.later ex p3⟩
        | cn e4 h4 =>
          rw [hbd] at p3
          exact fun r' σ'' H'' ex q q' => ⟨r', e4, h4, q, q', PoS.later ex p3⟩
        | bk e4 h4 => rw [hbd] at p3; exact p3
        | rt d h4 => rw [hbd] at p3; exact p3
        | rz z e4 h4 => rw [hbd] at p3; exact p3
        | bad => rw [hbd] at p3; exact p3
      | false =>
        refine iteF ?_
        rw [if_neg Bool.false_ne_true] at p2
        exact p2 r2 σ H2 .refl rh2 rs2
end
end Dt
namespace Dt
open PySem PySem.Spec PyProof.Rows L2
abbrev noW : WX := fun _ _ _ _ => False
def wipD (env : Env') : List Nat → Env'
  | [] => env
  | v :: vs => (wipD env vs).set v none
def tyes : TF := fun _ h => .ok true h
open Classical in
noncomputable def lcS (it : ItD) (t : Tg) (tt : TF) (fe : EF) (env : Env') : List D → List D → DH → Rs (List D)
  | [], acc, h => if srcOk it h then .ok acc h else .bad
  | d :: rest, acc, h => if srcOk it h then (match tgF t d env with
      | some e1 => (match tt e1 h with
        | .ok b h1 => if b = true then (match fe e1 h1 with
            | .ok y h2 => if acc.length < 1000000 then lcS it t tt fe env rest (acc ++ [y]) h2 else .bad
            | _ => .bad) else lcS it t tt fe env rest acc h1
        | _ => .bad)
      | none => .bad) else .bad
noncomputable def lcE (fi : IF) (t : Tg) (tt : TF) (fe : EF) (vs : List Nat) : EF := fun env h => bd (fi env h) fun it h1 => bd (lcS it t tt fe (wipD env vs) it.items [] h1) fun ds h2 => .ok (.lst ds) h2
section
variable {X : Cx} {W : WX} {K : PySem.W.Frag} {r r0 r1 : Rg} {h : DH} {H H1 : Hp} {d x y : D} {v u : V} {σ : L2.St} {Q : VK} {ds : List D} {env env' : Env'} {E : Ends} {o : So}
  {st : Stmt} {rest : List Stmt} {f g : SF} {elt tg iter : Expr} {ifs : List Expr} {fe fo : EF} {fi : IF} {t : Tg} {pos pos' : Pos} {tf tt : TF}
theorem RS.wipe : ∀ (vs : List Nat), RS K r H env σ → RS K r H (wipD env vs) (wipe σ vs)
  | [], rs => rs
  | v :: vs, rs => by
    have ih := RS.wipe vs rs
    unfold wipD L2.wipe
    refine ⟨by rw [List.length_set, List.length_set, ih.1], fun i d hi => ?_⟩
    by_cases hv : i = v
    · subst hv
      have hl : i < (wipD env vs).length := by
        have := (List.getElem?_eq_some_iff.mp hi).1
        rwa [List.length_set] at this
      rw [List.getElem?_set_self hl] at hi
      cases hi
    · rw [List.getElem?_set_ne (Ne.symm hv)] at hi
      obtain ⟨z, e1, e2⟩ := ih.2 i d hi
      exact ⟨z, by rw [List.getElem?_set_ne (Ne.symm hv)]; exact e1, e2⟩
theorem wipe_get (σ : L2.St) {k : Nat} : ∀ {vs : List Nat}, k ∈ vs → (wipe σ vs)[k]? = if k < σ.length then some none else none
  | [], h => by simp at h
  | w :: ws, h => by
    unfold L2.wipe
    by_cases hw : k = w
    · subst hw
      rw [List.getElem?_set]
      simp [wipe_length]
    · rw [List.getElem?_set_ne (Ne.symm hw)]
      exact wipe_get σ ((List.mem_cons.mp h).resolve_left hw)
theorem wipe_wipe (σ : L2.St) (vs : List Nat) : wipe (wipe σ vs) vs = wipe σ vs := by
  apply List.ext_getElem?
  intro k
  by_cases hv : k ∈ vs
  · rw [wipe_get _ hv, wipe_get _ hv, wipe_length]
  · rw [wipe_out hv]
/-- the reading of a comprehension's walk -/
theorem lc_run {vs : List Nat} {it : ItD} {J : It} (rh : RH K r1 h H1) (rs : RS K r1 H1 env σ) (rj : RI K r1 H1 it J) (hv : ∀ i ∈ tgS t, i ∈ vs) {Q : VK}
    (p : Po (RV K) K W r1 σ H1 (bd (lcS it t tt fe (wipD env vs) it.items [] h) fun ds h2 => .ok (D.lst ds) h2) Q) :
    ∀ q0, H1 q0 = none → ∃ Wv : Nat → Nat → Hp → Prop, (∃ m, Wv 0 m (upd H1 q0 (.lst []))) ∧ ∀ i m H, Wv i m H →
      (J.stop i H ∧ Q (.ref q0) H) ∨ (J.go i H ∧ ∃ Nx : Hp → Prop, (∀ H', Nx H' → ∃ m', m' < m ∧ Wv (i + 1) m' H') ∧ ∀ x H', J.yld i H x H' → tgR K t x (wipe σ vs) H' fun σ2 H2 => wipe σ2 vs = wipe σ vs ∧ tT K noW tt σ2 H2 fun b H3 =>
        if b = true then tE K noW fe σ2 H3 fun y H4 => ∃ acc, H4 q0 = some (.lst acc) ∧ acc.length < sizeLine ∧ Nx (upd H4 q0 (.lst (acc ++ [y]))) else Nx H3) := by
  intro q0 hD
  -- what holds between two turns: the list stands hidden at q0
  let Wv : Nat → Hp → Prop := fun i H => ∃ r h acc vacc, Wx r1 (r.ban q0) H1 H ∧ Ext r1 r H1 H ∧ RH K (r.ban q0) h H ∧ H q0 = some (.lst vacc) ∧ RVs K (r.ban q0) H acc vacc ∧
      Po (RV K) K W r1 σ H1 (bd (lcS it t tt fe (wipD env vs) (it.items.drop i) acc h) fun ds h2 => .ok (D.lst ds) h2) Q
  obtain ⟨e0, _⟩ := rh.lay (o := .lst []) hD
  obtain ⟨w0, rh0⟩ := rh.hide (o := .lst []) hD
  have nb := rh.out hD
  refine ⟨fun i m H => i ≤ it.items.length ∧ m = it.items.length - i ∧ Wv i H, ⟨it.items.length, Nat.zero_le _, rfl, r1, h, [], [], w0, e0, rh0, upd_same, .nil, p⟩, fun i m H hW => ?_⟩
  obtain ⟨hil, rfl, r2, h2, acc, vacc, wx2, ex2, rhB, hDa, qa, p2⟩ := hW
  by_cases hi : i < it.items.length
  · rw [List.drop_eq_getElem_cons hi] at p2
    unfold lcS at p2
    split at p2
    · rename_i so
      obtain ⟨go, yl⟩ := (rj (r2.ban q0) h2 H wx2 rhB so i).1 _ (List.getElem?_eq_getElem hi)
      split at p2
      · rename_i e3 he3
        refine .inr ⟨go, fun H' => Wv (i + 1) H', fun H' q => ⟨_, by omega, by omega, rfl, q⟩, fun x H' hy => ?_⟩
        obtain ⟨exy, rhy, rvy⟩ := yl x H' hy
        have rsw := (rs.wmono (wx2.trans exy.wx)).wipe vs
        refine tg_run rsw rvy he3 fun σ' rs' hw => ⟨by rw [hw vs hv, wipe_wipe], r2.ban q0, e3, h2, rhy, rs', ?_⟩
        cases ht : tt e3 h2 with
        | ok b h3 =>
          intro b' r3 H3 ex3 rh3 rb
          cases rb
          rw [ht] at p2
          have e23 := exy.trans ex3
          obtain ⟨ix3, bn3⟩ := r3
          obtain rfl : bn3 = q0 :: r2.bn := e23.bn
          cases b with
          | true =>
            dsimp only at p2
            rw [if_pos rfl] at p2
            refine iteT ⟨_, e3, h3, rh3, rs'.mono ex3, ?_⟩
            cases hf : fe e3 h3 with
            | ok y h4 =>
              intro vy r4 H4 ex4 rh4 ry
              rw [hf] at p2
              dsimp only at p2
              have e24 := e23.trans ex4
              obtain ⟨ix4, bn4⟩ := r4
              obtain rfl : bn4 = q0 :: r2.bn := e24.bn
              have hq : H4 q0 = some (.lst vacc) := (e24.bk q0 List.mem_cons_self).trans hDa
              split at p2
              · rename_i hl
                obtain ⟨w5, rh5⟩ := RH.rehide (r := ⟨ix4, r2.bn⟩) (a := q0) (u := .lst (vacc ++ [vy])) rh4
                have w4 := (wx2.trans e24.wx).trans w5
                refine ⟨vacc, hq, by rw [← qa.length]; exact line_lt (by omega), ⟨ix4, r2.bn⟩, h4, acc ++ [y], vacc ++ [vy], w4, ?_, rh5, upd_same, ?_, p2⟩
                · exact Ext.under (r2 := ⟨ix4, r2.bn⟩) ex2 e24 hD nb (fun b hb => upd_ne hb) (by rw [upd_same]; simp)
                · exact (qa.wmono (e24.wx.trans w5)).append (.one (ry.wmono w5))
              · exact p2.elim
            | rz z h4 => rw [hf] at p2; exact p2.elim
            | bad => rw [hf] at p2; exact p2.elim
          | false =>
            dsimp only at p2
            rw [if_neg Bool.false_ne_true] at p2
            have hq : H3 q0 = some (.lst vacc) := (e23.bk q0 List.mem_cons_self).trans hDa
            exact iteF ⟨⟨ix3, r2.bn⟩, h3, acc, vacc, wx2.trans e23.wx, Ext.under (r2 := ⟨ix3, r2.bn⟩) ex2 e23 hD nb (fun _ _ => rfl) (by rw [hq]; simp), rh3, hq, qa.mono e23, p2⟩
        | rz z h3 => rw [ht] at p2; exact p2.elim
        | bad => rw [ht] at p2; exact p2.elim
      · exact p2.elim
    · exact p2.elim
  · have hn : it.items.drop i = [] := List.drop_eq_nil_of_le (by omega)
    rw [hn] at p2
    unfold lcS at p2
    obtain ⟨wsh, rh2⟩ := rhB.show_
    split at p2
    · rename_i so
      refine .inl ⟨(rj r2 h2 H ex2.wx rh2 so i).2 (by omega), p2 _ r2 H ex2 rh2 ?_⟩
      simp only [RV]
      exact ⟨q0, vacc, rfl, ⟨hDa, Rg.ban_out rhB⟩, qa.wmono wsh⟩
    · exact p2.elim
abbrev blkX (X : Cx) (s : Shared) (H : Hp) (scope : Scope) (cl : List (Str × Addr)) (C : Addr) (fp : List Addr) : Cx := X.blk s H scope (compEnvC scope cl C X.env) fp
theorem dts_nil : PTs X [] (tT X.K W tyes) := ⟨fun pins s σ H Q I ⟨r, env, h, rh, rs, p⟩ => pts_nil.run pins s σ H Q I (p true r H .refl rh rfl)⟩
theorem dts_one {c : Expr} (hc : PT X c (tT X.K W tf)) : PTs X [c] (tT X.K W tf) := pts_one hc
theorem de_lc {scope : Scope} {own : List (Str × Nat)} (hc : X.calm = true) (hN : X.N.Nodup) (hi : PI X tg iter (tI X.K W fi)) (ok : BlkOk X.N X.env.scope scope own)
    (hg : ∀ (s : Shared) (H : Hp) (C : Addr) (cl : List (Str × Addr)) (fp : List Addr), PG (blkX X s H scope cl C fp) tg (tgR X.K t)) (ht : ∀ (s : Shared) (H : Hp) (C : Addr) (cl : List (Str × Addr)) (fp : List Addr), PTs (blkX X s H scope cl C fp) ifs (tT X.K noW tt))
    (he : ∀ (s : Shared) (H : Hp) (C : Addr) (cl : List (Str × Addr)) (fp : List Addr), PE (blkX X s H scope cl C fp) elt (tE X.K noW fe)) (hv : ∀ i ∈ tgS t, i ∈ own.map (·.2) := by decide) (hs : ∀ x, foldedSetIterable iter X.env x = pure x := by intro _; rfl) :
    PE X (.ListComp elt [⟨tg, iter, ifs, 0⟩] scope pos) (tE X.K W (lcE fi t tt fe (own.map (·.2)))) :=
  PE.imp (pe_lc hc hN hi ok hg ht he hs) fun σ H Q p => tG.first (R := RI X.K) (f := fi) (g := fun it env h1 => bd (lcS it t tt fe (wipD env (own.map (·.2))) it.items [] h1) fun ds h2 => .ok (D.lst ds) h2) p fun r0 env h1 it J H1 rh rs rj p1 =>
    lc_run rh rs rj hv p1
/-- y = [..] -/
theorem ds_setLc {i : Nat} {z : Str} {py spos : Pos} {scope : Scope} {own : List (Str × Nat)} (hc : X.calm = true) (hN : X.N.Nodup) (hy : X.N[i]? = some z) (hyl : X.env.scope.names.lookup z = some .local)
    (hsw : swapsWith (.ListComp elt [⟨tg, iter, ifs, 0⟩] scope pos) (some (.Name z py)) spos.line X.env = pure true) (hi : PI X tg iter (tI X.K W fi)) (ok : BlkOk X.N X.env.scope scope own)
    (hg : ∀ (s : Shared) (H : Hp) (C : Addr) (cl : List (Str × Addr)) (fp : List Addr), PG (blkX X s H scope cl C fp) tg (tgR X.K t)) (ht : ∀ (s : Shared) (H : Hp) (C : Addr) (cl : List (Str × Addr)) (fp : List Addr), PTs (blkX X s H scope cl C fp) ifs (tT X.K noW tt))
    (he : ∀ (s : Shared) (H : Hp) (C : Addr) (cl : List (Str × Addr)) (fp : List Addr), PE (blkX X s H scope cl C fp) elt (tE X.K noW fe)) (hv : ∀ i ∈ tgS t, i ∈ own.map (·.2) := by decide) (hs : ∀ x, foldedSetIterable iter X.env x = pure x := by intro _; rfl) :
    PS X (.Assign [.Name z py] (.ListComp elt [⟨tg, iter, ifs, 0⟩] scope pos) spos) (tS X.K W (asg (lcE fi t tt fe (own.map (·.2))) (.nm i))) :=
  PS.imp (ps_setLc hc hN hy hyl hsw hi ok hg ht he hs) fun E σ H ⟨r, env, h, rh, rs, p⟩ =>
    PoS.bs (R := RV X.K) (g := fun d env h1 => match tgF (.nm i) d env with
  | some e => .nx e h1
  | none => .bad) rh rs p (fun r1 h1 a b H1 ex rh1 rs1 ra p1 => p1 r1 _ H1 .refl rh1 (rs1.set ra)) |> fun q =>
    tG.first (R := RI X.K) (f := fi) (g := fun it env h1 => bd (lcS it t tt fe (wipD env (own.map (·.2))) it.items [] h1) fun ds h2 => .ok (D.lst ds) h2) q fun r0 env h1 it J H1 rh rs rj p1 =>
    lc_run rh rs rj hv p1
end
end Dt
namespace Dt
open PySem PySem.Spec PyProof.Rows L2
abbrev FD := List D → DH → Rs D
def WE (E : XK) : WX := fun c d _ H => E c d H
def spD (K : PySem.W.Frag) (n : Nat) (F : FD) : Sp := fun vs H Q E => ∃ r h ds, ds.length = n ∧ RH K r h H ∧ RVs K r H ds vs ∧ Po (RV K) K (WE E) r [] H (F ds h) Q
abbrev FnD (P : Program) (w : World) (K : PySem.W.Frag) (mg : Str → Option Value) (base : Heap) (k : Nat) (f : Addr) (fd : FuncData) (ps : List Str) (F : FD) : Prop :=
  FnOk P w K mg base (L2.CX P w) k f fd ps (spD K ps.length F)
def startD (N : List Str) (ds : List D) : Env' := ds.map some ++ List.replicate (N.length - ds.length) none
def endD (Q : VK) : Ends := { nx := fun _ H' => Q .non H', rt := Q }
/-- how a body's outcome answers what is told of the def -/
def Exits (h0 : DH) (o : So) (res : Rs D) : Prop :=
  ∀ (K : PySem.W.Frag) (r : Rg) (H : Hp) (Q : VK) (E : XK), RH K r h0 H → Po (RV K) K (WE E) r [] H res Q → PoS K (WE E) r H o (endD Q)
section
variable {P : Program} {w : World} {K : PySem.W.Frag} {mg : Str → Option Value} {base : Heap} {r r' : Rg} {H H' : Hp} {ds : List D} {vs : List V}
theorem RS.start {N : List Str} (q : RVs K r H ds vs) : RS K r H (startD N ds) (L2.start N vs) := by
  unfold startD L2.start
  rw [← q.length]
  refine ⟨by simp [q.length], fun i d hi => ?_⟩
  by_cases hl : i < ds.length
  · rw [List.getElem?_append_left (by simpa using hl), List.getElem?_map] at hi
    obtain ⟨d', h1, h2⟩ := Option.map_eq_some_iff.mp hi
    cases h2
    obtain ⟨v, h3, h4⟩ := q.get h1
    exact ⟨v, by rw [List.getElem?_append_left (by rw [List.length_map, ← q.length]; exact hl), List.getElem?_map, h3]; rfl, h4⟩
  · rw [List.getElem?_append_right (by simpa using hl), List.getElem?_replicate] at hi
    split at hi <;> cases hi
theorem exit_rt {h0 h : DH} {d : D} : Exits h0 (.rt d h) (.ok d h) := fun K r H Q E rh p => p
theorem exit_nx {h0 h : DH} {env : Env'} : Exits h0 (.nx env h) (.ok .non h) := fun K r H Q E rh p r' σ' H' e rh' rs => p .non r' H' e rh' (rv_non.mpr rfl)
theorem exit_rz {h0 h : DH} {env : Env'} {x : Exn} : Exits h0 (.rz x env h) (.rz x h) := fun K r H Q E rh p r' σ' H' dO e rh' rs xr => p r' H' dO e rh' xr
theorem exit_bad {h0 : DH} {o : So} : Exits h0 o .bad := fun K r H Q E rh p => p.elim
mutual
def Bel (n : Nat) : D → Prop
  | .tup ds => BelL n ds
  | .wt ds => BelL n ds
  | .lst ds => BelL n ds
  | .dk _ ds => BelL n ds
  | .dt _ ds => BelL n ds
  | .ref m => m < n
  | _ => True
def BelL (n : Nat) : List D → Prop
  | [] => True
  | d :: ds => Bel n d ∧ BelL n ds
end
def BelO (n : Nat) : O → Prop
  | .lst ds => BelL n ds
  | .dk _ ds => BelL n ds
  | .dt _ ds => BelL n ds
  | .ins _ _ ds => BelL n ds
/-- to fewer objects of ours -/
structure Less (r r' : Rg) : Prop where
  up : ∀ (i : Nat) (a : Addr), r.ix[i]? = some a → r'.ix[i]? = some a
  bn : ∀ a, a ∈ r.bn → a ∈ r'.bn
theorem Less.pre (l : Less r r') (i : Nat) (a : Addr) (h : i < r.ix.length) (e : r'.ix[i]? = some a) : r.ix[i]? = some a := by
  have := l.up i _ (List.getElem?_eq_getElem h)
  rw [this] at e; cases e
  exact List.getElem?_eq_getElem h
theorem Less.sub (l : Less r r') (a : Addr) (m : a ∈ r) : a ∈ r' := by
  rcases m with m | m
  · obtain ⟨i, hi⟩ := List.getElem?_of_mem m
    exact .inl (List.mem_of_getElem? (l.up i a hi))
  · exact .inr (l.bn a m)
theorem Less.out {h : DH} (l : Less r r') (rh : RH K r' h H) {m : Nat} {a : Addr} (hm : r.ix.length ≤ m) (e : r'.ix[m]? = some a) : a ∉ r := fun mm => by
  rcases mm with mm | mm
  · obtain ⟨i, hi⟩ := List.getElem?_of_mem mm
    have hi' : i < r.ix.length := (List.getElem?_eq_some_iff.mp hi).1
    obtain ⟨h1, e1⟩ := List.getElem?_eq_some_iff.mp (l.up i a hi)
    obtain ⟨h2, e2⟩ := List.getElem?_eq_some_iff.mp e
    have := (List.getElem_inj rh.ixnd).mp (e1.trans e2.symm)
    omega
  · exact rh.apart (List.mem_of_getElem? e) (l.bn a mm) rfl
theorem Ext.less (e : Ext r r' H H') : Less r r' := ⟨e.pre, fun a m => by rw [e.bn]; exact m⟩
mutual
theorem RV.less (l : Less r r') : ∀ {d : D} {v : V}, Bel r.ix.length d → RV K r' H d v → RV K r H d v
  | .non, _, _, x => by simp only [RV] at x ⊢; exact x
  | .bl _, _, _, x => by simp only [RV] at x ⊢; exact x
  | .int _, _, _, x => by simp only [RV] at x ⊢; exact x
  | .str _, _, _, x => by simp only [RV] at x ⊢; exact x
  | .con _, _, _, x => by simp only [RV] at x ⊢; exact x
  | .scr _, _, _, x => by
    simp only [RV] at x ⊢
    obtain ⟨a, rfl, f⟩ := x
    exact ⟨a, rfl, f.imp (fun z => ⟨z.1, fun m => z.2 (l.sub _ m)⟩) id⟩
  | .tup ds, _, b, x => by
    simp only [RV, Bel] at x b ⊢
    obtain ⟨a, vs, rfl, f, q⟩ := x
    exact ⟨a, vs, rfl, ⟨f.1, fun m => f.2 (l.sub _ m)⟩, RVs.less l b q⟩
  | .wt ds, _, b, x => by
    simp only [RV, Bel] at x b ⊢
    obtain ⟨a, vs, rfl, f, q⟩ := x
    exact ⟨a, vs, rfl, f, RVs.less l b q⟩
  | .lst ds, _, b, x => by
    simp only [RV, Bel] at x b ⊢
    obtain ⟨a, vs, rfl, f, q⟩ := x
    exact ⟨a, vs, rfl, ⟨f.1, fun m => f.2 (l.sub _ m)⟩, RVs.less l b q⟩
  | .dk ks ds, _, b, x => by
    simp only [RV, Bel] at x b ⊢
    obtain ⟨a, vs, rfl, f, n, e, q⟩ := x
    exact ⟨a, vs, rfl, f, fun m => n (l.sub _ m), e, RVs.less l b q⟩
  | .dt ks ds, _, b, x => by
    simp only [RV, Bel] at x b ⊢
    obtain ⟨a, vs, rfl, f, n, e, q⟩ := x
    exact ⟨a, vs, rfl, f, fun m => n (l.sub _ m), e, RVs.less l b q⟩
  | .ref n, _, b, x => by
    simp only [RV, Bel] at x b ⊢
    obtain ⟨a, h1, rfl⟩ := x
    exact ⟨a, l.pre n a b h1, rfl⟩
theorem RVs.less (l : Less r r') : ∀ {ds : List D} {vs : List V}, BelL r.ix.length ds → RVs K r' H ds vs → RVs K r H ds vs
  | [], _, _, x => by rw [x.inv0]; exact .nil
  | d :: ds, _, b, x => by
    obtain ⟨v, t, rfl, p, q⟩ := x.inv
    exact .cons (RV.less l b.1 p) (RVs.less l b.2 q)
end
theorem RO.less (l : Less r r') {a : Addr} {o : O} (b : BelO r.ix.length o) (x : RO K r' H a o) : RO K r H a o := by
  cases o with
  | lst ds => obtain ⟨vs, p, q⟩ := x; exact ⟨vs, p, q.less l b⟩
  | dk ks ds => obtain ⟨vs, p, e, q⟩ := x; exact ⟨vs, p, e, q.less l b⟩
  | dt ks ds => obtain ⟨vs, p, e, q⟩ := x; exact ⟨vs, p, e, q.less l b⟩
  | ins C fs ds => obtain ⟨dx, vs, p, e, q⟩ := x; exact ⟨dx, vs, p, e, q.less l b⟩
mutual
inductive Rsv (n : Nat) (h : DH) : D → D → Prop
  | keep {d : D} (b : Bel n d) : Rsv n h d d
  | lst {m : Nat} {ds es : List D} (hm : n ≤ m) (e : h[m]? = some (.lst ds)) (q : Rsvs n h ds es) : Rsv n h (.ref m) (.lst es)
  | dk {m : Nat} {ks : List Key} {ds es : List D} (hm : n ≤ m) (e : h[m]? = some (.dk ks ds)) (q : Rsvs n h ds es) : Rsv n h (.ref m) (.dk ks es)
  | dt {m : Nat} {ks : List (List Key)} {ds es : List D} (hm : n ≤ m) (e : h[m]? = some (.dt ks ds)) (q : Rsvs n h ds es) : Rsv n h (.ref m) (.dt ks es)
  | tup {ds es : List D} (q : Rsvs n h ds es) : Rsv n h (.tup ds) (.tup es)
  | lstF {ds es : List D} (q : Rsvs n h ds es) : Rsv n h (.lst ds) (.lst es)
inductive Rsvs (n : Nat) (h : DH) : List D → List D → Prop
  | nil : Rsvs n h [] []
  | cons {d e : D} {ds es : List D} (a : Rsv n h d e) (q : Rsvs n h ds es) : Rsvs n h (d :: ds) (e :: es)
end
theorem Rsvs.keep {n : Nat} {h : DH} : ∀ {ds : List D}, BelL n ds → Rsvs n h ds ds
  | [], _ => .nil
  | d :: ds, b => .cons (.keep b.1) (Rsvs.keep b.2)
mutual
theorem Rsv.run {h : DH} (l : Less r r') (rh : RH K r' h H) : ∀ {d e : D} {v : V}, Rsv r.ix.length h d e → RV K r' H d v → RV K r H e v
  | _, _, v, .keep b, x => x.less l b
  | _, _, v, .lst (m := m) hm e q, x => by
    obtain ⟨a, vs, rfl, ha, p, y⟩ := rh.lst_at x e
    simp only [RV]
    exact ⟨a, vs, rfl, ⟨p, l.out rh hm ha⟩, Rsvs.run l rh q y⟩
  | _, _, v, .dk (m := m) hm e q, x => by
    simp only [RV] at x ⊢
    obtain ⟨a, ha, rfl⟩ := x
    obtain ⟨vs, p, e2, y⟩ := rh.at_ m a _ ha e
    exact ⟨a, vs, rfl, .inl p, l.out rh hm ha, e2, Rsvs.run l rh q y⟩
  | _, _, v, .dt (m := m) hm e q, x => by
    simp only [RV] at x ⊢
    obtain ⟨a, ha, rfl⟩ := x
    obtain ⟨vs, p, e2, y⟩ := rh.at_ m a _ ha e
    exact ⟨a, vs, rfl, .inl p, l.out rh hm ha, e2, Rsvs.run l rh q y⟩
  | _, _, v, .tup q, x => by
    simp only [RV] at x ⊢
    obtain ⟨a, vs, rfl, f, y⟩ := x
    exact ⟨a, vs, rfl, ⟨f.1, fun m => f.2 (l.sub _ m)⟩, Rsvs.run l rh q y⟩
  | _, _, v, .lstF q, x => by
    simp only [RV] at x ⊢
    obtain ⟨a, vs, rfl, f, y⟩ := x
    exact ⟨a, vs, rfl, ⟨f.1, fun m => f.2 (l.sub _ m)⟩, Rsvs.run l rh q y⟩
theorem Rsvs.run {h : DH} (l : Less r r') (rh : RH K r' h H) : ∀ {ds es : List D} {vs : List V}, Rsvs r.ix.length h ds es → RVs K r' H ds vs → RVs K r H es vs
  | _, _, _, .nil, x => by rw [x.inv0]; exact .nil
  | _, _, _, .cons a q, x => by
    obtain ⟨v, t, rfl, y, z⟩ := x.inv
    exact .cons (Rsv.run l rh a y) (Rsvs.run l rh q z)
end
end
end Dt
namespace Dt
open PySem PySem.Spec PyProof.Rows L2
def cll (n : Nat) (G : FD) (as : AF) : EF := fun env h => bd (as env h) fun ds h1 => if ds.length = n then G ds h1 else .bad
/-- an instance of ours -/
def insOf (h : DH) (C : Addr) : D → Option (Nat × List Str × List D)
  | .ref n => match h[n]? with
    | some (.ins C' fs ds) => if C' = C then some (n, fs, ds) else none
    | _ => none
  | _ => none
def flk : List Str → List D → Str → Option D
  | f :: fs, d :: ds, x => if x = f then some d else flk fs ds x
  | _, _, _ => none
/-- the places' values with one put -/
def fput : List Str → List D → Str → D → List Str × List D
  | f :: fs, d :: ds, x, v => if f = x then (f :: fs, v :: ds) else ((f :: (fput fs ds x v).1), (d :: (fput fs ds x v).2))
  | _, _, x, v => ([x], [v])
def fld (C : Addr) (f : Str) (fo : EF) : EF := fun env h => bd (fo env h) fun x h1 => match insOf h1 C x with
  | some (_, fs, ds) => (match flk fs ds f with | some d => .ok d h1 | none => .bad)
  | none => .bad
def augP (C : Addr) (f : Str) (x d y : D) (env : Env') (h2 : DH) : So := match d, y, insOf h2 C x with
  | .int i, .int j, some (n, fs2, ds2) => if fs2.length < 900 then .nx env (h2.set n (.ins C (fput fs2 ds2 f (.int (i + j))).1 (fput fs2 ds2 f (.int (i + j))).2)) else .bad
  | _, _, _ => .bad
def augF (C : Addr) (f : Str) (fo fe : EF) : SF := fun env h => bs env (fo env h) fun x h1 => match insOf h1 C x with
  | some (_, fs, ds) => (match flk fs ds f with
    | some d => bs env (fe env h1) fun y h2 => augP C f x d y env h2
    | none => .bad)
  | none => .bad
def mcl (C : Addr) (m : Str) (n : Nat) (G : FD) (fo : EF) (as : AF) : EF := fun env h => bd (fo env h) fun x h1 => match insOf h1 C x with
  | some (_, fs, _) => if m ∈ fs then .bad else bd (as env h1) fun ds h2 => if ds.length + 1 = n then G (x :: ds) h2 else .bad
  | none => .bad
section
variable {X : Cx} {W : WX} {E : XK} {K : PySem.W.Frag} {r r0 r1 : Rg} {h : DH} {H H1 : Hp} {d x y : D} {v u : V} {σ : L2.St} {Q : VK} {ds : List D} {vs : List V} {env env' : Env'} {o : So}
  {st : Stmt} {rest : List Stmt} {e oe : Expr} {es : List Expr} {fe fo : EF} {as : AF} {t : Tg} {p pos pos' apos : Pos} {k : Nat} {f C : Addr} {fd : FuncData} {ps : List Str} {G : FD} {nm m : Str} {fs : List Str}
theorem de_callL (F : FnD X.prog X.w X.K X.mg X.base k f fd ps G) (tk : Takes X W) (hr : Room k X.A) (hg : Gl X nm) (hm : X.mg nm = some (.ref f)) (hk : PySem.W.keepIn X.K (.ref f) = true) (hb : Binds X.K fd ps []) (ha : PA X (e :: es) (tA X.K W as))
    (hdb : (nm == ("__debug__" : Str)) = false := by decide) (he : starEach (e :: es) X.env = (false, eval e X.env) :: starEach es X.env := by rfl) (hpl : (backTo pos (starEach es X.env)).any (·.1) = false := by rfl) :
    PE X (.Call (.Name nm p) (e :: es) [] pos) (tE X.K W (cll ps.length G as)) :=
  PE.imp (pe_callS F hr hg hm hk hb (fun σ => passAt tk σ) ha hdb he hpl) fun σ H Q p => tG.first (R := RVs X.K) (f := as) (g := fun ds _ h1 => if ds.length = ps.length then G ds h1 else .bad) p fun r0 env h1 x v H1 rh rs rx p1 => by
    split at p1
    · rename_i hl
      exact ⟨r0, h1, x, hl, rh, rx, by
        cases hG : G x h1 with
        | ok d h2 => rw [hG] at p1; exact p1
        | rz z h2 => rw [hG] at p1; exact p1
        | bad => rw [hG] at p1; exact p1⟩
    · exact p1.elim
theorem de_call {n : Nat} (F : FnD X.prog X.w X.K X.mg X.base k f fd ps G) (tk : Takes X W) (hr : Room k X.A) (hg : Gl X nm) (hm : X.mg nm = some (.ref f)) (hk : PySem.W.keepIn X.K (.ref f) = true) (hb : Binds X.K fd ps []) (ha : PA X (e :: es) (tA X.K W as))
    (hdb : (nm == ("__debug__" : Str)) = false := by decide) (he : starEach (e :: es) X.env = (false, eval e X.env) :: starEach es X.env := by rfl) (hpl : (backTo pos (starEach es X.env)).any (·.1) = false := by rfl) (hn : ps.length = n := by rfl) :
    PE X (.Call (.Name nm p) (e :: es) [] pos) (tE X.K W (cll n G as)) := by
  subst hn
  exact de_callL F tk hr hg hm hk hb ha hdb he hpl
end
end Dt
namespace Dt
open PySem PySem.Spec PyProof.Rows L2
/-- what is told where nothing is told by hand -/
def raw (N : List Str) (b : SF) : FD := fun ds h => match b (startD N ds) h with
  | .rt d h1 => .ok d h1
  | .nx _ h1 => .ok .non h1
  | .rz x _ h1 => .rz x h1
  | _ => .bad
theorem raw_exits {N : List Str} {b : SF} {ds : List D} {h : DH} : Exits h (b (startD N ds) h) (raw N b ds h) := by
  unfold raw
  split
  · rename_i e; rw [e]; exact exit_rt
  · rename_i e; rw [e]; exact exit_nx
  · rename_i e; rw [e]; exact exit_rz
  · exact exit_bad
section
variable {P : Program} {w : World} {K : PySem.W.Frag} {mg : Str → Option Value} {base : Heap} {X : Cx} {W : WX} {st : Stmt} {e : Expr}
theorem fnd_mk {x qual : Str} {params : Arguments} {bd : List Stmt} {scope : Scope} {dvs : List V} {kws : List (Str × V)} {f : Addr} {fd : FuncData} {N ps : List Str} {k : Nat} {G : FD} {body : SF} (F : FunD K x qual params bd scope dvs kws f fd) (S : FnScope N ps scope)
    (hb : ∀ (cdv : Value) (A : Around) (outer : List Env) (s : Shared) (H : Hp) (E : XK), Room k (A.deeper (envOfC qual scope s.heap.objs.size f cdv)) →
      PSs (cxOf (L2.CX P w) P w K mg base N qual scope f cdv A outer s H E) bd (tS K (WE E) body))
    (he : ∀ ds h, ds.length = ps.length → G ds h ≠ .bad → Exits h (body (startD N ds) h) (G ds h)) : FnD P w K mg base (k + 1) f fd ps G := by
  refine F.ok S (fun vs H Q E ⟨r, h, ds, hl, rh, q, p⟩ => by rw [← q.length, hl]) (fun cdv A outer s H vs Q E hr ⟨r, h, ds, hl, rh, q, p⟩ => ⟨_, hb cdv A outer s H E hr, r, startD N ds, h, rh, RS.start q, ?_⟩)
  exact he ds h hl (fun z => by rw [z] at p; exact p) K r H Q E rh p
theorem fnd_raw {x qual : Str} {params : Arguments} {bd : List Stmt} {scope : Scope} {dvs : List V} {kws : List (Str × V)} {f : Addr} {fd : FuncData} {N ps : List Str} {k : Nat} {body : SF} (F : FunD K x qual params bd scope dvs kws f fd) (S : FnScope N ps scope)
    (hb : ∀ (cdv : Value) (A : Around) (outer : List Env) (s : Shared) (H : Hp) (E : XK), Room k (A.deeper (envOfC qual scope s.heap.objs.size f cdv)) →
      PSs (cxOf (L2.CX P w) P w K mg base N qual scope f cdv A outer s H E) bd (tS K (WE E) body)) : FnD P w K mg base (k + 1) f fd ps (raw N body) := fnd_mk F S hb fun _ _ _ _ => raw_exits
theorem ds_nev : PS X st (tS X.K W nev) := ⟨fun _ _ _ _ _ _ ⟨_, _, _, _, _, p⟩ => p.elim⟩
theorem un65 {A : Around} {k : Nat} (hr : Room k A) : A.units + 65 < cLine := by have := hr.un; omega
theorem un68 {A : Around} {k : Nat} (hr : Room k A) : A.units + 68 < cLine := by have := hr.un; omega
theorem un1 {A : Around} {k : Nat} (hr : Room k A) : A.units + 1 < cLine := by have := hr.un; omega
theorem un0 {A : Around} {k : Nat} (hr : Room k A) : A.units < cLine := by have := hr.un; omega
theorem un64 {A : Around} {k : Nat} (hr : Room k A) : A.units + 64 < cLine := by have := hr.un; omega
theorem tk0 : Takes X noW := takes0
theorem tkf {P : Program} {w : World} {K : PySem.W.Frag} {mg : Str → Option Value} {base : Heap} {N : List Str} {qual : Str} {scope : Scope} {f : Addr} {cd : Value} {A : Around} {outer : List Env} {s : Shared} {H : Hp} {E : XK} :
    Takes (cxOf (L2.CX P w) P w K mg base N qual scope f cd A outer s H E) (WE E) := takes_of rfl rfl rfl rfl
theorem pof {P : Program} {w : World} {K : PySem.W.Frag} {mg : Str → Option Value} {base : Heap} {N : List Str} {qual : Str} {scope : Scope} {f : Addr} {cd : Value} {A : Around} {outer : List Env} {s : Shared} {H : Hp} {E : XK} :
    PassesOwn (model (cxOf (L2.CX P w) P w K mg base N qual scope f cd A outer s H E).prog (cxOf (L2.CX P w) P w K mg base N qual scope f cd A outer s H E).w) (cxOf (L2.CX P w) P w K mg base N qual scope f cd A outer s H E).A (cxOf (L2.CX P w) P w K mg base N qual scope f cd A outer s H E).env (cxOf (L2.CX P w) P w K mg base N qual scope f cd A outer s H E).xe := passes_of rfl
theorem de_ty {x : Str} {T : String} {pos : Pos} (hg : Gl X x) (hm : X.mg x = none) (hv : bootBuiltins x = some (.type T)) (hn : x ≠ "__name__" := by decide) (hd : (x == ("__debug__" : Str)) = false := by decide) : PE X (.Name x pos) (tE X.K W (ct (.con (.ty T)))) :=
  de_c (pe_bltn hg hm hv (show RelV (.ty T) (.type T) from rfl) hn hd) fun _ _ => by simp only [RV]
theorem de_gint {x : Str} {i : Int} {pos : Pos} (hg : Gl X x) (hm : ∃ t, X.mg x = some (.int i t)) (hd : (x == ("__debug__" : Str)) = false := by decide) : PE X (.Name x pos) (tE X.K W (ct (.int i))) :=
  let ⟨_, e⟩ := hm; de_c (pe_glob hg e (show RelV (.int i) _ from ⟨_, rfl⟩) hd) fun _ _ => rv_int.mpr rfl
/-- the script as it is handed to the law -/
theorem law_in {H : Hp} {a : Addr} {ns : List Int} (hO : Only H) (hS : SqL K H a (ns.map V.int)) {G : FD} (hG : G [.scr ns] [] = .ok (.bl true) [] ∨ ∃ h, G [.scr ns] [] = .ok (.bl true) h) :
    spD K 1 G [.ref a] H (fun v _ => v = .bl true) fun _ _ _ => False := by
  refine ⟨⟨[], []⟩, [], [.scr ns], rfl, ⟨rfl, List.nodup_nil, fun i b o q => by simp at q, fun b m => by simp at m⟩, .one ?_, ?_⟩
  · simp only [RV]
    exact ⟨a, rfl, hS.imp (fun z => ⟨z, fun m => m.elim (fun m => by simp at m) fun m => by simp at m⟩) id⟩
  · rcases hG with e | ⟨h, e⟩ <;> rw [e] <;> exact fun v r' H' _ _ rv => rv_bl.mp rv
end
end Dt
namespace Dt
open PySem PySem.Spec PyProof.Rows L2
def och (g g2 : D → D → DH → Rs D) (fa fb fc : EF) : EF := fun env h => bd (fa env h) fun a h1 => bd (fb env h1) fun b h2 => bd (g a b h2) fun z h3 => bd (tstD z h3) fun k h4 => if k = true then bd (fc env h4) fun c h5 => g2 b c h5 else .ok (.bl false) h4
section
variable {X : Cx} {W : WX} {a b c e : Expr} {es : List Expr} {fa fb fc : EF} {pos p : Pos} {as : AF}
theorem tChain_of {g g2 : D → D → DH → Rs D} {r r' : R2} (hg : OpD X.K g r) (hg2 : OpD X.K g2 r') {σ : L2.St} {H : Hp} {Q : VK} (p : tE X.K W (och g g2 fa fb fc) σ H Q) : tChain r r' (tE X.K W fa) (tE X.K W fb) (tE X.K W fc) σ H Q := by
  refine tG.first (R := RV X.K) (g := fun a env h1 => bd (fb env h1) fun b h2 => bd (g a b h2) fun z h3 => bd (tstD z h3) fun k h4 => if k = true then bd (fc env h4) fun c h5 => g2 b c h5 else .ok (D.bl false) h4) p fun r0 env h1 x v H1 rh rs rx p1 => ?_
  refine ⟨r0, env, h1, rh, rs, (Po.bd (R := RV X.K) p1).mono fun u H2 ⟨r2, h2, y, _, e2, rh2, ry, p2⟩ => ?_⟩
  refine hg r2 h2 H2 x y v u W σ _ rh2 (rx.mono e2) ry ((Po.bd (R := RV X.K) p2).mono fun w H3 ⟨r3, h3, z, _, e3, rh3, rz, p3⟩ => ?_)
  cases z with
  | bl k =>
    simp only [RV] at rz
    refine ⟨k, rz, ?_⟩
    cases k with
    | true =>
      refine iteT ⟨r3, env, h3, rh3, (rs.mono e2).mono e3, (Po.bd (R := RV X.K) p3).mono fun w' H4 ⟨r4, h4, z', _, e4, rh4, rz', p4⟩ => ?_⟩
      exact hg2 r4 h4 H4 y z' u w' W σ Q rh4 ((ry.mono e3).mono e4) rz' p4
    | false => exact iteF (p3 (.bl false) r3 H3 .refl rh3 (by simp only [RV]))
  | _ => exact p3.elim
theorem de_chain {op op' : CmpOp} {g g2 : D → D → DH → Rs D} {r r' : R2} (ho : OpR X (compareOp op) r) (hg : OpD X.K g r) (ho' : OpR X (compareOp op') r') (hg2 : OpD X.K g2 r') (ha : PE X a (tE X.K W fa)) (hb : PE X b (tE X.K W fb)) (hc : PE X c (tE X.K W fc))
    (hm : lastMarks [op, op'] [b, c] = false := by with_unfolding_all rfl) : PE X (.Compare a [op, op'] [b, c] pos) (tE X.K W (och g g2 fa fb fc)) :=
  PE.imp (pe_chain ho ho' ha hb hc hm) fun _ _ _ p => tChain_of hg hg2 p
theorem dt_chain {op op' : CmpOp} {g g2 : D → D → DH → Rs D} {r r' : R2} (ho : OpR X (compareOp op) r) (hg : OpD X.K g r) (ho' : OpR X (compareOp op') r') (hg2 : OpD X.K g2 r') (ha : PE X a (tE X.K W fa)) (hb : PE X b (tE X.K W fb)) (hc : PE X c (tE X.K W fc))
    (hm : lastMarks [op, op'] [b, c] = false := by with_unfolding_all rfl) : PT X (.Compare a [op, op'] [b, c] pos) (tT X.K W (tv (och g g2 fa fb fc))) :=
  PT.imp (pt_chain ho ho' ha hb hc hm) fun σ H Q p => by
    refine tChain_of (W := W) hg hg2 (Q := fun x H' => ∃ k, x = .bl k ∧ Q k H') (tG.first (R := RV X.K) (f := och g g2 fa fb fc) (g := fun d _ h => tstD d h) p ?_ : tE X.K W (och g g2 fa fb fc) σ H fun x H' => ∃ k, x = .bl k ∧ Q k H')
    exact fun r0 env h1 x v H1 rh rs rx p1 => tst_of rh rx p1
def rgsD (i : Int) : List D := (List.range i.toNat).map fun k : Nat => D.int k
def lrg (own : Bool) (fa : EF) : EF := fun env h => bd (fa env h) fun d h1 => match d with
  | .int i => if 0 ≤ i ∧ i ≤ 1000000 then mkL own (rgsD i) h1 else .bad
  | _ => .bad
def trg (fa : EF) : EF := fun env h => bd (fa env h) fun d h1 => match d with
  | .int i => if 0 ≤ i ∧ i ≤ 1000000 then mkT (rgsD i) h1 else .bad
  | _ => .bad
theorem rgs_rel {K : PySem.W.Frag} {r : Rg} {H : Hp} {i : Int} : RVs K r H (rgsD i) (rgV 0 i) := by
  unfold rgsD rgV
  rw [Int.sub_zero]
  generalize List.range i.toNat = l
  induction l with
  | nil => exact .nil
  | cons n t ih => exact .cons (rv_int.mpr (by dsimp only; rw [Int.zero_add])) ih
theorem rgOk_of {i : Int} (h : 0 ≤ i ∧ i ≤ 1000000) : RgOk 0 i := RgOk.of_le (by omega) (by omega) (by omega) (by omega)
theorem de_lrg (own : Bool) {p1 p2 : Pos} (hc : X.calm = true) (hg2 : Gl X "list") (hm2 : X.mg "list" = none) (hg : Gl X "range") (hm : X.mg "range" = none) (ha : PE X a (tE X.K W fa)) (na : starEach [a] X.env = (false, eval a X.env) :: starEach [] X.env := by rfl) (na2 : starEach [Expr.Call (.Name "range" p) [a] [] p2] X.env = (false, eval (Expr.Call (.Name "range" p) [a] [] p2) X.env) :: starEach [] X.env := by rfl) :
    PE X (.Call (.Name "list" p1) [.Call (.Name "range" p) [a] [] p2] [] pos) (tE X.K W (lrg own fa)) :=
  PE.imp (pe_listRg hc hg2 hm2 (prg_1 hg hm ha na) na2) fun σ H Q p => tG.first (R := RV X.K) (f := fa) (g := fun d _ h1 => match d with
  | .int i => if 0 ≤ i ∧ i ≤ 1000000 then mkL own (rgsD i) h1 else .bad
  | _ => .bad) p fun r0 env h1 x v H1 rh rs rx p1 => by
    split at p1
    · rename_i i
      split at p1
      · rename_i hc2
        exact ⟨i, rv_int.mp rx, rgOk_of hc2, (po_mkL rh rgs_rel p1).2⟩
      · exact p1.elim
    · exact p1.elim
end
section
variable {X : Cx} {K : PySem.W.Frag} {r r0 : Rg} {h : DH} {H : Hp} {d x y : D} {v u : V} {W : WX} {σ : L2.St} {Q : VK} {ds : List D} {vs : List V}
/-- the items of a list that never changes -/
def frz : D → Option (List D)
  | .wt _ => none
  | .lst ds => some ds
  | _ => none
open Classical in
noncomputable def lc2S (it : ItD) (t : Tg) (tt : TF) (fi1 : IF) (t1 : Tg) (tt1 : TF) (fe : EF) (vs1 : List Nat) (env : Env') : List D → List D → DH → Rs (List D)
  | [], acc, h => if srcOk it h then .ok acc h else .bad
  | d :: rest, acc, h => if srcOk it h then (match tgF t d env with
      | some e1 => (match tt e1 h with
        | .ok b h1 => if b = true then (match fi1 e1 h1 with
            | .ok it1 h2 => (match lcS it1 t1 tt1 fe (wipD e1 vs1) it1.items acc h2 with
              | .ok acc2 h3 => lc2S it t tt fi1 t1 tt1 fe vs1 env rest acc2 h3
              | _ => .bad)
            | _ => .bad) else lc2S it t tt fi1 t1 tt1 fe vs1 env rest acc h1
        | _ => .bad)
      | none => .bad) else .bad
noncomputable def lc2E (fi : IF) (t : Tg) (tt : TF) (fi1 : IF) (t1 : Tg) (tt1 : TF) (fe : EF) (vs vs1 : List Nat) : EF := fun env h => bd (fi env h) fun it h1 => bd (lc2S it t tt fi1 t1 tt1 fe vs1 (wipD env vs) it.items [] h1) fun ds h2 => .ok (.lst ds) h2
theorem lc2_run {fe : EF} {env : Env'} {r1 : Rg} {H1 : Hp} {t t1 : Tg} {tt tt1 : TF} {fi1 : IF} {vs vs1 : List Nat} {it : ItD} {J : It} (rh : RH K r1 h H1) (rs : RS K r1 H1 env σ) (rj : RI K r1 H1 it J) (hv : ∀ i ∈ tgS t, i ∈ vs) (hv1 : ∀ i ∈ tgS t1, i ∈ vs1) {Q : VK}
    (p : Po (RV K) K W r1 σ H1 (bd (lc2S it t tt fi1 t1 tt1 fe vs1 (wipD env vs) it.items [] h) fun ds h2 => .ok (D.lst ds) h2) Q) :
    ∀ q0, H1 q0 = none → ∃ Wv : Nat → Nat → Hp → Prop, (∃ m, Wv 0 m (upd H1 q0 (.lst []))) ∧ ∀ i m H, Wv i m H →
      (J.stop i H ∧ Q (.ref q0) H) ∨ (J.go i H ∧ ∃ Nx : Hp → Prop, (∀ H', Nx H' → ∃ m', m' < m ∧ Wv (i + 1) m' H') ∧ ∀ x H', J.yld i H x H' → tgR K t x (wipe σ vs) H' fun σ2 H2 => wipe σ2 vs = wipe σ vs ∧ tT K noW tt σ2 H2 fun b H3 =>
        if b = true then tI K noW fi1 σ2 H3 fun J1 H4 => ∃ W1 : Nat → Nat → Hp → Prop, (∃ m, W1 0 m H4) ∧ ∀ j k H, W1 j k H →
          (J1.stop j H ∧ Nx H) ∨ (J1.go j H ∧ ∃ Nx1 : Hp → Prop, (∀ H', Nx1 H' → ∃ k', k' < k ∧ W1 (j + 1) k' H') ∧ ∀ x H', J1.yld j H x H' → tgR K t1 x (wipe σ2 vs1) H' fun σ3 H5 => wipe σ3 vs1 = wipe σ2 vs1 ∧ tT K noW tt1 σ3 H5 fun b H6 =>
            if b = true then tE K noW fe σ3 H6 fun y H7 => ∃ acc, H7 q0 = some (.lst acc) ∧ acc.length < sizeLine ∧ Nx1 (upd H7 q0 (.lst (acc ++ [y]))) else Nx1 H6)
        else Nx H3) := by
  intro q0 hD
  let Wv : Nat → Hp → Prop := fun i H => ∃ r h acc vacc, Wx r1 (r.ban q0) H1 H ∧ Ext r1 r H1 H ∧ RH K (r.ban q0) h H ∧ H q0 = some (.lst vacc) ∧ RVs K (r.ban q0) H acc vacc ∧
      Po (RV K) K W r1 σ H1 (bd (lc2S it t tt fi1 t1 tt1 fe vs1 (wipD env vs) (it.items.drop i) acc h) fun ds h2 => .ok (D.lst ds) h2) Q
  obtain ⟨e0, _⟩ := rh.lay (o := .lst []) hD
  obtain ⟨w0, rh0⟩ := rh.hide (o := .lst []) hD
  have nb := rh.out hD
  refine ⟨fun i m H => i ≤ it.items.length ∧ m = it.items.length - i ∧ Wv i H, ⟨it.items.length, Nat.zero_le _, rfl, r1, h, [], [], w0, e0, rh0, upd_same, .nil, p⟩, fun i m H hW => ?_⟩
  obtain ⟨hil, rfl, r2, h2, acc, vacc, wx2, ex2, rhB, hDa, qa, p2⟩ := hW
  by_cases hi : i < it.items.length
  · rw [List.drop_eq_getElem_cons hi] at p2
    unfold lc2S at p2
    split at p2
    · rename_i so
      obtain ⟨go, yl⟩ := (rj (r2.ban q0) h2 H wx2 rhB so i).1 _ (List.getElem?_eq_getElem hi)
      split at p2
      · rename_i e3 he3
        refine .inr ⟨go, fun H' => Wv (i + 1) H', fun H' q => ⟨_, by omega, by omega, rfl, q⟩, fun x H' hy => ?_⟩
        obtain ⟨exy, rhy, rvy⟩ := yl x H' hy
        have rsw := (rs.wmono (wx2.trans exy.wx)).wipe vs
        refine tg_run rsw rvy he3 fun σ' rs' hw => ⟨by rw [hw vs hv, wipe_wipe], r2.ban q0, e3, h2, rhy, rs', ?_⟩
        cases ht : tt e3 h2 with
        | ok b h3 =>
          intro b' r3 H3 ex3 rh3 rb
          cases rb
          rw [ht] at p2
          have e23 := exy.trans ex3
          obtain ⟨ix3, bn3⟩ := r3
          obtain rfl : bn3 = q0 :: r2.bn := e23.bn
          cases b with
          | true =>
            dsimp only at p2
            rw [if_pos rfl] at p2
            refine iteT ⟨_, e3, h3, rh3, rs'.mono ex3, ?_⟩
            cases hf : fi1 e3 h3 with
            | ok it1 h4 =>
              intro J1 r4 H4 ex4 rh4 rj1
              rw [hf] at p2
              dsimp only at p2
              have e24 := e23.trans ex4
              obtain ⟨ix4, bn4⟩ := r4
              obtain rfl : bn4 = q0 :: r2.bn := e24.bn
              have hq4 : H4 q0 = some (.lst vacc) := (e24.bk q0 List.mem_cons_self).trans hDa
              have rs4 := (rs'.mono ex3).mono ex4
              split at p2
              case h_2 => exact p2.elim
              rename_i acc2 h9 hin
              -- the inner walk
              let W1 : Nat → Hp → Prop := fun j H => ∃ r h acc vacc, Wx r1 (r.ban q0) H1 H ∧ Wx ⟨ix4, q0 :: r2.bn⟩ (r.ban q0) H4 H ∧ Ext r1 r H1 H ∧ RH K (r.ban q0) h H ∧ H q0 = some (.lst vacc) ∧ RVs K (r.ban q0) H acc vacc ∧
                lcS it1 t1 tt1 fe (wipD e3 vs1) (it1.items.drop j) acc h = .ok acc2 h9
              refine ⟨fun j k H => j ≤ it1.items.length ∧ k = it1.items.length - j ∧ W1 j H, ⟨it1.items.length, Nat.zero_le _, rfl, ⟨ix4, r2.bn⟩, h4, acc, vacc, wx2.trans e24.wx, .refl, Ext.under (r2 := ⟨ix4, r2.bn⟩) ex2 e24 hD nb (fun _ _ => rfl) (by rw [hq4]; simp), rh4, hq4, qa.mono e24, hin⟩, fun j k H5 hW => ?_⟩
              obtain ⟨hjl, rfl, r5, h5, acc5, vacc5, wx5, wx45, ex5, rhB5, hDa5, qa5, p5⟩ := hW
              by_cases hj : j < it1.items.length
              · rw [List.drop_eq_getElem_cons hj] at p5
                unfold lcS at p5
                split at p5
                · rename_i so1
                  obtain ⟨go1, yl1⟩ := (rj1 (r5.ban q0) h5 H5 wx45 rhB5 so1 j).1 _ (List.getElem?_eq_getElem hj)
                  split at p5
                  · rename_i e6 he6
                    refine .inr ⟨go1, fun H' => W1 (j + 1) H', fun H' q => ⟨_, by omega, by omega, rfl, q⟩, fun x H' hy => ?_⟩
                    obtain ⟨exy1, rhy1, rvy1⟩ := yl1 x H' hy
                    have rsw1 := (rs4.wmono (wx45.trans exy1.wx)).wipe vs1
                    refine tg_run rsw1 rvy1 he6 fun σ'' rs'' hw => ⟨by rw [hw vs1 hv1, wipe_wipe], r5.ban q0, e6, h5, rhy1, rs'', ?_⟩
                    cases ht1 : tt1 e6 h5 with
                    | ok b1 h6 =>
                      intro b'' r6 H6 ex6 rh6 rb
                      cases rb
                      rw [ht1] at p5
                      have e56 := exy1.trans ex6
                      obtain ⟨ix6, bn6⟩ := r6
                      obtain rfl : bn6 = q0 :: r5.bn := e56.bn
                      cases b1 with
                      | true =>
                        dsimp only at p5
                        rw [if_pos rfl] at p5
                        refine iteT ⟨_, e6, h6, rh6, rs''.mono ex6, ?_⟩
                        cases hf1 : fe e6 h6 with
                        | ok y h7 =>
                          intro vy r7 H7 ex7 rh7 ry
                          rw [hf1] at p5
                          dsimp only at p5
                          have e57 := e56.trans ex7
                          obtain ⟨ix7, bn7⟩ := r7
                          obtain rfl : bn7 = q0 :: r5.bn := e57.bn
                          have hq : H7 q0 = some (.lst vacc5) := (e57.bk q0 List.mem_cons_self).trans hDa5
                          split at p5
                          · rename_i hl
                            · skip
                              obtain ⟨w5, rh5⟩ := RH.rehide (r := ⟨ix7, r5.bn⟩) (a := q0) (u := .lst (vacc5 ++ [vy])) rh7
                              have w4 := (wx5.trans e57.wx).trans w5
                              refine ⟨vacc5, hq, by rw [← qa5.length]; exact line_lt (by omega), ⟨ix7, r5.bn⟩, h7, acc5 ++ [y], vacc5 ++ [vy], w4, (wx45.trans e57.wx).trans w5, ?_, rh5, upd_same, ?_, ?_⟩
                              · exact Ext.under (r2 := ⟨ix7, r5.bn⟩) ex5 e57 hD nb (fun b hb => upd_ne hb) (by rw [upd_same]; simp)
                              · exact (qa5.wmono (e57.wx.trans w5)).append (.one (ry.wmono w5))
                              · exact p5
                          · cases p5
                        | rz z h7 => rw [hf1] at p5; cases p5
                        | bad => rw [hf1] at p5; cases p5
                      | false =>
                        dsimp only at p5
                        rw [if_neg Bool.false_ne_true] at p5
                        have hq : H6 q0 = some (.lst vacc5) := (e56.bk q0 List.mem_cons_self).trans hDa5
                        exact iteF ⟨⟨ix6, r5.bn⟩, h6, acc5, vacc5, wx5.trans e56.wx, wx45.trans e56.wx, Ext.under (r2 := ⟨ix6, r5.bn⟩) ex5 e56 hD nb (fun _ _ => rfl) (by rw [hq]; simp), rh6, hq, qa5.mono e56, p5⟩
                    | rz z h6 => rw [ht1] at p5; cases p5
                    | bad => rw [ht1] at p5; cases p5
                  · cases p5
                · cases p5
              · have hn : it1.items.drop j = [] := List.drop_eq_nil_of_le (by omega)
                rw [hn] at p5
                unfold lcS at p5
                split at p5
                · rename_i so1
                  cases p5
                  exact .inl ⟨(rj1 (r5.ban q0) _ H5 wx45 rhB5 so1 j).2 (by omega), r5, _, _, vacc5, wx5, ex5, rhB5, hDa5, qa5, p2⟩
                · cases p5
            | rz z h4 => rw [hf] at p2; exact p2.elim
            | bad => rw [hf] at p2; exact p2.elim
          | false =>
            dsimp only at p2
            rw [if_neg Bool.false_ne_true] at p2
            have hq : H3 q0 = some (.lst vacc) := (e23.bk q0 List.mem_cons_self).trans hDa
            exact iteF ⟨⟨ix3, r2.bn⟩, h3, acc, vacc, wx2.trans e23.wx, Ext.under (r2 := ⟨ix3, r2.bn⟩) ex2 e23 hD nb (fun _ _ => rfl) (by rw [hq]; simp), rh3, hq, qa.mono e23, p2⟩
        | rz z h3 => rw [ht] at p2; exact p2.elim
        | bad => rw [ht] at p2; exact p2.elim
      · exact p2.elim
    · exact p2.elim
  · have hn : it.items.drop i = [] := List.drop_eq_nil_of_le (by omega)
    rw [hn] at p2
    unfold lc2S at p2
    obtain ⟨wsh, rh2⟩ := rhB.show_
    split at p2
    · rename_i so
      refine .inl ⟨(rj r2 h2 H ex2.wx rh2 so i).2 (by omega), p2 _ r2 H ex2 rh2 ?_⟩
      simp only [RV]
      exact ⟨q0, vacc, rfl, ⟨hDa, Rg.ban_out rhB⟩, qa.wmono wsh⟩
    · exact p2.elim
variable {elt tg iter tg1 iter1 : Expr} {ifs ifs1 : List Expr} {fe : EF} {fi fi1 : IF} {t t1 : Tg} {tt tt1 : TF} {pos spos : Pos}
theorem de_lc2 {scope : Scope} {own : List (Str × Nat)} {vs1 : List Nat} (hc : X.calm = true) (hN : X.N.Nodup) (hi : PI X tg iter (tI X.K W fi)) (ok : BlkOk X.N X.env.scope scope own)
    (hg : ∀ (s : Shared) (H : Hp) (C : Addr) (cl : List (Str × Addr)) (fp : List Addr), PG (blkX X s H scope cl C fp) tg (tgR X.K t)) (ht : ∀ (s : Shared) (H : Hp) (C : Addr) (cl : List (Str × Addr)) (fp : List Addr), PTs (blkX X s H scope cl C fp) ifs (tT X.K noW tt))
    (hi1 : ∀ (s : Shared) (H : Hp) (C : Addr) (cl : List (Str × Addr)) (fp : List Addr), PI (blkX X s H scope cl C fp) tg1 iter1 (tI X.K noW fi1))
    (hg1 : ∀ (s : Shared) (H : Hp) (C : Addr) (cl : List (Str × Addr)) (fp : List Addr), PG (blkX X s H scope cl C fp) tg1 (tgR X.K t1)) (ht1 : ∀ (s : Shared) (H : Hp) (C : Addr) (cl : List (Str × Addr)) (fp : List Addr), PTs (blkX X s H scope cl C fp) ifs1 (tT X.K noW tt1))
    (he : ∀ (s : Shared) (H : Hp) (C : Addr) (cl : List (Str × Addr)) (fp : List Addr), PE (blkX X s H scope cl C fp) elt (tE X.K noW fe)) (hv2 : ∀ i ∈ vs1, i ∈ own.map (·.2) := by decide) (hv : ∀ i ∈ tgS t, i ∈ own.map (·.2) := by decide) (hv1 : ∀ i ∈ tgS t1, i ∈ vs1 := by decide)
    (hs : ∀ x, foldedSetIterable iter X.env x = pure x := by intro _; rfl) (hs1 : ∀ env x, foldedSetIterable iter1 env x = pure x := by intro _ _; rfl) :
    PE X (.ListComp elt [⟨tg, iter, ifs, 0⟩, ⟨tg1, iter1, ifs1, 0⟩] scope pos) (tE X.K W (lc2E fi t tt fi1 t1 tt1 fe (own.map (·.2)) vs1)) :=
  PE.imp (pe_lc2 hc hN hi ok hv2 hg ht hi1 hg1 ht1 he hs hs1) fun σ H Q p => tG.first (R := RI X.K) (f := fi) (g := fun it env h1 => bd (lc2S it t tt fi1 t1 tt1 fe vs1 (wipD env (own.map (·.2))) it.items [] h1) fun ds h2 => .ok (D.lst ds) h2) p fun r0 env h1 it J H1 rh rs rj p1 =>
    lc2_run rh rs rj hv hv1 p1
end
end Dt
namespace Dt
open PySem PySem.Spec PyProof.Rows L2
end Dt
namespace Dt
open PySem PySem.Spec PyProof.Rows L2
section
variable {α β : Type} {env e : Env'} {h h1 : DH} {f g : SF} {d a b : D} {ds : List D} {t u : TF} {fa fb fc fe fo : EF} {as fr : AF} {n i : Nat} {x : Exn} {o : Option D}
@[simp] theorem ev_seq : seq f g env h = sq2 (f env h) g := rfl
@[simp] theorem ev_sq_nx : sq2 (.nx e h) g = g e h := rfl
@[simp] theorem ev_sq_rt : sq2 (.rt d h) g = .rt d h := rfl
@[simp] theorem ev_sq_rz : sq2 (.rz x e h) g = .rz x e h := rfl
@[simp] theorem ev_sq_bad : sq2 .bad g = .bad := rfl
@[simp] theorem ev_bs_ok {a : α} {k : α → DH → So} : bs env (.ok a h) k = k a h := rfl
@[simp] theorem ev_bs_rz {k : α → DH → So} : bs env (.rz x h) k = .rz x env h := rfl
@[simp] theorem ev_skp : skp env h = .nx env h := rfl
@[simp] theorem ev_ife : ife t f g env h = bs env (t env h) fun b h1 => if b = true then f env h1 else g env h1 := rfl
@[simp] theorem ev_ret : ret fe env h = bs env (fe env h) fun d h1 => .rt d h1 := rfl
@[simp] theorem ev_retN : retN env h = .rt .non h := rfl
@[simp] theorem ev_drp : drp fe env h = bs env (fe env h) fun _ h1 => .nx env h1 := rfl
@[simp] theorem ev_asg : asg fe (.nm i) env h = bs env (fe env h) fun d h1 => .nx (env.set i (some d)) h1 := by
  unfold asg
  cases fe env h <;> rfl
@[simp] theorem ev_vr0 : vr 0 (some d :: env) h = .ok d h := rfl
@[simp] theorem ev_vrS : vr (n + 1) (o :: env) h = vr n env h := rfl
@[simp] theorem ev_ct : ct d env h = .ok d h := rfl
@[simp] theorem ev_o1 {k : D → DH → Rs D} : o1 k fa env h = bd (fa env h) fun a h1 => k a h1 := rfl
@[simp] theorem ev_o2 {k : D → D → DH → Rs D} : o2 k fa fb env h = bd (fa env h) fun a h1 => bd (fb env h1) fun b h2 => k a b h2 := rfl
@[simp] theorem ev_an : an env h = .ok [] h := rfl
@[simp] theorem ev_ac : ac fa fr env h = bd (fa env h) fun a h1 => bd (fr env h1) fun as h2 => .ok (a :: as) h2 := rfl
@[simp] theorem ev_oA {k : List D → DH → Rs D} : oA k as env h = bd (as env h) fun a h1 => k a h1 := rfl
@[simp] theorem ev_tv : tv fa env h = bd (fa env h) fun a h1 => tstD a h1 := rfl
@[simp] theorem ev_tst {b : Bool} : tstD (.bl b) h = .ok b h := rfl
@[simp] theorem ev_tnot : tnot t env h = bd (t env h) fun b h1 => .ok (!b) h1 := rfl
@[simp] theorem ev_tand : tand t u env h = bd (t env h) fun b h1 => if b = true then u env h1 else .ok false h1 := rfl
@[simp] theorem ev_tor : tor t u env h = bd (t env h) fun b h1 => if b = true then .ok true h1 else u env h1 := rfl
@[simp] theorem ev_eif : eif t fa fb env h = bd (t env h) fun b h1 => if b = true then fa env h1 else fb env h1 := rfl
@[simp] theorem ev_eand : eand fa fb env h = bd (fa env h) fun a h1 => bd (tstD a h1) fun b h2 => if b = true then fb env h2 else .ok (.bl false) h2 := rfl
@[simp] theorem ev_eor : eor fa fb env h = bd (fa env h) fun a h1 => bd (tstD a h1) fun b h2 => if b = true then .ok (.bl true) h2 else fb env h2 := rfl
@[simp] theorem ev_enot : enot fa env h = bd (fa env h) fun a h1 => bd (tstD a h1) fun b h2 => .ok (.bl (!b)) h2 := rfl
@[simp] theorem ev_och {k k2 : D → D → DH → Rs D} : och k k2 fa fb fc env h = bd (fa env h) fun a h1 => bd (fb env h1) fun b h2 => bd (k a b h2) fun z h3 => bd (tstD z h3) fun q h4 => if q = true then bd (fc env h4) fun c h5 => k2 b c h5 else .ok (.bl false) h4 := rfl
@[simp] theorem ev_cll {G : FD} : cll n G as env h = bd (as env h) fun ds h1 => if ds.length = n then G ds h1 else .bad := rfl
@[simp] theorem ev_mth {k : DH → D → Bool} {q : D → List D → DH → Rs D} : mth k q fo as env h = bd (fo env h) fun x h1 => if k h1 x = true then bd (as env h1) fun xs h2 => q x xs h2 else .bad := rfl
@[simp] theorem ev_mth0 {k : DH → D → Bool} {q : D → List D → DH → Rs D} : mth0 k q fo env h = bd (fo env h) fun x h1 => if k h1 x = true then q x [] h1 else .bad := rfl
@[simp] theorem ev_strK {z : Str} : strK h (.str z) = true := rfl
@[simp] theorem ev_mkT (hl : ds.length ≤ 1000000) : mkT ds h = .ok (.tup ds) h := if_pos hl
@[simp] theorem ev_mkF (hl : ds.length ≤ 1000000) : mkL false ds h = .ok (.lst ds) h := by
  unfold mkL
  rw [if_pos hl, if_neg Bool.false_ne_true]
@[simp] theorem ev_mkO (hl : ds.length ≤ 1000000) : mkL true ds h = .ok (.ref h.length) (h ++ [.lst ds]) := by
  unfold mkL
  rw [if_pos hl, if_pos rfl]
@[simp] theorem ev_isq : isq fa env h = bd (fa env h) fun d h1 => sqI d h1 := rfl
@[simp] theorem ev_sqT : sqI (.tup ds) h = .ok ⟨[], ds⟩ h := rfl
@[simp] theorem ev_sqL : sqI (.lst ds) h = .ok ⟨[], ds⟩ h := rfl
theorem ev_sqR (e : h[n]? = some (.lst ds)) : sqI (.ref n) h = .ok ⟨[(n, ds)], ds⟩ h := by
  show (match h[n]? with | some (.lst ds) => Rs.ok (ItD.mk [(n, ds)] ds) h | _ => .bad) = _
  rw [e]
@[simp] theorem ev_pn : pn env h = .ok none h := rfl
@[simp] theorem ev_ps : ps fa env h = bd (fa env h) fun d h1 => match d with | .int i => .ok (some i) h1 | _ => .bad := rfl
@[simp] theorem ev_esl {own : Bool} {fl fh : PF} : esl own fe fl fh env h = bd (fe env h) fun x h1 => bd (fl env h1) fun l h2 => bd (fh env h2) fun u h3 => slD own x l u h3 := rfl
@[simp] theorem ev_setI {fi : EF} : setI fo fi fe env h = bs env (fe env h) fun v h1 => bs env (fo env h1) fun o h2 => bs env (fi env h2) fun i h3 => match setItD o i v h3 with
  | some h4 => .nx env h4
  | none => .bad := rfl
@[simp] theorem ev_tyes : tyes env h = .ok true h := rfl
@[simp] theorem ev_add {own : Bool} {i j : Int} : addD own (.int i) (.int j) h = .ok (.int (i + j)) h := rfl
@[simp] theorem ev_sub {i j : Int} : subD (.int i) (.int j) h = .ok (.int (i - j)) h := rfl
theorem ev_mul {own : Bool} {i j : Int} (c : smal i ∧ smal j) : mulD own (.int i) (.int j) h = .ok (.int (i * j)) h := if_pos c
theorem ev_div {i j : Int} (c : 0 < j ∧ j < 1809251394333065553493296640760748560207343510400633813116524750123642650624) : fdivD (.int i) (.int j) h = .ok (.int (i / j)) h := if_pos c
@[simp] theorem ev_mod {i j : Int} (c : 0 < j) : modD (.int i) (.int j) h = .ok (.int (i % j)) h := if_pos c
theorem ev_pow {i j : Int} (c : smal i ∧ 0 ≤ j ∧ j ≤ 1000) : powD (.int i) (.int j) h = .ok (.int (i ^ j.toNat)) h := if_pos c
@[simp] theorem ev_lt {i j : Int} : ltD (.int i) (.int j) h = .ok (.bl (decide (i < j))) h := rfl
@[simp] theorem ev_le {i j : Int} : leD (.int i) (.int j) h = .ok (.bl (decide (i ≤ j))) h := rfl
@[simp] theorem ev_gt {i j : Int} : gtD (.int i) (.int j) h = .ok (.bl (decide (i > j))) h := rfl
@[simp] theorem ev_ge {i j : Int} : geD (.int i) (.int j) h = .ok (.bl (decide (i ≥ j))) h := rfl
@[simp] theorem ev_max {i j : Int} : max2D [.int i, .int j] h = .ok (.int (max i j)) h := rfl
@[simp] theorem ev_min {i j : Int} : min2D [.int i, .int j] h = .ok (.int (min i j)) h := rfl
@[simp] theorem ev_lenT : lenD [.tup ds] h = .ok (.int ds.length) h := rfl
@[simp] theorem ev_lenL : lenD [.lst ds] h = .ok (.int ds.length) h := rfl
@[simp] theorem ev_lenS {ns : List Int} : lenD [.scr ns] h = .ok (.int ns.length) h := by
  show Rs.ok (D.int (((ns.map D.int).length : Nat) : Int)) h = _
  rw [List.length_map]
theorem ev_lenR (e : h[n]? = some (.lst ds)) : lenD [.ref n] h = .ok (.int ds.length) h := by
  simp [lenD, sq, lsq, e]
@[simp] theorem ev_lenZ {z : Str} (c : z.length ≤ 1000000) : lenD [.str z] h = .ok (.int z.length) h := if_pos c
/-- an index that is one -/
theorem atI_nat {xs : List D} {i : Nat} {d : D} (e : xs[i]? = some d) : atI xs (i : Int) = some d := by
  have hl := (List.getElem?_eq_some_iff.mp e).1
  have e1 : ixN xs.length (i : Int) = some i := by
    unfold ixN
    have h1 : (0 : Int) ≤ (i : Int) := by omega
    have h2 : (i : Int) < (xs.length : Nat) := by omega
    rw [if_pos h1, if_pos h2]
    rfl
  unfold atI
  rw [e1]
  exact e
theorem ev_ixL {ds : List D} {i : Nat} {d : D} (e : ds[i]? = some d) : ixD (.lst ds) (.int i) h = .ok d h := by
  simp [ixD, lkD, dkq, dtq, sq, lsq, atI_nat e]
theorem ev_ixT {ds : List D} {i : Nat} {d : D} (e : ds[i]? = some d) : ixD (.tup ds) (.int i) h = .ok d h := by
  simp [ixD, lkD, dkq, dtq, sq, lsq, atI_nat e]
theorem ev_ixR {ds : List D} {i : Nat} {d : D} (e1 : h[n]? = some (.lst ds)) (e : ds[i]? = some d) : ixD (.ref n) (.int i) h = .ok d h := by
  simp [ixD, lkD, dkq, dtq, sq, lsq, e1, atI_nat e]
theorem ev_ixS {ns : List Int} {i : Nat} {z : Int} (e : ns[i]? = some z) : ixD (.scr ns) (.int i) h = .ok (.int z) h := by
  have e2 : (ns.map D.int)[i]? = some (.int z) := by rw [List.getElem?_map, e]; rfl
  simp [ixD, lkD, dkq, dtq, sq, lsq, atI_nat e2]
theorem ev_setIt {ds : List D} {i : Nat} {d : D} (e1 : h[n]? = some (.lst ds)) (hi : i < ds.length) : setItD (.ref n) (.int i) d h = some (h.set n (.lst (ds.set i d))) := by
  have e2 : ixN ds.length (i : Int) = some i := by
    unfold ixN
    have h1 : (0 : Int) ≤ (i : Int) := by omega
    have h2 : (i : Int) < (ds.length : Nat) := by omega
    rw [if_pos h1, if_pos h2]
    rfl
  simp [setItD, mlst, e1, e2]
theorem ev_app {ds : List D} {d : D} (e1 : h[n]? = some (.lst ds)) (hl : ds.length ≤ 1000000) : appendD (.ref n) [d] h = .ok .non (h.set n (.lst (ds ++ [d]))) := by
  simp [appendD, mlst, e1, hl]
theorem ev_lstK {ds : List D} (e1 : h[n]? = some (.lst ds)) : lstK h (.ref n) = true := by
  simp [lstK, lsq, e1]
@[simp] theorem ev_tupT : tupleD [.tup ds] h = .ok (.tup ds) h := rfl
theorem ev_tupR (e1 : h[n]? = some (.lst ds)) (hl : ds.length ≤ 1000000) : tupleD [.ref n] h = .ok (.tup ds) h := by
  simp [tupleD, lsq, e1, hl]
@[simp] theorem ev_forE {fi : IF} {tg : Tg} : forE fi tg f env h = bs env (fi env h) fun it h1 => forS it tg f it.items env h1 := rfl
@[simp] theorem ev_rng1 {j : Int} (e : as env h = .ok [.int j] h1) (c : smR j) : rng1 as env h = .ok (rgI 0 j) h1 := by
  unfold rng1
  rw [e]
  exact if_pos c
end
section
variable {α : Type} {env : Env'} {h : DH} {fe : EF} {i : Nat}
theorem lcS_nm {it : ItD} (hs : it.src = []) (g f : α → D) : ∀ (xs : List α) (acc : List D), (∀ x ∈ xs, fe (env.set i (some (g x))) h = .ok (f x) h) → acc.length + xs.length ≤ 1000000 →
    lcS it (.nm i) tyes fe env (xs.map g) acc h = .ok (acc ++ xs.map f) h
  | [], acc, _, _ => by
    have so : srcOk it h := fun p e => by rw [hs] at e; cases e
    simp [lcS, so]
  | x :: xs, acc, hf, hl => by
    have so : srcOk it h := fun p e => by rw [hs] at e; cases e
    have e1 := hf x List.mem_cons_self
    have l1 : acc.length < 1000000 := by simp at hl; omega
    have ih := lcS_nm hs g f xs (acc ++ [f x]) (fun y hy => hf y (List.mem_cons_of_mem _ hy)) (by simp at hl ⊢; omega)
    rw [List.map_cons]
    unfold lcS
    simp only [so, if_true, tgF, ev_tyes, e1, l1, ih]
    simp
end
section
variable {α : Type} {h : DH}
theorem mapO_map {β γ : Type} {f : β → Option γ} {g : α → β} {e : α → γ} : ∀ {xs : List α}, (∀ x ∈ xs, f (g x) = some (e x)) → mapO f (xs.map g) = some (xs.map e)
  | [], _ => rfl
  | x :: xs, q => by
    have h1 := q x List.mem_cons_self
    have h2 := mapO_map (f := f) (g := g) (e := e) (xs := xs) fun y hy => q y (List.mem_cons_of_mem _ hy)
    simp only [List.map_cons, mapO, h1, h2]
abbrev iD (n : Nat) : D := .int n
abbrev iP (n : Nat) : PyData := .int n
theorem toP_ints {k : Nat} {ns : List Nat} : mapO (toP h (k + 1)) (ns.map iD) = some (ns.map iP) := mapO_map fun _ _ => rfl
theorem toP_lstI {k : Nat} {ns : List Nat} : toP h (k + 2) (.lst (ns.map iD)) = some (.list (ns.map iP)) := by
  show (mapO (toP h (k + 1)) (ns.map iD)).map PyData.list = _
  rw [toP_ints]; rfl
theorem toP_tupI {k : Nat} {ns : List Nat} : toP h (k + 2) (.tup (ns.map iD)) = some (.tuple (ns.map iP)) := by
  show (mapO (toP h (k + 1)) (ns.map iD)).map PyData.tuple = _
  rw [toP_ints]; rfl
/-- tuples of whole numbers -/
abbrev rD (ns : List Nat) : D := .tup (ns.map iD)
abbrev rP (ns : List Nat) : PyData := .tuple (ns.map iP)
theorem lay_ints : ∀ {ns : List Nat}, PyData.canLayAll0 (ns.map iP) = true ∧ PyData.depthAll (ns.map iP) = 0
  | [] => by simp [PyData.canLayAll0, PyData.depthAll]
  | n :: ns => by
    obtain ⟨a, b⟩ := lay_ints (ns := ns)
    simp [PyData.canLayAll0, PyData.canLay0, PyData.depthAll, PyData.depth, a, b]
theorem shp_lstI {ns : List Nat} : SeqAt.shaped (.list (ns.map iP)) = true := by
  obtain ⟨a, b⟩ := lay_ints (ns := ns)
  simp [SeqAt.shaped, PyData.canLay0, PyData.depth, a, b]
theorem shp_row {ns : List Nat} : SeqAt.shaped (rP ns) = true := by
  obtain ⟨a, b⟩ := lay_ints (ns := ns)
  simp [SeqAt.shaped, PyData.canLay0, PyData.depth, a, b]
theorem ev_eqI {i j : Int} : eqD (.int i) (.int j) h = .ok (.bl (decide (i = j))) h := by
  have e : eqB (.int i) (.int j) h = some (PyData.eqv (.int i) (.int j)) := by
    unfold eqB
    simp [toP, SeqAt.shaped, PyData.canLay0, PyData.depth]
  unfold eqD
  rw [e]
  simp only [PyData.eqv]
  by_cases hij : i = j <;> simp [hij]
theorem ev_neB {i j : Bool} : neD (.bl i) (.bl j) h = .ok (.bl (!decide (i = j))) h := by
  have e : eqB (.bl i) (.bl j) h = some (PyData.eqv (.bool i) (.bool j)) := by
    unfold eqB
    simp [toP, SeqAt.shaped, PyData.canLay0, PyData.depth]
  unfold neD
  rw [e]
  simp only [PyData.eqv]
  by_cases hij : i = j <;> simp [hij]
theorem ev_neZ {x y : Str} (hx : PyData.strOk x = true) (hy : PyData.strOk y = true) : neD (.str x) (.str y) h = .ok (.bl (!decide (x = y))) h := by
  have e : eqB (.str x) (.str y) h = some (PyData.eqv (.str x) (.str y)) := by
    unfold eqB
    simp [toP, SeqAt.shaped, PyData.canLay0, PyData.depth, hx, hy]
  unfold neD
  rw [e]
  simp only [PyData.eqv]
  by_cases hij : x = y <;> simp [hij]
end
end Dt
namespace Dt
open PySem PySem.Spec PyProof.Rows L2
theorem smal_of {i : Int} (h0 : 0 ≤ i) (h1 : i < 1393796574908163946345982392040522594123776) : smal i := by
  unfold smal
  omega
noncomputable def drawF : FD := raw ["bag", "many", "found", "mixed"]
  (seq (ife (tv (o2 gtD (o2 ixD (vr 0) (ct (.int 0))) (ct (.int 1)))) (seq (asg (o2 modD (o2 ixD (vr 0) (ct (.int 0))) (vr 1)) (.nm 2))
    (seq (setI (vr 0) (ct (.int 0)) (o2 fdivD (o2 ixD (vr 0) (ct (.int 0))) (vr 1)))
    (ret (vr 2)))) skp)
    (seq (setI (vr 0) (ct (.int 2)) (o2 (addD false) (o2 ixD (vr 0) (ct (.int 2))) (ct (.int 1))))
    (seq (asg (o2 modD (o2 powD (o2 (addD false) (o2 ixD (vr 0) (ct (.int 1))) (o2 (mulD false) (ct (.int 49979687)) (o2 ixD (vr 0) (ct (.int 2))))) (ct (.int 3))) (ct (.int 170141183460469231731687303715884105727))) (.nm 3))
    (seq (asg (o2 modD (o2 powD (o2 (addD false) (vr 3) (o2 (mulD false) (ct (.int 86028157)) (o2 ixD (vr 0) (ct (.int 2))))) (ct (.int 3))) (ct (.int 162259276829213363391578010288127))) (.nm 3))
    (ret (o2 modD (o2 fdivD (vr 3) (ct (.int 4096))) (vr 1)))))))
def Bag (h : DH) (n c : Nat) : Prop := ∃ b0 b1 b2 : Int, h[n]? = some (.lst [.int b0, .int b1, .int b2]) ∧ 0 ≤ b0 ∧ 0 ≤ b1 ∧ b1 < 2 ^ 130 ∧ 0 ≤ b2 ∧ b2 ≤ c
theorem Bag.lt {h : DH} {n c : Nat} (b : Bag h n c) : n < h.length := by
  obtain ⟨_, _, _, e, _⟩ := b
  exact (List.getElem?_eq_some_iff.mp e).1
theorem Bag.set {h : DH} {n c m : Nat} {o : O} (b : Bag h n c) (hm : m ≠ n) : Bag (h.set m o) n c := by
  obtain ⟨b0, b1, b2, e, r⟩ := b
  exact ⟨b0, b1, b2, by rw [List.getElem?_set_ne hm]; exact e, r⟩
theorem Bag.app {h g : DH} {n c : Nat} (b : Bag h n c) : Bag (h ++ g) n c := by
  have hl := b.lt
  obtain ⟨b0, b1, b2, e, r⟩ := b
  exact ⟨b0, b1, b2, by rw [List.getElem?_append_left hl]; exact e, r⟩
theorem Bag.le {h : DH} {n c c' : Nat} (b : Bag h n c) (hc : c ≤ c') : Bag h n c' := by
  obtain ⟨b0, b1, b2, e, r1, r2, r3, r4, r5⟩ := b
  exact ⟨b0, b1, b2, e, r1, r2, r3, r4, by omega⟩
theorem draw_ok {h : DH} {n c : Nat} {m : Int} (hb : Bag h n c) (hc : c < 1000000000) (hm : 0 < m) (hm2 : m < 1000000000000000000000000000000) :
    ∃ (r : Nat) (bs : List D), drawF [.ref n, .int m] h = .ok (.int r) (h.set n (.lst bs)) ∧ (r : Int) < m ∧ Bag (h.set n (.lst bs)) n (c + 1) := by
  have hl := hb.lt
  obtain ⟨b0, b1, b2, hn, p0, p1, q1, p2, q2⟩ := hb
  have i0 : ixD (.ref n) (.int 0) h = .ok (.int b0) h := ev_ixR (i := 0) hn rfl
  have i1 : ∀ (x y z : D), ixD (.ref n) (.int 1) (h.set n (.lst [x, y, z])) = .ok y (h.set n (.lst [x, y, z])) := fun x y z => ev_ixR (i := 1) (by rw [List.getElem?_set_self hl]) rfl
  have i2 : ∀ (x y z : D), ixD (.ref n) (.int 2) (h.set n (.lst [x, y, z])) = .ok z (h.set n (.lst [x, y, z])) := fun x y z => ev_ixR (i := 2) (by rw [List.getElem?_set_self hl]) rfl
  have j2 : ixD (.ref n) (.int 2) h = .ok (.int b2) h := ev_ixR (i := 2) hn rfl
  have s0 : ∀ d, setItD (.ref n) (.int 0) d h = some (h.set n (.lst [d, .int b1, .int b2])) := fun d => ev_setIt (i := 0) hn (by simp)
  have s2 : ∀ d, setItD (.ref n) (.int 2) d h = some (h.set n (.lst [.int b0, .int b1, d])) := fun d => ev_setIt (i := 2) hn (by simp)
  have ml : m < 1809251394333065553493296640760748560207343510400633813116524750123642650624 := Int.lt_trans hm2 (by decide)
  have dv : ∀ h, fdivD (.int b0) (.int m) h = .ok (.int (b0 / m)) h := fun h => ev_div ⟨hm, ml⟩
  have dw : ∀ x h, fdivD (.int x) (.int 4096) h = .ok (.int (x / 4096)) h := fun x h => ev_div ⟨by decide, by decide⟩
  by_cases hgt : b0 > 1
  · refine ⟨(b0 % m).toNat, [.int (b0 / m), .int b1, .int b2], ?_, ?_, ?_⟩
    · have e1 : ((b0 % m).toNat : Int) = b0 % m := Int.toNat_of_nonneg (Int.emod_nonneg _ (by omega))
      rw [e1]
      simp [drawF, raw, startD, List.replicate, i0, hgt, hm, dv, s0, ev_mod]
    · rw [Int.toNat_of_nonneg (Int.emod_nonneg _ (by omega))]
      exact Int.emod_lt_of_pos _ hm
    · exact ⟨b0 / m, b1, b2, by rw [List.getElem?_set_self hl], Int.ediv_nonneg p0 (by omega), p1, q1, p2, by omega⟩
  · have a1 : smal (49979687 : Int) := smal_of (by decide) (by decide)
    have a2 : smal (b2 + 1) := smal_of (by omega) (by omega)
    have a3 : smal (86028157 : Int) := smal_of (by decide) (by decide)
    have e130 : (2 : Int) ^ 130 = 1361129467683753853853498429727072845824 := by decide
    have e140 : (2 : Int) ^ 140 = 1393796574908163946345982392040522594123776 := by decide
    rw [e130] at q1
    have a4 : smal (b1 + 49979687 * (b2 + 1)) := smal_of (by omega) (by omega)
    have a5 : ∀ x : Int, smal (x % 170141183460469231731687303715884105727 + 86028157 * (b2 + 1)) := fun x => smal_of (by
      have := Int.emod_nonneg x (b := 170141183460469231731687303715884105727) (by decide)
      omega) (by
      have := Int.emod_lt_of_pos x (b := 170141183460469231731687303715884105727) (by decide)
      omega)
    obtain ⟨v, hv⟩ : ∃ v : Int, v = ((((b1 + 49979687 * (b2 + 1)) ^ 3 % 170141183460469231731687303715884105727 + 86028157 * (b2 + 1)) ^ 3 % 162259276829213363391578010288127) / 4096) % m := ⟨_, rfl⟩
    have v0 : 0 ≤ v := by rw [hv]; exact Int.emod_nonneg _ (by omega)
    have v1 : v < m := by rw [hv]; exact Int.emod_lt_of_pos _ hm
    refine ⟨v.toNat, [.int b0, .int b1, .int (b2 + 1)], ?_, ?_, ?_⟩
    · rw [Int.toNat_of_nonneg v0, hv]
      have z3 : (3 : Int).toNat = 3 := rfl
      have d1 : (4096 : Int) < 2 ^ 250 := by decide
      simp [drawF, raw, startD, List.replicate, i0, hgt, hm, s2, j2, i1, i2, a1, a2, a3, a4, a5, z3, dw, ev_mod, ev_mul, ev_pow]
    · rw [Int.toNat_of_nonneg v0]; exact v1
    · exact ⟨b0, b1, b2 + 1, by rw [List.getElem?_set_self hl], p0, p1, by rw [e130]; exact q1, by omega, by omega⟩
end Dt
namespace Dt
open PySem PySem.Spec PyProof.Rows L2
/-- a text of these signs -/
abbrev tx (l : List Nat) : Str := ⟨l.toArray⟩
theorem tx_ok {l : List Nat} (h : ∀ c ∈ l, c < 1114112) : PyData.strOk (tx l) = true := by
  simp only [PyData.strOk, Array.all_eq_true, decide_eq_true_eq]
  intro i hi
  simp at hi ⊢
  exact h _ (List.getElem_mem _)
/-- the signs of a number -/
def dg (n : Nat) : List Nat := (Nat.toDigits 10 n).map Char.toNat
section
variable {env : Env'} {h h1 : DH} {C : Addr} {fs : List Str} {ds : List D} {d : D} {fo fe : EF} {as : AF} {f m : Str} {s n : Nat} {G : FD}
end
section
variable {C : Addr}
noncomputable def isOverF (C : Addr) : FD := raw ["self"] (ret (o2 eqD (fld C "at" (vr 0)) (oA lenD (ac (fld C "whole" (vr 0)) an))))
noncomputable def nowF (C : Addr) : FD := raw ["self"] (ret (esl false (fld C "whole" (vr 0)) (ps (fld C "at" (vr 0))) (ps (o2 (addD false) (fld C "at" (vr 0)) (ct (.int 1))))))
noncomputable def runF (C : Addr) : FD := raw ["self", "signs", "begun"] (seq (asg (fld C "at" (vr 0)) (.nm 2))
    (seq (whF (tand (tnot (tv (mcl C "is_over" 1 (isOverF C) (vr 0) an))) (tv (o2 inD (mcl C "now" 1 (nowF C) (vr 0) an) (vr 1)))) (augF C "at" (vr 0) (ct (.int 1))) many)
    (ret (esl false (fld C "whole" (vr 0)) (ps (vr 2)) (ps (fld C "at" (vr 0)))))))
noncomputable def countF (C : Addr) : FD := raw ["self", "figures"] (seq (asg (mcl C "run" 2 (runF C) (vr 0) (ac (ct (.str "0123456789")) an)) (.nm 1))
    (seq (ife (tor (tnot (tv (och leD leD (ct (.int 1)) (oA lenD (ac (vr 1) an)) (ct (.int 20))))) (tand (tv (o2 eqD (o2 ixD (vr 1) (ct (.int 0))) (ct (.str "0")))) (tv (o2 neD (vr 1) (ct (.str "0")))))) nev skp)
    (ret (oA intD (ac (vr 1) an)))))
variable {h : DH} {s a : Nat} {l : List Nat} {env : Env'}
end
end Dt
namespace Dt
open PySem PySem.Spec PyProof.Rows L2
section
variable {h : DH} {x : D}
theorem enc_i {n : Nat} : encD h (iD n) = iP n := rfl
theorem enc_r {p : List Nat} : encD h (rD p) = rP p := by
  unfold encD
  rw [show toP h 60 (rD p) = some (rP p) from toP_tupI]
  rfl
/-- sorted whole numbers -/
theorem sort_ints {ns ms : List Nat} (hs : sq h x = some (ns.map iD)) (hp : ms.Perm ns) (ho : ms.Pairwise (· ≤ ·)) (hl : ns.length ≤ 1000000) : sortD false [x] h = .ok (.lst (ms.map iD)) h := by
  have c1 : ∀ d ∈ ns.map iD, (toP h 60 d).isSome = true := fun d hd => by
    obtain ⟨n, _, rfl⟩ := List.mem_map.mp hd; rfl
  have c2 : ∀ d ∈ ns.map iD, (encD h d).depth ≤ 64 := fun d hd => by
    obtain ⟨n, _, rfl⟩ := List.mem_map.mp hd
    rw [enc_i]; simp [PyData.depth]
  have em : (ns.map iD).map (encD h) = ns.map fun n : Nat => PyData.int n := by
    rw [List.map_map]; rfl
  have c3 : PySem.W.AllAlike ((ns.map iD).map (encD h)) := by
    rw [em]
    exact PySem.W.AllAlike.of fun b b' => by simp [PySem.W.alike]
  have c4 : PySem.W.Sortable ((ns.map iD).map (encD h)) := by
    rw [em]
    exact PySem.W.Sortable.others fun b => ⟨by simp, fun xs => by simp⟩
  have e1 : (ns.map iD).mergeSort (PySem.W.dataLe false (encD h)) = ms.map iD := by
    rw [← List.map_mergeSort (r := fun a b : Nat => decide (a ≤ b))]
    · congr 1
      refine List.Perm.eq_of_pairwise (le := (· ≤ ·)) (fun a b _ _ => Nat.le_antisymm) ?_ ho ((List.mergeSort_perm _ _).trans hp.symm)
      have := List.pairwise_mergeSort (le := fun a b : Nat => decide (a ≤ b)) (fun a b c q r => by simp at q r ⊢; omega) (fun a b => by simp; omega) ns
      exact this.imp fun q => of_decide_eq_true q
    · intro a _ b _
      show decide (a ≤ b) = PySem.W.dataLe false (encD h) (iD a) (iD b)
      rw [PySem.W.dataLe_eq]
      show _ = !PySem.W.dataLt (encD h (iD b)) (encD h (iD a))
      rw [enc_i, enc_i, PySem.W.dataLt_int]
      by_cases hab : a ≤ b
      · have : ¬ ((b : Int) < a) := by omega
        simp [hab, this]
      · have : ((b : Int) < a) := by omega
        simp [hab, this]
  unfold sortD
  simp only [hs]
  rw [if_pos ⟨c1, c2, c3, c4⟩, e1]
  exact ev_mkF (by rw [List.length_map, hp.length_eq]; exact hl)
/-- rows in order stay -/
theorem sort_rows {p : List (List Nat)} (hs : sq h x = some (p.map rD)) (hne : ∀ q ∈ p, q ≠ []) (ho : (p.map fun q => q.headD 0).Pairwise (· < ·)) (hl : p.length ≤ 1000000) : sortD false [x] h = .ok (.lst (p.map rD)) h := by
  have c1 : ∀ d ∈ p.map rD, (toP h 60 d).isSome = true := fun d hd => by
    obtain ⟨q, _, rfl⟩ := List.mem_map.mp hd
    rw [show toP h 60 (rD q) = some (rP q) from toP_tupI]; rfl
  have c2 : ∀ d ∈ p.map rD, (encD h d).depth ≤ 64 := fun d hd => by
    obtain ⟨q, _, rfl⟩ := List.mem_map.mp hd
    rw [enc_r]
    exact SeqAt.depth_of_shaped shp_row
  have em : (p.map rD).map (encD h) = p.map rP := by
    rw [List.map_map]
    exact List.map_congr_left fun q _ => enc_r
  have c3 : PySem.W.AllAlike ((p.map rD).map (encD h)) := by
    rw [em]
    refine PySem.W.AllAlike.of fun b b' => ?_
    have := PySem.W.alike_ints (b.map fun n : Nat => (n : Int)) (b'.map fun n : Nat => (n : Int))
    rw [List.map_map, List.map_map] at this
    unfold rP
    simp only [PySem.W.alike]
    exact this
  have c4 : PySem.W.Sortable ((p.map rD).map (encD h)) := by
    rw [em]
    refine .inl fun d hd => ?_
    obtain ⟨q, hq, rfl⟩ := List.mem_map.mp hd
    cases q with
    | nil => exact absurd rfl (hne _ hq)
    | cons a r => exact ⟨iP a, r.map iP, rfl⟩
  have e1 : (p.map rD).mergeSort (PySem.W.dataLe false (encD h)) = p.map rD := by
    refine List.mergeSort_of_pairwise ?_
    rw [List.pairwise_map]
    rw [List.pairwise_map] at ho
    refine List.Pairwise.imp_of_mem (fun {a b} ha hb hab => ?_) ho
    show (!PySem.W.dataLt (encD h (rD b)) (encD h (rD a))) = true
    rw [enc_r, enc_r, PySem.W.dataLt_tuple]
    have e2 := PySem.W.dataLt_ints (b.map fun n : Nat => (n : Int)) (a.map fun n : Nat => (n : Int))
    rw [List.map_map, List.map_map] at e2
    have e3 : PyProof.Rows.lexLt PyProof.Rows.itemOrd (PySem.W.keyToksAll (b.map iP)) (PySem.W.keyToksAll (a.map iP)) = decide (b.map (fun n : Nat => (n : Int)) < a.map fun n : Nat => (n : Int)) := e2
    rw [e3]
    cases a with
    | nil => exact absurd rfl (hne _ ha)
    | cons a0 ar =>
      cases b with
      | nil => exact absurd rfl (hne _ hb)
      | cons b0 br =>
        simp only [List.headD_cons] at hab
        have : ¬ ((b0 :: br).map (fun n : Nat => (n : Int)) < (a0 :: ar).map fun n : Nat => (n : Int)) := by
          rw [List.map_cons, List.map_cons, List.cons_lt_cons_iff]
          rintro (q | ⟨q, _⟩) <;> omega
        rw [decide_eq_false this]; rfl
  unfold sortD
  simp only [hs]
  rw [if_pos ⟨c1, c2, c3, c4⟩, e1]
  exact ev_mkF (by rw [List.length_map]; exact hl)
end
section
variable {α β : Type} {env : Env'} {h : DH} {fe : EF} {fi1 : IF} {i j : Nat} {vs1 : List Nat}
theorem lc2S_nm {it : ItD} (so : srcOk it h) (g : α → D) (sub : α → List β) (g1 f : β → D) : ∀ (xs : List α) (acc : List D),
    (∀ x ∈ xs, fi1 (env.set i (some (g x))) h = .ok ⟨[], (sub x).map g1⟩ h ∧ ∀ y ∈ sub x, fe ((wipD (env.set i (some (g x))) vs1).set j (some (g1 y))) h = .ok (f y) h) → acc.length + (xs.flatMap sub).length ≤ 1000000 →
    lc2S it (.nm i) tyes fi1 (.nm j) tyes fe vs1 env (xs.map g) acc h = .ok (acc ++ (xs.flatMap sub).map f) h
  | [], acc, _, _ => by simp [lc2S, so]
  | x :: xs, acc, hf, hl => by
    obtain ⟨e1, e2⟩ := hf x List.mem_cons_self
    rw [List.flatMap_cons, List.length_append] at hl
    have in1 := lcS_nm (i := j) (env := wipD (env.set i (some (g x))) vs1) (it := ⟨[], (sub x).map g1⟩) (h := h) rfl g1 f (sub x) acc e2 (by omega)
    have ih := lc2S_nm so g sub g1 f xs (acc ++ (sub x).map f) (fun y hy => hf y (List.mem_cons_of_mem _ hy)) (by rw [List.length_append, List.length_map]; omega)
    rw [List.map_cons]
    unfold lc2S
    simp only [so, if_true, tgF, ev_tyes, e1, in1, ih]
    simp
theorem ev_lc2 (g : α → D) (sub : α → List β) (g1 f : β → D) (xs : List α) {fi : IF} {it : ItD} {vs : List Nat} (hi : fi env h = .ok it h) (so : srcOk it h) (hx : it.items = xs.map g)
    (hf : ∀ x ∈ xs, fi1 ((wipD env vs).set i (some (g x))) h = .ok ⟨[], (sub x).map g1⟩ h ∧ ∀ y ∈ sub x, fe ((wipD ((wipD env vs).set i (some (g x))) vs1).set j (some (g1 y))) h = .ok (f y) h) (hl : (xs.flatMap sub).length ≤ 1000000) :
    lc2E fi (.nm i) tyes fi1 (.nm j) tyes fe vs vs1 env h = .ok (.lst ((xs.flatMap sub).map f)) h := by
  unfold lc2E
  rw [hi]
  simp only [bd_ok, hx]
  rw [lc2S_nm so g sub g1 f xs [] hf (by simpa using hl)]
  simp
end
end Dt
namespace Dt
open PySem PySem.Spec PyProof.Rows L2
section
variable {X : Cx} {W : WX} {K : PySem.W.Frag} {r r0 r1 : Rg} {h : DH} {H H1 : Hp} {d x y : D} {v u : V} {σ : L2.St} {Q : VK} {ds : List D} {vs : List V} {env : Env'} {e e2 : Expr} {as : AF} {p pos : Pos}
def numD : Nat → List D → List D
  | _, [] => []
  | i, d :: ds => .tup [.int i, d] :: numD (i + 1) ds
theorem numD_len : ∀ {ds : List D} {k : Nat}, (numD k ds).length = ds.length
  | [], _ => rfl
  | d :: ds, k => by unfold numD; rw [List.length_cons, List.length_cons, numD_len]
theorem numD_get : ∀ {ds : List D} {k i : Nat} {x : D}, (numD k ds)[i]? = some x → ∃ d, ds[i]? = some d ∧ x = .tup [.int ((k + i : Nat) : Int), d]
  | [], k, i, x, e => by simp [numD] at e
  | d :: ds, k, 0, x, e => by
    unfold numD at e
    simp at e
    exact ⟨d, rfl, by rw [← e, Nat.add_zero]⟩
  | d :: ds, k, i + 1, x, e => by
    unfold numD at e
    simp only [List.getElem?_cons_succ] at e
    obtain ⟨z, h1, h2⟩ := numD_get e
    exact ⟨z, h1, by rw [h2]; congr 3; omega⟩
theorem PE.any {ι : Sort _} {t : ι → TE} (hp : ∀ j, PE X e (t j)) : PE X e (fun σ H Q => ∃ j, t j σ H Q) := ⟨fun pins s σ H Q I ⟨j, q⟩ => (hp j).run pins s σ H Q I q⟩
/-- defs by where they stand -/
abbrev TabF := List (Addr × Nat × FD)
def tget : TabF → Addr → Option (Nat × FD)
  | [], _ => none
  | (a, n, G) :: r, b => if a = b then some (n, G) else tget r b
/-- each def of the table keeps what is told of it -/
structure HeldD (P : Program) (w : World) (K : PySem.W.Frag) (mg : Str → Option Value) (base : Heap) (k : Nat) (f : Addr) (n : Nat) (G : FD) : Prop where
  ex : ∃ (fd : FuncData) (ps : List Str), FnD P w K mg base k f fd ps G ∧ PySem.W.keepIn K (.ref f) = true ∧ Binds K fd ps [] ∧ ps.length = n
def HeldT (P : Program) (w : World) (K : PySem.W.Frag) (mg : Str → Option Value) (base : Heap) (k : Nat) : TabF → Prop
  | [] => True
  | (f, n, G) :: r => HeldD P w K mg base k f n G ∧ HeldT P w K mg base k r
theorem HeldT.get {P : Program} {w : World} {mg : Str → Option Value} {base : Heap} {k : Nat} : ∀ {T : TabF} {f : Addr} {n : Nat} {G : FD}, HeldT P w K mg base k T → tget T f = some (n, G) → HeldD P w K mg base k f n G
  | (a, m, F) :: r, f, n, G, t, e => by
    unfold tget at e
    split at e
    · rename_i q
      cases e
      rw [← q]; exact t.1
    · exact HeldT.get t.2 e
end
end Dt
namespace Dt
open PySem PySem.Spec PyProof.Rows L2
section
variable {X : Cx} {W : WX} {K : PySem.W.Frag} {r r0 r1 : Rg} {h : DH} {H H1 : Hp} {d x y : D} {v u : V} {σ : L2.St} {Q : VK} {ds : List D} {vs : List V} {env env' : Env'}
variable {kx vx tg iter : Expr} {ifs : List Expr} {fk fv : EF} {fi : IF} {t : Tg} {tt : TF} {pos : Pos}
end
end Dt
namespace Dt
open PySem PySem.Spec PyProof.Rows L2
abbrev Tb := List (Str × He.Dv)
def tlk : Tb → Str → Option He.Dv
  | [], _ => none
  | (k, v) :: r, x => if k = x then some v else tlk r x
theorem tlk_mem : ∀ {t : Tb} {x : Str} {v : He.Dv}, tlk t x = some v → (x, v) ∈ t
  | (k, u) :: r, x, v, e => by
    unfold tlk at e
    split at e
    · rename_i q
      cases e
      rw [q]; exact List.mem_cons_self
    · exact List.mem_cons_of_mem _ (tlk_mem e)
/-- what is said of a dict of the module -/
structure TabK (K : PySem.W.Frag) (w : World) (a : Addr) (t : Tb) : Prop where
  key : He.dicW K a = some (He.keysIn w.params (t.map (·.1)))
  val : He.valsB K a t = true
section
variable {X : Cx} {W : WX} {K : PySem.W.Frag} {a : Addr} {t : Tb} {e e2 : Expr} {fa fb : EF} {pos : Pos}
theorem TabK.get {w : World} (T : TabK K w a t) {s : Str} {v : He.Dv} (e : tlk t s = some v) : KDct K w a s (v.v K) := by
  obtain ⟨es, n, D⟩ := He.dicW_ok T.key
  obtain ⟨u, h1, h2⟩ := He.valsB_ok T.val (tlk_mem e)
  exact ⟨es, n, u, D.at_, D.lit, h1, h2⟩
end
abbrev TabQ := (PySem.W.Frag → Addr) × Tb
def tabN (ts : List TabQ) : List He.Tab := ts.map fun t => (t.1, t.2.map (·.1))
def tabsB (K : PySem.W.Frag) (ts : List TabQ) : Bool := ts.all fun t => He.valsB K (t.1 K) t.2
abbrev AlX : Type := He.AlT × Bool
def obsX (fa : List He.Fa) (fn : List He.DefD) (ts : List TabQ) (K : PySem.W.Frag) : AlX := (He.obsT fa fn (tabN ts) K, tabsB K ts)
def SaysX (fa : List He.Fa) (fn : List He.DefD) (ts : List TabQ) (w : World) (K : PySem.W.Frag) : Prop := obsX fa fn ts K = (He.valT fn (tabN ts) w, true)
section
variable {fa : List He.Fa} {fn : List He.DefD} {ts : List TabQ} {w : World} {K : PySem.W.Frag}
theorem SaysX.d (c : SaysX fa fn ts w K) : He.SaysD fa fn K := He.SaysT.d (w := w) (congrArg Prod.fst c)
end
end Dt
namespace Dt
open PySem PySem.Spec PyProof.Rows L2
end Dt
namespace Dt
open PySem PySem.Spec PyProof.Rows L2
theorem foldl_max : ∀ (ns : List Int) (n : Int), (ns.foldl max n = n ∨ ns.foldl max n ∈ ns) ∧ n ≤ ns.foldl max n ∧ ∀ y ∈ ns, y ≤ ns.foldl max n
  | [], n => ⟨.inl rfl, Int.le_refl _, fun y h => by simp at h⟩
  | m :: ns, n => by
    obtain ⟨h1, h2, h3⟩ := foldl_max ns (max n m)
    simp only [List.foldl_cons]
    refine ⟨?_, by omega, fun y hy => ?_⟩
    · rcases h1 with h1 | h1
      · rw [h1]
        by_cases c : n ≤ m
        · right; rw [Int.max_eq_right c]; exact List.mem_cons_self
        · left; exact Int.max_eq_left (by omega)
      · exact .inr (List.mem_cons_of_mem _ h1)
    · rcases List.mem_cons.mp hy with rfl | hy
      · omega
      · exact h3 y hy
theorem foldl_min : ∀ (ns : List Int) (n : Int), (ns.foldl min n = n ∨ ns.foldl min n ∈ ns) ∧ ns.foldl min n ≤ n ∧ ∀ y ∈ ns, ns.foldl min n ≤ y
  | [], n => ⟨.inl rfl, Int.le_refl _, fun y h => by simp at h⟩
  | m :: ns, n => by
    obtain ⟨h1, h2, h3⟩ := foldl_min ns (min n m)
    simp only [List.foldl_cons]
    refine ⟨?_, by omega, fun y hy => ?_⟩
    · rcases h1 with h1 | h1
      · rw [h1]
        by_cases c : n ≤ m
        · left; exact Int.min_eq_left c
        · right; rw [Int.min_eq_right (by omega)]; exact List.mem_cons_self
      · exact .inr (List.mem_cons_of_mem _ h1)
    · rcases List.mem_cons.mp hy with rfl | hy
      · omega
      · exact h3 y hy
def max1D (xs : List D) (h : DH) : Rs D := match xs with
  | [x] => match (lsq h x).bind toI with
    | some (n :: ns) => .ok (.int (maxL (n :: ns))) h
    | _ => .bad
  | _ => .bad
def min1D (xs : List D) (h : DH) : Rs D := match xs with
  | [x] => match (lsq h x).bind toI with
    | some (n :: ns) => .ok (.int (minL (n :: ns))) h
    | _ => .bad
  | _ => .bad
theorem cd_max1 {K : PySem.W.Frag} : CallD K max1D (rMax K) := by
  intro r0 h H xs vs W σ Q rh rx p
  unfold max1D at p
  split at p
  · rename_i x
    obtain ⟨v, rfl, rv⟩ := rx.inv1
    split at p
    · rename_i n ns e
      obtain ⟨a, rfl, f⟩ := ints_at rh rv e
      refine ⟨a, n :: ns, rfl, f, by simp, fun m hm hle => ?_⟩
      obtain ⟨h1, h2, h3⟩ := foldl_max ns n
      have hm1 : m = maxL (n :: ns) := by
        have i1 : maxL (n :: ns) ∈ n :: ns := by
          rcases h1 with h1 | h1
          · show ns.foldl max n ∈ n :: ns; rw [h1]; exact List.mem_cons_self
          · exact List.mem_cons_of_mem _ h1
        have i2 : m ≤ maxL (n :: ns) := by
          rcases List.mem_cons.mp hm with rfl | hm
          · exact h2
          · exact h3 m hm
        have := hle _ i1
        omega
      exact po_v rh (rv_int.mpr (by rw [hm1])) p
    · exact p.elim
  · exact p.elim
theorem cd_min1 {K : PySem.W.Frag} : CallD K min1D (rMin K) := by
  intro r0 h H xs vs W σ Q rh rx p
  unfold min1D at p
  split at p
  · rename_i x
    obtain ⟨v, rfl, rv⟩ := rx.inv1
    split at p
    · rename_i n ns e
      obtain ⟨a, rfl, f⟩ := ints_at rh rv e
      refine ⟨a, n :: ns, rfl, f, by simp, fun m hm hle => ?_⟩
      obtain ⟨h1, h2, h3⟩ := foldl_min ns n
      have hm1 : m = minL (n :: ns) := by
        have i1 : minL (n :: ns) ∈ n :: ns := by
          rcases h1 with h1 | h1
          · show ns.foldl min n ∈ n :: ns; rw [h1]; exact List.mem_cons_self
          · exact List.mem_cons_of_mem _ h1
        have i2 : minL (n :: ns) ≤ m := by
          rcases List.mem_cons.mp hm with rfl | hm
          · exact h2
          · exact h3 m hm
        have := hle _ i1
        omega
      exact po_v rh (rv_int.mpr (by rw [hm1])) p
    · exact p.elim
  · exact p.elim
end Dt
namespace Dt
open PySem PySem.Spec PyProof.Rows L2
section
variable {prog : Program} {w : World} {A : Around} {E : Value → Shared → Prop} {s : Shared} {h h' : Heap} {t t2 : Bool} {i l c z T1 T2 i1 i2 m1 m2 : Addr} {k : Nat} {xs ys : Array Value} {x y a b : Value}
def ItAt (t : Bool) (h : Heap) (i l : Addr) (k : Nat) : Prop := match t with | true => h.IsTupleIter i l k | false => h.IsListIter i l k
def SqAt (t : Bool) (h : Heap) (l : Addr) (xs : Array Value) : Prop := match t with | true => h.IsTuple l xs | false => h.IsList l xs
theorem ItAt.but (q : ItAt t h i l k) (e : Heap.ExtBut c h h') (n : i ≠ c) : ItAt t h' i l k := by
  cases t
  · exact Heap.IsListIter.extBut q e n
  · exact Heap.IsTupleIter.extBut q e n
theorem SqAt.but (q : SqAt t h l xs) (e : Heap.ExtBut c h h') (n : l ≠ c) : SqAt t h' l xs := by
  cases t
  · exact Heap.IsList.extBut q e n
  · exact Heap.IsTuple.extBut q e n
theorem ItAt.on (q : ItAt t h i l k) (e : ∀ o, h.get? i = some o → h'.get? i = some o) : ItAt t h' i l k := by
  cases t
  · exact Heap.IsListIter.at q e
  · exact Heap.IsTupleIter.at q e
theorem ItAt.low (q : ItAt t h i l k) : i < h.objs.size := by
  cases t <;> (obtain ⟨o, e, _⟩ := q; exact Heap.lt_size e)
theorem next_item {Q : Value → Shared → Prop} (q : ItAt t s.heap i l k) (r : SqAt t s.heap l xs) (e : xs[k]? = some x) (f : ∀ h', ItAt t h' i l (k + 1) → Heap.SameBut i s.heap h' → Q x { s with heap := h' }) :
    wpAny (model prog w) A (Builtin.SmallTypes.nextOf (.ref i)) Q E s := by
  cases t
  · exact wpAny_nextOf_list_item q r e f
  · exact RZ.nextOf_tuple_item q r e f
theorem next_end {Q : Value → Shared → Prop} (hh : A.handled = none) (q : ItAt t s.heap i l k) (r : SqAt t s.heap l xs) (e : xs[k]? = none) (f : ∀ h' u, Heap.ExtBut i s.heap h' → (∃ o, h'.get? u = some o ∧ o.cls = .type "StopIteration") → E (.ref u) { s with heap := h' }) :
    wpAny (model prog w) A (Builtin.SmallTypes.nextOf (.ref i)) Q E s := by
  cases t
  · exact wpAny_nextOf_list_end hh q r e f
  · exact RZ.nextOf_tuple_end hh q r e f
/-- how the zip stands between two turns -/
structure ZipAt (t t2 : Bool) (h : Heap) (z T1 T2 i1 i2 m1 m2 : Addr) (k : Nat) : Prop where
  zip : IsZip h z T1 T2 .none
  its : IsPair h T1 (.ref i1) (.ref i2)
  out : ∃ x y, IsPair h T2 x y
  fst : ItAt t h i1 m1 k
  snd : ItAt t2 h i2 m2 k
abbrev Kept4 (z T2 i1 i2 : Addr) (h h' : Heap) : Prop := ∀ c o, c ≠ z → c ≠ T2 → c ≠ i1 → c ≠ i2 → h.get? c = some o → h'.get? c = some o
theorem zip_item {Q : Value → Shared → Prop} (D : ZipApart z T1 T2 i1 i2 m1 m2) (Z : ZipAt t t2 s.heap z T1 T2 i1 i2 m1 m2 k) (r1 : SqAt t s.heap m1 xs) (r2 : SqAt t2 s.heap m2 ys) (ex : xs[k]? = some x) (ey : ys[k]? = some y)
    (hQ : ∀ h', IsZip h' z T1 T2 (rawInt s.heap.objs.size) → IsPair h' T2 x y → ItAt t h' i1 m1 (k + 1) → ItAt t2 h' i2 m2 (k + 1) → IsPair h' s.heap.objs.size x y → Kept4 z T2 i1 i2 s.heap h' → Q (.ref s.heap.objs.size) { s with heap := h' }) :
    wpAny (model prog w) A (Builtin.«zip.__next__» ⟨[.ref z], []⟩) (fun fin s' => ∃ v, fin = .done (.ret v) ∧ Q v s') E s := by
  obtain ⟨hz, hT1, ⟨a, b, hT2⟩, q1, q2⟩ := Z
  show wpAny _ _ (field (.ref z) 2 >>= _) _ _ _; refine wpAny_bind (wpAny_field hz rfl (x := .bool false) rfl ?_)
  show wpAny _ _ (field (.ref z) 3 >>= _) _ _ _; refine wpAny_bind (wpAny_field hz rfl (x := .ref T1) rfl ?_)
  refine wpAny_bind (wpAny_seqItems hT1 rfl ?_); show wpAny _ _ (Builtin.SmallTypes.ownedTupleIsFree (.ref z) >>= _) _ _ _
  refine wpAny_bind ?_; unfold Builtin.SmallTypes.ownedTupleIsFree; refine wpAny_bind (wpAny_field hz rfl (x := .none) rfl (wpAny_pure ?_)); simp only [if_true]
  refine wpAny_bind (wpAny_rule ?_); refine wpAny_bind (wpAny_field hz rfl (x := .ref T2) rfl ?_)
  refine wpAny_bind (wpAny_setField_rec hz (by simp) fun g1 gz1 b1 => ?_)
  replace gz1 : IsZip g1 z T1 T2 .ellipsis := gz1
  refine wpAny_bind ?_; simp only [List.zipIdx_cons, List.zipIdx_nil, List.forIn_cons, List.forIn_nil]
  -- the first one's item
  refine wpAny_bind (wpAny_bind (wpAny_onRaise ?_)); show wpAny _ _ (Builtin.SmallTypes.nextOf (.ref i1) >>= _) _ _ _
  refine wpAny_bind (next_item (q1.but b1.extBut D.i1z) (r1.but b1.extBut D.l1z) ex fun g2 q12 b2 => wpAny_pure ?_)
  have p2 : IsPair g2 T2 a b := b2.extBut _ _ D.TOi1 (b1.extBut _ _ D.TOz hT2)
  refine wpAny_bind (wpAny_seqItems p2 rfl ?_); refine wpAny_bind (wpAny_updateSeq_pair p2 fun g3 p3 b3 => ?_)
  replace p3 : IsPair g3 T2 x b := p3
  refine wpAny_bind (wpAny_letGo (wpAny_pure ?_))
  -- the second one's
  refine wpAny_bind (wpAny_bind (wpAny_onRaise ?_)); show wpAny _ _ (Builtin.SmallTypes.nextOf (.ref i2) >>= _) _ _ _
  refine wpAny_bind (next_item (((q2.but b1.extBut D.i2z).but b2.extBut D.i12.symm).but b3.extBut D.TOi2.symm) (((r2.but b1.extBut D.l2z).but b2.extBut D.l2i1).but b3.extBut D.l2TO) ey fun g4 q24 b4 => wpAny_pure ?_)
  have p4 : IsPair g4 T2 x b := b4.extBut _ _ D.TOi2 p3
  refine wpAny_bind (wpAny_seqItems p4 rfl ?_); refine wpAny_bind (wpAny_updateSeq_pair p4 fun g5 p5 b5 => ?_)
  replace p5 : IsPair g5 T2 x y := p5
  refine wpAny_bind (wpAny_letGo (wpAny_pure (wpAny_pure ?_))); refine wpAny_bind (wpAny_seqItems p5 rfl ?_); refine wpAny_bind (wpAny_newTuple ?_)
  have n5 : g5.objs.size = s.heap.objs.size := by rw [b5.1, b4.1, b3.1, b2.1, b1.1]
  have z5 : IsZip g5 z T1 T2 .ellipsis := b5.extBut _ _ D.TOz.symm (b4.extBut _ _ D.i2z.symm (b3.extBut _ _ D.TOz.symm (b2.extBut _ _ D.i1z.symm gz1)))
  have k5 : Kept4 z T2 i1 i2 s.heap g5 := fun c o c1 c2 c3 c4 e => b5.extBut _ _ c2 (b4.extBut _ _ c4 (b3.extBut _ _ c2 (b2.extBut _ _ c3 (b1.extBut _ _ c1 e))))
  have f1 : ItAt t g5 i1 m1 (k + 1) := ((q12.but b3.extBut D.TOi1.symm).but b4.extBut D.i12).but b5.extBut D.TOi1.symm
  have f2 : ItAt t2 g5 i2 m2 (k + 1) := q24.but b5.extBut D.TOi2.symm
  have zl : z < g5.objs.size := Heap.lt_size z5
  show wpAny _ _ (Builtin.SmallTypes.ownedTupleHandOut (.ref z) (.ref g5.objs.size) >>= _) _ _ _
  refine wpAny_bind ?_; unfold Builtin.SmallTypes.ownedTupleHandOut
  have z6 : IsZip (g5.push { cls := .type "tuple", data := .seq #[x, y] }) z T1 T2 .ellipsis := Heap.get?_push_of_some _ z5
  refine wpAny_bind (wpAny_setField_rec z6 (by simp) fun g7 z7 b7 => ?_)
  replace z7 : IsZip g7 z T1 T2 (rawInt g5.objs.size) := z7
  refine wpAny_setField_rec z7 (by simp) fun g8 z8 b8 => ?_
  replace z8 : IsZip g8 z T1 T2 (rawInt g5.objs.size) := z8
  have up : ∀ c o, c ≠ z → g5.get? c = some o → g8.get? c = some o := fun c o c1 e => b8.extBut _ _ c1 (b7.extBut _ _ c1 (Heap.get?_push_of_some _ e))
  have t8 : IsPair g8 g5.objs.size x y := b8.extBut _ _ (Nat.ne_of_gt zl) (b7.extBut _ _ (Nat.ne_of_gt zl) (Heap.get?_push_size _ rfl))
  rw [n5] at z8 t8
  refine wpAny_pure ⟨_, rfl, ?_⟩; show Q (.ref g5.objs.size) _; rw [n5]
  exact hQ g8 z8 (up _ _ D.TOz p5) (f1.on fun o e => up _ o D.i1z e) (f2.on fun o e => up _ o D.i2z e) t8 fun c o c1 c2 c3 c4 e => up c o c1 (k5 c o c1 c2 c3 c4 e)
theorem zip_end {Q : PySem.Fin → Shared → Prop} (hh : A.handled = none) (D : ZipApart z T1 T2 i1 i2 m1 m2) (Z : ZipAt t t2 s.heap z T1 T2 i1 i2 m1 m2 k) (r1 : SqAt t s.heap m1 xs) (r2 : SqAt t2 s.heap m2 ys) (en : xs[k]? = none ∨ ys[k]? = none)
    (hE : ∀ h' u, Kept4 z T2 i1 i2 s.heap h' → (∃ o, h'.get? u = some o ∧ o.cls = .type "StopIteration") → E (.ref u) { s with heap := h' }) : wpAny (model prog w) A (Builtin.«zip.__next__» ⟨[.ref z], []⟩) Q E s := by
  obtain ⟨hz, hT1, ⟨a, b, hT2⟩, q1, q2⟩ := Z
  show wpAny _ _ (field (.ref z) 2 >>= _) _ _ _; refine wpAny_bind (wpAny_field hz rfl (x := .bool false) rfl ?_)
  show wpAny _ _ (field (.ref z) 3 >>= _) _ _ _; refine wpAny_bind (wpAny_field hz rfl (x := .ref T1) rfl ?_)
  refine wpAny_bind (wpAny_seqItems hT1 rfl ?_); show wpAny _ _ (Builtin.SmallTypes.ownedTupleIsFree (.ref z) >>= _) _ _ _
  refine wpAny_bind ?_; unfold Builtin.SmallTypes.ownedTupleIsFree; refine wpAny_bind (wpAny_field hz rfl (x := .none) rfl (wpAny_pure ?_)); simp only [if_true]
  refine wpAny_bind (wpAny_rule ?_); refine wpAny_bind (wpAny_field hz rfl (x := .ref T2) rfl ?_)
  refine wpAny_bind (wpAny_setField_rec hz (by simp) fun g1 gz1 b1 => ?_)
  replace gz1 : IsZip g1 z T1 T2 .ellipsis := gz1
  refine wpAny_bind ?_; simp only [List.zipIdx_cons, List.zipIdx_nil, List.forIn_cons, List.forIn_nil]
  refine wpAny_bind (wpAny_bind (wpAny_onRaise ?_)); show wpAny _ _ (Builtin.SmallTypes.nextOf (.ref i1) >>= _) _ _ _
  cases ex : xs[k]? with
  | none =>
    refine wpAny_bind (next_end hh (q1.but b1.extBut D.i1z) (r1.but b1.extBut D.l1z) ex fun g2 u b2 hu => ?_)
    obtain ⟨o, ho, hc⟩ := hu
    have gz2 : IsZip g2 z T1 T2 .ellipsis := b2 _ _ D.i1z.symm gz1
    have uz : u ≠ z := fun e => by subst e; rw [gz2] at ho; cases ho; simp at hc
    refine wpAny_setField_rec gz2 (by simp) fun g3 _ b3 => hE g3 u (fun c o c1 _ c3 _ e => b3.extBut _ _ c1 (b2 _ _ c3 (b1.extBut _ _ c1 e))) ⟨o, b3.extBut _ _ uz ho, hc⟩
  | some x =>
    have ey : ys[k]? = none := en.resolve_left (by rw [ex]; simp)
    refine wpAny_bind (next_item (q1.but b1.extBut D.i1z) (r1.but b1.extBut D.l1z) ex fun g2 q12 b2 => wpAny_pure ?_)
    have p2 : IsPair g2 T2 a b := b2.extBut _ _ D.TOi1 (b1.extBut _ _ D.TOz hT2)
    refine wpAny_bind (wpAny_seqItems p2 rfl ?_); refine wpAny_bind (wpAny_updateSeq_pair p2 fun g3 p3 b3 => ?_)
    refine wpAny_bind (wpAny_letGo (wpAny_pure ?_)); refine wpAny_bind (wpAny_bind (wpAny_onRaise ?_))
    show wpAny _ _ (Builtin.SmallTypes.nextOf (.ref i2) >>= _) _ _ _
    refine wpAny_bind (next_end hh (((q2.but b1.extBut D.i2z).but b2.extBut D.i12.symm).but b3.extBut D.TOi2.symm) (((r2.but b1.extBut D.l2z).but b2.extBut D.l2i1).but b3.extBut D.l2TO) ey fun g4 u b4 hu => ?_)
    obtain ⟨o, ho, hc⟩ := hu
    have gz4 : IsZip g4 z T1 T2 .ellipsis := b4 _ _ D.i2z.symm (b3.extBut _ _ D.TOz.symm (b2.extBut _ _ D.i1z.symm gz1))
    have uz : u ≠ z := fun e => by subst e; rw [gz4] at ho; cases ho; simp at hc
    refine wpAny_setField_rec gz4 (by simp) fun g5 _ b5 => hE g5 u (fun c o c1 c2 c3 c4 e => b5.extBut _ _ c1 (b4 _ _ c4 (b3.extBut _ _ c2 (b2.extBut _ _ c3 (b1.extBut _ _ c1 e))))) ⟨o, b5.extBut _ _ uz ho, hc⟩
end
section
variable {prog : Program} {w : World} {A : Around} {E : Value → Shared → Prop} {s : Shared} {t t2 : Bool} {z T1 T2 i1 i2 m1 m2 : Addr} {k : Nat} {xs ys : Array Value} {x y : Value}
theorem next_zip {Q : Option Value → Shared → Prop} (D : ZipApart z T1 T2 i1 i2 m1 m2) (Z : ZipAt t t2 s.heap z T1 T2 i1 i2 m1 m2 k) (r1 : SqAt t s.heap m1 xs) (r2 : SqAt t2 s.heap m2 ys) (ex : xs[k]? = some x) (ey : ys[k]? = some y)
    (hQ : ∀ h', IsZip h' z T1 T2 (rawInt s.heap.objs.size) → IsPair h' T2 x y → ItAt t h' i1 m1 (k + 1) → ItAt t2 h' i2 m2 (k + 1) → IsPair h' s.heap.objs.size x y → Kept4 z T2 i1 i2 s.heap h' → Q (some (.ref s.heap.objs.size)) { s with heap := h' }) :
    wpAny (model prog w) A (pyNext (.ref z)) Q E s := by
  have ty : s.TypeIs (.ref z) "zip" := ⟨_, Z.zip, rfl⟩
  have item := zip_item (prog := prog) (w := w) (A := A.in1) (Q := fun v s' => Q (some v) s') (E := fun e s' => True) D Z r1 r2 ex ey hQ
  unfold pyNext
  refine wpAny_bind (wpAny_attempt (wpAny_callSpecial?_slot (name := Str.ofString "__next__") ty F.slot_zip_next (wpAny_call_entry F.slot_zip_next ty F.entry_zip_next ?_ (F.args_zip_next_1 _))))
  exact zip_item D Z r1 r2 ex ey fun h' a1 a2 a3 a4 a5 a6 => wpAny_pure (hQ h' a1 a2 a3 a4 a5 a6)
theorem next_zip0 {Q : Option Value → Shared → Prop} (hh : A.handled = none) (D : ZipApart z T1 T2 i1 i2 m1 m2) (Z : ZipAt t t2 s.heap z T1 T2 i1 i2 m1 m2 k) (r1 : SqAt t s.heap m1 xs) (r2 : SqAt t2 s.heap m2 ys) (en : xs[k]? = none ∨ ys[k]? = none)
    (hQ : ∀ h', Kept4 z T2 i1 i2 s.heap h' → Q none { s with heap := h' }) : wpAny (model prog w) A (pyNext (.ref z)) Q E s := by
  have ty : s.TypeIs (.ref z) "zip" := ⟨_, Z.zip, rfl⟩
  unfold pyNext
  refine wpAny_bind (wpAny_attempt (wpAny_callSpecial?_slot (name := Str.ofString "__next__") ty F.slot_zip_next (wpAny_call_entry F.slot_zip_next ty F.entry_zip_next ?_ (F.args_zip_next_1 _))))
  refine zip_end hh D Z r1 r2 en fun h' u hk hu => ?_
  obtain ⟨o, ho, hc⟩ := hu
  exact wpAny_bind (wpAny_isInstance (T := "StopIteration") (b := true) ⟨o, ho, hc⟩ isSubtype_stop (wpAny_pure (hQ _ hk)))
end
def SqV (t : Bool) (K : PySem.W.Frag) (H : Hp) (a : Addr) (xs : List V) : Prop := match t with | true => SqT K H a xs | false => SqL K H a xs
def ItzX (t t2 : Bool) (K : PySem.W.Frag) (a b : Addr) : It :=
  ⟨fun i H => ∃ (xs ys : List V) (x y : V), SqV t K H a xs ∧ SqV t2 K H b ys ∧ xs[i]? = some x ∧ ys[i]? = some y,
    fun i H v H' => ∃ T x y, v = .ref T ∧ H T = none ∧ H' = upd H T (.tup [x, y]) ∧ (∀ xs, SqV t K H a xs → xs[i]? = some x) ∧ ∀ ys, SqV t2 K H b ys → ys[i]? = some y,
    fun i H => ∃ xs ys : List V, SqV t K H a xs ∧ SqV t2 K H b ys ∧ (xs.length ≤ i ∨ ys.length ≤ i)⟩
section
variable {X : Cx} {pins : List (Addr × Obj)} {σ : L2.St} {H : Hp} {s : Shared} {t : Bool} {a : Addr} {xs ys : List V}
theorem sqv_at (I : Inv X pins σ H s) (q : SqV t X.K H a xs) : ∃ its, Vals xs its ∧ SqAt t s.heap a its.toArray ∧ ∀ ys, SqV t X.K H a ys → ys = xs := by
  cases t
  · obtain ⟨its, rv, p, _⟩ := I.list q
    exact ⟨its, rv, p.isList, fun ys hy => I.list_inj hy q⟩
  · obtain ⟨its, rv, p, _⟩ := I.tuple q
    exact ⟨its, rv, p, fun ys hy => I.tuple_inj hy q⟩
end
theorem turn_zipX {P : Program} {w : World} {K : PySem.W.Frag} {t t2 : Bool} {elts : List Expr} {kk : Nat} {tpos : Pos} {a b z T1 T2 i1 i2 : Addr} (D : ZipApart z T1 T2 i1 i2 a b) :
    Turn P w K (.Tuple elts kk tpos) (ItzX t t2 K a b) [z, T1, T2, i1, i2] z (fun i h => ZipAt t t2 h z T1 T2 i1 i2 a b i) where
  mem := by simp
  obj := fun i h Z c hc => by
    obtain ⟨hz, hT1, ⟨x, y, hT2⟩, q1, q2⟩ := Z
    have e' : c = z ∨ c = T1 ∨ c = T2 ∨ c = i1 ∨ c = i2 := by simpa using hc
    have it : ∀ {t : Bool} {i l : Addr} {k : Nat}, ItAt t h i l k → ∃ o, h.get? i = some o ∧ ∀ v, o.data ≠ .cell v := fun {t i l k} q => by
      cases t <;> (obtain ⟨o, e, _, d⟩ := q; exact ⟨o, e, fun v q => by rw [d] at q; cases q⟩)
    rcases e' with e | e | e | e | e <;> subst e
    · exact ⟨_, hz, fun v q => nomatch q⟩
    · exact ⟨_, hT1, fun v q => nomatch q⟩
    · exact ⟨_, hT2, fun v q => nomatch q⟩
    · exact it q1
    · exact it q2
  keep := fun i h h' Z k => by
    obtain ⟨hz, hT1, ⟨x, y, hT2⟩, q1, q2⟩ := Z
    exact ⟨k z (by simp) _ hz, k T1 (by simp) _ hT1, ⟨x, y, k T2 (by simp) _ hT2⟩, q1.on fun o q => k i1 (by simp) o q, q2.on fun o q => k i2 (by simp) o q⟩
  item := by
    intro X hP hw hK hc i pins s σ H E I hf Z hg
    subst hP; subst hw; subst hK
    obtain ⟨xs, ys, x, y, qx, qy, ex, ey⟩ := hg
    obtain ⟨us, rv, r1, n1⟩ := sqv_at I qx
    obtain ⟨vs, rv2, r2, n2⟩ := sqv_at I qy
    obtain ⟨u, eu, ru⟩ := rv.get ex
    obtain ⟨u2, eu2, ru2⟩ := rv2.get ey
    have zl : z < s.heap.objs.size := Heap.lt_size Z.zip
    refine next_zip D Z r1 r2 (x := u) (y := u2) (by simpa using eu) (by simpa using eu2) fun g z1 o1 f1 f2 hT kp => ?_
    refine ⟨_, rfl, wpAny_letOwnedTupleGo_zip (s := { s with heap := g }) z1 fun g2 z2 sb => ?_⟩
    have hT2 : g2.get? s.heap.objs.size = some { cls := .type "tuple", data := .seq #[u, u2] } := (sb.2 _ (Nat.ne_of_gt zl)).trans hT
    have ok : ObjOk X.prog X.w (upd H s.heap.objs.size (.tup [x, y])) g2 s.heap.objs.size (.tup [x, y]) := ⟨by show 2 ≤ sizeLine; decide, [u, u2], .cons ru (.cons ru2 .nil), ⟨_, hT2, rfl, _, rfl⟩⟩
    have I1 : Inv X pins σ (upd H s.heap.objs.size (.tup [x, y])) { s with heap := g2 } := I.turnedNew (t' := s.toks) (ch := [z, T1, T2, i1, i2])
      (fun c o hb q => by
        simp only [List.mem_cons, List.not_mem_nil, or_false, not_or] at hb
        exact (sb.2 c hb.1).trans (kp c o hb.1 hb.2.2.1 hb.2.2.2.1 hb.2.2.2.2 q)) hf (Nat.le_refl _) ok
    refine ⟨.ref s.heap.objs.size, _, I1, rfl, ⟨_, x, y, rfl, I.hok.fresh (Nat.le_refl _), rfl, fun l hl => by rw [n1 l hl]; exact ex, fun l hl => by rw [n2 l hl]; exact ey⟩, ⟨z2, (sb.2 _ D.TIz).trans (kp _ _ D.TIz D.TITO D.TIi1 D.TIi2 Z.its), ⟨u, u2, (sb.2 _ D.TOz).trans o1⟩, f1.on fun o q => (sb.2 _ D.i1z).trans q, f2.on fun o q => (sb.2 _ D.i2z).trans q⟩, fun c hcm => ?_⟩
    have hlt : c < s.heap.objs.size := by
      have e' : c = z ∨ c = T1 ∨ c = T2 ∨ c = i1 ∨ c = i2 := by simpa using hcm
      obtain ⟨px, py, hO⟩ := Z.out
      rcases e' with e | e | e | e | e <;> rw [e]
      · exact zl
      · exact Heap.lt_size Z.its
      · exact Heap.lt_size hO
      · exact Z.fst.low
      · exact Z.snd.low
    rw [upd_ne (Nat.ne_of_lt hlt)]
    exact (hf c hcm).1
  done := by
    intro X hP hw hK hc i pins s σ H E I hf Z hg
    subst hP; subst hw; subst hK
    obtain ⟨xs, ys, qx, qy, en⟩ := hg
    obtain ⟨us, rv, r1, _⟩ := sqv_at I qx
    obtain ⟨vs, rv2, r2, _⟩ := sqv_at I qy
    have l1 := rv.length
    have l2 := rv2.length
    have none_at : us.toArray[i]? = none ∨ vs.toArray[i]? = none := en.elim (fun q => .inl (by simp; omega)) fun q => .inr (by simp; omega)
    exact next_zip0 (I.ok.hd hc) D Z r1 r2 none_at fun g kp => ⟨rfl, I.turnedL (t' := s.toks) (ch := [z, T1, T2, i1, i2]) (fun c o hb q => by
      simp only [List.mem_cons, List.not_mem_nil, or_false, not_or] at hb
      exact kp c o hb.1 hb.2.2.1 hb.2.2.2.1 hb.2.2.2.2 q) hf⟩
  self := fun A i s Q E Z h => wpAny_pyIter_zip Z.zip h
def itO (t : Bool) (l : Addr) : Obj := match t with
  | true => { cls := .type "tuple_iterator", data := .fields #[.ref l, .int 0 0] }
  | false => { cls := .type "list_iterator", data := .fields #[.ref l, .int 0 0] }
abbrev zA (h : Heap) (t t2 : Bool) (l l2 : Addr) : Heap := (h.push (itO t l)).push (itO t2 l2)
abbrev zB (h : Heap) (t t2 : Bool) (l l2 : Addr) : Heap := (zA h t t2 l l2).push { cls := .type "tuple", data := .seq #[.ref h.objs.size, .ref (h.push (itO t l)).objs.size] }
abbrev zC (h : Heap) (t t2 : Bool) (l l2 : Addr) : Heap := (zB h t t2 l l2).push { cls := .type "tuple", data := .seq #[.none, .none] }
abbrev zD (h : Heap) (t t2 : Bool) (l l2 : Addr) : Heap := (zC h t t2 l l2).push { cls := .type "zip", data := .fields #[.none, .bool false, .bool false, .ref (zA h t t2 l l2).objs.size, .ref (zB h t t2 l l2).objs.size] }
theorem SqAt.push {h : Heap} {t : Bool} {l : Addr} {xs : Array Value} (q : SqAt t h l xs) (o : Obj) : SqAt t (h.push o) l xs := by
  cases t
  · exact Heap.IsList.push q o
  · exact Heap.IsTuple.push q o
theorem zip_new (t t2 : Bool) (l l2 : Addr) (xs ys : Array Value) : Meets (Builtin.«zip.__new__» ⟨[.type "zip", .ref l, .ref l2], []⟩)
    (fun _ R s => SqAt t s.heap l xs ∧ SqAt t2 s.heap l2 ys ∧ R (.ok (.ret (.ref (zC s.heap t t2 l l2).objs.size))) { s with heap := zD s.heap t t2 l l2 }) :=
  .of_wp fun prog w A R s h => by
    obtain ⟨hp, g, d, tk, os⟩ := s
    obtain ⟨q1, q2, h⟩ := h
    have hsub := sub_zip
    have q3 := q2.push (itO t l)
    cases t <;> cases t2
    · have a1 : Heap.IsList (Shared.heap ⟨hp, g, d, tk, os⟩) l xs := q1
      have a2 : Heap.IsList (Shared.heap ⟨hp.push ({ cls := .type "list_iterator", data := .fields #[.ref l, .int 0 0] } : Obj), g, d, tk, os⟩) l2 ys := q3
      wp_walk using wpAny_pyIter_list a1, wpAny_pyIter_list a2
      exact ⟨_, rfl, h⟩
    · have a1 : Heap.IsList (Shared.heap ⟨hp, g, d, tk, os⟩) l xs := q1
      have a2 : Heap.IsTuple (Shared.heap ⟨hp.push ({ cls := .type "list_iterator", data := .fields #[.ref l, .int 0 0] } : Obj), g, d, tk, os⟩) l2 ys := q3
      wp_walk using wpAny_pyIter_list a1, wpAny_pyIter_tuple a2
      exact ⟨_, rfl, h⟩
    · have a1 : Heap.IsTuple (Shared.heap ⟨hp, g, d, tk, os⟩) l xs := q1
      have a2 : Heap.IsList (Shared.heap ⟨hp.push ({ cls := .type "tuple_iterator", data := .fields #[.ref l, .int 0 0] } : Obj), g, d, tk, os⟩) l2 ys := q3
      wp_walk using wpAny_pyIter_tuple a1, wpAny_pyIter_list a2
      exact ⟨_, rfl, h⟩
    · have a1 : Heap.IsTuple (Shared.heap ⟨hp, g, d, tk, os⟩) l xs := q1
      have a2 : Heap.IsTuple (Shared.heap ⟨hp.push ({ cls := .type "tuple_iterator", data := .fields #[.ref l, .int 0 0] } : Obj), g, d, tk, os⟩) l2 ys := q3
      wp_walk using wpAny_pyIter_tuple a1, wpAny_pyIter_tuple a2
      exact ⟨_, rfl, h⟩
end Dt
namespace Dt
open PySem PySem.Spec PyProof.Rows L2
theorem itO_at {h : Heap} {t : Bool} {i l : Addr} (e : h.get? i = some (itO t l)) : ItAt t h i l 0 := by
  cases t
  · exact ⟨_, e, rfl, rfl⟩
  · exact ⟨_, e, rfl, rfl⟩
theorem itO_live {t : Bool} {l : Addr} : (itO t l).data ≠ .freed := by cases t <;> simp [itO]
section
variable {prog : Program} {w : World} {A : Around} {E : Value → Shared → Prop} {s : Shared}
theorem push_live {h : Heap} {o : Obj} (n : o.data ≠ .freed) : (h.push o).get? h.objs.size = some o := Heap.get?_push_size _ (by cases o with | mk c d dt sl => cases dt <;> first | rfl | exact absurd rfl n)
theorem call_zipX {t t2 : Bool} {l l2 : Addr} {xs ys : Array Value} {Q : Value → Shared → Prop} (q1 : SqAt t s.heap l xs) (q2 : SqAt t2 s.heap l2 ys)
    (h : ∀ h', ZipAt t t2 h' (s.heap.objs.size + 4) (s.heap.objs.size + 2) (s.heap.objs.size + 3) s.heap.objs.size (s.heap.objs.size + 1) l l2 0 → (∀ c o, s.heap.get? c = some o → h'.get? c = some o) → Q (.ref (s.heap.objs.size + 4)) { s with heap := h' }) :
    wpAny (model prog w) A (call (.type "zip") [.ref l, .ref l2]) Q E s := by
  refine callType_new F.called_zip (by decide) (F.typeCall_zip_2 _ _) (F.newCall_zip_2 _ _) (fun obj => F.args_object_init_3 obj _ _) F.entry_zip_new (zip_new t t2 l l2 xs ys) ⟨q1, q2, ?_⟩
  have n1 : (s.heap.push (itO t l)).objs.size = s.heap.objs.size + 1 := Heap.size_push ..
  have n2 : (zA s.heap t t2 l l2).objs.size = s.heap.objs.size + 2 := by rw [Heap.size_push, n1]
  have n3 : (zB s.heap t t2 l l2).objs.size = s.heap.objs.size + 3 := by rw [Heap.size_push, n2]
  have n4 : (zC s.heap t t2 l l2).objs.size = s.heap.objs.size + 4 := by rw [Heap.size_push, n3]
  have g5 : (zD s.heap t t2 l l2).get? (zC s.heap t t2 l l2).objs.size = some _ := Heap.get?_push_size _ rfl
  have g4 : (zD s.heap t t2 l l2).get? (zB s.heap t t2 l l2).objs.size = some _ := Heap.get?_push_of_some _ (Heap.get?_push_size _ rfl)
  have g3 : (zD s.heap t t2 l l2).get? (zA s.heap t t2 l l2).objs.size = some _ := Heap.get?_push_of_some _ (Heap.get?_push_of_some _ (Heap.get?_push_size _ rfl))
  have g2 : (zD s.heap t t2 l l2).get? (s.heap.push (itO t l)).objs.size = some (itO t2 l2) := Heap.get?_push_of_some _ (Heap.get?_push_of_some _ (Heap.get?_push_of_some _ (push_live itO_live)))
  have g1 : (zD s.heap t t2 l l2).get? s.heap.objs.size = some (itO t l) := Heap.get?_push_of_some _ (Heap.get?_push_of_some _ (Heap.get?_push_of_some _ (Heap.get?_push_of_some _ (push_live itO_live))))
  show _ ∧ _
  rw [n2, n3, n4] at g5; rw [n1, n2] at g3; rw [n3] at g4; rw [n1] at g2; rw [n4]
  exact ⟨⟨_, g5, rfl⟩, h _ ⟨g5, g3, ⟨_, _, g4⟩, itO_at g1, itO_at g2⟩ fun c o e => Heap.get?_push_of_some _ (Heap.get?_push_of_some _ (Heap.get?_push_of_some _ (Heap.get?_push_of_some _ (Heap.get?_push_of_some _ e))))⟩
end
def iZipX (K : PySem.W.Frag) (ta : TA) : TI := fun σ H R => ta σ H fun vs H1 => ∃ (t t2 : Bool) (a b : Addr) (xs ys : List V), vs = [.ref a, .ref b] ∧ SqV t K H1 a xs ∧ SqV t2 K H1 b ys ∧ R (ItzX t t2 K a b) H1
theorem pi_zipX {X : Cx} {e e2 : Expr} {ta : TA} {p pos tpos : Pos} {elts : List Expr} {kk : Nat} (hg : Gl X "zip") (hm : X.mg "zip" = none) (ha : PA X [e, e2] ta)
    (hs : starEach [e, e2] X.env = (false, eval e X.env) :: starEach [e2] X.env := by rfl) (hpl : (backTo pos (starEach [e2] X.env)).any (·.1) = false := by rfl) : PI X (.Tuple elts kk tpos) (.Call (.Name "zip" p) [e, e2] [] pos) (iZipX X.K ta) := by
  refine ⟨fun pins s σ H R I q => ?_⟩
  refine Call_ (ld_blt I hg hm PyProof.Rows.boot_zip (PyProof.Rows.callWith_type1 (thn (ha.run pos pins s σ H _ I q) fun us s1 ⟨vs, H1, I1, r1, q1⟩ => ?_) hs hpl))
  obtain ⟨t, t2, a, b, xs, ys, ex, qx, qy, q2⟩ := q1
  subst ex
  obtain ⟨us', rv, p1, _⟩ := sqv_at I1 qx
  obtain ⟨vs', rv2, p2, _⟩ := sqv_at I1 qy
  cases r1 with
  | cons r rr =>
    cases rr with
    | cons r' rr =>
      cases rr; cases r; cases r'
      have lt : ∀ {t : Bool} {l : Addr} {its : Array Value}, SqAt t s1.heap l its → l < s1.heap.objs.size := fun {t l its} q => by
        cases t <;> (obtain ⟨o, e, _⟩ := q; exact Heap.lt_size e)
      refine call_zipX p1 p2 fun g Z hk => wpAny_pyIter_zip Z.zip ?_
      have I2 : Inv X pins σ H1 { s1 with heap := g } := I1.kept (t' := s1.toks) hk
      refine ⟨s1.heap.objs.size + 4, [s1.heap.objs.size + 4, s1.heap.objs.size + 2, s1.heap.objs.size + 3, s1.heap.objs.size, s1.heap.objs.size + 1], _, _, H1, rfl, I2, turn_zipX (PySem.W.ktu_apart s1.heap.objs.size a b (lt p1) (lt p2)), Z, fun c hc => ?_, q2⟩
      have le : s1.heap.objs.size ≤ c := by
        have e' : c = s1.heap.objs.size + 4 ∨ c = s1.heap.objs.size + 2 ∨ c = s1.heap.objs.size + 3 ∨ c = s1.heap.objs.size ∨ c = s1.heap.objs.size + 1 := by simpa using hc
        rcases e' with e | e | e | e | e <;> rw [e] <;> first | exact Nat.le_add_right _ _ | exact Nat.le_refl _
      exact I1.fpOk le (I1.hok.fresh le)
/-- a thing that zip walks: is it a tuple, what of ours it is, its items -/
def zsrc (h : DH) : D → Option (Bool × List (Nat × List D) × List D)
  | .tup ds => some (true, [], ds)
  | .wt ds => some (true, [], ds)
  | .lst ds => some (false, [], ds)
  | .scr ns => some (false, [], ns.map D.int)
  | .ref n => match h[n]? with | some (.lst ds) => some (false, [(n, ds)], ds) | _ => none
  | _ => none
def zipX (as : AF) : IF := fun env h => bd (as env h) fun ds h1 => match ds with
  | [x, y] => match zsrc h1 x, zsrc h1 y with
    | some (_, s1, xs), some (_, s2, ys) => .ok ⟨s1 ++ s2, (xs.zip ys).map fun p => D.tup [p.1, p.2]⟩ h1
    | _, _ => .bad
  | _ => .bad
section
variable {X : Cx} {W : WX} {K : PySem.W.Frag} {r r' : Rg} {h h' : DH} {H H' : Hp} {x : D} {v : V}
theorem zsrc_at {t : Bool} {so : List (Nat × List D)} {ds : List D} (e : zsrc h x = some (t, so, ds)) (rv : RV K r H x v) (w : Wx r r' H H') (rh : RH K r' h' H') (ok : ∀ p ∈ so, h'[p.1]? = some (.lst p.2)) :
    ∃ a vs, v = .ref a ∧ SqV t K H' a vs ∧ RVs K r' H' ds vs := by
  unfold zsrc at e
  split at e
  · cases e; exact tsq_at (rv.wmono w) rfl
  · cases e; exact tsq_at (rv.wmono w) rfl
  · cases e; exact lsq_at rh (rv.wmono w) rfl
  · cases e; exact lsq_at rh (rv.wmono w) rfl
  · rename_i n
    split at e
    · cases e
      have e2 := ok (n, ds) List.mem_cons_self
      exact lsq_at rh (rv.wmono w) (by simp [lsq, e2])
    · cases e
  · cases e
theorem zsrc_ok {t : Bool} {so : List (Nat × List D)} {ds : List D} (e : zsrc h x = some (t, so, ds)) : ∀ p ∈ so, h[p.1]? = some (.lst p.2) := by
  unfold zsrc at e
  split at e
  · cases e; simp
  · cases e; simp
  · cases e; simp
  · cases e; simp
  · split at e
    · rename_i e1
      cases e
      intro p hp
      rw [List.mem_singleton.mp hp]
      exact e1
    · cases e
  · cases e
theorem di_zipX {e e2 : Expr} {as : AF} {p pos tpos : Pos} {elts : List Expr} {kk : Nat} (hg : Gl X "zip") (hm : X.mg "zip" = none) (ha : PA X [e, e2] (tA X.K W as))
    (hs : starEach [e, e2] X.env = (false, eval e X.env) :: starEach [e2] X.env := by rfl) (hpl : (backTo pos (starEach [e2] X.env)).any (·.1) = false := by rfl) : PI X (.Tuple elts kk tpos) (.Call (.Name "zip" p) [e, e2] [] pos) (tI X.K W (zipX as)) :=
  PI.imp (pi_zipX hg hm ha hs hpl) fun σ H R pp => tG.first (R := RVs X.K) (f := as) (g := fun ds _ h1 => match ds with
  | [x, y] => match zsrc h1 x, zsrc h1 y with
    | some (_, s1, xs), some (_, s2, ys) => .ok (ItD.mk (s1 ++ s2) ((xs.zip ys).map fun p => D.tup [p.1, p.2])) h1
    | _, _ => .bad
  | _ => .bad) pp fun r0 env h1 x v H1 rh rs rx p1 => by
    split at p1
    · rename_i x y
      obtain ⟨u, w, rfl, ru, rw_⟩ := rx.inv2
      split at p1
      · rename_i t s1 xs t2 s2 ys e1 e2
        obtain ⟨a, vs, rfl, f1, q1⟩ := zsrc_at e1 ru .refl rh (zsrc_ok e1)
        obtain ⟨b, ws, rfl, f2, q2⟩ := zsrc_at e2 rw_ .refl rh (zsrc_ok e2)
        refine ⟨t, t2, a, b, vs, ws, rfl, f1, f2, p1 _ _ _ .refl rh fun r' h' H' e rh' so i => ?_⟩
        obtain ⟨a', vs, ea, f1, q1⟩ := zsrc_at e1 ru e rh' fun p hp => so p (List.mem_append_left _ hp)
        cases ea
        obtain ⟨b', ws, eb, f2, q2⟩ := zsrc_at e2 rw_ e rh' fun p hp => so p (List.mem_append_right _ hp)
        cases eb
        refine ⟨fun d hd => ?_, fun hl => ?_⟩
        · obtain ⟨x1, y1, hx, hy, rfl⟩ := zip_get hd
          obtain ⟨z1, hz1, rz1⟩ := q1.get hx
          obtain ⟨z2, hz2, rz2⟩ := q2.get hy
          refine ⟨⟨vs, ws, z1, z2, f1, f2, hz1, hz2⟩, fun x H'' hy => ?_⟩
          obtain ⟨T, z3, z4, rfl, hn, rfl, g1, g2⟩ := hy
          have g1 := g1 vs f1
          rw [hz1] at g1; cases g1
          have g2 := g2 ws f2
          rw [hz2] at g2; cases g2
          exact lay_pair rh' hn rz1 rz2
        · dsimp only at hl
          rw [List.length_map, List.length_zip, q1.length, q2.length] at hl
          exact ⟨vs, ws, f1, f2, by omega⟩
      · exact p1.elim
    · exact p1.elim
end
end Dt
namespace Dt
open PySem PySem.Spec PyProof.Rows L2
end Dt
namespace WS
open PySem PySem.Spec PyProof.Rows L2
def posT : List Nat := [0, 1, 326, 495, 412, 365, 2, 379, 376, 281, 254, 327, 404, 261, 58, 339, 496, 305, 438, 415, 140, 413, 370, 43, 360, 73, 366, 247, 132, 309, 426, 3, 480, 97, 38, 335, 380, 461, 226, 219, 344, 377, 478, 167, 372, 357, 282, 179, 464, 401, 150, 255, 108, 509, 82, 395, 328, 169, 78, 87, 100, 405, 138, 355, 448, 193, 262, 175, 348, 45, 450, 59, 312, 473, 190, 7, 340, 453, 506, 19, 432, 497, 374, 95, 76, 93, 306, 235, 296, 265, 302, 439, 68, 501, 362, 195, 416, 289, 486, 15, 316, 141, 162, 411, 280, 57, 414, 359, 308, 37, 218, 371, 400, 81, 86, 447, 44, 189, 18, 75, 264, 361, 14, 279, 36, 85, 74, 35, 384, 385, 198, 367, 284, 237, 386, 251, 248, 153, 126, 199, 276, 133, 442, 211, 368, 177, 310, 287, 12, 285, 242, 427, 232, 457, 238, 119, 4, 181, 298, 387, 352, 481, 422, 207, 252, 333, 98, 91, 216, 249, 350, 39, 244, 229, 154, 51, 336, 273, 22, 127, 492, 381, 466, 267, 200, 41, 462, 471, 484, 277, 10, 227, 320, 65, 134, 47, 220, 429, 322, 443, 184, 345, 62, 391, 212, 325, 378, 403, 304, 369, 246, 479, 460, 477, 178, 107, 168, 137, 174, 311, 452, 373, 234, 67, 288, 161, 358, 399, 188, 13, 34, 283, 152, 441, 286, 231, 180, 421, 90, 243, 272, 465, 470, 319, 428, 61, 402, 459, 136, 233, 398, 151, 420, 469, 458, 419, 256, 257, 70, 239, 156, 109, 258, 123, 120, 25, 510, 71, 148, 5, 314, 83, 240, 49, 182, 159, 396, 157, 114, 299, 104, 329, 110, 503, 388, 53, 170, 259, 224, 353, 294, 79, 124, 205, 482, 475, 88, 121, 222, 423, 116, 101, 26, 435, 208, 145, 406, 511, 364, 253, 338, 139, 72, 425, 334, 343, 356, 149, 394, 99, 192, 449, 6, 431, 92, 301, 194, 315, 56, 217, 446, 263, 84, 197, 250, 275, 176, 241, 118, 351, 332, 349, 50, 491, 40, 9, 46, 183, 324, 245, 106, 451, 160, 33, 230, 271, 60, 397, 418, 155, 24, 313, 158, 103, 52, 293, 474, 115, 144, 337, 342, 191, 300, 445, 274, 331, 8, 105, 270, 23, 292, 341, 330, 291, 128, 129, 454, 111, 28, 493, 130, 507, 504, 409, 382, 455, 20, 389, 186, 467, 112, 433, 54, 31, 268, 29, 498, 171, 488, 201, 494, 375, 260, 437, 42, 131, 96, 225, 166, 463, 508, 77, 354, 347, 472, 505, 94, 295, 500, 485, 410, 307, 80, 17, 278, 383, 236, 125, 210, 11, 456, 297, 206, 215, 228, 21, 266, 483, 64, 321, 390, 303, 476, 173, 66, 187, 440, 89, 318, 135, 468, 69, 122, 147, 48, 113, 502, 223, 204, 221, 434, 363, 424, 393, 430, 55, 196, 117, 490, 323, 32, 417, 102, 143, 444, 269, 290, 27, 408, 185, 30, 487, 436, 165, 346, 499, 16, 209, 214, 63, 172, 317, 146, 203, 392, 489, 142, 407, 164, 213, 202, 163]
def Mk (m : Nat) : Prop := MaskOk m ∨ m = 511
theorem pos_ok : ((List.range 512).all fun j => lcgN 511 (posT.getD j 0) == j && Nat.ble (posT.getD j 0) 511) = true := by decide +kernel
theorem turn511 : lcgN 511 512 = 0 := by decide +kernel
theorem pos_at {j : Nat} (hj : j ≤ 511) : ∃ a, a ≤ 511 ∧ lcgN 511 a = j := by
  have e := List.all_eq_true.mp pos_ok j (List.mem_range.mpr (by omega))
  rw [Bool.and_eq_true] at e
  exact ⟨_, Nat.le_of_ble_eq_true e.2, beq_iff_eq.mp e.1⟩
theorem far511 (b : Nat) : lcgN 511 (512 + b) = lcgN 511 b := by
  have e1 := lcgN_add 511 512 b
  have e2 := lcgN_add 511 0 b
  rw [turn511] at e1
  rw [← e1, ← Nat.zero_add b, ← e2, Nat.zero_add]
  rfl
theorem from_any {i j : Nat} (hi : i ≤ 511) (hj : j ≤ 511) : ∃ k, k ≤ 511 ∧ lcgI 511 i k = j := by
  obtain ⟨a, la, rfl⟩ := pos_at hi
  obtain ⟨b, lb, rfl⟩ := pos_at hj
  by_cases c : a ≤ b
  · exact ⟨b - a, by omega, by rw [lcgN_add, Nat.add_sub_cancel' c]⟩
  · exact ⟨512 + b - a, by omega, by rw [lcgN_add, show a + (512 + b - a) = 512 + b by omega, far511]⟩
theorem hits {m : Nat} (hm : Mk m) (h : Int) {j : Nat} (hj : j ≤ m) : ∃ n, n ≤ m + 12 ∧ runI m (SetTable.bits h) n = j := by
  rcases hm with hm | rfl
  · exact run_meets hm h hj
  · obtain ⟨k, lk, ek⟩ := from_any (runI_le 511 (SetTable.bits h) 12) hj
    exact ⟨12 + k, by omega, (runI_tail (bits_lt h) k).trans ek⟩
theorem odd {m : Nat} (hm : Mk m) : m % 2 = 1 := by
  rcases hm with hm | rfl
  · exact mask_odd hm
  · rfl
theorem in_way (m : Nat) (h : Int) (k : Nat) : way m h k ≤ m := by
  have r := runEnd_bd (i := SetTable.bits h % (m + 1)) (m := m) (Nat.le_of_lt_succ (Nat.mod_lt _ (Nat.succ_pos _)))
  have q : (runAt m (SetTable.bits h % (m + 1)) (SetTable.bits h)).j + (runAt m (SetTable.bits h % (m + 1)) (SetTable.bits h)).more ≤ m := by
    dsimp only [runAt]
    omega
  exact Nat.le_trans (Nat.le_add_right _ _) (nth_in k _ q)
/-- the place on the way at which the run of slot j begins -/
theorem on_way {m : Nat} (hm : Mk m) (h : Int) {j : Nat} (hj : j ≤ m) : ∃ n, n ≤ m + 12 ∧ way m h (off m (SetTable.bits h % (m + 1)) (SetTable.bits h) n) = j := by
  obtain ⟨n, ln, en⟩ := hits hm h hj
  refine ⟨n, ln, ?_⟩
  unfold way
  rw [nth_off, itL_run]
  exact en
theorem meets {m : Nat} (hm : Mk m) (h : Int) {j : Nat} (hj : j ≤ m) : ∃ k, k < 10 * SetTable.turns m ∧ way m h k = j := by
  obtain ⟨n, ln, en⟩ := hits hm h hj
  obtain ⟨k, lk, ek⟩ := run_nth m (SetTable.bits h) n
  exact ⟨k, by unfold SetTable.turns; omega, by unfold way; rw [ek]; exact en⟩
/-- a table in which each hash finds its slot again -/
structure Tb (t : SetTable) (hs : List Int) : Prop where
  up : Ris t.place.toList
  nod : t.dummies = #[]
  many : t.place.size = hs.length
  msk : Mk t.mask
  within : ∀ x ∈ t.place.toList, x ≤ t.mask
  found : ∀ (i : Nat) (h : Int) (j : Nat), hs[i]? = some h → t.place.toList[i]? = some j → ∃ k, way t.mask h k = j ∧ ∀ l, l < k → way t.mask h l ∈ t.place.toList
section
variable {t : SetTable} {hs : List Int} {h : Int} {K : Nat}
theorem Tb.gap (T : Tb t hs) (hl : hs.length ≤ t.mask) (h : Int) : ∃ K, K < 10 * SetTable.turns t.mask ∧ way t.mask h K ∉ t.place.toList ∧ ∀ k, k < K → way t.mask h k ∈ t.place.toList := by
  obtain ⟨j, lj, nj⟩ := st_missing t.place.toList (t.mask + 1) (by rw [Array.length_toList, T.many]; omega)
  obtain ⟨k, lk, rfl⟩ := meets T.msk h (Nat.le_of_lt_succ lj)
  obtain ⟨K, a, b, c⟩ := st_least (p := fun k => way t.mask h k ∉ t.place.toList) k nj
  exact ⟨K, by omega, b, fun l hl => Classical.not_not.mp (c l hl)⟩
theorem Tb.ahead (T : Tb t hs) {i j : Nat} (hK : way t.mask h K ∉ t.place.toList) (hi : hs[i]? = some h) (hj : t.place.toList[i]? = some j) : ∃ k, k < K ∧ way t.mask h k = j := by
  obtain ⟨k, e, b⟩ := T.found i h j hi hj
  refine ⟨k, Classical.byContradiction fun c => ?_, e⟩
  by_cases d : k = K
  · subst d
    rw [e] at hK
    exact hK (List.mem_of_getElem? hj)
  · exact hK (b K (by omega))
/-- one more is laid into the gap -/
theorem Tb.more (T : Tb t hs) (hK : way t.mask h K ∉ t.place.toList) (hb : ∀ k, k < K → way t.mask h k ∈ t.place.toList) (p : Nat) (hp : SetTable.below t.place (way t.mask h K) = p) :
    p ≤ hs.length ∧ Tb (t.put (way t.mask h K)).1 (hs.take p ++ h :: hs.drop p) ∧ (t.put (way t.mask h K)).1.fill = hs.length + 1 := by
  have cut := (below_cut T.up (way t.mask h K)).1
  have lz : t.place.toList.length = hs.length := by rw [Array.length_toList, T.many]
  have lp : p ≤ hs.length := by rw [← hp, ← T.many]; exact cut
  have pl := put_place t (way t.mask h K)
  rw [hp] at pl
  have size1 : (t.put (way t.mask h K)).1.place.size = hs.length + 1 := by
    rw [← Array.length_toList, pl, len_ins _ (by omega), lz]
  have stay : ∀ x, x ∈ t.place.toList → x ∈ (t.put (way t.mask h K)).1.place.toList := fun x hx => by rw [pl]; exact mem_ins.2 (.inr hx)
  have noSlot : t.place[SetTable.below t.place (way t.mask h K)]? ≠ some (way t.mask h K) := fun e => hK (List.mem_of_getElem? (by rw [Array.getElem?_toList]; exact e))
  refine ⟨lp, ⟨ris_insert T.up noSlot, put_dm T.nod _, by rw [size1, len_ins _ lp], T.msk, fun x hx => ?_, fun i h' j' e1 e2 => ?_⟩, ?_⟩
  · rw [pl] at hx
    rcases mem_ins.1 hx with rfl | z
    · exact in_way _ _ _
    · exact T.within x z
  · rw [tins_get hs lp] at e1
    rw [pl, tins_get _ (by omega)] at e2
    have old : ∀ i, hs[i]? = some h' → t.place.toList[i]? = some j' → ∃ k, way t.mask h' k = j' ∧ ∀ l, l < k → way t.mask h' l ∈ (t.put (way t.mask h K)).1.place.toList := fun i a b => by
      obtain ⟨k, c, d⟩ := T.found i h' j' a b
      exact ⟨k, c, fun l hl => stay _ (d l hl)⟩
    by_cases c1 : i < p
    · rw [if_pos c1] at e1 e2
      exact old i e1 e2
    · by_cases c2 : i = p
      · rw [if_neg c1, if_pos c2] at e1 e2
        cases e1; cases e2
        exact ⟨K, rfl, fun l hl => stay _ (hb l hl)⟩
      · rw [if_neg c1, if_neg c2] at e1 e2
        exact old (i - 1) e1 e2
  · unfold SetTable.fill
    rw [size1, put_dm T.nod]
    rfl
end
theorem seat {m : Nat} (hm : Mk m) (ow : Array (Option Nat)) (h : Int) {j : Nat} (hj : j ≤ m) (hf : oAt ow j = none) :
    ∃ K, SetTable.layClean.free m ow (SetTable.turns m) (SetTable.bits h % (m + 1)) (SetTable.bits h) = some (way m h K) ∧ oAt ow (way m h K) = none ∧ ∀ k, k < K → oAt ow (way m h k) ≠ none := by
  obtain ⟨n, ln, rfl⟩ := on_way hm h hj
  obtain ⟨K, a, b, c⟩ := st_least (p := fun k => oAt ow (way m h k) = none) _ hf
  refine ⟨K, free_spec m ow _ n _ _ K (by unfold SetTable.turns; omega) a (fun k hk => ?_) (Option.isNone_iff_eq_none.mpr b), b, c⟩
  exact Bool.eq_false_iff.mpr fun z => c k hk (Option.isNone_iff_eq_none.mp z)
theorem seated {m : Nat} (hm : Mk m) {done : List Int} {ow : Array (Option Nat)} (W : Own m done ow) (hl : done.length ≤ m) (h : Int) :
    ∃ j, SetTable.layClean.free m ow (SetTable.turns m) (SetTable.bits h % (m + 1)) (SetTable.bits h) = some j ∧ Own m (done ++ [h]) (ow.setIfInBounds j (some done.length)) := by
  obtain ⟨ps, lps, ips⟩ := W.ps
  obtain ⟨j0, l0, n0⟩ := st_missing ps (m + 1) (by omega)
  obtain ⟨K, e1, e2, e3⟩ := seat hm ow h (Nat.le_of_lt_succ l0) (Classical.byContradiction fun z => n0 (ips j0 (by omega) z))
  refine ⟨way m h K, e1, ?_⟩
  have lw := in_way m h K
  generalize ew : way m h K = j at e1 e2 lw ⊢
  have same := oAt_set_self (some done.length) (show j < ow.size by rw [W.sz]; omega)
  have keep : ∀ i, oAt ow i ≠ none → oAt (ow.setIfInBounds j (some done.length)) i ≠ none := fun i hi => by
    by_cases c : i = j
    · subst c
      rw [same]
      simp
    · rwa [oAt_set_ne _ c]
  refine ⟨by rw [Array.size_setIfInBounds, W.sz], fun i k hi e => ?_, fun k hk => ?_, j :: ps, by rw [List.length_cons, List.length_append, lps]; rfl, fun i hi e => ?_⟩
  · by_cases c : i = j
    · subst c
      rw [same] at e
      cases e
      exact ⟨h, K, by simp, ew, fun l hl => keep _ (e3 l hl)⟩
    · rw [oAt_set_ne _ c] at e
      obtain ⟨g, L, a, b, d⟩ := W.at_ i k hi e
      exact ⟨g, L, by rw [List.getElem?_append_left (List.getElem?_eq_some_iff.mp a).1, a], b, fun l hl => keep _ (d l hl)⟩
  · by_cases c : k < done.length
    · obtain ⟨i, hi, e⟩ := W.all k c
      exact ⟨i, hi, by rw [oAt_set_ne _ (fun z => by rw [z, e2] at e; cases e), e]⟩
    · have : k = done.length := by simp at hk; omega
      exact ⟨j, lw, by rw [this, same]⟩
  · by_cases c : i = j
    · exact c ▸ List.mem_cons_self
    · rw [oAt_set_ne _ c] at e
      exact List.mem_cons_of_mem _ (ips i hi e)
theorem all_seated {m : Nat} (hm : Mk m) : ∀ (rest done : List Int) (ow : Array (Option Nat)), Own m done ow → done.length + rest.length ≤ m →
    ∃ ow', rest.foldl (stepF m) (some (ow, done.length)) = some (ow', done.length + rest.length) ∧ Own m (done ++ rest) ow'
  | [], done, ow, W, _ => ⟨ow, rfl, by rwa [List.append_nil]⟩
  | h :: rest, done, ow, W, hl => by
    have hl' : done.length + (rest.length + 1) ≤ m := hl
    obtain ⟨j, e, W1⟩ := seated hm W (by omega) h
    obtain ⟨ow', f, W2⟩ := all_seated hm rest (done ++ [h]) _ W1 (by simp; omega)
    refine ⟨ow', ?_, by rwa [List.append_assoc] at W2⟩
    rw [List.foldl_cons, stepF_some e]
    simp only [List.length_append, List.length_cons, List.length_nil] at f ⊢
    rw [f]
    congr 2
    omega
theorem anew (t : SetTable) {hs : Array Int} {wanted M : Nat} (hw : SetTable.sizeAbove wanted - 1 = M) (hM : Mk M) (hn : hs.size ≤ M) :
    ∃ t' order, t.relaid hs wanted = some (t', order) ∧ order.toList.Perm (List.range hs.size) ∧ Tb t' (order.toList.map fun i => hs.getD i 0) ∧ t'.mask = M ∧ t'.led = t.led ∧ t'.plain = t.plain := by
  obtain ⟨ow, f, W⟩ := all_seated hM hs.toList [] _ (Own.init M) (by simpa using hn)
  rw [List.nil_append] at W
  have e : SetTable.layClean M hs = some ow := by
    rw [layClean_eq]
    have f' : hs.toList.foldl (stepF M) (some (Array.replicate (M + 1) none, 0)) = _ := f
    rw [f']
    rfl
  obtain ⟨lv, elv⟩ : ∃ lv, lv = liveOf M ow := ⟨_, rfl⟩
  have mem : ∀ j k, (j, k) ∈ lv ↔ j ≤ M ∧ oAt ow j = some k := fun j k => by rw [elv]; exact mem_live W.sz
  obtain ⟨up, inr⟩ := ris_live (fun j => ow.getD j none) (List.range (M + 1)) (by unfold Ris; exact List.pairwise_lt_range)
  have up : Ris (lv.map (·.1)) := by rw [elv]; exact up
  have inr : ∀ x ∈ lv.map (·.1), x ≤ M := fun x hx => by
    rw [elv] at hx
    exact Nat.le_of_lt_succ (List.mem_range.mp (inr x hx))
  have nd : (lv.map (·.1)).Nodup := up.imp fun h => Nat.ne_of_lt h
  have each : ∀ k, k < hs.size → ∃ j, (j, k) ∈ lv := fun k hk => by
    obtain ⟨j, a, b⟩ := W.all k (by simpa using hk)
    exact ⟨j, (mem j k).2 ⟨a, b⟩⟩
  have len : lv.length = hs.size := by
    obtain ⟨ps, p1, p2⟩ := W.ps
    have a := nat_nodup_len (lv.map (·.1)) ps nd fun x hx => by
      obtain ⟨⟨y, k⟩, hq, rfl⟩ := List.mem_map.mp hx
      obtain ⟨b1, b2⟩ := (mem y k).1 hq
      exact p2 y b1 (by rw [b2]; simp)
    have b := nat_nodup_len (List.range hs.size) (lv.map (·.2)) List.nodup_range fun k hk => by
      obtain ⟨j, hj⟩ := each k (List.mem_range.mp hk)
      exact List.mem_map.mpr ⟨_, hj, rfl⟩
    rw [List.length_map, p1, show hs.toList.length = hs.size from rfl] at a
    rw [List.length_map, List.length_range] at b
    omega
  refine ⟨tabOf t M ow, (lv.map (·.2)).toArray, ?_, ?_, ⟨?_, rfl, ?_, hM, fun x hx => ?_, fun i h j h1 h2 => ?_⟩, rfl, rfl, rfl⟩
  · rw [relaid_eq, hw, e, elv]
    rfl
  · refine perm_range hs.size _ (by simp [len]) fun k hk => ?_
    obtain ⟨j, hj⟩ := each k hk
    exact List.mem_map.mpr ⟨_, hj, rfl⟩
  · show Ris ((liveOf M ow).map (·.1))
    rwa [← elv]
  · show ((liveOf M ow).map (·.1)).toArray.size = _
    rw [← elv]
    simp
  · exact inr x (by rw [elv]; exact hx)
  · have h2' : (lv.map (·.1))[i]? = some j := by rw [elv]; exact h2
    dsimp only at h1
    rw [List.getElem?_map, List.getElem?_map] at h1
    rw [List.getElem?_map] at h2'
    obtain ⟨⟨y, k⟩, hq, ey⟩ := Option.map_eq_some_iff.mp h2'
    cases ey
    rw [hq] at h1
    obtain ⟨b1, b2⟩ := (mem y k).1 (List.mem_of_getElem? hq)
    obtain ⟨g, K, a1, a2, a3⟩ := W.at_ y k b1 b2
    have eg : hs.getD k 0 = g := by rw [Array.getD_eq_getD_getElem?, ← Array.getElem?_toList, a1]; rfl
    have eh : g = h := by rw [← eg]; exact Option.some.inj h1
    subst eh
    refine ⟨K, a2, fun l hl => ?_⟩
    show way M g l ∈ (liveOf M ow).map (·.1)
    rw [← elv]
    obtain ⟨k2, z⟩ := Option.ne_none_iff_exists'.mp (a3 l hl)
    exact List.mem_map.mpr ⟨_, (mem _ k2).2 ⟨in_way M g l, z⟩, rfl⟩
theorem size77 : SetTable.sizeAbove (SetTable.grown 77) = 512 := by decide +kernel
end WS
namespace WS
open PySem PySem.Spec PyProof.Rows L2
abbrev Rw2 := List (Addr × List Int)
/-- the set at a, its tuples by their places -/
structure Ws (P : Program) (w : World) (h : Heap) (a : Addr) (L : Rw2) (es : Array (Int × Value)) (ep : Nat) (t : SetTable) : Prop where
  obj : ∃ o, h.get? a = some o ∧ o.ExactSet ∧ o.data = .set es ep t
  lay : es.toList = rowsOf P w L
  tbl : Tb t (L.map fun q => thash P w q.2)
  uni : (L.map Prod.snd).Nodup
  key : ∀ q ∈ L, IsT P w h q.2 q.1
  flat : t.plain = true
  seen : w.params.followText "set-order" = true ∨ t.led = true
  air : L.length * 5 < t.mask * 3
  cap : L.length ≤ 200
theorem rows_len {P : Program} {w : World} {L : Rw2} {es : Array (Int × Value)} (e : es.toList = rowsOf P w L) : es.size = L.length := by
  rw [← Array.length_toList, e]
  unfold rowsOf
  rw [List.length_map]
theorem rows_at {P : Program} {w : World} {L : Rw2} {es : Array (Int × Value)} (e : es.toList = rowsOf P w L) {i : Nat} {q : Addr × List Int} (h : L[i]? = some q) : es[i]? = some (thash P w q.2, .ref q.1) := by
  rw [← Array.getElem?_toList, e]
  unfold rowsOf
  rw [List.getElem?_map, h]
  rfl
/-- the probe's c-th state -/
abbrev stp (m : Nat) (h : Int) (c : Nat) : SetTable.Probe := nth m (runAt m (SetTable.bits h % (m + 1)) (SetTable.bits h)) c
theorem stp_add (m : Nat) (h : Int) (c d : Nat) : nth m (stp m h c) d = stp m h (c + d) := (nth_add m c _ d).symm
theorem stp_dum (m : Nat) (h : Int) (c : Nat) : (stp m h c).dummy = none := by
  induction c with
  | zero => rfl
  | succ c ih =>
    unfold stp at ih ⊢
    rw [nth_succ]
    unfold adv
    split
    · exact ih
    · exact ih
section
variable {P : Program} {w : World} {A : Around} {E : Value → Shared → Prop} {s : Shared} {a x : Addr} {k : List Int} {L : Rw2} {es : Array (Int × Value)} {ep : Nat} {t : SetTable}
theorem Ws.size (R : Ws P w s.heap a L es ep t) : es.size = L.length := rows_len R.lay
theorem Ws.place (R : Ws P w s.heap a L es ep t) : t.place.toList.length = L.length := by
  have := R.tbl.many
  rw [List.length_map] at this
  rw [Array.length_toList, this]
theorem fits_of {n : Nat} (a : t.place.size = n) (b : t.dummies = #[]) (c : n ≤ t.mask) : t.fits n = true := by
  unfold SetTable.fits SetTable.fill
  rw [b]
  simp [a, c]
theorem Ws.fit (R : Ws P w s.heap a L es ep t) : t.fits es.size = true := by
  have := R.air
  have := R.size
  exact fits_of (by rw [← Array.length_toList, R.place, R.size]) R.tbl.nod (by omega)
theorem Ws.stable (R : Ws P w s.heap a L es ep t) : ¬ t.gaveWay = true := by
  unfold SetTable.gaveWay
  rw [odd R.tbl.msk]
  decide
/-- from the c-th state on -/
theorem seek (R : Ws P w s.heap a L es ep t) (hx : IsT P w s.heap k x) (hu : A.units < cLine) {K : Nat} (lim : K < 10 * SetTable.turns t.mask) (gap : way t.mask (thash P w k) K ∉ t.place.toList)
    (full : ∀ c, c < K → way t.mask (thash P w k) c ∈ t.place.toList) {Q : SetFound → Shared → Prop} (yes : k ∈ L.map Prod.snd → Q (.there none) s) (no : k ∉ L.map Prod.snd → Q (.free (way t.mask (thash P w k) K) false) s) :
    ∀ (f c : Nat) (st : Option SetTable.Probe), st.getD (t.probeStart (thash P w k)) = stp t.mask (thash P w k) c → c ≤ K → K - c < f →
      (∀ (i : Nat) (q : Addr × List Int), L[i]? = some q → q.2 = k → ∃ d, c ≤ d ∧ d < K ∧ t.place.toList[i]? = some (way t.mask (thash P w k) d)) → wpAny (model P w) A (setSearchFrom a (.ref x) (thash P w k) true f st) Q E s
  | 0, c, _, _, _, hf, _ => by omega
  | f + 1, c, st, est, hc, hf, rest => by
    obtain ⟨o, ho, hex, hd⟩ := R.obj
    have hashOf : ∀ (i : Nat) (q : Addr × List Int), L[i]? = some q → (es[i]?.map Prod.fst).getD 0 = thash P w q.2 := fun i q e => by rw [rows_at R.lay e]; rfl
    have spec := go_spec t R.tbl.up R.tbl.nod (fun i => (es[i]?.map Prod.fst).getD 0) (thash P w k) (10 * SetTable.turns t.mask) (K - c) (stp t.mask (thash P w k) c) (stp_dum _ _ _) (by omega)
      (fun d hd => by rw [stp_add]; exact full _ (by omega)) (by rw [stp_add, Nat.add_sub_cancel' hc]; exact gap)
    simp only [stp_add] at spec
    rw [setSearchFrom_succ]
    refine wpAny_bind (wpAny_setState_of ho hd R.fit ?_)
    dsimp only
    refine wp_if_neg R.stable ?_
    try refine wpAny_bind (wpAny_pure ?_)
    unfold SetTable.probe
    rw [est]
    rcases spec with ⟨d, i, ld, pi, eh, first, go⟩ | ⟨none_, go⟩
    · rw [go]
      dsimp only
      have li : i < L.length := by rw [← R.place]; exact (List.getElem?_eq_some_iff.mp pi).1
      obtain ⟨q, eq⟩ : ∃ q, L[i]? = some q := ⟨_, List.getElem?_eq_getElem li⟩
      have qm := List.mem_of_getElem? eq
      have live : t.slot (way t.mask (thash P w k) (c + d)) = .live i := slot_live R.tbl.up pi
      have behind : wpAny (model P w) A (searchRest a (.ref x) (thash P w k) true f es t (way t.mask (thash P w k) (c + d)) i (stp t.mask (thash P w k) (c + (d + 1)))) Q E s := by
        unfold searchRest
        rw [rows_at R.lay eq]
        refine wpAny_bind (wpAny_holding (wpAny_eqBool_tuple hu (R.key q qm) hx ?_))
        refine wpAny_bind (wpAny_setState_of ho hd R.fit ?_)
        dsimp only
        by_cases same : q.2 = k
        · refine wp_if_pos (by simp [same]) (wpAny_pure (yes ?_))
          exact List.mem_map.mpr ⟨q, qm, same⟩
        · refine wp_if_neg (by simp [same]) ?_
          try refine wpAny_bind (wpAny_pure ?_)
          rw [sameMem]
          simp only [if_true, live, rows_at R.lay eq]
          refine wpAny_bind (wpAny_isSame_ref_self (wpAny_bind (wpAny_pure ?_)))
          simp only [if_true]
          refine wp_if_neg (by simp [same]) (seek R hx hu lim gap full yes no f (c + (d + 1)) _ rfl (by omega) (by omega) fun j p ej ek => ?_)
          obtain ⟨e, a1, a2, a3⟩ := rest j p ej ek
          refine ⟨e, Classical.byContradiction fun n => ?_, a2, a3⟩
          by_cases z : e = c + d
          · subst z
            have s1 := slot_live R.tbl.up a3
            rw [live] at s1
            cases s1
            rw [eq] at ej
            cases ej
            exact same ek
          · refine first (e - c) j (by omega) (by rw [Nat.add_sub_cancel' a1]; exact a3) ?_
            rw [hashOf j p ej, ek]
      by_cases led : t.led = true
      · refine wp_if_neg (by simp [led]) ?_
        try refine wpAny_bind (wpAny_pure ?_)
        exact behind
      · refine wp_if_pos (by simp [led]) (wpAny_bind (seen_tup hx (fun y hy => ?_) ?_))
        · obtain ⟨e, he, rfl⟩ := List.mem_map.mp hy
          have e2 : e ∈ es.toList := by
            have : e ∈ es ∧ e.1 = thash P w k := by simpa using he
            simpa using this.1
          rw [R.lay] at e2
          obtain ⟨p, hp, rfl⟩ := List.mem_map.mp e2
          exact ⟨p.2, p.1, rfl, R.key p hp⟩
        · refine wp_if_neg (by decide) ?_
          try refine wpAny_bind (wpAny_pure ?_)
          exact behind
    · rw [Nat.add_sub_cancel' hc] at go
      rw [go]
      refine wpAny_pure (no fun hm => ?_)
      obtain ⟨q, hq, ek⟩ := List.mem_map.mp hm
      obtain ⟨i, eq⟩ := List.getElem?_of_mem hq
      obtain ⟨e, a1, a2, a3⟩ := rest i q eq ek
      refine none_ (e - c) i (by omega) (by rw [Nat.add_sub_cancel' a1]; exact a3) ?_
      rw [hashOf i q eq, ek]
theorem lookup (R : Ws P w s.heap a L es ep t) (hx : IsT P w s.heap k x) (hu : A.units < cLine) {Q : SetFound → Shared → Prop} (yes : k ∈ L.map Prod.snd → Q (.there none) s)
    (no : ∀ K, k ∉ L.map Prod.snd → way t.mask (thash P w k) K ∉ t.place.toList → (∀ c, c < K → way t.mask (thash P w k) c ∈ t.place.toList) → Q (.free (way t.mask (thash P w k) K) false) s) :
    wpAny (model P w) A (setSearch a (.ref x) (thash P w k) true) Q E s := by
  have air := R.air
  obtain ⟨K, lim, gap, full⟩ := R.tbl.gap (by rw [List.length_map]; omega) (thash P w k)
  have small : t.mask ≤ 511 := by
    rcases R.tbl.msk with (e | e | e) | e <;> omega
  unfold setSearch
  refine seek R hx hu lim gap full yes (fun z => no K z gap full) 100000 0 none rfl (Nat.zero_le _) (by unfold SetTable.turns at lim; omega) fun i q eq ek => ?_
  have li : i < t.place.toList.length := by rw [R.place]; exact (List.getElem?_eq_some_iff.mp eq).1
  have ep := List.getElem?_eq_getElem li
  obtain ⟨d, ld, ed⟩ := R.tbl.ahead gap (by rw [List.getElem?_map, eq]; show some (thash P w q.2) = _; rw [ek]) ep
  exact ⟨d, Nat.zero_le _, ld, by rw [ep, ed]⟩
/-- a table grown -/
theorem regrow {o : Obj} (ho : s.heap.get? a = some o) (hex : o.ExactSet) (hd : o.data = .set es ep t) (lay : es.toList = rowsOf P w L) (pz : t.place.size = es.size) (nod : t.dummies = #[]) (pm : es.size ≤ t.mask)
    (uni : (L.map Prod.snd).Nodup) (key : ∀ q ∈ L, IsT P w s.heap q.2 q.1) (flat : t.plain = true) (seen : w.params.followText "set-order" = true ∨ t.led = true) (cap : L.length ≤ 200) {wanted M : Nat}
    (hw : SetTable.sizeAbove wanted = M + 1) (hM : Mk M) (air : L.length * 5 < M * 3) {Q : Unit → Shared → Prop}
    (q : ∀ h' L' es' ep' t', Heap.SameBut a s.heap h' → Ws P w h' a L' es' ep' t' → L'.Perm L → Q () { s with heap := h' }) : wpAny (model P w) A (setRelay a wanted) Q E s := by
  have len := rows_len lay
  have small : M ≤ 511 := by
    rcases hM with (e | e | e) | e <;> omega
  obtain ⟨t', order, e, perm, T, em, el, ef⟩ := anew t (hs := es.map Prod.fst) (wanted := wanted) (M := M) (by omega) hM (by rw [Array.size_map]; omega)
  rw [Array.size_map, len] at perm
  obtain ⟨L2, r1, r2, r3⟩ := order_rows L es order lay perm
  rw [← r3] at T
  have n2 : (order.filterMap (es[·]?)).size = es.size := by rw [rows_len r1, r2.length_eq, len]
  rw [setRelay_eq]
  refine wpAny_bind (wpAny_setState_of ho hd (fits_of pz nod pm) ?_)
  dsimp only
  refine wp_if_neg (by rw [sizeLine_eq]; omega) ?_
  try refine wpAny_bind (wpAny_pure ?_)
  rw [e]
  refine wpAny_bind ?_
  dsimp only
  refine wp_if_neg (by rw [n2]; simp) ?_
  try refine wpAny_bind (wpAny_pure ?_)
  refine wpAny_pure (wpAny_storeSet_of ho hd ?_ (by rw [n2, len, sizeLine_eq]; omega))
  have but : Heap.SameBut a s.heap (s.heap.update a (Obj.putSet (order.filterMap (es[·]?)) t')) := Heap.SameBut.update ..
  refine q _ L2 (order.filterMap (es[·]?)) (ep + 1) t' but ⟨⟨_, store_at ho hd, ⟨hex.1, hex.2.1, hex.2.2⟩, rfl⟩, r1, T, ?_, fun p hp => isT_same (key p (r2.mem_iff.mp hp)) ho hd but, ef.trans flat, ?_, ?_, ?_⟩ r2
  · exact (r2.map Prod.snd).nodup_iff.mpr uni
  · rw [el]; exact seen
  · rw [r2.length_eq, em]; exact air
  · rw [r2.length_eq]; exact cap
theorem putin (R : Ws P w s.heap a L es ep t) (hx : IsT P w s.heap k x) (hu : A.units < cLine) (cap : L.length < 200) {Q : Bool → Shared → Prop}
    (q : ∀ b h' L' es' ep' t', Heap.SameBut a s.heap h' → Ws P w h' a L' es' ep' t' → (k ∈ L.map Prod.snd → L' = L) → (k ∉ L.map Prod.snd → L'.Perm ((x, k) :: L)) → Q b { s with heap := h' }) :
    wpAny (model P w) A (setAddHashed a (.ref x) (thash P w k)) Q E s := by
  obtain ⟨o, ho, hex, hd⟩ := R.obj
  have len := R.size
  have air := R.air
  unfold setAddHashed
  refine wpAny_holding ?_
  rw [show (100000 : Nat) = 99999 + 1 from rfl, setAddHashedIn_succ]
  refine wpAny_bind (wpAny_setState_of ho hd R.fit ?_)
  dsimp only
  refine wp_if_neg (by simp [byScan, Value.scannable]) ?_
  try refine wpAny_bind (wpAny_pure ?_)
  refine wpAny_bind (lookup R hx hu (fun hm => ?_) fun K hm gap full => ?_)
  · exact wpAny_pure (q false s.heap L es ep t (Heap.SameBut.refl a s.heap) R (fun _ => rfl) fun z => absurd hm z)
  · refine wpAny_bind (wpAny_setState_of ho hd R.fit ?_)
    dsimp only
    obtain ⟨p, ep0⟩ : ∃ p, SetTable.below t.place (way t.mask (thash P w k) K) = p := ⟨_, rfl⟩
    obtain ⟨lp, T1, fl1⟩ := R.tbl.more gap full p ep0
    have z1 : (t.put (way t.mask (thash P w k) K)).2 = p := ep0
    have z2 : (t.put (way t.mask (thash P w k) K)).1.mask = t.mask := rfl
    have z3 : (t.put (way t.mask (thash P w k) K)).1.led = t.led := rfl
    have z4 : (t.put (way t.mask (thash P w k) K)).1.plain = true := R.flat
    generalize t.put (way t.mask (thash P w k) K) = pt at T1 fl1 z1 z2 z3 z4 ⊢
    obtain ⟨t1, p1⟩ := pt
    dsimp only at T1 fl1 z1 z2 z3 z4 ⊢
    subst z1
    first
      | (refine wpAny_bind ?_; refine wp_if_pos z4 ?_; refine hashBy_tup hx ?_)
      | refine wp_if_pos z4 (wpAny_bind (hashBy_tup hx ?_))
    simp only [if_true]
    have pm := put_perm L p1 (x, k)
    have rows1 : (SetTable.insertAt es p1 (thash P w k, Value.ref x)).toList = rowsOf P w (L.take p1 ++ (x, k) :: L.drop p1) := by
      rw [SetTable.toList_insertAt, rows_put, R.lay]
    have hash1 : (L.take p1 ++ (x, k) :: L.drop p1).map (fun q => thash P w q.2) = (L.map fun q => thash P w q.2).take p1 ++ thash P w k :: (L.map fun q => thash P w q.2).drop p1 := by
      simp only [List.map_append, List.map_cons, List.map_take, List.map_drop]
    rw [← hash1] at T1
    rw [List.length_map] at fl1
    generalize SetTable.insertAt es p1 (thash P w k, Value.ref x) = es1 at rows1 ⊢
    generalize L.take p1 ++ (x, k) :: L.drop p1 = L1 at pm rows1 T1
    have len1 : L1.length = L.length + 1 := pm.length_eq
    have elen1 : es1.size = L.length + 1 := by rw [rows_len rows1, len1]
    have uni1 : (L1.map Prod.snd).Nodup := (pm.map Prod.snd).nodup_iff.mpr (List.nodup_cons.mpr ⟨hm, R.uni⟩)
    refine wpAny_bind (wpAny_storeSet_of ho hd ?_ (by rw [elen1, sizeLine_eq]; omega))
    have but : Heap.SameBut a s.heap (s.heap.update a (Obj.putSet es1 t1)) := Heap.SameBut.update ..
    have ho1 := store_at (es' := es1) (t' := t1) ho hd
    generalize s.heap.update a (Obj.putSet es1 t1) = h1 at but ho1 ⊢
    have key1 : ∀ q ∈ L1, IsT P w h1 q.2 q.1 := fun q hq => by
      rcases List.mem_cons.mp (pm.mem_iff.mp hq) with rfl | hq
      · exact isT_same hx ho hd but
      · exact isT_same (R.key q hq) ho hd but
    have seen1 : w.params.followText "set-order" = true ∨ t1.led = true := by rw [z3]; exact R.seen
    have full1 : t1.tooFull = decide ((L.length + 1) * 5 ≥ t.mask * 3) := by unfold SetTable.tooFull; rw [fl1, z2]
    by_cases hf : (L.length + 1) * 5 ≥ t.mask * 3
    · have grow : ∀ M, SetTable.sizeAbove (SetTable.grown (L.length + 1)) = M + 1 → Mk M → (L.length + 1) * 5 < M * 3 →
          wpAny (model P w) A (setRelay a (SetTable.grown (L.length + 1))) (fun _ s' => wpAny (model P w) A (pure true) Q E s') E { s with heap := h1 } := fun M a1 a2 a3 => by
        refine regrow (s := { s with heap := h1 }) ho1 ⟨hex.1, hex.2.1, hex.2.2⟩ rfl rows1 (by rw [T1.many, List.length_map, elen1, len1]) T1.nod (by rw [elen1, z2]; omega) uni1 key1 z4 seen1 (by omega) a1 a2 (by omega) ?_
        intro h2 L2 es2 ep2 t2 but2 R2 pm2
        exact wpAny_pure (q true h2 L2 es2 ep2 t2 (but.trans but2) R2 (fun z => absurd z hm) fun _ => pm2.trans pm)
      have go : wpAny (model P w) A (setRelay a (SetTable.grown (L.length + 1))) (fun _ s' => wpAny (model P w) A (pure true) Q E s') E { s with heap := h1 } := by
        rcases R.tbl.msk with (e | e | e) | e
        · have : L.length = 4 := by omega
          exact grow 31 (by rw [this]; exact size_20) (.inl (.inr (.inl rfl))) (by omega)
        · have : L.length = 18 := by omega
          exact grow 127 (by rw [this]; exact size_76) (.inl (.inr (.inr rfl))) (by omega)
        · have : L.length = 76 := by omega
          exact grow 511 (by rw [this]; exact size77) (.inr rfl) (by omega)
        · omega
      first
        | (refine wpAny_bind ?_; refine wp_if_pos (by simp [full1, hf]) ?_; rw [len]; exact go)
        | (refine wp_if_pos (by simp [full1, hf]) ?_; refine wpAny_bind ?_; rw [len]; exact go)
    · have cond : ¬ ((!false && t1.tooFull) = true) := by rw [full1]; simpa using hf
      first
        | refine wp_if_neg cond ?_
        | (refine wpAny_bind ?_; refine wp_if_neg cond ?_; refine wpAny_pure ?_)
      exact wpAny_pure (q true h1 L1 es1 (ep + 1) t1 but ⟨⟨_, ho1, ⟨hex.1, hex.2.1, hex.2.2⟩, rfl⟩, rows1, T1, uni1, key1, z4, seen1, by rw [len1, z2]; omega, by omega⟩ (fun z => absurd z hm) fun _ => pm)
end
end WS
namespace WS
open PySem PySem.Spec PyProof.Rows L2
/-- an empty set, as it is laid -/
abbrev ob0 (w : World) : Obj := { cls := .type "set", dict := none, data := .set #[] 0 (.fresh 0 0 (!w.params.followText "set-order")) }
section
variable {P : Program} {w : World} {A : Around} {E : Value → Shared → Prop} {s : Shared}
theorem Ws.on {h h' : Heap} {a : Addr} {L : Rw2} {es : Array (Int × Value)} {ep : Nat} {t : SetTable} (R : Ws P w h a L es ep t) (ha : ∀ o, h.get? a = some o → h'.get? a = some o) (key : ∀ q ∈ L, IsT P w h' q.2 q.1) : Ws P w h' a L es ep t := by
  obtain ⟨o, e, r⟩ := R.obj
  exact { R with obj := ⟨o, ha o e, r⟩, key := key }
theorem Ws.zero {h : Heap} {a : Addr} (e : h.get? a = some (ob0 w)) : Ws P w h a [] #[] 0 (.fresh 0 0 (!w.params.followText "set-order")) where
  obj := ⟨_, e, ⟨rfl, rfl, rfl⟩, rfl⟩
  lay := rfl
  tbl := ⟨.nil, rfl, rfl, .inl (.inl rfl), fun x hx => (by cases hx), fun i h j hi => (by simp at hi)⟩
  uni := .nil
  key := fun q hq => by cases hq
  flat := rfl
  seen := by
    cases e : w.params.followText "set-order"
    · right; rfl
    · left; rfl
  air := show 0 * 5 < 7 * 3 by decide
  cap := Nat.zero_le _
/-- what holds before the i-th turn of the loop -/
def Now (P : Program) (w : World) (h0 : Heap) (S : Addr) (ks : Rw2) (i : Nat) (h : Heap) : Prop :=
  (∀ b o, h0.get? b = some o → h.get? b = some o) ∧ ∃ L es ep t, Ws P w h S L es ep t ∧ Got ks i L
theorem loop {I : Addr} {fp wr : List Addr} {G : Array GenState → Array GenState → Prop} {n : Nat} {Pv : Nat → Value → Prop} {St : Nat → Shared → Prop} {R : Result → Shared → Prop}
    (W : WalksS P w A.in1 I fp wr G n Pv St) {S : Addr} (nf : S ∉ fp) {ks : Rw2} (hn : n = ks.length) (cap : ks.length ≤ 200) (val : ∀ i v, Pv i v → ∃ q, ks[i]? = some q ∧ v = .ref q.1) {h0 : Heap} (key : ∀ q ∈ ks, IsT P w h0 q.2 q.1)
    (S0 : h0.get? S = none) (w0 : ∀ b ∈ wr, h0.get? b = none) (hu : A.in1.units < cLine) :
    ∀ (k i : Nat) (s : Shared), i + k = n → St i s → Now P w h0 S ks i s.heap → (∀ s', Moved (S :: wr) G s s' → Now P w h0 S ks n s'.heap → R (.ok (.ret .none)) s') → codeAny (model P w) A (.builtin "set.update.loop" ⟨[.ref S, .ref I], []⟩) R s := by
  have nw : S ∉ wr := fun z => nf (W.sub _ z)
  have up : ∀ b ∈ wr, b ∈ S :: wr := fun b => List.mem_cons_of_mem _
  have move : ∀ {i : Nat} {s s' : Shared}, Moved wr G s s' → Now P w h0 S ks i s.heap → Now P w h0 S ks i s'.heap := by
    intro i s s' m ⟨kp, L, es, ep, t, ws, g⟩
    have kp' : ∀ b o, h0.get? b = some o → s'.heap.get? b = some o := fun b o e => m.heap b o (fun z => by rw [w0 b z] at e; cases e) (kp b o e)
    exact ⟨kp', L, es, ep, t, ws.on (fun o e => m.heap S o nw e) fun q hq => isT_keep (key q (List.mem_of_mem_take (g.sub q hq))) kp', g⟩
  intro k
  induction k with
  | zero =>
    intro i s ei st nowi fin
    obtain rfl : i = n := ei
    refine codeAny_builtin F.entry_set_update_loop ?_
    rw [Around.under_plainId F.plain_set_update_loop _]
    show wpAny _ A.in1 (pyNext (.ref I) >>= _) _ _ s
    refine wpAny_bind (W.done s _ _ st fun s' m => ?_)
    show wpAny _ A.in1 (ret Value.none) _ _ s'
    exact wpAny_pure (fin s' (m.mono up) (move m nowi))
  | succ k ih =>
    intro i s ei st nowi fin
    refine codeAny_builtin F.entry_set_update_loop ?_
    rw [Around.under_plainId F.plain_set_update_loop _]
    show wpAny _ A.in1 (pyNext (.ref I) >>= _) _ _ s
    refine wpAny_bind (W.item i s _ _ (by omega) st fun v s' pv st' m => ?_)
    obtain ⟨q, eq, rfl⟩ := val i v pv
    obtain ⟨kp, L, es, ep, t, ws, g⟩ := move m nowi
    have hx := isT_keep (key q (List.mem_of_getElem? eq)) kp
    have li : i < ks.length := (List.getElem?_eq_some_iff.mp eq).1
    show wpAny _ A.in1 (holding [Value.ref q.1] (setAdd S (.ref q.1)) >>= _) _ _ s'
    refine wpAny_bind (wpAny_holding ?_)
    unfold setAdd
    refine wpAny_holding (wpAny_bind (wpAny_pyHash_tuple hu hx ?_))
    refine putin (s := { s' with toks := s'.toks + (q.2.length + 1) }) ws hx hu (by have := g.len; omega) fun b h' L' es' ep' t' but ws' c1 c2 => ?_
    have g' : Got ks (i + 1) L' := by
      by_cases c : q.2 ∈ L.map Prod.snd
      · rw [c1 c]; exact g.same eq c
      · exact g.more eq (c2 c)
    have kp2 : ∀ b o, h0.get? b = some o → h'.get? b = some o := fun b o e => by
      rw [but.2 b (fun z => by rw [z, S0] at e; cases e)]
      exact kp b o e
    refine wpAny_pure ⟨plainId_quiet F.plain_set_update_loop _, ih (i + 1) _ (by omega) (W.frame _ s' _ _ st' (Nat.le_add_right _ _) fun b hb o e => ?_) ⟨kp2, L', es', ep', t', ws', g'⟩ fun s2 m2 now2 => ?_⟩
    · rw [but.2 b (fun z => nf (z ▸ hb))]; exact e
    · refine fin s2 (Moved.trans W.gtrans ((m.mono up).then_heap (Nat.le_add_right _ _) fun b o hb e => ?_) m2) now2
      rw [but.2 b (fun z => hb (z ▸ List.mem_cons_self))]; exact e
theorem made {l : Addr} {items : Array Value} {ks : Rw2} {Q : Value → Shared → Prop} (hh : A.handled = none) (hl : s.heap.IsList l items) (hit : items.toList = ks.map fun q => Value.ref q.1)
    (key : ∀ q ∈ ks, IsT P w s.heap q.2 q.1) (cap : ks.length ≤ 200) (hu : A.units + 3 < cLine) (fin : ∀ (h' : Heap) (tk : Nat), Now P w s.heap s.heap.objs.size ks ks.length h' → Q (.ref s.heap.objs.size) { s with heap := h', toks := tk }) :
    wpAny (model P w) A (call (.type "set") [.ref l]) Q E s := by
  have isz : items.size = ks.length := by rw [← Array.length_toList, hit, List.length_map]
  obtain ⟨c, tl, hmro⟩ := F.called_set.mro
  have m1 := F.called_set.made
  have m2 := F.called_set.sub
  have m3 := F.called_set.notType
  have m4 := F.called_set.canCreate
  have m5 := F.typeCall_set_1 (.ref l)
  refine wpAny_call (codeAny_of_tree ?_)
  show wpAny _ _ (callAny (.type "set") _) _ _ _
  refine wpAny_pure ⟨Code.quiet_builtin _ (by decide +kernel), codeAny_builtin F.entry_type_call ?_⟩
  rw [Around.under_plain (weight_type_call_type "set" [.ref l] []) rfl]
  repeat (any_goals (first | assumption | wp_step))
  refine codeAny_mono (code_set_led1 (.ref l) (E := E) (Q₁ := fun ob s₁ => ob = .ref s.heap.objs.size ∧ s₁ = { s with heap := s.heap.push (ob0 w) }) ⟨rfl, rfl⟩) fun r s₁ hr => ?_
  cases r with
  | error e => exact hr
  | ok fl =>
    cases fl with
    | ret ob =>
      obtain ⟨rfl, rfl⟩ := hr
      have at0 : (s.heap.push (ob0 w)).get? s.heap.objs.size = some (ob0 w) := Heap.get?_push_size _ rfl
      have tyS : Shared.TypeIs { s with heap := s.heap.push (ob0 w) } (.ref s.heap.objs.size) "set" := ⟨_, at0, rfl⟩
      have b1 := F.called_set.init.lookup
      have b2 := F.called_set.init.bind (.ref s.heap.objs.size)
      repeat (any_goals (first | assumption | wp_step))
      refine codeAny_mono (codeAny_call_builtin (R := wants (fun r s₂ => r = .none ∧ ∃ h' tk, s₂ = { s with heap := h', toks := tk } ∧ Now P w s.heap s.heap.objs.size ks ks.length h') E) F.called_set.init.plain F.entry_set_init (check_set_init_1 tyS ?_)) fun r₂ s₂ hr₂ => ?_
      · obtain ⟨⟨oc, od, oda, osl⟩, hol, hc, nl, hd⟩ := hl
        dsimp only at hc hd
        subst hc; subst hd
        have hol1 : (s.heap.push (ob0 w)).get? l = some { cls := .type "list", dict := od, data := .seq items nl, slots := osl } := Heap.get?_push_of_some _ hol
        have f1 := F.sub_list_set
        have f2 := F.sub_list_frozenset
        have f3 : (Value.type "list" == Value.type "dict") = false := by decide
        have hl1 : (s.heap.push (ob0 w)).IsList l items := ⟨_, hol1, rfl, nl, rfl⟩
        unfold Builtin.«set.__init__» noKeywords Builtin.Frozenset.updateFrom
        generalize hPI : pyIter = PI
        wp_walk
        subst hPI
        refine wpAny_pyIter_list hl1 (wpAny_bind (wpAny_runValue ?_))
        have lS : l < s.heap.objs.size := Heap.lt_size hol
        have z1 : (s.heap.push (ob0 w)).objs.size = s.heap.objs.size + 1 := Heap.size_push ..
        have neI : l ≠ (s.heap.push (ob0 w)).objs.size := by rw [z1]; exact Nat.ne_of_lt (Nat.lt_succ_of_lt lS)
        have none_ : ∀ b, s.heap.objs.size ≤ b → s.heap.get? b = none := fun b hb => by
          cases q : s.heap.get? b with
          | none => rfl
          | some o => exact absurd (Heap.lt_size q) (Nat.not_lt.mpr hb)
        refine loop (S := s.heap.objs.size) ((Walks.list (show A.in1.in1.in1.handled = none by simp [hh]) _ l neI items).toS) (by rw [z1]; simp only [List.mem_cons, List.not_mem_nil, or_false, not_or]; exact ⟨Nat.ne_of_lt (Nat.lt_succ_self _), Nat.ne_of_gt lS⟩) isz cap (fun i v hv => ?_) (h0 := s.heap) key (none_ _ (Nat.le_refl _)) (fun b hb => none_ b (by
          rw [List.mem_singleton.mp hb, z1]
          exact Nat.le_succ _)) hu items.size 0 _ (Nat.zero_add _) ⟨⟨_, Heap.get?_push_size _ rfl, rfl, rfl⟩, hl1.push _⟩ ⟨fun b o e => Heap.get?_push_of_some _ (Heap.get?_push_of_some _ e), [], #[], 0, _, Ws.zero (Heap.get?_push_of_some _ at0), Got.zero ks⟩ ?_
        · have q : items.toList[i]? = some v := by rw [Array.getElem?_toList]; exact hv
          rw [hit, List.getElem?_map] at q
          obtain ⟨p, e, rfl⟩ := Option.map_eq_some_iff.mp q
          exact ⟨p, e, rfl⟩
        · intro s' hm nw
          obtain ⟨h', g2, d', tk', os'⟩ := s'
          obtain rfl : g2 = s.gens := hm.gens
          obtain rfl : d' = s.drawn := hm.drawn
          obtain rfl : os' = s.os := hm.os
          show wpAny _ _ _ _ _ _
          refine wpAny_pure ?_
          show wpAny _ _ (ret Value.none) _ _ _
          rw [isz] at nw
          exact wpAny_pure ⟨rfl, h', tk', rfl, nw⟩
      · cases r₂ with
        | error e => exact hr₂
        | ok fl₂ =>
          cases fl₂ with
          | ret r =>
            obtain ⟨rfl, h', tk, rfl, nw⟩ := hr₂
            repeat (any_goals (first | assumption | wp_step))
            exact fin _ _ nw
          | _ => exact hr₂.elim
    | _ => exact hr.elim
end
end WS
namespace WS
open PySem PySem.Spec PyProof.Rows L2
theorem perm_pull {α β : Type} {f : α → β} {vs ws : List β} (p : vs.Perm ws) : ∀ L : List α, ws = L.map f → ∃ L1 : List α, L1.Perm L ∧ vs = L1.map f := by
  induction p with
  | nil => intro L e; cases L with
    | nil => exact ⟨[], .refl _, rfl⟩
    | cons => cases e
  | cons x _ ih => intro L e; cases L with
    | nil => cases e
    | cons y L =>
      cases e
      obtain ⟨L1, p1, rfl⟩ := ih L rfl
      exact ⟨y :: L1, p1.cons y, rfl⟩
  | swap x y l => intro L e; match L, e with
    | a :: b :: L, e => cases e; exact ⟨b :: a :: L, .swap a b L, rfl⟩
  | trans _ _ i1 i2 =>
    intro L e
    obtain ⟨L1, p1, e1⟩ := i2 L e
    obtain ⟨L2, p2, e2⟩ := i1 L1 e1
    exact ⟨L2, p2.trans p1, e2⟩
abbrev encT (q : Addr × List Int) : PyData := .tuple (q.2.map PyData.int)
theorem enc_lt (a b : List Int) : PySem.W.dataLt (.tuple (a.map PyData.int)) (.tuple (b.map PyData.int)) = decide (a < b) := by
  rw [PySem.W.dataLt_tuple]
  exact PySem.W.dataLt_ints a b
theorem enc_le (q r : Addr × List Int) : PySem.W.dataLe false encT q r = !decide (r.2 < q.2) := by
  rw [PySem.W.dataLe_eq]
  show (!PySem.W.dataLt (encT r) (encT q)) = _
  rw [enc_lt]
theorem alike_enc (L : Rw2) : PySem.W.AllAlike (L.map encT) := by
  have : L.map encT = (L.map Prod.snd).map fun k : List Int => PyData.tuple (k.map PyData.int) := by rw [List.map_map]; rfl
  rw [this]
  exact PySem.W.AllAlike.of fun b c => by simpa only [PySem.W.alike] using PySem.W.alike_ints b c
theorem sortable_enc {L : Rw2} (ne : ∀ q ∈ L, q.2 ≠ []) : PySem.W.Sortable (L.map encT) := .inl fun d hd => by
  obtain ⟨⟨a, k⟩, hq, rfl⟩ := List.mem_map.mp hd
  cases k with
  | nil => exact absurd rfl (ne _ hq)
  | cons i r => exact ⟨.int i, r.map PyData.int, rfl⟩
theorem depth_ints : ∀ k : List Int, PyData.depthAll (k.map PyData.int) = 0
  | [] => rfl
  | i :: k => by simp [PyData.depthAll, PyData.depth, depth_ints k]
theorem depth_enc (q : Addr × List Int) : (encT q).depth ≤ 1 := by simp [PyData.depth, depth_ints]
/-- the order of what sorted tells -/
theorem rising {L : Rw2} (uni : (L.map Prod.snd).Nodup) : (L.mergeSort (PySem.W.dataLe false encT)).Pairwise (fun q r => q.2 < r.2) := by
  have tot : ∀ a b : List Int, a = b ∨ a < b ∨ b < a := fun a b => by
    by_cases h1 : a < b
    · exact .inr (.inl h1)
    · by_cases h2 : b < a
      · exact .inr (.inr h2)
      · exact .inl (List.le_antisymm (List.not_lt.mp h2) (List.not_lt.mp h1))
  have srt := List.pairwise_mergeSort (le := PySem.W.dataLe false encT) (fun a b c h1 h2 => by
    rw [enc_le] at h1 h2 ⊢
    simp only [Bool.not_eq_true', decide_eq_false_iff_not] at h1 h2 ⊢
    exact List.not_lt.mpr (List.le_trans (List.not_lt.mp h1) (List.not_lt.mp h2))) (fun a b => by
    rw [enc_le, enc_le]
    by_cases h : b.2 < a.2
    · have : ¬ a.2 < b.2 := fun z => List.lt_irrefl _ (List.lt_trans h z)
      simp [this]
    · simp [h]) L
  have un : (L.mergeSort (PySem.W.dataLe false encT)).Pairwise (fun q r => q.2 ≠ r.2) := by
    have := (((List.mergeSort_perm L (PySem.W.dataLe false encT)).map Prod.snd).nodup_iff).mpr uni
    exact List.pairwise_map.mp this
  refine (srt.and un).imp fun {q r} h => ?_
  obtain ⟨h1, h2⟩ := h
  rw [enc_le] at h1
  rcases tot q.2 r.2 with e | e | e
  · exact absurd e h2
  · exact e
  · simp [e] at h1
section
variable {P : Program} {w : World} {A : Around} {E : Value → Shared → Prop} {s : Shared}
theorem sortedW {a : Addr} {L : Rw2} {es : Array (Int × Value)} {ep : Nat} {t : SetTable} {Q : Value → Shared → Prop} (R : Ws P w s.heap a L es ep t) (hh : A.handled = none) (ne : ∀ q ∈ L, q.2 ≠ []) (hu : A.units + 3 < cLine)
    (rd : ∀ q ∈ L, ∃ as, Reads s.heap (.ref q.1) (encT q) as)
    (fin : ∀ s' p (out : List Value) (c : Nat) (L' : Rw2), (∀ b o, s.heap.get? b = some o → s'.heap.get? b = some o) → s'.gens = s.gens → s'.os = s.os → s.heap.objs.size ≤ p → s'.heap.get? p = some (seqObj "list" out.toArray c) →
      out = L'.map (fun q => Value.ref q.1) → L'.Perm L → L'.Pairwise (fun q r => q.2 < r.2) → Q (.ref p) s') : wpAny (model P w) A (call (.builtin "sorted") [.ref a]) Q E s := by
  obtain ⟨o, ho, hex, hd⟩ := R.obj
  have cap := R.cap
  refine call_function_entry_kw kind_sorted plain_sorted entry_sorted (args_sorted1 _) ?_
  unfold Builtin.«sorted»
  refine wpAny_bind (m := checkCount "sorted" 1 1 _) (wpAny_pure ?_)
  refine wpAny_bind (collect_set (A := A.in1) hh ⟨o, ho, hex.1, hd⟩ R.fit (by rw [R.size]; unfold scanBound; omega) R.tbl.up R.seen fun s1 vs k1 hz g1 o1 pm => ?_)
  have ev : es.toList.map (·.2) = L.map fun q => Value.ref q.1 := by
    rw [R.lay]
    unfold rowsOf
    rw [List.map_map]
    rfl
  obtain ⟨L1, p1, rfl⟩ := perm_pull pm L ev
  have len1 := p1.length_eq
  have hZ : (L1.map fun q => Value.ref q.1).length ≤ sizeLine := by rw [List.length_map, sizeLine_eq]; omega
  have each : ∀ M : Rw2, PySem.W.EachIs (fun v (q : Addr × List Int) => v = Value.ref q.1) (M.map fun q => Value.ref q.1) M := fun M => by
    induction M with
    | nil => exact .nil
    | cons q M ih => exact .cons rfl ih
  generalize ews : (L1.map fun q => Value.ref q.1) = ws at hZ
  have e1 := each L1
  rw [ews] at e1
  refine wpAny_bind (wpAny_newList ?_ hZ)
  obtain ⟨h1, eh1⟩ : ∃ h1, h1 = s1.heap := ⟨_, rfl⟩
  rw [← eh1] at k1 hz ⊢
  have at2 : (h1.push (seqObj "list" ws.toArray 0)).get? h1.objs.size = some (seqObj "list" ws.toArray 0) := Heap.get?_push_size _ rfl
  have old2 : ∀ b o, s.heap.get? b = some o → (h1.push (seqObj "list" ws.toArray 0)).get? b = some o := fun b o q => Heap.get?_push_of_some _ (k1 b o q)
  have lt1 : ∀ b o, s.heap.get? b = some o → b ≠ h1.objs.size := fun b o q => Nat.ne_of_lt (Heap.lt_size (k1 b o q))
  have er : ∀ M : Rw2, (∀ q ∈ M, q ∈ L) → PySem.W.EachIs (fun v q => ∃ as, Reads (PySem.W.sortingHeap (h1.push (seqObj "list" ws.toArray 0)) h1.objs.size ws) v (encT q) as) (M.map fun q => Value.ref q.1) M := fun M => by
    induction M with
    | nil => intro _; exact .nil
    | cons q M ih =>
      intro hM
      obtain ⟨as, r⟩ := rd q (hM q List.mem_cons_self)
      exact .cons ⟨as, PyProof.Rows.Reads.keeps (fun b o q => PySem.W.sortingHeap_old (lt1 b o q) (old2 b o q)) r⟩ (ih fun r hr => hM r (List.mem_cons_of_mem _ hr))
  have er1 := er L1 fun q hq => p1.mem_iff.mp hq
  rw [ews] at er1
  have hal := alike_enc L1
  refine wpAny_bind (wpAny_holding (wpAny_call_entry_kw slot_list_sort ⟨_, at2, rfl⟩ entry_list_sort ?body (args_list_sort _)))
  case body =>
    refine PySem.W.list_sort_vals (s := { s1 with heap := h1.push (seqObj "list" ws.toArray 0) }) (κ := PySem.W.dataKind (PySem.W.sortingHeap (h1.push (seqObj "list" ws.toArray 0)) h1.objs.size ws) (L1.map encT)) at2
      (PySem.W.SortsAt.data (s := { s1 with heap := PySem.W.sortingHeap (h1.push (seqObj "list" ws.toArray 0)) h1.objs.size ws }) (PySem.W.each_map (R := fun v d => ∃ as, Reads (PySem.W.sortingHeap (h1.push (seqObj "list" ws.toArray 0)) h1.objs.size ws) v d as) encT er1) hal (sortable_enc fun q hq => ne q (p1.mem_iff.mp hq))
        (PySem.W.bound_map fun q hq => by have := depth_enc q; show A.units + 2 + (encT q).depth < cLine; omega)) hZ ⟨.none, rfl, ?_⟩
    obtain ⟨c, hc2⟩ := sortedHeap_at (out := (PySem.W.sortVals (PySem.W.dataKind (PySem.W.sortingHeap (h1.push (seqObj "list" ws.toArray 0)) h1.objs.size ws) (L1.map encT)) false ws ws).toArray) at2
    have so := PySem.W.sortVals_data false e1 er1 hal
    refine wpAny_pure ⟨_, rfl, fin _ _ _ c (L1.mergeSort (PySem.W.dataLe false encT)) (fun b u q => ?_) g1 o1 hz hc2 ?_ ((List.mergeSort_perm _ _).trans p1) (rising ((p1.map Prod.snd).nodup_iff.mpr R.uni))⟩
    · show (sortedHeap _ _ _ _).get? b = some u
      rw [sortedHeap_old (lt1 b u q) (Heap.lt_size (old2 b u q))]
      exact old2 b u q
    · have key : ∀ (vs : List Value) (M : Rw2), PySem.W.EachIs (fun v (q : Addr × List Int) => v = Value.ref q.1) vs M → vs = M.map fun q => Value.ref q.1 := fun vs M h => by
        induction h with
        | nil => rfl
        | cons h _ ih => rw [h, ih]; rfl
      exact key _ _ so
end
def Core (P : Program) (w : World) (h : Heap) (a : Addr) (L : Rw2) : Prop := ∃ es ep t, (∀ h', h'.get? a = h.get? a → (∀ q ∈ L, IsT P w h' q.2 q.1) → Ws P w h' a L es ep t)
def WsO (P : Program) (w : World) (a : Addr) (L : Rw2) : HO := .ext fun h => Core P w h a L ∧ ∃ o, h.get? a = some o
theorem wsO_ok {P : Program} {w : World} {H : Hp} {h : Heap} {a : Addr} {L : Rw2} {es : Array (Int × Value)} {ep : Nat} {t : SetTable} (R : Ws P w h a L es ep t) : ObjOk P w H h a (WsO P w a L) := by
  obtain ⟨o, ho, r⟩ := R.obj
  refine ⟨⟨⟨es, ep, t, fun h' e key => R.on (fun o q => e.trans q) key⟩, o, ho⟩, ⟨o, ho⟩, fun h1 h2 p k => ?_⟩
  obtain ⟨⟨es', ep', t', f⟩, o', ho'⟩ := p
  have e2 := k o' ho'
  exact ⟨⟨es', ep', t', fun h' e key => f h' (by rw [e, e2, ho']) key⟩, o', e2⟩
section
variable {X : Cx}
def rSetW (K : PySem.W.Frag) (P : Program) (w : World) : List V → Hp → VK → Prop := fun xs H Q => ∃ (l : Addr) (ks : Rw2), xs = [V.ref l] ∧ SqL K H l (ks.map fun q => V.ref q.1) ∧ (∀ q ∈ ks, SqT K H q.1 (q.2.map V.int)) ∧ ks.length ≤ 200 ∧
  ∀ a L, H a = none → (∀ q ∈ L, q ∈ ks) → (∀ q ∈ ks, q.2 ∈ L.map Prod.snd) → Q (.ref a) (upd H a (WsO P w a L))
theorem cr_setW (hc : X.calm = true) (hu : X.A.units + 3 < cLine) : CallR X (.type "set") (rSetW X.K X.prog X.w) := by
  intro pins s σ H xs us Q I r h
  obtain ⟨l, ks, rfl, hl, key, cap, q⟩ := h
  rw [Vals.ref1 r]
  obtain ⟨its, rv, pl, hz⟩ := I.list hl
  have fresh : H s.heap.objs.size = none := I.hok.fresh (Nat.le_refl _)
  refine made (P := X.prog) (w := X.w) (ks := ks) (I.ok.hd hc) pl.isList (by simpa using refs_of_vals rv) (fun p hp => I.isT (key p hp)) cap hu fun h' tk nw => ?_
  obtain ⟨kp, L, es, ep, t, R, g⟩ := nw
  exact ⟨.ref s.heap.objs.size, _, I.laid (t' := tk) kp (Nat.le_refl _) (wsO_ok R), rfl, q _ L fresh (fun p hp => List.mem_of_mem_take (g.sub p hp)) fun p hp => g.all p (by rwa [List.take_length])⟩
def rSortW (K : PySem.W.Frag) (P : Program) (w : World) : List V → Hp → VK → Prop := fun vs H Q => ∃ (a : Addr) (L : Rw2), vs = [V.ref a] ∧ H a = some (WsO P w a L) ∧ (∀ q ∈ L, SqT K H q.1 (q.2.map V.int)) ∧ (∀ q ∈ L, q.2 ≠ []) ∧
  ∀ (L' : Rw2) (p : Addr), L'.Perm L → L'.Pairwise (fun q r => q.2 < r.2) → H p = none → Q (.ref p) (upd H p (.lst (L'.map fun q => V.ref q.1)))
theorem dp_ints {K : PySem.W.Frag} {H : Hp} : ∀ k : List Int, DpAll K H (k.map V.int) (k.map PyData.int)
  | [] => .nil
  | i :: k => .cons (.int i) (dp_ints k)
theorem cr_sortW (hc : X.calm = true) (hu : X.A.units + 3 < cLine) : CallR X (.builtin "sorted") (rSortW X.K X.prog X.w) := by
  intro pins s σ H vs us Q I r h
  obtain ⟨a, L, rfl, ha, key, ne, q⟩ := h
  obtain ⟨⟨es, ep, t, f⟩, _⟩ : Core X.prog X.w s.heap a L ∧ _ := (I.hok a _ ha).1
  have R := f s.heap rfl fun p hp => I.isT (key p hp)
  rw [Vals.ref1 r]
  have cap := R.cap
  refine sortedW R (I.ok.hd hc) ne hu (fun p hp => Dp.reads I _ _ _ (.tup (key p hp) (dp_ints p.2)) rfl) fun s' p out c L' kp g o hp at_ eo pm up => ?_
  have fresh : H p = none := I.hok.fresh hp
  have J : Inv X pins σ (upd H p (.lst (L'.map fun q => V.ref q.1))) { s with heap := s'.heap, gens := s'.gens, drawn := s'.drawn, toks := s'.toks } :=
    I.call (ch := []) (Un.laid kp hp fresh) (I.hok.laid kp hp ⟨by rw [List.length_map, pm.length_eq, sizeLine_eq]; omega, out, c, by rw [eo]; exact vals_of_refs L', at_⟩) (by rw [g]; exact I.bare) (fun _ z => nomatch z)
  have e : s' = { s with heap := s'.heap, gens := s'.gens, drawn := s'.drawn, toks := s'.toks } := by
    cases s'
    cases s
    cases o
    rfl
  rw [e]
  exact ⟨.ref p, _, J, rfl, q L' p pm up fresh⟩
end
end WS
namespace Dt
open PySem PySem.Spec PyProof.Rows L2 WS
def insT (k : List Int) : List (List Int) → List (List Int)
  | [] => [k]
  | x :: l => if k < x then k :: x :: l else if x < k then x :: insT k l else x :: l
/-- strictly rising, each once -/
def sset (ks : List (List Int)) : List (List Int) := ks.foldr insT []
theorem tri (a b : List Int) : a = b ∨ a < b ∨ b < a := by
  by_cases h1 : a < b
  · exact .inr (.inl h1)
  · by_cases h2 : b < a
    · exact .inr (.inr h2)
    · exact .inl (List.le_antisymm (List.not_lt.mp h2) (List.not_lt.mp h1))
theorem mem_insT {k y : List Int} : ∀ {l : List (List Int)}, y ∈ insT k l ↔ y = k ∨ y ∈ l
  | [] => by simp [insT]
  | x :: l => by
    unfold insT
    split
    · simp
    · split
      · rw [List.mem_cons, mem_insT, List.mem_cons]
        constructor
        · rintro (h | h | h)
          · exact .inr (.inl h)
          · exact .inl h
          · exact .inr (.inr h)
        · rintro (h | h | h)
          · exact .inr (.inl h)
          · exact .inl h
          · exact .inr (.inr h)
      · rename_i h1 h2
        have : k = x := by
          rcases tri k x with h | h | h
          · exact h
          · exact absurd h h1
          · exact absurd h h2
        subst this
        simp
theorem ris_insT {k : List Int} : ∀ {l : List (List Int)}, l.Pairwise (· < ·) → (insT k l).Pairwise (· < ·)
  | [], _ => by simp [insT]
  | x :: l, h => by
    obtain ⟨h1, h2⟩ := List.pairwise_cons.mp h
    unfold insT
    split
    · rename_i c
      refine List.pairwise_cons.mpr ⟨fun y hy => ?_, h⟩
      rcases List.mem_cons.mp hy with rfl | hy
      · exact c
      · exact List.lt_trans c (h1 y hy)
    · split
      · rename_i c
        refine List.pairwise_cons.mpr ⟨fun y hy => ?_, ris_insT h2⟩
        rcases mem_insT.mp hy with rfl | hy
        · exact c
        · exact h1 y hy
      · exact h
theorem mem_sset {y : List Int} : ∀ {ks : List (List Int)}, y ∈ sset ks ↔ y ∈ ks
  | [] => by simp [sset]
  | k :: ks => by
    show y ∈ insT k (sset ks) ↔ _
    rw [mem_insT, mem_sset, List.mem_cons]
theorem ris_sset : ∀ {ks : List (List Int)}, (sset ks).Pairwise (· < ·)
  | [] => .nil
  | k :: ks => ris_insT ris_sset
/-- rising lists with the same members are one -/
theorem ris_ext : ∀ {a b : List (List Int)}, a.Pairwise (· < ·) → b.Pairwise (· < ·) → (∀ y, y ∈ a ↔ y ∈ b) → a = b
  | [], [], _, _, _ => rfl
  | [], y :: b, _, _, h => absurd ((h y).mpr List.mem_cons_self) (by simp)
  | x :: a, [], _, _, h => absurd ((h x).mp List.mem_cons_self) (by simp)
  | x :: a, y :: b, ha, hb, h => by
    obtain ⟨a1, a2⟩ := List.pairwise_cons.mp ha
    obtain ⟨b1, b2⟩ := List.pairwise_cons.mp hb
    have e : x = y := by
      rcases List.mem_cons.mp ((h x).mp List.mem_cons_self) with e | m
      · exact e
      · rcases List.mem_cons.mp ((h y).mpr List.mem_cons_self) with e | m2
        · exact e.symm
        · exact absurd (List.lt_trans (b1 x m) (a1 y m2)) (List.lt_irrefl _)
    subst e
    rw [ris_ext a2 b2 fun z => ?_]
    constructor
    · intro hz
      rcases List.mem_cons.mp ((h z).mp (List.mem_cons_of_mem _ hz)) with rfl | m
      · exact absurd (a1 z hz) (List.lt_irrefl _)
      · exact m
    · intro hz
      rcases List.mem_cons.mp ((h z).mpr (List.mem_cons_of_mem _ hz)) with rfl | m
      · exact absurd (b1 z hz) (List.lt_irrefl _)
      · exact m
theorem len_sset {ks : List (List Int)} : (sset ks).length ≤ ks.length := by
  have key : ∀ (k : List Int) (l : List (List Int)), (insT k l).length ≤ l.length + 1 := by
    intro k l
    induction l with
    | nil => simp [insT]
    | cons x l ih =>
      unfold insT
      split
      · simp
      · split
        · simpa using ih
        · simp
  induction ks with
  | nil => exact Nat.le_refl _
  | cons k ks ih =>
    have := key k (sset ks)
    show (insT k (sset ks)).length ≤ _
    rw [List.length_cons]
    omega
/-- a tuple of whole numbers -/
abbrev zT (k : List Int) : D := .tup (k.map D.int)
def decT : D → Option (List Int)
  | .tup ds => toI ds
  | _ => none
theorem decT_eq {d : D} {k : List Int} (e : decT d = some k) : d = zT k := by
  unfold decT at e
  split at e
  · rw [toI_map e]
  · cases e
theorem toI_ints (k : List Int) : toI (k.map D.int) = some k := by
  induction k with
  | nil => rfl
  | cons i k ih => simp [toI, ih]
theorem dec_zT (k : List Int) : decT (zT k) = some k := toI_ints k
def sortsetD (own : Bool) (x : D) (h : DH) : Rs D := match lsq h x with
  | some ds => match mapO decT ds with
    | some ks => if ks.length ≤ 200 ∧ ∀ k ∈ ks, k ≠ [] then mkL own ((sset ks).map zT) h else .bad
    | none => .bad
  | none => .bad
section
variable {X : Cx} {K : PySem.W.Frag} {r : Rg} {h : DH} {H : Hp} {W : WX} {ds : List D} {vs : List V}
theorem decs_at : ∀ {ds : List D} {vs : List V} {ks : List (List Int)}, mapO decT ds = some ks → RVs K r H ds vs → ∃ qs : Rw2, vs = qs.map (fun q => V.ref q.1) ∧ qs.map Prod.snd = ks ∧ ∀ q ∈ qs, FzT r H q.1 (q.2.map V.int)
  | [], vs, ks, e, q => by
    simp [mapO] at e
    subst e
    exact ⟨[], q.inv0, rfl, fun q hq => by cases hq⟩
  | d :: ds, vs, ks, e, q => by
    obtain ⟨v, t, rfl, a, b⟩ := q.inv
    unfold mapO at e
    split at e
    · rename_i k s e1 e2
      cases e
      obtain ⟨qs, rfl, rfl, f⟩ := decs_at e2 b
      rw [decT_eq e1] at a
      simp only [RV] at a
      obtain ⟨p, ws, rfl, fz, rw_⟩ := a
      have : ws = k.map V.int := by
        have key : ∀ (k : List Int) (ws : List V), RVs K r H (k.map D.int) ws → ws = k.map V.int := fun k => by
          induction k with
          | nil => intro ws q; exact q.inv0
          | cons i k ih =>
            intro ws q
            obtain ⟨v, t, rfl, a, b⟩ := q.inv
            rw [rv_int.mp a, ih t b]
            rfl
        exact key k ws rw_
      subst this
      exact ⟨(p, k) :: qs, rfl, rfl, fun q hq => by
        rcases List.mem_cons.mp hq with rfl | hq
        · exact fz
        · exact f q hq⟩
    · cases e
theorem rvs_rows : ∀ {qs : Rw2}, (∀ q ∈ qs, FzT r H q.1 (q.2.map V.int)) → RVs K r H ((qs.map Prod.snd).map zT) (qs.map fun q => V.ref q.1)
  | [], _ => .nil
  | q :: qs, f => .cons (by simp only [RV]; exact ⟨q.1, _, rfl, f q List.mem_cons_self, RVs.ints⟩) (rvs_rows fun p hp => f p (List.mem_cons_of_mem _ hp))
theorem de_sortset {x y : Str} {e : Expr} {p p2 q pos : Pos} {fa : EF} (own : Bool) (hc : X.calm = true) (hu : X.A.units + 68 < cLine) (hx : x = "sorted") (hy : y = "set") (hg : Gl X x) (hm : X.mg x = none) (hg2 : Gl X y) (hm2 : X.mg y = none) (ha : PE X e (tE X.K W fa)) (hs : ∀ c, starEach [e] c = [(false, eval e c)] := by intro c; rfl) :
    PE X (.Call (.Name x p) [.Call (.Name y p2) [e] [] q] [] pos) (tE X.K W (o1 (sortsetD own) fa)) := by
  subst hx; subst hy
  refine PE.imp (pe_callB (cr_sortW hc (by omega)) hg hm (by rfl) (pa_cons (pe_callTy (cr_setW hc (by omega)) hg2 hm2 PyProof.Rows.boot_set (pa_cons ha pa_nil (hs X.env)) (he := hs X.env)) pa_nil)) fun σ H Q p => ?_
  refine tG.first (R := RV X.K) (f := fa) (g := fun a _ h1 => sortsetD own a h1) p fun r0 env h1 x v H1 rh rs rx p1 => ?_
  unfold sortsetD at p1
  split at p1
  · rename_i ds e1
    split at p1
    · rename_i ks e2
      split at p1
      · rename_i hc2
        obtain ⟨l, ys, rfl, sl, qv⟩ := lsq_at rh rx e1
        obtain ⟨qs, rfl, rfl, fz⟩ := decs_at e2 qv
        refine ⟨l, qs, rfl, sl, fun q hq => (fz q hq).sq, by simpa using hc2.1, fun S L hS sub sup => ?_⟩
        obtain ⟨ex, rh1⟩ := rh.lay (o := WsO X.prog X.w S L) hS
        have fz1 : ∀ q ∈ L, FzT r0 (upd H1 S (WsO X.prog X.w S L)) q.1 (q.2.map V.int) := fun q hq => (fz q (sub q hq)).wmono ex.wx
        refine ⟨S, L, rfl, upd_same, fun q hq => (fz1 q hq).sq, fun q hq => hc2.2 _ (List.mem_map_of_mem (sub q hq)), fun L' z pm up hz => ?_⟩
        have eL : L'.map Prod.snd = sset (qs.map Prod.snd) := by
          refine ris_ext (List.pairwise_map.mpr up) ris_sset fun k => ?_
          rw [mem_sset]
          constructor
          · intro hk
            obtain ⟨q, hq, rfl⟩ := List.mem_map.mp hk
            exact List.mem_map_of_mem (sub q (pm.mem_iff.mp hq))
          · intro hk
            obtain ⟨q, hq, rfl⟩ := List.mem_map.mp hk
            obtain ⟨q2, h2, e3⟩ := List.mem_map.mp (sup q hq)
            rw [← e3]
            exact List.mem_map_of_mem (pm.mem_iff.mpr h2)
        rw [← eL] at p1
        exact (po_mkL rh1 (rvs_rows fun q hq => fz1 q (pm.mem_iff.mp hq)) (Po.later ex p1)).2 z hz
      · exact p1.elim
    · exact p1.elim
  · exact p1.elim
end
section
variable {h : DH}
theorem decs_zT : ∀ (ks : List (List Int)), mapO decT (ks.map zT) = some ks
  | [] => rfl
  | k :: ks => by simp [mapO, dec_zT, decs_zT ks]
theorem ev_sortset {own : Bool} {x : D} {ks : List (List Int)} (e : lsq h x = some (ks.map zT)) (hl : ks.length ≤ 200) (ne : ∀ k ∈ ks, k ≠ []) : sortsetD own x h = mkL own ((sset ks).map zT) h := by
  unfold sortsetD
  rw [e]
  simp only [decs_zT]
  rw [if_pos ⟨hl, ne⟩]
end
end Dt
namespace Dt
open PySem PySem.Spec PyProof.Rows L2
section
variable {α β : Type} {env : Env'} {h : DH} {fe fk fv : EF} {tt : TF} {t : Tg} {it : ItD} {vs : List Nat} {fi : IF}
/-- a comprehension with a test, over values; nothing changes -/
theorem lcS_p (so : srcOk it h) (g f : α → D) (p : α → Bool) : ∀ (xs : List α) (acc : List D),
    (∀ x ∈ xs, ∃ e1, tgF t (g x) env = some e1 ∧ tt e1 h = .ok (p x) h ∧ (p x = true → fe e1 h = .ok (f x) h)) → acc.length + xs.length ≤ 1000000 →
    lcS it t tt fe env (xs.map g) acc h = .ok (acc ++ (xs.filter p).map f) h
  | [], acc, _, _ => by simp [lcS, so]
  | x :: xs, acc, hf, hl => by
    obtain ⟨e1, h1, h2, h3⟩ := hf x List.mem_cons_self
    have l1 : acc.length < 1000000 := by simp at hl; omega
    rw [List.map_cons]
    unfold lcS
    cases hp : p x with
    | true =>
      have ih := lcS_p so g f p xs (acc ++ [f x]) (fun y hy => hf y (List.mem_cons_of_mem _ hy)) (by simp at hl ⊢; omega)
      rw [hp] at h2
      simp [so, h1, h2, h3 hp, l1, ih, hp]
    | false =>
      have ih := lcS_p so g f p xs acc (fun y hy => hf y (List.mem_cons_of_mem _ hy)) (by simp at hl ⊢; omega)
      rw [hp] at h2
      simp [so, h1, h2, ih, hp]
theorem ev_lcp (g f : α → D) (p : α → Bool) (xs : List α) (hi : fi env h = .ok it h) (so : srcOk it h) (hx : it.items = xs.map g)
    (hf : ∀ x ∈ xs, ∃ e1, tgF t (g x) (wipD env vs) = some e1 ∧ tt e1 h = .ok (p x) h ∧ (p x = true → fe e1 h = .ok (f x) h)) (hl : xs.length ≤ 1000000) :
    lcE fi t tt fe vs env h = .ok (.lst ((xs.filter p).map f)) h := by
  unfold lcE
  rw [hi]
  simp only [bd_ok, hx]
  rw [lcS_p so g f p xs [] hf (by simpa using hl)]
  simp
theorem ev_lcg (g f : α → D) (xs : List α) (hi : fi env h = .ok it h) (so : srcOk it h) (hx : it.items = xs.map g)
    (hf : ∀ x ∈ xs, ∃ e1, tgF t (g x) (wipD env vs) = some e1 ∧ fe e1 h = .ok (f x) h) (hl : xs.length ≤ 1000000) : lcE fi t tyes fe vs env h = .ok (.lst (xs.map f)) h := by
  rw [ev_lcp (p := fun _ => true) g f xs hi so hx (fun x hx => by obtain ⟨e1, a, b⟩ := hf x hx; exact ⟨e1, a, rfl, fun _ => b⟩) hl]
  rw [show xs.filter (fun _ => true) = xs from List.filter_eq_self.mpr fun _ _ => rfl]
/-- one whose items change the heap -/
theorem lcS_h (P : Nat → D → Prop) (I : Nat → DH → Prop) : ∀ (ds : List D) (k : Nat) (acc : List D) (h : DH), I k h →
    (∀ j h, I j h → srcOk it h) → (∀ j h d, I j h → ds[j - k]? = some d → k ≤ j → ∃ e1 y h2, tgF t d env = some e1 ∧ fe e1 h = .ok y h2 ∧ P j y ∧ I (j + 1) h2) → acc.length + ds.length ≤ 1000000 →
    ∃ ys h2, lcS it t tyes fe env ds acc h = .ok (acc ++ ys) h2 ∧ ys.length = ds.length ∧ (∀ j y, ys[j]? = some y → P (k + j) y) ∧ I (k + ds.length) h2
  | [], k, acc, h, hI, so, _, _ => ⟨[], h, by simp [lcS, so k h hI], rfl, by simp, hI⟩
  | d :: ds, k, acc, h, hI, so, st, hl => by
    obtain ⟨e1, y, h2, a, b, c, d'⟩ := st k h d hI (by simp) (Nat.le_refl _)
    have l1 : acc.length < 1000000 := by simp at hl; omega
    obtain ⟨ys, h3, e, l, p, i⟩ := lcS_h P I ds (k + 1) (acc ++ [y]) h2 d' so (fun j h z hj hz hk => st j h z hj (by
      have : j - k = (j - (k + 1)) + 1 := by omega
      rw [this, List.getElem?_cons_succ]; exact hz) (by omega)) (by simp at hl ⊢; omega)
    refine ⟨y :: ys, h3, ?_, by simp [l], fun j z hz => ?_, by simpa [Nat.add_assoc, Nat.add_comm 1] using i⟩
    · unfold lcS
      simp [so k h hI, a, b, l1, e]
    · cases j with
      | zero => simp at hz; subst hz; exact c
      | succ j =>
        have := p j z (by simpa using hz)
        rwa [show k + (j + 1) = k + 1 + j by omega]
theorem ev_lch (P : Nat → D → Prop) (I : Nat → DH → Prop) {h1 : DH} (hi : fi env h = .ok it h1) (h0 : I 0 h1) (so : ∀ j h, I j h → srcOk it h)
    (st : ∀ j h d, I j h → it.items[j]? = some d → ∃ e1 y h2, tgF t d (wipD env vs) = some e1 ∧ fe e1 h = .ok y h2 ∧ P j y ∧ I (j + 1) h2) (hl : it.items.length ≤ 1000000) :
    ∃ ys h2, lcE fi t tyes fe vs env h = .ok (.lst ys) h2 ∧ ys.length = it.items.length ∧ (∀ j y, ys[j]? = some y → P j y) ∧ I it.items.length h2 := by
  obtain ⟨ys, h2, e, l, p, i⟩ := lcS_h (t := t) (fe := fe) (env := wipD env vs) (it := it) P I it.items 0 [] h1 h0 so (fun j h d a b _ => st j h d a (by simpa using b)) (by simpa using hl)
  refine ⟨ys, h2, ?_, l, fun j y hy => by simpa using p j y hy, by simpa using i⟩
  unfold lcE
  rw [hi]
  simp only [bd_ok]
  rw [e]
  simp
/-- a loop by what holds between its turns, any target -/
theorem forS_g {body : SF} (I : Nat → Env' → DH → Prop) : ∀ (ds : List D) (k : Nat) (env : Env') (h : DH), I k env h → (∀ j e h, I j e h → srcOk it h) →
    (∀ j e h d, I j e h → k ≤ j → ds[j - k]? = some d → ∃ e1 e2 h2, tgF t d e = some e1 ∧ (body e1 h = .nx e2 h2 ∨ body e1 h = .cn e2 h2) ∧ I (j + 1) e2 h2) →
    ∃ e2 h2, forS it t body ds env h = .nx e2 h2 ∧ I (k + ds.length) e2 h2
  | [], k, env, h, hI, so, _ => ⟨env, h, by simp [forS, so k env h hI], hI⟩
  | d :: ds, k, env, h, hI, so, st => by
    obtain ⟨e1, e2, h2, a, b, c⟩ := st k env h d hI (Nat.le_refl _) (by simp)
    obtain ⟨e3, h3, r, i⟩ := forS_g (body := body) I ds (k + 1) e2 h2 c so (fun j e h z hj hk hz => st j e h z hj (by omega) (by
      have : j - k = (j - (k + 1)) + 1 := by omega
      rw [this, List.getElem?_cons_succ]; exact hz))
    refine ⟨e3, h3, ?_, by simpa [Nat.add_assoc, Nat.add_comm 1] using i⟩
    unfold forS
    simp only [so k env h hI, if_true, a]
    rcases b with b | b <;> rw [b] <;> exact r
theorem for_g {body : SF} {h1 : DH} (I : Nat → Env' → DH → Prop) (hi : fi env h = .ok it h1) (h0 : I 0 env h1) (so : ∀ j e h, I j e h → srcOk it h)
    (st : ∀ j e h d, I j e h → it.items[j]? = some d → ∃ e1 e2 h2, tgF t d e = some e1 ∧ (body e1 h = .nx e2 h2 ∨ body e1 h = .cn e2 h2) ∧ I (j + 1) e2 h2) :
    ∃ e2 h2, forE fi t body env h = .nx e2 h2 ∧ I it.items.length e2 h2 := by
  obtain ⟨e2, h2, a, b⟩ := forS_g (body := body) (t := t) I it.items 0 env h1 h0 so fun j e h d x _ y => st j e h d x (by simpa using y)
  refine ⟨e2, h2, ?_, by simpa using b⟩
  rw [ev_forE, hi]
  exact a
end
section
variable {h : DH} {n : Nat} {ds : List D} {o : O}
theorem so_nil {ds : List D} : srcOk ⟨[], ds⟩ h := fun p hp => by cases hp
theorem so_one {ds es : List D} (e : h[n]? = some (.lst ds)) : srcOk ⟨[(n, ds)], es⟩ h := fun p hp => by
  rw [List.mem_singleton.mp hp]; exact e
/-- the heap with one more, or one put otherwise -/
theorem get_app (e : h[n]? = some o) (g : DH) : (h ++ g)[n]? = some o := by
  rw [List.getElem?_append_left (List.getElem?_eq_some_iff.mp e).1]; exact e
theorem get_new : (h ++ [o])[h.length]? = some o := by simp
theorem get_set (hl : n < h.length) : (h.set n o)[n]? = some o := List.getElem?_set_self hl
theorem get_ne {m : Nat} {p : O} (e : h[n]? = some o) (hm : m ≠ n) : (h.set m p)[n]? = some o := by rw [List.getElem?_set_ne hm]; exact e
theorem lt_of (e : h[n]? = some o) : n < h.length := (List.getElem?_eq_some_iff.mp e).1
end
end Dt
namespace Dt
open PySem PySem.Spec PyProof.Rows L2
section
variable {X : Cx} {W : WX} {K : PySem.W.Frag} {r r0 r1 : Rg} {h : DH} {H H1 : Hp} {d x y : D} {v u : V} {σ : L2.St} {Q : VK} {ds : List D} {vs : List V} {env env' : Env'} {a b e f o i : Expr} {es rest : List Expr}
  {fa fb fe fo fi : EF} {as : AF} {tf : TF} {p pos pos' apos cpos : Pos}
def truD (h : DH) (d : D) : Option Bool := match d with
  | .non => some false
  | .bl b => some b
  | .int i => some (i != 0)
  | .str z => if z.length ≤ 1000000 then some ((z.length : Int) != 0) else none
  | d => match sq h d with
    | some ds => some (!ds.isEmpty)
    | none => none
theorem RVs.empty (q : RVs K r H ds vs) : vs.isEmpty = ds.isEmpty := by
  cases ds with
  | nil => rw [q.inv0]; rfl
  | cons d ds => obtain ⟨v, t, rfl, _, _⟩ := q.inv; rfl
theorem truD_at {k : Bool} (rh : RH K r h H) (rv : RV K r H d v) (e : truD h d = some k) : TruV K v H k := by
  have seqs : ∀ {ds}, sq h d = some ds → k = (!ds.isEmpty) → TruV K v H k := fun {ds} e1 e2 => by
    obtain ⟨a, vs, rfl, f, q⟩ := sq_at rh rv e1
    rw [e2, ← q.empty]
    rcases f with f | f
    · exact .inl ⟨vs, f, rfl⟩
    · exact .inr (.inl ⟨vs, f, rfl⟩)
  unfold truD at e
  split at e
  · cases e; rw [rv_non.mp rv]; rfl
  · cases e; rw [rv_bl.mp rv]; rfl
  · cases e; rw [rv_int.mp rv]; rfl
  · split at e
    · rename_i hl
      cases e
      rw [rv_str.mp rv]
      exact ⟨line_le hl, rfl⟩
    · cases e
  · split at e
    · rename_i e1
      cases e
      exact seqs e1 rfl
    · cases e
def eorT (fa fb : EF) : EF := fun env h => bd (fa env h) fun a h1 => match truD h1 a with
  | some b => if b = true then .ok a h1 else fb env h1
  | none => .bad
def eandT (fa fb : EF) : EF := fun env h => bd (fa env h) fun a h1 => match truD h1 a with
  | some b => if b = true then fb env h1 else .ok a h1
  | none => .bad
theorem de_andT (ha : PE X a (tE X.K W fa)) (hb : PE X (.BoolOp .And (b :: rest) pos) (tE X.K W fb)) : PE X (.BoolOp .And (a :: b :: rest) pos) (tE X.K W (eandT fa fb)) :=
  PE.imp (pe_andT ha hb) fun σ H Q p => tG.first (R := RV X.K) (f := fa) (g := fun a env h1 => match truD h1 a with
  | some b => if b = true then fb env h1 else .ok a h1
  | none => .bad) p fun r0 env h1 x v H1 rh rs rx p1 => by
    split at p1
    · rename_i k e1
      refine ⟨k, truD_at rh rx e1, ?_⟩
      cases k with
      | true => exact iteT ⟨r0, env, h1, rh, rs, p1⟩
      | false => exact iteF (po_v rh rx p1)
    · exact p1.elim
/-- one value put by its key -/
def swapG {α : Type} [DecidableEq α] : List α → List D → α → D → List D
  | k' :: ks, d' :: ds, k, d => (if k' = k then d else d') :: swapG ks ds k d
  | _, _, _, _ => []
def putG {α : Type} [DecidableEq α] (ks : List α) (ds : List D) (k : α) (d : D) : List α × List D := if k ∈ ks then (ks, swapG ks ds k d) else (ks ++ [k], ds ++ [d])
theorem swapG_at {α : Type} [DecidableEq α] : ∀ {ks : List α} {ds : List D} {vs : List V} {k : α} {d : D} {v : V}, ks.length = vs.length → RVs K r H ds vs → RV K r H d v →
    ∃ ws, (ks.zip vs).map (fun kv => if kv.1 = k then (kv.1, v) else kv) = ks.zip ws ∧ ks.length = ws.length ∧ RVs K r H (swapG ks ds k d) ws
  | [], ds, vs, k, d, v, l, q, rd => by
    obtain rfl : vs = [] := List.eq_nil_of_length_eq_zero l.symm
    exact ⟨[], rfl, rfl, by unfold swapG; exact .nil⟩
  | k' :: ks, [], vs, k, d, v, l, q, rd => by rw [q.inv0] at l; simp at l
  | k' :: ks, d' :: ds, vs, k, d, v, l, q, rd => by
    obtain ⟨z, t, rfl, a, b⟩ := q.inv
    obtain ⟨ws, e1, e2, e3⟩ := swapG_at (ks := ks) (k := k) (by simpa using l) b rd
    rw [List.zip_cons_cons, List.map_cons, e1]
    unfold swapG
    by_cases hk : k' = k
    · exact ⟨v :: ws, by simp [hk], by simp [e2], by rw [if_pos hk]; exact .cons rd e3⟩
    · exact ⟨z :: ws, by simp [hk], by simp [e2], by rw [if_neg hk]; exact .cons a e3⟩
theorem putG_at {α : Type} [DecidableEq α] {ks : List α} {k : α} (l : ks.length = vs.length) (q : RVs K r H ds vs) (rd : RV K r H d v) :
    ∃ ws, putK (ks.zip vs) k v = (putG ks ds k d).1.zip ws ∧ (putG ks ds k d).1.length = ws.length ∧ RVs K r H (putG ks ds k d).2 ws := by
  unfold putK putG
  have e : ((ks.zip vs).any fun kv => decide (kv.1 = k)) = decide (k ∈ ks) := by
    have : (ks.zip vs).map Prod.fst = ks := List.map_fst_zip (by omega)
    rw [Bool.eq_iff_iff, List.any_eq_true, decide_eq_true_eq]
    constructor
    · rintro ⟨kv, h1, h2⟩
      rw [← this, ← of_decide_eq_true h2]
      exact List.mem_map_of_mem h1
    · intro hk
      rw [← this] at hk
      obtain ⟨kv, h1, h2⟩ := List.mem_map.mp hk
      exact ⟨kv, h1, decide_eq_true h2⟩
  rw [e]
  by_cases hk : k ∈ ks
  · rw [if_pos (decide_eq_true hk), if_pos hk]
    exact swapG_at l q rd
  · rw [if_neg (by simpa using hk), if_neg hk]
    refine ⟨vs ++ [v], ?_, by simp [l], q.append (.one rd)⟩
    rw [List.zip_append l]
    rfl
def putD (o i v : D) (h : DH) : Option DH := match o with
  | .ref n => match h[n]? with
    | some (.dk ks ds) => (match keyOf i with
      | some k => if ks.length < 1000000 then some (h.set n (.dk (putG ks ds k v).1 (putG ks ds k v).2)) else none
      | none => none)
    | some (.dt ks ds) => (match tkey i with
      | some k => if ks.length < 1000000 then some (h.set n (.dt (putG ks ds k v).1 (putG ks ds k v).2)) else none
      | none => none)
    | _ => none
  | _ => none
def setD (fo fi fe : EF) : SF := fun env h => bs env (fe env h) fun v h1 => bs env (fo env h1) fun o h2 => bs env (fi env h2) fun i h3 => match putD o i v h3 with
  | some h4 => .nx env h4
  | none => .bad
theorem putD_at {o i v : D} {ov iv vv : V} {h4 : DH} (rh : RH K r h H) (ro : RV K r H o ov) (ri : RV K r H i iv) (rv : RV K r H v vv) (e : putD o i v h = some h4) :
    ∃ a H4, ov = .ref a ∧ DPut H a iv vv H4 ∧ Ext r r H H4 ∧ RH K r h4 H4 := by
  unfold putD at e
  split at e
  · rename_i n
    simp only [RV] at ro
    obtain ⟨a, ha, rfl⟩ := ro
    split at e
    · rename_i ks ds e1
      split at e
      · rename_i k e2
        split at e
        · rename_i hl
          cases e
          obtain ⟨vs, p, l, q⟩ := rh.at_ _ a _ ha e1
          obtain ⟨ex, rh'⟩ := rh.put (o := .dk (putG ks ds k v).1 (putG ks ds k v).2) (u := .dK (putK (ks.zip vs) k vv)) ha fun H' ex e' => by
            obtain ⟨ws, e3, e4, e5⟩ := putG_at (k := k) l (q.mono ex) (rv.mono ex)
            exact ⟨ws, by rw [e', e3], e4, e5⟩
          refine ⟨a, _, rfl, .inl ⟨_, k, p, keyOf_at e2 ri, ?_, rfl⟩, ex, rh'⟩
          rw [List.length_zip, ← l, Nat.min_self]
          exact line_lt (by omega)
        · cases e
      · cases e
    · rename_i ks ds e1
      split at e
      · rename_i k e2
        split at e
        · rename_i hl
          cases e
          obtain ⟨vs, p, l, q⟩ := rh.at_ _ a _ ha e1
          unfold tkey at e2
          split at e2
          · simp only [RV] at ri
            obtain ⟨b, ws0, rfl, g, q2⟩ := ri
            obtain rfl := keysOf_at e2 q2
            obtain ⟨ex, rh'⟩ := rh.put (o := .dt (putG ks ds k v).1 (putG ks ds k v).2) (u := .dT (putK (ks.zip vs) k vv)) ha fun H' ex e' => by
              obtain ⟨ws, e3, e4, e5⟩ := putG_at (k := k) l (q.mono ex) (rv.mono ex)
              exact ⟨ws, by rw [e', e3], e4, e5⟩
            refine ⟨a, _, rfl, .inr ⟨_, k, b, p, rfl, g.1, ?_, rfl⟩, ex, rh'⟩
            rw [List.length_zip, ← l, Nat.min_self]
            exact line_lt (by omega)
          · cases e2
        · cases e
      · cases e
    · cases e
  · cases e
theorem ds_setD {value : Expr} (hu : X.A.units + 1 < cLine) (ho : PE X o (tE X.K W fo)) (hi : PE X i (tE X.K W fi)) (hv : PE X value (tE X.K W fe)) (hs : swapsWith value (some (.Subscript o i pos')) pos.line X.env = pure false := by rfl) :
    PS X (.Assign [.Subscript o i pos'] value pos) (tS X.K W (setD fo fi fe)) :=
  PS.imp (ps_dput hu ho hi hv hs) fun D σ H ⟨r, env, h, rh, rs, p⟩ => PoS.bs (R := RV X.K) (g := fun v env h1 => bs env (fo env h1) fun o h2 => bs env (fi env h2) fun i h3 => match putD o i v h3 with
  | some h4 => .nx env h4
  | none => .bad) rh rs p fun r1 h1 vd v H1 ex1 rh1 rs1 rv p1 =>
    PoS.bs (R := RV X.K) (f := fo) (g := fun o env h2 => bs env (fi env h2) fun i h3 => match putD o i vd h3 with
  | some h4 => .nx env h4
  | none => .bad) rh1 rs1 p1 fun r2 h2 od ov H2 ex2 rh2 rs2 ro p2 =>
      PoS.bs (R := RV X.K) (f := fi) (g := fun i env h3 => match putD od i vd h3 with
  | some h4 => .nx env h4
  | none => .bad) rh2 rs2 p2 fun r3 h3 id iv H3 ex3 rh3 rs3 ri p3 => by
        split at p3
        · rename_i h4 e4
          obtain ⟨a, H4, rfl, dp, ex, rh4⟩ := putD_at rh3 (ro.mono ex3) ri ((rv.mono ex2).mono ex3) e4
          exact ⟨a, H4, rfl, dp, p3 r3 σ H4 ex rh4 (rs3.mono ex)⟩
        · exact p3.elim
end
end Dt
namespace Dt
open PySem PySem.Spec PyProof.Rows L2
section
variable {X : Cx} {W : WX} {K : PySem.W.Frag} {r r0 r1 r2 : Rg} {h : DH} {H H1 H2 H3 : Hp} {d x y : D} {v u : V} {σ : L2.St} {Q : VK} {ds : List D} {vs : List V} {env env' : Env'} {a : Addr}
theorem Wx.take : Wx (r.ban a) (r.snoc a) H H := ⟨fun i b q => by
      have q : r.ix[i]? = some b := q
      show (r.ix ++ [a])[i]? = some b
      rw [List.getElem?_append_left (List.getElem?_eq_some_iff.mp q).1]; exact q, fun _ _ q _ => q, fun b m k => by
      rcases m with m | m
      · rcases List.mem_append.mp m with m | m
        · exact absurd (.inl m) k
        · rw [List.mem_singleton.mp m] at k
          exact absurd (.inr List.mem_cons_self) k
      · exact absurd (.inr (List.mem_cons_of_mem _ m)) k, fun _ q => q⟩
/-- what was hidden becomes one of ours -/
theorem RH.take {o : O} (x : RH K (r.ban a) h H) (ho : RO K (r.snoc a) H a o) : RH K (r.snoc a) (h ++ [o]) H := by
  have w : Wx (r.ban a) (r.snoc a) H H := Wx.take
  have nd := x.nd
  have ndx : (r.ix ++ a :: r.bn).Nodup := nd
  refine ⟨by show (r.ix ++ [a]).length = _; have := x.len; simp; exact this, ?_, fun i b q p e => ?_, fun b m => x.bt b (List.mem_cons_of_mem _ m)⟩
  · show ((r.ix ++ [a]) ++ r.bn).Nodup
    rw [List.append_assoc]
    exact ndx
  · have p' : (r.ix ++ [a])[i]? = some b := p
    have xl : r.ix.length = h.length := x.len
    by_cases hi : i < r.ix.length
    · rw [List.getElem?_append_left hi] at p'
      rw [List.getElem?_append_left (by rw [← xl]; exact hi)] at e
      exact (x.at_ i b q p' e).wmono w rfl
    · have hi' : i = r.ix.length := by
        have := (List.getElem?_eq_some_iff.mp p').1
        simp at this; omega
      subst hi'
      rw [List.getElem?_append_right (Nat.le_refl _)] at p'
      rw [List.getElem?_append_right (by rw [xl]; exact Nat.le_refl _), xl] at e
      simp at p' e
      subst p'; subst e
      exact ho
theorem Ext.snoc (e : Ext r r2 H H3) (n : H a = none) : Ext r (r2.snoc a) H H3 :=
  ⟨fun i b q => by
    show (r2.ix ++ [a])[i]? = some b
    have := e.pre i b q
    rw [List.getElem?_append_left (List.getElem?_eq_some_iff.mp this).1]; exact this, e.bn, e.bk, e.keep, fun b m k => by
    rcases m with m | m
    · rcases List.mem_append.mp m with m | m
      · exact e.new b (.inl m) k
      · rw [List.mem_singleton.mp m]; exact n
    · exact e.new b (.inr m) k, e.dom⟩
variable {elt tg iter : Expr} {ifs : List Expr} {fe : EF} {fi : IF} {t : Tg} {pos : Pos} {tt : TF}
def dprs : List (EF × EF) → Env' → DH → Option (List Key × List D × DH)
  | [], _, h => some ([], [], h)
  | (fk, fv) :: r, env, h => match fk env h with
    | .ok k h1 => (match fv env h1, keyOf k with
      | .ok v h2, some kk => (match dprs r env h2 with
        | some (ks, ds, h3) => some (kk :: ks, v :: ds, h3)
        | none => none)
      | _, _ => none)
    | _ => none
def dspE (own : Bool) (ps : List (EF × EF)) : EF := fun env h => match dprs ps env h with
  | some (ks, ds, h1) => if ks.Nodup ∧ ks.length ≤ 15 then (if own = true then .ok (.ref h1.length) (h1 ++ [.dk ks ds]) else .ok (.dk ks ds) h1) else .bad
  | none => .bad
theorem dprs_run : ∀ (ps : List (EF × EF)) (r : Rg) (h h2 : DH) (H : Hp) (ks : List Key) (ds : List D) (Q : List (V × V) → Hp → Prop), RH K r h H → RS K r H env σ → dprs ps env h = some (ks, ds, h2) →
    (∀ r2 H2 vs, Ext r r2 H H2 → RH K r2 h2 H2 → RVs K r2 H2 ds vs → ks.length = vs.length → Q ((ks.zip vs).map fun kv => (kV kv.1, kv.2)) H2) → tPairs (ps.map fun p => (tE K W p.1, tE K W p.2)) σ H Q
  | [], r, h, h2, H, ks, ds, Q, rh, rs, e, q => by
    unfold dprs at e
    cases e
    exact q r H [] .refl rh .nil rfl
  | (fk, fv) :: ps, r, h, h2, H, ks, ds, Q, rh, rs, e, q => by
    unfold dprs at e
    split at e
    · rename_i k h3 e1
      split at e
      · rename_i v h4 kk e2 e3
        split at e
        · rename_i ks' ds' h5 e4
          cases e
          refine ⟨r, env, h, rh, rs, ?_⟩
          dsimp only
          rw [e1]
          intro kv r3 H3 ex3 rh3 rk
          refine ⟨r3, env, h3, rh3, rs.mono ex3, ?_⟩
          rw [e2]
          intro vv r4 H4 ex4 rh4 rv
          refine dprs_run ps r4 h4 h2 H4 ks' ds' _ rh4 ((rs.mono ex3).mono ex4) e4 fun r5 H5 vs ex5 rh5 qs hl => ?_
          have := q r5 H5 (vv :: vs) ((ex3.trans ex4).trans ex5) rh5 (.cons (rv.mono ex5) qs) (by simp [hl])
          rw [keyOf_at e3 rk]
          exact this
        · cases e
      · cases e
    · cases e
theorem merge_new : ∀ (ps acc : List (Key × V)), (acc.map Prod.fst ++ ps.map Prod.fst).Nodup → mergeK acc ps = acc ++ ps
  | [], acc, _ => by simp [mergeK]
  | p :: ps, acc, nd => by
    have n : valV acc p.1 = none := by
      cases e : valV acc p.1 with
      | none => rfl
      | some v =>
        have h1 := valV_any p.1 acc
        rw [e] at h1
        obtain ⟨kv, m, e2⟩ := List.any_eq_true.mp h1
        exact absurd (of_decide_eq_true e2) ((List.nodup_append.mp nd).2.2 _ (List.mem_map_of_mem m) _ (by simp))
    have ih := merge_new ps (acc ++ [p]) (by simpa [List.map_append, List.append_assoc] using nd)
    show mergeK (putK acc p.1 p.2) ps = _
    rw [putK_new p.2 n, ih]
    simp
theorem de_disp {keys : List (Option Expr)} {values : List Expr} {ps : List (EF × EF)} (own : Bool) (hp : PPs X pos keys values (ps.map fun p => (tE X.K W p.1, tE X.K W p.2))) (hall : keys.all (·.isSome) = true := by rfl) (hl : keys.length = values.length := by rfl) (h0 : keys ≠ [] := by decide)
    (h15 : keys.length ≤ 15 := by decide) : PE X (.Dict keys values pos) (tE X.K W (dspE own ps)) :=
  PE.imp (pe_disp hp hall hl h0 h15) fun σ H Q ⟨r, env, h, rh, rs, p⟩ => by
    intro q hq
    unfold dspE at p
    split at p
    · rename_i ks ds h1 e1
      split at p
      · rename_i hc
        obtain ⟨w0, rh0⟩ := rh.hide (o := .dK []) hq
        obtain ⟨e0, _⟩ := rh.lay (o := .dK []) hq
        have nb := rh.out hq
        refine dprs_run ps (r.ban q) h h1 _ ks ds _ rh0 (rs.wmono w0) e1 fun r2 H2 vs ex rh2 qs hl => ?_
        obtain ⟨ix2, bn2⟩ := r2
        obtain rfl : bn2 = q :: r.bn := ex.bn
        have at2 : H2 q = some (.dK []) := (ex.bk q List.mem_cons_self).trans upd_same
        have keysz : (ks.zip vs).map Prod.fst = ks := List.map_fst_zip (by omega)
        refine ⟨at2, ks.zip vs, rfl, by rw [List.length_zip]; omega, ?_⟩
        rw [merge_new _ [] (by rw [keysz]; simpa using hc.1), List.nil_append]
        obtain ⟨w5, rh5⟩ := RH.rehide (r := ⟨ix2, r.bn⟩) (a := q) (u := .dK (ks.zip vs)) rh2
        have ex5 : Ext r ⟨ix2, r.bn⟩ H (upd H2 q (.dK (ks.zip vs))) := Ext.under (r1 := r) (r2 := ⟨ix2, r.bn⟩) e0 ex hq nb (fun b hb => upd_ne hb) (by rw [upd_same]; simp)
        have q5 := qs.wmono w5
        cases own with
        | true =>
          rw [if_pos rfl] at p
          refine p _ (Rg.snoc ⟨ix2, r.bn⟩ q) _ (ex5.snoc hq) (RH.take (r := ⟨ix2, r.bn⟩) (o := .dk ks ds) rh5 ⟨vs, upd_same, hl, q5.wmono Wx.take⟩) ?_
          simp only [RV]
          have xl : ix2.length = h1.length := rh5.len
          exact ⟨q, by show (ix2 ++ [q])[h1.length]? = some q; rw [← xl]; simp, rfl⟩
        | false =>
          rw [if_neg Bool.false_ne_true] at p
          obtain ⟨wsh, rh6⟩ := RH.show_ (r := ⟨ix2, r.bn⟩) (a := q) rh5
          refine p _ ⟨ix2, r.bn⟩ _ ex5 rh6 ?_
          simp only [RV]
          exact ⟨q, vs, rfl, .inl upd_same, Rg.ban_out (r := ⟨ix2, r.bn⟩) rh5, hl, q5.wmono wsh⟩
      · exact p.elim
    · exact p.elim
theorem dpp_nil : PPs X pos [] [] (([] : List (EF × EF)).map fun p => (tE X.K W p.1, tE X.K W p.2)) := pps_nil
theorem dpp_cons {k v : Expr} {ks : List (Option Expr)} {vs : List Expr} {fk fv : EF} {ps : List (EF × EF)} (hk : PE X k (tE X.K W fk)) (hv : PE X v (tE X.K W fv)) (hr : PPs X pos ks vs (ps.map fun p => (tE X.K W p.1, tE X.K W p.2))) :
    PPs X pos (some k :: ks) (v :: vs) (((fk, fv) :: ps).map fun p => (tE X.K W p.1, tE X.K W p.2)) := pps_cons hk hv hr
end
end Dt
namespace Dt
open PySem PySem.Spec PyProof.Rows L2
def LsAt (h : DH) (d : D) (ds : List D) : Prop := d = .lst ds ∨ ∃ n, d = .ref n ∧ h[n]? = some (.lst ds)
section
variable {α : Type} {h h' : DH} {d x y : D} {ds : List D} {n : Nat}
theorem LsAt.frz : LsAt h (.lst ds) ds := .inl rfl
theorem LsAt.ref (e : h[n]? = some (.lst ds)) : LsAt h (.ref n) ds := .inr ⟨n, rfl, e⟩
theorem LsAt.lsq (l : LsAt h d ds) : lsq h d = some ds := by
  rcases l with rfl | ⟨n, rfl, e⟩
  · rfl
  · simp [Dt.lsq, e]
theorem LsAt.sq (l : LsAt h d ds) : sq h d = some ds := by
  rcases l with rfl | ⟨n, rfl, e⟩
  · rfl
  · simp [Dt.sq, Dt.lsq, e]
theorem LsAt.len (l : LsAt h d ds) : lenD [d] h = .ok (.int ds.length) h := by
  rcases l with rfl | ⟨n, rfl, e⟩
  · rfl
  · exact ev_lenR e
theorem LsAt.ix (l : LsAt h d ds) {i : Nat} (e : ds[i]? = some x) : ixD d (.int i) h = .ok x h := by
  rcases l with rfl | ⟨n, rfl, e1⟩
  · exact ev_ixL e
  · exact ev_ixR e1 e
theorem LsAt.it (l : LsAt h d ds) : ∃ so, sqI d h = .ok ⟨so, ds⟩ h ∧ (∀ p ∈ so, d = .ref p.1 ∧ p.2 = ds) ∧ ∀ es, srcOk ⟨so, es⟩ h := by
  rcases l with rfl | ⟨n, rfl, e⟩
  · exact ⟨[], rfl, by simp, fun _ => so_nil⟩
  · exact ⟨[(n, ds)], ev_sqR e, by simp, fun _ => so_one e⟩
theorem LsAt.zs (l : LsAt h d ds) : ∃ so, zsrc h d = some (false, so, ds) ∧ (∀ p ∈ so, d = .ref p.1 ∧ p.2 = ds) ∧ ∀ p ∈ so, h[p.1]? = some (.lst p.2) := by
  rcases l with rfl | ⟨n, rfl, e⟩
  · exact ⟨[], rfl, by simp, by simp⟩
  · exact ⟨[(n, ds)], by simp [zsrc, e], by simp, by simpa using e⟩
theorem LsAt.tup (l : LsAt h d ds) (hl : ds.length ≤ 1000000) : tupleD [d] h = .ok (.tup ds) h := by
  rcases l with rfl | ⟨n, rfl, e⟩
  · exact ev_mkT hl
  · exact ev_tupR e hl
theorem LsAt.keep (l : LsAt h d ds) (k : ∀ n, d = .ref n → h'[n]? = h[n]?) : LsAt h' d ds := by
  rcases l with rfl | ⟨n, rfl, e⟩
  · exact .frz
  · exact .ref ((k n rfl).trans e)
theorem LsAt.app (l : LsAt h d ds) (g : DH) : LsAt (h ++ g) d ds := by
  rcases l with rfl | ⟨n, rfl, e⟩
  · exact .frz
  · exact .ref (get_app e g)
theorem ev_neI {i j : Int} : neD (.int i) (.int j) h = .ok (.bl (!decide (i = j))) h := by
  have e : eqB (.int i) (.int j) h = some (PyData.eqv (.int i) (.int j)) := by
    unfold eqB
    simp [toP, SeqAt.shaped, PyData.canLay0, PyData.depth]
  unfold neD
  rw [e]
  simp only [PyData.eqv]
  by_cases hij : i = j <;> simp [hij]
theorem toP_int {k : Nat} {ns : List Int} : mapO (toP h (k + 1)) (ns.map D.int) = some (ns.map PyData.int) := mapO_map fun _ _ => rfl
theorem toP_tInt {k : Nat} {ns : List Int} : toP h (k + 2) (.tup (ns.map D.int)) = some (.tuple (ns.map .int)) := by
  show (mapO (toP h (k + 1)) (ns.map D.int)).map PyData.tuple = _
  rw [toP_int]; rfl
theorem lay_int : ∀ {ns : List Int}, PyData.canLayAll0 (ns.map PyData.int) = true ∧ PyData.depthAll (ns.map PyData.int) = 0
  | [] => by simp [PyData.canLayAll0, PyData.depthAll]
  | n :: ns => by
    obtain ⟨a, b⟩ := lay_int (ns := ns)
    simp [PyData.canLayAll0, PyData.canLay0, PyData.depthAll, PyData.depth, a, b]
/-- a part of a tuple, from its second item on -/
theorem cut1 (d : D) (ds : List D) : cutD (d :: ds) (some 1) none = ds := by
  unfold cutD
  have e1 : HT.sIx (d :: ds).length 0 (some 1) = 1 := by simp [HT.sIx]
  have e2 : HT.sIx (d :: ds).length (d :: ds).length none = ds.length + 1 := by simp [HT.sIx]
  rw [e1, e2]
  simp
theorem ev_intB {b : Bool} : intD [.bl b] h = .ok (.int (if b = true then 1 else 0)) h := rfl
theorem ev_neg {i : Int} : negD (.int i) h = .ok (.int (-i)) h := rfl
@[simp] theorem ev_eorT {fa fb : EF} {env : Env'} : eorT fa fb env h = bd (fa env h) fun a h1 => match truD h1 a with
  | some b => if b = true then .ok a h1 else fb env h1
  | none => .bad := rfl
/-- sizes that no sum or product of ours leaves -/
def Sm (x : Int) : Prop := -1000000000000000000000000000000 ≤ x ∧ x ≤ 1000000000000000000000000000000
theorem Sm.smal {x : Int} (s : Sm x) : smal x := by
  unfold Sm at s
  unfold Dt.smal
  omega
/-- the bound, either way -/
def bnd (n : Int) : Int := max (-1000000000000) (min 1000000000000 n)
theorem bnd_le (n : Int) : -1000000000000 ≤ bnd n ∧ bnd n ≤ 1000000000000 := by unfold bnd; omega
theorem Sm.bnd {n : Int} : Sm (Dt.bnd n) := by
  have := bnd_le n
  unfold Sm
  omega
end
end Dt
namespace Dt
open PySem PySem.Spec PyProof.Rows L2
section
variable {X : Cx} {W : WX} {K : PySem.W.Frag} {r r0 r1 : Rg} {h : DH} {H H1 : Hp} {d x y : D} {v u : V} {σ : L2.St} {Q : VK} {ds : List D} {vs : List V}
def idxV (y : V) : List V → Option Nat
  | [] => none
  | z :: zs => if eqV z y = true then some 0 else (idxV y zs).map (· + 1)
def lindexD (x : D) (xs : List D) (h : DH) : Rs D := match xs with
  | [y] => match fl y, (lsq h x).bind (mapO fl) with
    | some w, some ws => match idxV w ws with
      | some j => .ok (.int j) h
      | none => .bad
    | _, _ => .bad
  | _ => .bad
def rMaxT (K : PySem.W.Frag) : List V → Hp → VK → Prop := fun vs H Q => ∃ (a : Addr) (n : Int) (ns : List Int), vs = [V.ref a] ∧ SqT K H a ((n :: ns).map V.int) ∧ Q (.int (ns.foldl max n)) H
def rMinT (K : PySem.W.Frag) : List V → Hp → VK → Prop := fun vs H Q => ∃ (a : Addr) (n : Int) (ns : List Int), vs = [V.ref a] ∧ SqT K H a ((n :: ns).map V.int) ∧ Q (.int (ns.foldl min n)) H
theorem alike_of (ns : List Int) : PySem.W.AlikeAll (ns.map PyData.int) := by
  refine ⟨fun x hx y hy => ?_, fun x hx => ?_⟩
  · obtain ⟨a, _, rfl⟩ := List.mem_map.mp hx
    obtain ⟨b, _, rfl⟩ := List.mem_map.mp hy
    simp [PySem.W.alike]
  · obtain ⟨a, _, rfl⟩ := List.mem_map.mp hx
    simp
theorem dInts0 : ∀ ns : List Int, PyData.depthAll (ns.map PyData.int) = 0
  | [] => rfl
  | n :: ns => by simp [PyData.depthAll, PyData.depth, dInts0 ns]
theorem cr_maxT (hc : X.calm = true) (hu : X.A.units + 1 < cLine) : CallR X (.builtin "max") (rMaxT X.K) := by
  intro pins s σ H vs us Q I r h
  obtain ⟨a, n, ns, rfl, ht, q⟩ := h
  obtain ⟨its, rv, tl, hz⟩ := I.tuple ht
  rw [Vals.ref1 r]
  obtain ⟨as, rd⟩ := Dp.readsAll I ((n :: ns).map PyData.int) _ its (WS.dp_ints (n :: ns)) rv
  refine PySem.W.max_tuple_data (I.ok.hd hc) (vs := its.toArray) (show s.heap.IsTuple a its.toArray from tl) (by simpa using rd) (alike_of (n :: ns)) (by have := dInts0 (n :: ns); rw [show (PyData.int n :: ns.map PyData.int) = (n :: ns).map PyData.int from rfl, this]; omega) fun i v h' tk bs hv hr hk => ?_
  rw [PySem.W.maxD_ints] at hr
  obtain ⟨t, rfl⟩ : ∃ t, v = .int (ns.foldl max n) t := by cases hr; exact ⟨_, rfl⟩
  exact ⟨.int _, H, I.kept hk, ⟨t, rfl⟩, q⟩
theorem cr_minT (hc : X.calm = true) (hu : X.A.units + 1 < cLine) : CallR X (.builtin "min") (rMinT X.K) := by
  intro pins s σ H vs us Q I r h
  obtain ⟨a, n, ns, rfl, ht, q⟩ := h
  obtain ⟨its, rv, tl, hz⟩ := I.tuple ht
  rw [Vals.ref1 r]
  obtain ⟨as, rd⟩ := Dp.readsAll I ((n :: ns).map PyData.int) _ its (WS.dp_ints (n :: ns)) rv
  refine PySem.W.min_tuple_data (I.ok.hd hc) (vs := its.toArray) (show s.heap.IsTuple a its.toArray from tl) (by simpa using rd) (alike_of (n :: ns)) (by have := dInts0 (n :: ns); rw [show (PyData.int n :: ns.map PyData.int) = (n :: ns).map PyData.int from rfl, this]; omega) fun i v h' tk bs hv hr hk => ?_
  rw [PySem.W.minD_ints] at hr
  obtain ⟨t, rfl⟩ : ∃ t, v = .int (ns.foldl min n) t := by cases hr; exact ⟨_, rfl⟩
  exact ⟨.int _, H, I.kept hk, ⟨t, rfl⟩, q⟩
def maxqD (xs : List D) (h : DH) : Rs D := match xs with
  | [.tup ds] => match toI ds with
    | some (n :: ns) => .ok (.int (ns.foldl max n)) h
    | _ => .bad
  | xs => max1D xs h
def minqD (xs : List D) (h : DH) : Rs D := match xs with
  | [.tup ds] => match toI ds with
    | some (n :: ns) => .ok (.int (ns.foldl min n)) h
    | _ => .bad
  | xs => min1D xs h
theorem cd_maxq : CallD K maxqD (fun vs H Q => rMax K vs H Q ∨ rMaxT K vs H Q) := by
  intro r0 h H xs vs W σ Q rh rx p
  unfold maxqD at p
  split at p
  · obtain ⟨v, rfl, rv⟩ := rx.inv1
    split at p
    · rename_i n ns e
      obtain ⟨a, ys, rfl, f, q⟩ := tsq_at rv rfl
      rw [toI_map e] at q
      have : ys = (n :: ns).map V.int := by
        have key : ∀ (k : List Int) (ws : List V), RVs K r0 H (k.map D.int) ws → ws = k.map V.int := fun k => by
          induction k with
          | nil => intro ws q; exact q.inv0
          | cons i k ih =>
            intro ws q
            obtain ⟨v, t, rfl, a, b⟩ := q.inv
            rw [rv_int.mp a, ih t b]
            rfl
        exact key _ _ q
      subst this
      exact .inr ⟨a, n, ns, rfl, f, po_v rh (rv_int.mpr rfl) p⟩
    · exact p.elim
  · exact .inl (cd_max1 r0 h H _ vs W σ Q rh rx p)
theorem cd_minq : CallD K minqD (fun vs H Q => rMin K vs H Q ∨ rMinT K vs H Q) := by
  intro r0 h H xs vs W σ Q rh rx p
  unfold minqD at p
  split at p
  · obtain ⟨v, rfl, rv⟩ := rx.inv1
    split at p
    · rename_i n ns e
      obtain ⟨a, ys, rfl, f, q⟩ := tsq_at rv rfl
      rw [toI_map e] at q
      have : ys = (n :: ns).map V.int := by
        have key : ∀ (k : List Int) (ws : List V), RVs K r0 H (k.map D.int) ws → ws = k.map V.int := fun k => by
          induction k with
          | nil => intro ws q; exact q.inv0
          | cons i k ih =>
            intro ws q
            obtain ⟨v, t, rfl, a, b⟩ := q.inv
            rw [rv_int.mp a, ih t b]
            rfl
        exact key _ _ q
      subst this
      exact .inr ⟨a, n, ns, rfl, f, po_v rh (rv_int.mpr rfl) p⟩
    · exact p.elim
  · exact .inl (cd_min1 r0 h H _ vs W σ Q rh rx p)
theorem ev_maxq {n : Int} {ns : List Int} : maxqD [.tup ((n :: ns).map D.int)] h = .ok (.int (ns.foldl max n)) h := by
  have e := toI_ints (n :: ns)
  unfold maxqD
  simp only [e]
theorem ev_minq {n : Int} {ns : List Int} : minqD [.tup ((n :: ns).map D.int)] h = .ok (.int (ns.foldl min n)) h := by
  have e := toI_ints (n :: ns)
  unfold minqD
  simp only [e]
end
end Dt
namespace Dt
open PySem PySem.Spec PyProof.Rows L2
section
variable {prog : Program} {w : World} {A : Around} {E : Value → Shared → Prop} {s : Shared}
end
section
variable {X : Cx} {W : WX} {K : PySem.W.Frag}
end
end Dt
namespace Dt
open PySem PySem.Spec PyProof.Rows L2
section
variable {X : Cx}
end
end Dt
namespace Dt
open PySem PySem.Spec PyProof.Rows L2
section
variable {X : Cx} {W : WX} {K : PySem.W.Frag} {r r1 : Rg} {h : DH} {H H1 : Hp} {env : Env'} {σ : L2.St} {P : Program} {w : World}
variable {kx tg iter : Expr} {ifs : List Expr} {fk : EF} {fi : IF} {t : Tg} {tt : TF} {pos : Pos} {x : Str} {p q : Pos}
end
end Dt
namespace Dt
open PySem PySem.Spec PyProof.Rows L2
abbrev TupQ := Str × List Str
def strsB : List Value → List Str → Bool
  | [], [] => true
  | .str y _ :: vs, z :: zs => decide (y = z) && strsB vs zs
  | _, _ => false
theorem strsB_ok : ∀ {vs : List Value} {zs : List Str}, strsB vs zs = true → Vals (zs.map V.str) vs
  | [], [], _ => .nil
  | .str y t :: vs, z :: zs, h => by
    simp only [strsB, Bool.and_eq_true, decide_eq_true_eq] at h
    obtain ⟨rfl, h2⟩ := h
    exact .cons ⟨t, rfl⟩ (strsB_ok h2)
def tupB (K : PySem.W.Frag) (q : TupQ) : Bool := match K.lookup (He.ga K q.1) with
  | some ⟨.type c, _, .seq its _, _⟩ => decide (c = "tuple") && (decide (its.size ≤ 1000) && strsB its.toList q.2)
  | _ => false
def TupK (K : PySem.W.Frag) (x : Str) (zs : List Str) : Prop := WrT K (He.ga K x) (zs.map V.str)
theorem tupB_ok {K : PySem.W.Frag} {q : TupQ} (h : tupB K q = true) : TupK K q.1 q.2 := by
  unfold tupB at h
  split at h
  · rename_i c od its n sl e
    simp only [Bool.and_eq_true, decide_eq_true_eq] at h
    obtain ⟨rfl, h2, h3⟩ := h
    exact ⟨_, its, n, e, rfl, rfl, Nat.le_trans h2 (by decide +kernel), strsB_ok h3⟩
  · cases h
section
variable {X : Cx} {W : WX} {K : PySem.W.Frag} {x : Str} {pos : Pos}
end
theorem tlk_none : ∀ {t : Tb} {x : Str}, tlk t x = none → x ∉ t.map (·.1)
  | [], _, _ => by simp
  | (k, v) :: r, x, e => by
    unfold tlk at e
    split at e
    · cases e
    · rename_i hk
      intro m
      rcases List.mem_cons.mp m with q | q
      · exact hk q.symm
      · exact tlk_none e q
section
variable {X : Cx} {W : WX} {K : PySem.W.Frag} {a : Addr} {t : Tb} {e e2 : Expr} {fa fb : EF} {pos : Pos} {w : World}
theorem dic_none {P : Params} {z : Str} : ∀ {l : List DictEntry} {ks : List Str}, l.map He.keyOf = He.keysIn P ks → z ∉ ks → l.find? (·.key.isStr z) = none ∧ l.any (·.refKey) = false
  | [], _, _, _ => ⟨rfl, rfl⟩
  | e :: l, [], h, _ => by cases h
  | e :: l, k :: ks, h, hz => by
    have h1 : He.keyOf e :: l.map He.keyOf = some (k, PyData.keyHash P k) :: He.keysIn P ks := h
    injection h1 with h2 h3
    obtain ⟨i1, i2⟩ := dic_none h3 fun m => hz (List.mem_cons_of_mem _ m)
    unfold He.keyOf at h2
    split at h2
    · rename_i y u q
      obtain ⟨rfl, _⟩ := Prod.mk.inj (Option.some.inj h2)
      have hne : y ≠ z := fun m => hz (m ▸ List.mem_cons_self)
      have b1 : e.key.isStr z = false := by
        rw [q]
        show (y == z) = false
        simpa using hne
      have b2 : e.refKey = false := by unfold DictEntry.refKey; rw [q]
      exact ⟨by rw [List.find?_cons, b1]; exact i1, by rw [List.any_cons, b2, i2]; rfl⟩
    · cases h2
theorem TabK.ns (T : TabK K w a t) (s : Str) : ∃ r, PySem.W.nsIn K a s = some r ∧ r.isSome = (tlk t s).isSome := by
  cases e : tlk t s with
  | some v =>
    obtain ⟨u, h1, _⟩ := He.valsB_ok T.val (tlk_mem e)
    exact ⟨some u, h1, rfl⟩
  | none =>
    have nk := tlk_none e
    refine ⟨none, ?_, rfl⟩
    have k := T.key
    unfold He.dicW at k
    split at k
    · rename_i c es n sl q
      split at k
      · obtain ⟨i1, i2⟩ := dic_none (Option.some.inj k) nk
        unfold PySem.W.nsIn
        rw [q]
        dsimp only
        rw [i1]
        dsimp only
        rw [i2]
        rfl
      · cases k
    · cases k
end
abbrev AlY : Type := AlX × Bool
def obsY (fa : List He.Fa) (fn : List He.DefD) (ts : List TabQ) (us : List TupQ) (K : PySem.W.Frag) : AlY := (obsX fa fn ts K, us.all (tupB K))
def obsYG (n : Nat) (fa : List He.Fa) (fn : List He.DefD) (ts : List TabQ) (us : List TupQ) (g : Addr → Option Obj) : AlY := obsY fa fn ts us (He.frG g (He.asD g n))
def SaysY (fa : List He.Fa) (fn : List He.DefD) (ts : List TabQ) (us : List TupQ) (w : World) (K : PySem.W.Frag) : Prop := obsY fa fn ts us K = ((He.valT fn (tabN ts) w, true), true)
def hookY (n : Nat) (fa : List He.Fa) (fn : List He.DefD) (ts : List TabQ) (us : List TupQ) : PySem.W.Hook where
  α := AlY
  obs := fun s => obsYG n fa fn ts us s.heap.get?
  val := fun w => ((He.valT fn (tabN ts) w, true), true)
  says := fun w h => ∃ K : PySem.W.Frag, K.In h ∧ SaysY fa fn ts us w K
  of := fun w s e => ⟨He.frG s.heap.get? (He.asD s.heap.get? n), He.frG_in, show SaysY fa fn ts us w _ from e⟩
  keeps := fun _ _ _ ⟨K, hK, c⟩ k => ⟨K, PySem.W.Frag.In.keeps hK k, c⟩
theorem obsYG_eq {n : Nat} {fa : List He.Fa} {fn : List He.DefD} {ts : List TabQ} {us : List TupQ} {g : Addr → Option Obj} {s : Shared} (h : ∀ a, g a = s.heap.get? a) : obsYG n fa fn ts us g = (hookY n fa fn ts us).obs s := by
  rw [funext h]; rfl
section
variable {fa : List He.Fa} {fn : List He.DefD} {ts : List TabQ} {us : List TupQ} {w : World} {K : PySem.W.Frag}
theorem SaysY.x (c : SaysY fa fn ts us w K) : SaysX fa fn ts w K := congrArg Prod.fst c
theorem SaysY.d (c : SaysY fa fn ts us w K) : He.SaysD fa fn K := c.x.d
theorem SaysY.tup (c : SaysY fa fn ts us w K) (i : Nat) {q : TupQ} (h : us[i]? = some q := by rfl) : TupK K q.1 q.2 :=
  tupB_ok (List.all_eq_true.mp (congrArg Prod.snd c : us.all (tupB K) = true) q (List.mem_of_getElem? h))
end
end Dt
namespace Dt
open PySem PySem.Spec PyProof.Rows L2
structure FnG (P : Program) (w : World) (K : PySem.W.Frag) (mg : Str → Option Value) (base : Heap) (CX : CXT) (k : Nat) (f : Addr) (fd : FuncData) (ps : List Str) (sp : Sp) : Prop where
  len : ∀ vs H Q E, sp vs H Q E → vs.length = ps.length
  run : ∀ (A : Around) (outer : List Env) (s : Shared) (H : Hp) (args : Args) (us : List Value) (vs : List V) (Q : VK) (E : XK), A.guards = some [] → Room k A → Env0 P w K mg base A outer s H → BindsTo s fd args (ps.zip us) → Vals vs us → sp vs H Q E →
    codeAny (model P w) A (.call (.ref f) args) (CR CX outer P w H s Q E) s
section
variable {P : Program} {w : World} {K : PySem.W.Frag} {mg : Str → Option Value} {base : Heap}
theorem okG {CX : CXT} {x qual : Str} {params : Arguments} {body : List Stmt} {scope : Scope} {dvs : List V} {kws : List (Str × V)} {f : Addr} {fd : FuncData} {N ps : List Str} {k : Nat} {sp : Sp} (F : FunD K x qual params body scope dvs kws f fd) (S : FnScope N ps scope) (len : ∀ vs H Q E, sp vs H Q E → vs.length = ps.length)
    (hbody : ∀ (cdv : Value) (A : Around) (outer : List Env) (s : Shared) (H : Hp) (vs : List V) (Q : VK) (E : XK), (cxOf CX P w K mg base N qual scope f cdv A outer s H E).A.guards = some [] → Room k (A.deeper (envOfC qual scope s.heap.objs.size f cdv)) → sp vs H Q E →
      ∃ t, PSs (cxOf CX P w K mg base N qual scope f cdv A outer s H E) body t ∧ t { nx := fun _ H' => Q .non H', rt := Q } (L2.start N vs) H) : FnG P w K mg base CX (k + 1) f fd ps sp := by
  obtain ⟨oc, od, dV, kV, doc, pm, an, cdv, ct, osl, rfl, lk, hcd, _, _⟩ := F.ex
  refine ⟨len, fun A outer s H args us vs Q E hgd hr e0 hb r hsp => ?_⟩
  have hl := len _ _ _ _ hsp
  have old : ∀ b o, base.get? b = some o → s.heap.get? b = some o := fun b o e => (e0.bs b o e).1
  have KX : K.In s.heap := e0.mod.kin.keeps old
  refine codeAny_call_function hr.depth (KX _ _ lk) rfl S.co S.gen rfl (PySem.W.codeRec_of KX hcd) (hb _ _ _ _ (wpAny_newFunctionEnv_cells S.kind (fun y hy => ?_) fun env he s1 nw => ?_))
  · rcases S.par y.1 (List.of_mem_zip hy).1 with q | q
    · exact .inl q
    · exact .inr ⟨q, PySem.W.cellsFrom_some _ _ _ (.inl q)⟩
  · subst he
    refine ⟨(e0.mod.nolimit.keeps old).keeps nw.toInCall.keep, codeAny_func ?_⟩
    obtain ⟨t, ht, hq⟩ := hbody cdv A outer s H vs Q E hgd (hr.deeper _) hsp
    have I : Inv (cxOf CX P w K mg base N qual scope f cdv A outer s H E) [] (L2.start N vs) H s1 := inv_start S hr.hd e0 hl r nw
    have back : ∀ {s' : Shared} {σ' : L2.St} {H' : Hp} {v : V} {u : Value}, Inv (cxOf CX P w K mg base N qual scope f cdv A outer s H E) [] σ' H' s' → RelV v u → Q v H' → CE outer P w H s Q u s' := fun J rv q => ⟨_, _, J.os, J.bare, J.base, J.hok, rv, q⟩
    refine wpAny_mono (ht.run [] s1 (L2.start N vs) H _ I hq) (fun fl s' hs => ?_) fun e s' hs => hs
    cases fl with
    | ret u => obtain ⟨v, σ', H', J, rv, q⟩ := hs; exact back J rv q
    | next => obtain ⟨σ', H', J, q⟩ := hs; exact back (v := V.non) (u := Value.none) J rfl q
    | brk => obtain ⟨_, _, _, q⟩ := hs; exact False.elim q
    | cont => obtain ⟨_, _, _, q⟩ := hs; exact False.elim q
end
section
variable {X : Cx} {W : WX} {k : Nat} {f : Addr} {fd : FuncData} {ps : List Str} {G : FD} {nm : Str} {e : Expr} {es : List Expr} {as : AF} {p pos : Pos}
/-- a def's promise, where nothing is being shown -/
abbrev FnDG (P : Program) (w : World) (K : PySem.W.Frag) (mg : Str → Option Value) (base : Heap) (k : Nat) (f : Addr) (fd : FuncData) (ps : List Str) (G : FD) : Prop := FnG P w K mg base (L2.CX P w) k f fd ps (spD K ps.length G)
end
section
variable {P : Program} {w : World} {K : PySem.W.Frag} {mg : Str → Option Value} {base : Heap}
theorem fnG_raw {x qual : Str} {params : Arguments} {bd : List Stmt} {scope : Scope} {dvs : List V} {kws : List (Str × V)} {f : Addr} {fd : FuncData} {N ps : List Str} {k : Nat} {body : SF} (F : FunD K x qual params bd scope dvs kws f fd) (S : FnScope N ps scope)
    (hb : ∀ (cdv : Value) (A : Around) (outer : List Env) (s : Shared) (H : Hp) (E : XK), (cxOf (L2.CX P w) P w K mg base N qual scope f cdv A outer s H E).A.guards = some [] → Room k (A.deeper (envOfC qual scope s.heap.objs.size f cdv)) →
      PSs (cxOf (L2.CX P w) P w K mg base N qual scope f cdv A outer s H E) bd (tS K (WE E) body)) : FnDG P w K mg base (k + 1) f fd ps (raw N body) := by
  refine okG F S (fun vs H Q E ⟨r, h, ds, hl, rh, q, p⟩ => by rw [← q.length, hl]) (fun cdv A outer s H vs Q E gd hr ⟨r, h, ds, hl, rh, q, p⟩ => ⟨_, hb cdv A outer s H E gd hr, r, startD N ds, h, rh, RS.start q, ?_⟩)
  exact raw_exits K r H Q E rh p
end
end Dt
namespace Dt
open PySem PySem.Spec PyProof.Rows L2
section
variable {P : Program} {w : World} {K : PySem.W.Frag} {mg mb : Str → Option Value} {k : Nat} {fa a : Addr} {fd : FuncData} {x : Str} {s₁ : Shared} {vs : List Value} {ns : List Int} {G : FD}
/-- what is tracked at the law's call: the script, if it is no object of the module -/
noncomputable def trk (K : PySem.W.Frag) (a : Addr) (vs : List Value) (ns : List Int) : Hp := fun b => if b = a ∧ K.lookup a = none then some (.frz { cls := .type "list", data := .seq vs.toArray } (.lst (ns.map V.int))) else none
theorem trk_some {b : Addr} {u : HO} (e : trk K a vs ns b = some u) : b = a ∧ K.lookup a = none ∧ u = .frz { cls := .type "list", data := .seq vs.toArray } (.lst (ns.map V.int)) := by
  unfold trk at e
  split at e
  · rename_i c
    cases e
    exact ⟨c.1, c.2, rfl⟩
  · cases e
theorem law_callG (KX : K.In s₁.heap) (hns : s₁.heap.Ns mainGlobals mg) (hb : s₁.heap.Ns builtinsNs mb) (hbb : ∀ x : Str, x ≠ "__name__" → mb x = bootBuiltins x) (hlim : s₁.heap.NoLimit) (hg : s₁.gens = #[])
    (ha : s₁.heap.get? a = some { cls := .type "list", data := .seq vs.toArray }) (hi : IntsAre vs ns) (hl : ns.length ≤ sizeLine) (hr : Room k callerA)
    (F : ∀ base : Heap, K.In base → base.Ns mainGlobals mg → FnDG P w K mg base k fa fd [x] G) (hbind : ∀ (s : Shared) (u : Value), BindsTo s fd ⟨[u], []⟩ [(x, u)]) (hG : ∃ h, G [.scr ns] [] = .ok (.bl true) h) :
    codeAny (model P w) callerA (.call (.ref fa) ⟨[.ref a], []⟩) (fun r s' => r = .ok (.ret (.bool true)) ∧ OldK s₁.heap s'.heap ∧ s'.os = s₁.os ∧ AllBare s'.gens) s₁ := by
  have rv := vals_ints hi
  have lv := hi.length
  obtain ⟨H, eH⟩ : ∃ H, H = trk K a vs ns := ⟨_, rfl⟩
  have tr : ∀ {b : Addr} {u : HO}, H b = some u → b = a ∧ K.lookup a = none ∧ u = .frz { cls := .type "list", data := .seq vs.toArray } (.lst (ns.map V.int)) := fun e => trk_some (by rw [← eH]; exact e)
  have only : Only H := fun b => by
    cases e : H b with
    | none => exact .inl rfl
    | some u => exact .inr ⟨_, _, congrArg some (tr e).2.2⟩
  have hok : HOk P w H s₁.heap := fun b u e => by
    obtain ⟨rfl, _, rfl⟩ := tr e
    exact ⟨ha, by rw [List.length_map]; exact hl, vs, _, rv, ha⟩
  have sq : SqL K H a (ns.map V.int) := by
    cases e : K.lookup a with
    | none =>
      refine .inl (.inr ⟨{ cls := .type "list", data := .seq vs.toArray }, ?_⟩)
      rw [eH]
      exact if_pos ⟨rfl, e⟩
    | some o =>
      have q := KX a o e
      rw [ha] at q
      cases q
      exact .inr ⟨_, vs.toArray, _, e, rfl, rfl, rfl, by rw [List.size_toArray, lv]; exact hl, by simpa using rv⟩
  have clear : ∀ {b : Addr} {o : Obj}, s₁.heap.get? b = some o → (b = a → K.lookup a ≠ none) ∨ (∃ es ep, o.data = .dict es ep) → H b = none := fun {b o} e hc => by
    cases q : H b with
    | none => rfl
    | some u =>
      obtain ⟨rfl, n, _⟩ := tr q
      rcases hc with hc | ⟨es, ep, d⟩
      · exact absurd n (hc rfl)
      · rw [ha] at e
        cases e
        cases d
  have base_of : ∀ {b : Addr} {o : Obj}, s₁.heap.get? b = some o → H b = none → (hidT s₁.heap H).get? b = some o := fun e n => hidT_get e n
  have nsK : ∀ {b : Addr} {m : Str → Option Value}, s₁.heap.Ns b m → (hidT s₁.heap H).Ns b m := fun {b m} ⟨o, es, ep, e, d, r⟩ => ⟨o, es, ep, base_of e (clear e (.inr ⟨es, ep, d⟩)), d, r⟩
  have hKb : K.In (hidT s₁.heap H) := fun b o e => base_of (KX b o e) (clear (KX b o e) (.inl fun z => by rw [← z, e]; simp))
  have hM : Mod K mg (hidT s₁.heap H) := ⟨hKb, nsK hns, ⟨mb, nsK hb, hbb⟩, let ⟨mc, h1, h2⟩ := hlim; ⟨mc, nsK h1, h2⟩⟩
  have e0 : Env0 P w K mg (hidT s₁.heap H) callerA [] s₁ H := ⟨rfl, hM, fun b o e => of_hidT e, Nat.le_of_eq (hidT_size _ _), trivial, fun b hb => absurd (show b ∈ ([] : List Addr) from hb) (by simp), hok, .of_eq hg⟩
  refine codeAny_mono ((F _ hKb (nsK hns)).run callerA [] s₁ H ⟨[.ref a], []⟩ [.ref a] [.ref a] _ _ rfl hr e0 (hbind s₁ (.ref a)) (.cons rfl .nil) (law_in only sq (.inr hG))) fun r s' q => ?_
  cases r with
  | error e => exact (by obtain ⟨_, _, _, _, _, _, _, _, _, _, _, _, no⟩ := q; exact no.elim)
  | ok fl =>
    cases fl with
    | next => exact False.elim q
    | brk => exact False.elim q
    | cont => exact False.elim q
    | ret u =>
      obtain ⟨v, H', os, bare, un, hok', r', q⟩ := q
      have q' : v = .bl true := q
      subst q'
      obtain rfl : u = Value.bool true := r'
      refine ⟨rfl, OldK.of_keep fun b o e => ?_, os, bare⟩
      cases q : H b with
      | none => exact un.keep b o e q (by intro z; exact absurd (show b ∈ ([] : List Addr) from z) (by simp)) (by simp)
      | some u =>
        obtain ⟨_, _, eu⟩ := tr q
        rw [eu] at q
        obtain ⟨e1, _⟩ := hok b _ q
        obtain ⟨e2, _⟩ := hok' b _ (un.frzs b _ _ q)
        rw [e] at e1
        cases e1
        exact e2
end
theorem walk_dtG {l : PySem.W.OpenLaw} {n k : Nat} {q : Program} {loose : List Str} {XP : (Str → Option Value) → Heap → Prop} {YP : World → Heap → Prop} {d : DefRec} {x : Str}
    (hn : l.most = some n) (hn2 : n ≤ sizeLine) (hdf : d.params.defaults = []) (hr : Room k callerA)
    (F : ∀ (w : World) (mg : Str → Option Value) (fa : Addr) (h : Heap), YP w h → h.Ns mainGlobals mg → mg d.name = some (.ref fa) →
      ∃ (K : PySem.W.Frag) (fd : FuncData) (G : FD), K.In h ∧ (∀ (s : Shared) (u : Value), BindsTo s fd ⟨[u], []⟩ [(x, u)]) ∧ (∀ ns : List Int, ns.length ≤ n → ∃ h, G [.scr ns] [] = .ok (.bl true) h) ∧
        ∀ base : Heap, K.In base → base.Ns mainGlobals mg → FnDG l.prog w K mg base k fa fd [x] G) :
    PySem.W.WalkO q loose XP YP l.row.toRowW d [] (fun f vs => PySem.call f vs) := by
  refine Att.attach_call hn hdf ?_
  intro w s₀ s₁ mg mb fa o pm cd doc a vs ns G Y ho hd hcd hmg hobj hints hlen hg
  obtain ⟨K, fd, GG, KX, hb, hs, hF⟩ := F w mg fa _ Y G.T.g hmg
  exact law_callG KX G.T.g G.T.b G.T.builtins G.T.nolimit hg hobj hints (Nat.le_trans hlen hn2) hr hF hb (hs ns hlen)
end Dt
namespace Dt
open PySem PySem.Spec PyProof.Rows L2
def seqP : PyData → Bool
  | .tuple _ => true
  | .list _ => true
  | _ => false
open Classical in
noncomputable def strqD (x : D) (h : DH) : Rs D := match toP h 60 x with
  | some p => if seqP p = true ∧ PyData.depth p ≤ 60 ∧ p.showable = true ∧ p.hasDict = false ∧ p.shown.length ≤ 1000000 then .ok (.str p.shown) h else .bad
  | none => .bad
def rStrP (K : PySem.W.Frag) : List V → Hp → VK → Prop := fun xs H Q => ∃ (a : Addr) (d : PyData), xs = [.ref a] ∧ Dp K H (.ref a) d ∧ d.showable = true ∧ d.hasDict = false ∧ PyData.depth d ≤ 60 ∧ d.shown.length ≤ sizeLine ∧ Q (.str d.shown) H
section
variable {X : Cx} {W : WX} {K : PySem.W.Frag} {e : Expr} {fa : EF} {x : Str} {p pos : Pos}
end
end Dt
namespace Dt
open PySem PySem.Spec PyProof.Rows L2
section
variable {X : Cx} {W : WX} {K : PySem.W.Frag} {r r' : Rg} {h h' : DH} {H H' : Hp} {x : D} {v : V} {as : AF} {p pos : Pos} {e : Expr}
/-- a comprehension by what holds of what was made so far -/
theorem lcS_a {it : ItD} {t : Tg} {fe : EF} {env : Env'} (I : List D → DH → Prop) : ∀ (ds : List D) (k : Nat) (acc : List D) (h : DH), I acc h → acc.length = k → 
    (∀ acc h, I acc h → srcOk it h) → (∀ acc h d, I acc h → k ≤ acc.length → ds[acc.length - k]? = some d → ∃ e1 y h2, tgF t d env = some e1 ∧ fe e1 h = .ok y h2 ∧ I (acc ++ [y]) h2) → acc.length + ds.length ≤ 1000000 →
    ∃ ys h2, lcS it t tyes fe env ds acc h = .ok ys h2 ∧ ys.length = k + ds.length ∧ I ys h2
  | [], k, acc, h, hI, hk, so, _, _ => ⟨acc, h, by simp [lcS, so acc h hI], by simp [hk], hI⟩
  | d :: ds, k, acc, h, hI, hk, so, st, hl => by
    obtain ⟨e1, y, h2, a, b, c⟩ := st acc h d hI (by omega) (by rw [hk]; simp)
    have l1 : acc.length < 1000000 := by simp at hl; omega
    obtain ⟨ys, h3, e, l, i⟩ := lcS_a I ds (k + 1) (acc ++ [y]) h2 c (by simp [hk]) so (fun acc h z hj hk2 hz => st acc h z hj (by omega) (by
      have : acc.length - k = (acc.length - (k + 1)) + 1 := by omega
      rw [this, List.getElem?_cons_succ]; exact hz)) (by simp at hl ⊢; omega)
    refine ⟨ys, h3, ?_, by simp [l]; omega, i⟩
    unfold lcS
    simp [so acc h hI, a, b, l1, e]
theorem ev_lca {it : ItD} {t : Tg} {fe : EF} {env : Env'} {fi : IF} {vs : List Nat} (I : List D → DH → Prop) {h1 : DH} (hi : fi env h = .ok it h1) (h0 : I [] h1) (so : ∀ acc h, I acc h → srcOk it h)
    (st : ∀ acc h d, I acc h → it.items[acc.length]? = some d → ∃ e1 y h2, tgF t d (wipD env vs) = some e1 ∧ fe e1 h = .ok y h2 ∧ I (acc ++ [y]) h2) (hl : it.items.length ≤ 1000000) :
    ∃ ys h2, lcE fi t tyes fe vs env h = .ok (.lst ys) h2 ∧ ys.length = it.items.length ∧ I ys h2 := by
  obtain ⟨ys, h2, e, l, i⟩ := lcS_a (t := t) (fe := fe) (env := wipD env vs) (it := it) I it.items 0 [] h1 h0 rfl so (fun acc h d a _ b => st acc h d a (by simpa using b)) (by simpa using hl)
  refine ⟨ys, h2, ?_, by simpa using l, i⟩
  unfold lcE
  rw [hi]
  simp only [bd_ok]
  rw [e]
  rfl
end
end Dt
namespace Dt
open PySem PySem.Spec PyProof.Rows L2
mutual
def nr : D → Bool
  | .ref _ => false
  | .tup ds => nrs ds
  | .wt ds => nrs ds
  | .lst ds => nrs ds
  | .dk _ ds => nrs ds
  | .dt _ ds => nrs ds
  | _ => true
def nrs : List D → Bool
  | [] => true
  | d :: ds => nr d && nrs ds
end
mutual
def pln : D → Bool
  | .non => true
  | .bl _ => true
  | .int _ => true
  | .str _ => true
  | .tup ds => plns ds
  | .lst ds => plns ds
  | _ => false
def plns : List D → Bool
  | [] => true
  | d :: ds => pln d && plns ds
end
section
variable {K : PySem.W.Frag} {r r' : Rg} {H H' : Hp}
theorem Rd.conv (k : ∀ b u, H b = some u → b ∉ r → H' b = some u ∧ b ∉ r') {a : Addr} {u : HO} (x : Rd H a u) (n : a ∉ r) : Rd H' a u ∧ a ∉ r' := by
  rcases x with x | ⟨o, x⟩
  · exact ⟨.inl (k a _ x n).1, (k a _ x n).2⟩
  · exact ⟨.inr ⟨o, (k a _ x n).1⟩, (k a _ x n).2⟩
mutual
theorem RV.conv (k : ∀ b u, H b = some u → b ∉ r → H' b = some u ∧ b ∉ r') : ∀ {d : D} {v : V}, nr d = true → RV K r H d v → RV K r' H' d v
  | .non, _, _, x => by simp only [RV] at x ⊢; exact x
  | .bl _, _, _, x => by simp only [RV] at x ⊢; exact x
  | .int _, _, _, x => by simp only [RV] at x ⊢; exact x
  | .str _, _, _, x => by simp only [RV] at x ⊢; exact x
  | .con _, _, _, x => by simp only [RV] at x ⊢; exact x
  | .tup ds, _, n, x => by
    simp only [RV] at x ⊢
    obtain ⟨a, vs, rfl, f, y⟩ := x
    exact ⟨a, vs, rfl, k a _ f.1 f.2, RVs.conv k (by simpa only [nr] using n) y⟩
  | .wt ds, _, n, x => by
    simp only [RV] at x ⊢
    obtain ⟨a, vs, rfl, f, y⟩ := x
    exact ⟨a, vs, rfl, f, RVs.conv k (by simpa only [nr] using n) y⟩
  | .lst ds, _, n, x => by
    simp only [RV] at x ⊢
    obtain ⟨a, vs, rfl, f, y⟩ := x
    exact ⟨a, vs, rfl, k a _ f.1 f.2, RVs.conv k (by simpa only [nr] using n) y⟩
  | .scr ns, _, _, x => by
    simp only [RV] at x ⊢
    obtain ⟨a, rfl, f⟩ := x
    refine ⟨a, rfl, ?_⟩
    rcases f with ⟨h, n⟩ | h
    · exact .inl (Rd.conv k h n)
    · exact .inr h
  | .dk ks ds, _, n, x => by
    simp only [RV] at x ⊢
    obtain ⟨a, vs, rfl, f, m, l, y⟩ := x
    exact ⟨a, vs, rfl, (Rd.conv k f m).1, (Rd.conv k f m).2, l, RVs.conv k (by simpa only [nr] using n) y⟩
  | .dt ks ds, _, n, x => by
    simp only [RV] at x ⊢
    obtain ⟨a, vs, rfl, f, m, l, y⟩ := x
    exact ⟨a, vs, rfl, (Rd.conv k f m).1, (Rd.conv k f m).2, l, RVs.conv k (by simpa only [nr] using n) y⟩
  | .ref n, _, h, _ => by simp [nr] at h
theorem RVs.conv (k : ∀ b u, H b = some u → b ∉ r → H' b = some u ∧ b ∉ r') : ∀ {ds : List D} {vs : List V}, nrs ds = true → RVs K r H ds vs → RVs K r' H' ds vs
  | [], _, _, x => by simp only [RVs] at x ⊢; exact x
  | d :: ds, _, n, x => by
    simp only [RVs] at x ⊢
    obtain ⟨v, t, rfl, y, z⟩ := x
    have n' : nr d = true ∧ nrs ds = true := by simpa only [nrs, Bool.and_eq_true] using n
    exact ⟨v, t, rfl, RV.conv k n'.1 y, RVs.conv k n'.2 z⟩
end
mutual
theorem RV.back (k : ∀ b xs, (H b = some (.lst xs) → b ∉ r → H' b = some (.lst xs) ∧ b ∉ r') ∧ (H b = some (.tup xs) → b ∉ r → H' b = some (.tup xs) ∧ b ∉ r')) : ∀ {d : D} {v : V}, pln d = true → RV K r H d v → RV K r' H' d v
  | .non, _, _, x => by simp only [RV] at x ⊢; exact x
  | .bl _, _, _, x => by simp only [RV] at x ⊢; exact x
  | .int _, _, _, x => by simp only [RV] at x ⊢; exact x
  | .str _, _, _, x => by simp only [RV] at x ⊢; exact x
  | .con _, _, n, _ => by simp [pln] at n
  | .tup ds, _, n, x => by
    simp only [RV] at x ⊢
    obtain ⟨a, vs, rfl, f, y⟩ := x
    exact ⟨a, vs, rfl, (k a _).2 f.1 f.2, RVs.back k (by simpa only [pln] using n) y⟩
  | .lst ds, _, n, x => by
    simp only [RV] at x ⊢
    obtain ⟨a, vs, rfl, f, y⟩ := x
    exact ⟨a, vs, rfl, (k a _).1 f.1 f.2, RVs.back k (by simpa only [pln] using n) y⟩
  | .wt ds, _, n, _ => by simp [pln] at n
  | .scr ns, _, n, _ => by simp [pln] at n
  | .dk ks ds, _, n, _ => by simp [pln] at n
  | .dt ks ds, _, n, _ => by simp [pln] at n
  | .ref m, _, n, _ => by simp [pln] at n
theorem RVs.back (k : ∀ b xs, (H b = some (.lst xs) → b ∉ r → H' b = some (.lst xs) ∧ b ∉ r') ∧ (H b = some (.tup xs) → b ∉ r → H' b = some (.tup xs) ∧ b ∉ r')) : ∀ {ds : List D} {vs : List V}, plns ds = true → RVs K r H ds vs → RVs K r' H' ds vs
  | [], _, _, x => by simp only [RVs] at x ⊢; exact x
  | d :: ds, _, n, x => by
    simp only [RVs] at x ⊢
    obtain ⟨v, t, rfl, y, z⟩ := x
    have n' : pln d = true ∧ plns ds = true := by simpa only [plns, Bool.and_eq_true] using n
    exact ⟨v, t, rfl, RV.back k n'.1 y, RVs.back k n'.2 z⟩
end
end
section
variable {X : Cx} {W : WX} {e elt : Expr} {ifs : List Expr} {pos apos cpos tpos : Pos} {elts : List Expr} {kk : Nat} {t : Tg} {tt : TF} {fe : EF}
end
end Dt
namespace Dt
open PySem PySem.Spec PyProof.Rows L2
section
variable {X : Cx} {W : WX} {e elt tg : Expr} {ifs : List Expr} {pos : Pos} {t : Tg} {tt : TF} {fe : EF}
end
end Dt
namespace HT
open PySem PySem.Spec PyProof.Rows L2
section
variable {prog : Program} {w : World} {A : Around} {E : Value → Shared → Prop} {s : Shared}
theorem adjust_rev (n : Nat) : Builtin.Slice.sliceAdjust none none (-1) (n : Int) = ((n : Int) - 1, -1) := by
  unfold Builtin.Slice.sliceAdjust
  simp
theorem places_rev (n : Nat) : Builtin.Slice.slicePlaces ((n : Int) - 1) (-1) (-1) = n := by
  unfold Builtin.Slice.slicePlaces
  simp only [show ¬ ((-1 : Int) > 0) by omega, if_false, Int.neg_neg, Int.ediv_one]
  split <;> omega
theorem sliceApplied_rev {sl : Addr} {st : Tok} {n : Nat} {Q : Int × Int × Nat → Shared → Prop} (hs : s.heap.IsSliceOf sl .none .none (.int (-1) st))
    (h : Q ((n : Int) - 1, -1, n) s) : wpAny (model prog w) A (Builtin.Slice.sliceApplied (.ref sl) (pure (n : Int))) Q E s := by
  obtain ⟨os, hos, hcs, hds⟩ := id hs
  unfold Builtin.Slice.sliceApplied Builtin.Slice.sliceFields
  refine wpAny_bind (wpAny_bind (wpAny_field hos hds (x := .none) rfl (wpAny_bind (wpAny_field hos hds (x := .none) rfl (wpAny_bind (wpAny_field hos hds (x := .int (-1) st) rfl (wpAny_pure ?_)))))))
  refine wpAny_bind (slicePart_int ?_)
  show wpAny _ _ (if ((-1 : Int) == 0) = true then _ else _) _ _ s
  rw [if_neg (by decide)]
  refine wpAny_bind (slicePart_none (wpAny_bind (slicePart_none (wpAny_bind (wpAny_pure ?_)))))
  show wpAny _ _ (match Builtin.Slice.sliceAdjust none none (-1) (n : Int) with | (lo, hi) => pure (lo, (-1 : Int), Builtin.Slice.slicePlaces lo hi (-1))) _ _ s
  rw [adjust_rev n]
  show wpAny _ _ (pure ((n : Int) - 1, (-1 : Int), Builtin.Slice.slicePlaces ((n : Int) - 1) (-1) (-1))) _ _ s
  rw [places_rev]
  exact wpAny_pure h
theorem pick_rev (xs : List Value) : ((List.range xs.toArray.size).filterMap fun (m : Nat) => xs.toArray[(((xs.toArray.size : Int) - 1) + (m : Int) * (-1)).toNat]?).toArray = xs.reverse.toArray := by
  have k := PySem.W.krv_pick xs.toArray
  unfold slicePick at k
  rw [PySem.W.krv_bounds] at k
  have k : ((sliceRange ((xs.toArray.size : Int) - 1) (-1) (-1)).filterMap (xs.toArray[·]?)).toArray = xs.reverse.toArray := k
  rw [PySem.W.krv_sliceRange] at k
  rw [← k]
  congr 1
  rw [List.filterMap_map]
  congr 1
  funext m
  show _ = xs.toArray[xs.toArray.size - 1 - m]?
  congr 1
  omega
theorem getItem_tuple_rev {t sl : Addr} {st : Tok} {its : List Value} {Q : Value → Shared → Prop} (ht : IsTup s.heap t its.toArray) (hs : s.heap.IsSliceOf sl .none .none (.int (-1) st))
    (h : Q (.ref s.heap.objs.size) { s with heap := s.heap.push { cls := .type "tuple", data := .seq its.reverse.toArray } })
    (hsz : its.toArray.size ≤ sizeLine) : wpAny (model prog w) A (getItem (.ref t) (.ref sl)) Q E s := by
  have htake : sizeOk (.seq its.reverse.toArray) := by
    show its.reverse.toArray.size ≤ sizeLine
    rw [List.size_toArray, List.length_reverse, ]
    simpa using hsz
  obtain ⟨os, hos, hcs, hds⟩ := id hs
  have hTs : s.TypeIs (.ref sl) "slice" := ⟨os, hos, hcs⟩
  unfold getItem
  try with_reducible refine wpAny_holding ?_
  first | refine wpAny_bind (wpAny_pure ?_) | skip
  refine wpAny_bind (wpAny_sequenceKey ht.typeIs (by decide) ?_)
  refine wpAny_bind (wpAny_callSpecial?_slot (name := Str.ofString "__getitem__") ht.typeIs PyProof.Rows.slot_tuple_getitem
    (wpAny_call_entry PyProof.Rows.slot_tuple_getitem ht.typeIs entry_tuple_getitem ?_ (args_tuple_getitem _ _)))
  show wpAny _ _ (Builtin.Tuple.tupleItemsOf (.ref t) >>= _) _ _ s
  refine wpAny_bind (tupleItemsOf_ ht ?_)
  refine wpAny_bind (wpAny_typeOf hTs ?_)
  rw [if_pos (by decide)]
  refine wpAny_bind (sliceApplied_rev hs ?_)
  have hno : ¬ ((((its.toArray.size : Int) - 1) == 0 && (-1 : Int) == 1 && its.toArray.size == its.toArray.size) = true) := by
    simp
  show wpAny _ _ (if ((((its.toArray.size : Int) - 1) == 0 && (-1 : Int) == 1 && its.toArray.size == its.toArray.size) = true) then _ else _) _ _ s
  rw [if_neg hno, pick_rev]
  first
    | exact wpAny_bind (m := Builtin.Tuple.tupleExact _) (wpAny_newObj_type (wpAny_pure ⟨_, rfl, wpAny_pure h⟩) htake)
    | exact wpAny_bind (m := Builtin.Tuple.tupleExact _) (wpAny_newObj_type (wpAny_bind (wpAny_pure (wpAny_pure ⟨_, rfl, wpAny_pure h⟩))) htake)
    | exact wpAny_bind (wpAny_bind (m := Builtin.Tuple.tupleExact _) (wpAny_newObj_type (wpAny_pure (wpAny_pure ⟨_, rfl, wpAny_pure h⟩)) htake))
    | exact wpAny_bind (wpAny_bind (m := Builtin.Tuple.tupleExact _) (wpAny_newObj_type (wpAny_pure ⟨_, rfl, wpAny_pure h⟩) htake))
end
end HT
namespace L2
open PySem PySem.Spec PyProof.Rows
section
variable {X : Cx} {e es : Expr} {te ts : TE} {pos p2 : Pos}
/-- t[::-1] -/
def rRev (K : PySem.W.Frag) : R2 := fun x y H Q => y = .int (-1) ∧ ∃ a xs, x = .ref a ∧ SqT K H a xs ∧ ∀ p, H p = none → Q (.ref p) (upd H p (.tup xs.reverse))
theorem pe_rev (he : PE X e te) (hs : PE X es ts) : PE X (.Subscript e (.Slice none none (some es) p2) pos) (tOp (rRev X.K) te ts) := by
  refine ⟨fun pins s σ H Q I h => ?_⟩
  refine Subscript_ (thn (he.run pins s σ H _ I h) fun v s1 ⟨x, H1, I1, r1, q1⟩ => ?_)
  refine wpAny_Slice ?_
  rw [evalPart_none]
  refine wpAny_pure (wpAny_pure ?_)
  rw [evalPart_some]
  refine thn (hs.run pins s1 σ H1 _ I1 q1) fun vs s3 ⟨y, H3, I3, ry, q3⟩ => ?_
  obtain ⟨rfl, a, xs, rfl, hx, q⟩ := q3
  obtain ⟨st, rfl⟩ := ry
  have I4 : Inv X pins σ H3 { s3 with heap := s3.heap.push { cls := .type "slice", data := .fields #[.none, .none, .int (-1) st] } } := I3.kept (t' := s3.toks) fun b ob q => Heap.get?_push_of_some _ q
  cases r1
  obtain ⟨its, r, ht, hz⟩ := I4.tuple hx
  have hlen : its.toArray.size = xs.length := by rw [List.size_toArray]; exact r.length.symm
  show wpAny (model X.prog X.w) X.A (subscriptTail e (.Slice none none (some es) p2) (.ref a) (.ref s3.heap.objs.size)) (EP X pins σ Q) X.xe { s3 with heap := s3.heap.push { cls := .type "slice", data := .fields #[.none, .none, .int (-1) st] } }
  refine tail_any (ops := [.ref a, .ref s3.heap.objs.size]) ht.typeIs PyProof.Rows.slot_tuple_getitem.lookup ?_ (by with_unfolding_all rfl)
  refine HT.getItem_tuple_rev ht (Heap.IsSliceOf.new ..) ?_ (by rw [hlen]; exact hz)
  refine ⟨.ref _, _, I4.laid (o := .tup xs.reverse) (fun b ob q => Heap.get?_push_of_some _ q) (Nat.le_refl _) ?_, rfl, q _ (I4.hok.fresh (Nat.le_refl _))⟩
  exact ⟨by rw [List.length_reverse]; exact hz, _, r.reverse, IsTup.new _ _⟩
end
end L2
namespace Dt
open PySem PySem.Spec PyProof.Rows L2
def revTD (x y : D) (h : DH) : Rs D := match x, y with
  | .tup ds, .int i => if i = -1 then .ok (.tup ds.reverse) h else .bad
  | _, _ => .bad
section
variable {X : Cx} {W : WX} {K : PySem.W.Frag} {e es : Expr} {fe fs : EF} {pos p2 : Pos} {h : DH}
theorem rv_rev {r : Rg} {H : Hp} : ∀ {ds : List D} {vs : List V}, RVs K r H ds vs → RVs K r H ds.reverse vs.reverse
  | [], vs, q => by rw [q.inv0]; exact .nil
  | d :: ds, vs, q => by
    obtain ⟨v, t, rfl, a, b⟩ := q.inv
    rw [List.reverse_cons, List.reverse_cons]
    exact (rv_rev b).append (.one a)
theorem od_rev : OpD K revTD (rRev K) := by
  intro r0 h H x y v u W σ Q rh rx ry p
  unfold revTD at p
  split at p
  · rename_i ds i
    split at p
    · rename_i hi
      subst hi
      simp only [RV] at rx
      obtain ⟨a, vs, rfl, f, q⟩ := rx
      refine ⟨rv_int.mp ry, a, vs, rfl, f.sq, fun w hq => ?_⟩
      obtain ⟨e, rh'⟩ := rh.lay (o := .tup vs.reverse) hq
      refine p _ r0 _ e rh' ?_
      simp only [RV]
      exact ⟨w, _, rfl, ⟨upd_same, rh.out hq⟩, (rv_rev q).mono e⟩
    · exact p.elim
  · exact p.elim
theorem de_revT (he : PE X e (tE X.K W fe)) (hs : PE X es (tE X.K W fs)) : PE X (.Subscript e (.Slice none none (some es) p2) pos) (tE X.K W (o2 revTD fe fs)) :=
  PE.imp (pe_rev he hs) fun σ H Q p => tOp_of od_rev p
@[simp] theorem ev_revT {ds : List D} : revTD (.tup ds) (.int (-1)) h = .ok (.tup ds.reverse) h := rfl
end
end Dt
namespace Dt
def insI (k : Int) : List Int → List Int
  | [] => [k]
  | x :: xs => if k < x then k :: x :: xs else if k = x then x :: xs else x :: insI k xs
def iset (ns : List Int) : List Int := ns.foldr insI []
theorem mem_insI {k y : Int} : ∀ {xs : List Int}, y ∈ insI k xs ↔ y = k ∨ y ∈ xs
  | [] => by simp [insI]
  | x :: xs => by
    unfold insI
    split
    · simp
    · split
      · rename_i h; subst h; simp
      · rw [List.mem_cons, mem_insI (xs := xs), List.mem_cons]
        constructor
        · rintro (h | h | h)
          · exact .inr (.inl h)
          · exact .inl h
          · exact .inr (.inr h)
        · rintro (h | h | h)
          · exact .inr (.inl h)
          · exact .inl h
          · exact .inr (.inr h)
theorem mem_iset {y : Int} : ∀ {ns : List Int}, y ∈ iset ns ↔ y ∈ ns
  | [] => by simp [iset]
  | n :: ns => by
    show y ∈ insI n (iset ns) ↔ _
    rw [mem_insI, mem_iset, List.mem_cons]
theorem ris_insI {k : Int} : ∀ {xs : List Int}, xs.Pairwise (· < ·) → (insI k xs).Pairwise (· < ·)
  | [], _ => by simp [insI]
  | x :: xs, h => by
    obtain ⟨h1, h2⟩ := List.pairwise_cons.mp h
    unfold insI
    split
    · rename_i hk
      exact List.pairwise_cons.mpr ⟨fun y hy => by
        rcases List.mem_cons.mp hy with rfl | hy
        · exact hk
        · exact Int.lt_trans hk (h1 y hy), h⟩
    · split
      · exact h
      · rename_i a b
        refine List.pairwise_cons.mpr ⟨fun y hy => ?_, ris_insI h2⟩
        rcases mem_insI.mp hy with rfl | hy
        · omega
        · exact h1 y hy
theorem ris_iset : ∀ {ns : List Int}, (iset ns).Pairwise (· < ·)
  | [] => List.Pairwise.nil
  | n :: ns => ris_insI ris_iset
theorem ris_eqI : ∀ {a b : List Int}, a.Pairwise (· < ·) → b.Pairwise (· < ·) → (∀ x, x ∈ a ↔ x ∈ b) → a = b
  | [], [], _, _, _ => rfl
  | [], y :: b, _, _, h => absurd ((h y).mpr List.mem_cons_self) (by simp)
  | x :: a, [], _, _, h => absurd ((h x).mp List.mem_cons_self) (by simp)
  | x :: a, y :: b, ha, hb, h => by
    obtain ⟨a1, a2⟩ := List.pairwise_cons.mp ha
    obtain ⟨b1, b2⟩ := List.pairwise_cons.mp hb
    have xy : x = y := by
      have p := (h x).mp List.mem_cons_self
      have q := (h y).mpr List.mem_cons_self
      rcases List.mem_cons.mp p with p | p
      · exact p
      · rcases List.mem_cons.mp q with q | q
        · exact q.symm
        · have := b1 x p; have := a1 y q; omega
    subst xy
    congr 1
    refine ris_eqI a2 b2 fun z => ⟨fun hz => ?_, fun hz => ?_⟩
    · rcases List.mem_cons.mp ((h z).mp (List.mem_cons_of_mem _ hz)) with q | q
      · have := a1 z hz; omega
      · exact q
    · rcases List.mem_cons.mp ((h z).mpr (List.mem_cons_of_mem _ hz)) with q | q
      · have := b1 z hz; omega
      · exact q
end Dt
namespace WS
open PySem PySem.Spec PyProof.Rows L2
section
variable {P : Program} {w : World} {A : Around} {E : Value → Shared → Prop} {s : Shared}
theorem nodup_ris {l : List Int} (h : l.Pairwise (· < ·)) : l.Nodup := h.imp fun h z => by omega
theorem count_is {h : Heap} {a : Addr} {ns : List Int} {c : Nat} (R : SetR w h a (fun j => decide (j ∈ ns)) c) : c = (Dt.iset ns).length := by
  obtain ⟨o, es, ep, t, ho, hx, hd, g, nd, hm, hb, hf, hn, _⟩ := R
  have pm : (es.toList.map L2.keyOf).Perm (Dt.iset ns) := (List.perm_ext_iff_of_nodup nd (nodup_ris Dt.ris_iset)).mpr fun k => by
    rw [← hm k, Dt.mem_iset, decide_eq_true_eq]
  rw [← pm.length_eq, List.length_map, Array.length_toList, hn]
theorem madeI {l : Addr} {items : Array Value} {ns : List Int} {Q : Value → Shared → Prop} (hh : A.handled = none) (hl : s.heap.IsList l items) (hit : IntsAre items.toList ns) (cap : ns.length + 1 < scanBound)
    (fin : ∀ (h' : Heap) (tk c : Nat), SetR w h' s.heap.objs.size (fun j => decide (j ∈ ns)) c → (∀ b o, s.heap.get? b = some o → h'.get? b = some o) → Q (.ref s.heap.objs.size) { s with heap := h', toks := tk }) :
    wpAny (model P w) A (call (.type "set") [.ref l]) Q E s := by
  have isz : items.size = ns.length := by
    have q := IntsAre.length hit
    rw [Array.length_toList] at q
    exact q
  obtain ⟨c, tl, hmro⟩ := F.called_set.mro
  have m1 := F.called_set.made
  have m2 := F.called_set.sub
  have m3 := F.called_set.notType
  have m4 := F.called_set.canCreate
  have m5 := F.typeCall_set_1 (.ref l)
  refine wpAny_call (codeAny_of_tree ?_)
  show wpAny _ _ (callAny (.type "set") _) _ _ _
  refine wpAny_pure ⟨Code.quiet_builtin _ (by decide +kernel), codeAny_builtin F.entry_type_call ?_⟩
  rw [Around.under_plain (weight_type_call_type "set" [.ref l] []) rfl]
  repeat (any_goals (first | assumption | wp_step))
  refine codeAny_mono (code_set_led1 (.ref l) (E := E) (Q₁ := fun ob s₁ => ob = .ref s.heap.objs.size ∧ s₁ = { s with heap := s.heap.push (ob0 w) }) ⟨rfl, rfl⟩) fun r s₁ hr => ?_
  cases r with
  | error e => exact hr
  | ok fl =>
    cases fl with
    | ret ob =>
      obtain ⟨rfl, rfl⟩ := hr
      have at0 : (s.heap.push (ob0 w)).get? s.heap.objs.size = some (ob0 w) := Heap.get?_push_size _ rfl
      have tyS : Shared.TypeIs { s with heap := s.heap.push (ob0 w) } (.ref s.heap.objs.size) "set" := ⟨_, at0, rfl⟩
      have b1 := F.called_set.init.lookup
      have b2 := F.called_set.init.bind (.ref s.heap.objs.size)
      repeat (any_goals (first | assumption | wp_step))
      refine codeAny_mono (codeAny_call_builtin (R := wants (fun r s₂ => r = .none ∧ ∃ h' tk c, s₂ = { s with heap := h', toks := tk } ∧ SetR w h' s.heap.objs.size (fun j => decide (j ∈ ns)) c ∧ ∀ b o, s.heap.get? b = some o → h'.get? b = some o) E) F.called_set.init.plain F.entry_set_init (check_set_init_1 tyS ?_)) fun r₂ s₂ hr₂ => ?_
      · obtain ⟨⟨oc, od, oda, osl⟩, hol, hc, nl, hd⟩ := hl
        dsimp only at hc hd
        subst hc; subst hd
        have hol1 : (s.heap.push (ob0 w)).get? l = some { cls := .type "list", dict := od, data := .seq items nl, slots := osl } := Heap.get?_push_of_some _ hol
        have f1 := F.sub_list_set
        have f2 := F.sub_list_frozenset
        have f3 : (Value.type "list" == Value.type "dict") = false := by decide
        have hl1 : (s.heap.push (ob0 w)).IsList l items := ⟨_, hol1, rfl, nl, rfl⟩
        unfold Builtin.«set.__init__» noKeywords Builtin.Frozenset.updateFrom
        generalize hPI : pyIter = PI
        wp_walk
        subst hPI
        refine wpAny_pyIter_list hl1 (wpAny_bind (wpAny_runValue ?_))
        have lS : l < s.heap.objs.size := Heap.lt_size hol
        have z1 : (s.heap.push (ob0 w)).objs.size = s.heap.objs.size + 1 := Heap.size_push ..
        have neI : l ≠ (s.heap.push (ob0 w)).objs.size := by rw [z1]; exact Nat.ne_of_lt (Nat.lt_succ_of_lt lS)
        have val : ∀ (i : Nat) (v : Value), items[i]? = some v → ∃ k t, ns[i]? = some k ∧ v = .int k t := fun i v hv => by
          have hi : i < ns.length := by rw [← isz]; exact (Array.getElem?_eq_some_iff.mp hv).1
          obtain ⟨t, e⟩ := PyProof.Rows.IntsAre.int_at hit i v (by rw [Array.getElem?_toList]; exact hv)
          refine ⟨ns[i], t, List.getElem?_eq_getElem hi, ?_⟩
          rw [e, List.getD_eq_getElem?_getD, List.getElem?_eq_getElem hi] <;> rfl
        refine set_update_ints ((Walks.list (show A.in1.in1.in1.handled = none by simp [hh]) _ l neI items).toS) s.heap.objs.size (by rw [z1]; simp only [List.mem_cons, List.not_mem_nil, or_false, not_or]; exact ⟨Nat.ne_of_lt (Nat.lt_succ_self _), Nat.ne_of_gt lS⟩) ns isz cap val
          (items.size - 0) 0 _ (by omega) (Nat.zero_le _) ⟨⟨_, Heap.get?_push_size _ rfl, rfl, rfl⟩, hl1.push _⟩ ⟨0, Nat.le_refl 0, setR_new_at (Heap.get?_push_of_some _ at0)⟩ ?_
        · intro s' c' hm hc' hS'
          obtain ⟨h', g2, d', tk', os'⟩ := s'
          obtain rfl : g2 = s.gens := hm.gens
          obtain rfl : d' = s.drawn := hm.drawn
          obtain rfl : os' = s.os := hm.os
          show wpAny _ _ _ _ _ _
          refine wpAny_pure ?_
          show wpAny _ _ (ret Value.none) _ _ _
          refine wpAny_pure ⟨rfl, h', tk', c', rfl, hS', fun b o e => ?_⟩
          have hb0 : b < s.heap.objs.size := Heap.lt_size e
          exact hm.heap b o (by
            rw [z1]
            simp only [List.mem_cons, List.not_mem_nil, or_false, not_or]
            exact ⟨Nat.ne_of_lt hb0, Nat.ne_of_lt (Nat.lt_succ_of_lt hb0)⟩) (Heap.get?_push_of_some _ (Heap.get?_push_of_some _ e))
      · cases r₂ with
        | error e => exact hr₂
        | ok fl₂ =>
          cases fl₂ with
          | ret r =>
            obtain ⟨rfl, h', tk, c, rfl, hS', kp⟩ := hr₂
            repeat (any_goals (first | assumption | wp_step))
            exact fin _ _ _ hS' kp
          | _ => exact hr₂.elim
    | _ => exact hr.elim
end
end WS
namespace WS
open PySem PySem.Spec PyProof.Rows L2
def IsO (w : World) (a : Addr) (ns : List Int) : HO := .ext fun h => SetR w h a (fun j => decide (j ∈ ns)) (Dt.iset ns).length
theorem isO_ok {P : Program} {w : World} {H : Hp} {h : Heap} {a : Addr} {ns : List Int} (R : SetR w h a (fun j => decide (j ∈ ns)) (Dt.iset ns).length) : ObjOk P w H h a (IsO w a ns) := by
  have R0 := R
  obtain ⟨o, es, ep, t, ho, r⟩ := R
  exact ⟨R0, ⟨o, ho⟩, fun h1 h2 p k => p.at k⟩
section
variable {X : Cx}
def rSetN (K : PySem.W.Frag) (w : World) : List V → Hp → VK → Prop := fun xs H Q => ∃ (l : Addr) (ns : List Int), xs = [V.ref l] ∧ SqL K H l (ns.map V.int) ∧ ns.length ≤ 1000 ∧
  ∀ a, H a = none → Q (.ref a) (upd H a (IsO w a ns))
theorem cr_setN (hc : X.calm = true) : CallR X (.type "set") (rSetN X.K X.w) := by
  intro pins s σ H xs us Q I r h
  obtain ⟨l, ns, rfl, hl, cap, q⟩ := h
  rw [Vals.ref1 r]
  obtain ⟨its, rv, pl, hz⟩ := I.list hl
  have fresh : H s.heap.objs.size = none := I.hok.fresh (Nat.le_refl _)
  refine madeI (P := X.prog) (w := X.w) (ns := ns) (I.ok.hd hc) pl.isList (by simpa using Vals.ints rv) (by have : (1002 : Nat) < scanBound := by decide
                                                                                                            omega) fun h' tk c R kp => ?_
  have ec := count_is R
  subst ec
  exact ⟨.ref s.heap.objs.size, _, I.laid (t' := tk) kp (Nat.le_refl _) (isO_ok R), rfl, q _ fresh⟩
def rSortN (K : PySem.W.Frag) (w : World) : List V → Hp → VK → Prop := fun vs H Q => ∃ (a : Addr) (ns : List Int), vs = [V.ref a] ∧ H a = some (IsO w a ns) ∧ (Dt.iset ns).length < 64 ∧
  ∀ (p : Addr), H p = none → Q (.ref p) (upd H p (.lst ((Dt.iset ns).map V.int)))
theorem cr_sortN (hc : X.calm = true) : CallR X (.builtin "sorted") (rSortN X.K X.w) := by
  intro pins s σ H vs us Q I r h
  obtain ⟨a, ns, rfl, ha, cap, q⟩ := h
  have R : SetR X.w s.heap a (fun j => decide (j ∈ ns)) (Dt.iset ns).length := (I.hok a _ ha).1
  rw [Vals.ref1 r]
  refine sorted_set R (I.ok.hd hc) cap fun s' p out c ms kp g o hp at_ io up mm ln => ?_
  have em : ms = Dt.iset ns := Dt.ris_eqI up Dt.ris_iset fun x => by rw [mm x, Dt.mem_iset, decide_eq_true_eq]
  subst em
  have fresh : H p = none := I.hok.fresh hp
  have J : Inv X pins σ (upd H p (.lst ((Dt.iset ns).map V.int))) { s with heap := s'.heap, gens := s'.gens, drawn := s'.drawn, toks := s'.toks } :=
    I.call (ch := []) (Un.laid kp hp fresh) (I.hok.laid kp hp ⟨by rw [List.length_map, sizeLine_eq]; omega, out.toList, c, vals_ints io, at_⟩) (by rw [g]; exact I.bare) (fun _ z => nomatch z)
  have e : s' = { s with heap := s'.heap, gens := s'.gens, drawn := s'.drawn, toks := s'.toks } := by
    cases s'
    cases s
    cases o
    rfl
  rw [e]
  exact ⟨.ref p, _, J, rfl, q p fresh⟩
end
end WS
namespace Dt
open PySem PySem.Spec PyProof.Rows L2 WS
def sortsetI (own : Bool) (x : D) (h : DH) : Rs D := match lsq h x with
  | some ds => match toI ds with
    | some ns => if ns.length ≤ 1000 ∧ (iset ns).length < 64 then mkL own ((iset ns).map D.int) h else .bad
    | none => .bad
  | none => .bad
section
variable {X : Cx} {K : PySem.W.Frag} {r : Rg} {h : DH} {H : Hp} {W : WX} {ds : List D} {vs : List V}
theorem de_sortsetI {x y : Str} {e : Expr} {p p2 q pos : Pos} {fa : EF} (own : Bool) (hc : X.calm = true) (hx : x = "sorted") (hy : y = "set") (hg : Gl X x) (hm : X.mg x = none) (hg2 : Gl X y) (hm2 : X.mg y = none) (ha : PE X e (tE X.K W fa)) (hs : ∀ c, starEach [e] c = [(false, eval e c)] := by intro c; rfl) :
    PE X (.Call (.Name x p) [.Call (.Name y p2) [e] [] q] [] pos) (tE X.K W (o1 (sortsetI own) fa)) := by
  subst hx; subst hy
  refine PE.imp (pe_callB (cr_sortN hc) hg hm (by rfl) (pa_cons (pe_callTy (cr_setN hc) hg2 hm2 PyProof.Rows.boot_set (pa_cons ha pa_nil (hs X.env)) (he := hs X.env)) pa_nil)) fun σ H Q p => ?_
  refine tG.first (R := RV X.K) (f := fa) (g := fun a _ h1 => sortsetI own a h1) p fun r0 env h1 x v H1 rh rs rx p1 => ?_
  unfold sortsetI at p1
  split at p1
  · rename_i ds e1
    split at p1
    · rename_i ns e2
      split at p1
      · rename_i hc2
        obtain ⟨l, ys, rfl, sl, qv⟩ := lsq_at rh rx e1
        rw [toI_map e2] at qv
        rw [qv.of_ints] at sl
        refine ⟨l, ns, rfl, sl, hc2.1, fun S hS => ?_⟩
        obtain ⟨ex, rh1⟩ := rh.lay (o := IsO X.w S ns) hS
        refine ⟨S, ns, rfl, upd_same, hc2.2, fun z hz => ?_⟩
        exact (po_mkL rh1 RVs.ints (Po.later ex p1)).2 z hz
      · exact p1.elim
    · exact p1.elim
  · exact p1.elim
end
section
variable {h : DH}
theorem ev_sortsetI {own : Bool} {x : D} {ns : List Int} (e : lsq h x = some (ns.map D.int)) (hl : ns.length ≤ 1000) (hz : (iset ns).length < 64) : sortsetI own x h = mkL own ((iset ns).map D.int) h := by
  unfold sortsetI
  rw [e]
  simp only [toI_ints]
  rw [if_pos ⟨hl, hz⟩]
end
end Dt
namespace Dt
open PySem PySem.Spec PyProof.Rows L2
section
variable {X : Cx}
end
end Dt
namespace Dt
open PySem PySem.W PySem.Spec PyProof.Rows L2
section
variable {X : Cx} {W : WX} {k : Nat} {f : Addr} {fd : FuncData} {ps : List Str} {G : FD} {nm : Str} {e : Expr} {kws : List Keyword} {as : AF} {p pos : Pos}
theorem PK.imp {t t' : TA} (h : PK X kws t) (i : ∀ σ H Q, t' σ H Q → t σ H Q) : PK X kws t' := ⟨fun pos pins s σ H Q I q => h.run pos pins s σ H Q I (i σ H Q q)⟩
end
end Dt
namespace Dt
open PySem PySem.Spec PyProof.Rows L2
section
variable {K : PySem.W.Frag} {h : DH}
end
end Dt
namespace Dt
open PySem PySem.Spec PyProof.Rows L2
section
variable {X : Cx} {kx vx ta ia tb ib : Expr} {fa fb : List Expr} {scope : Scope} {pos : Pos}
end
end Dt
namespace Dt
open PySem PySem.Spec PyProof.Rows L2
section
variable {K : PySem.W.Frag} {W : WX} {σ : L2.St} {h : DH}
section
variable {X : Cx} {kx vx ta ia tb ib : Expr} {fa fb : List Expr} {scope : Scope} {pos : Pos} {fk fv : EF} {fi fi1 : IF} {t t1 : Tg} {tt tt1 : TF}
end
end
end Dt
namespace Dt
open PySem PySem.Spec PyProof.Rows L2
section
variable {P : Program} {w : World} {K : PySem.W.Frag} {mg : Str → Option Value} {base : Heap}
end
end Dt
namespace Dt
open PySem PySem.Spec PyProof.Rows L2
/-- the same but for the lock of one dict that is not ours -/
structure Sw (r : Rg) (a : Addr) (kvs : List (Key × V)) (H H' : Hp) : Prop where
  out : a ∉ r
  fr : Rd H a (.dK kvs)
  to : Rd H' a (.dK kvs)
  same : ∀ b, b ≠ a → H' b = H b
section
variable {K : PySem.W.Frag} {r : Rg} {a : Addr} {kvs : List (Key × V)} {H H' : Hp} {h : DH} {env : Env'} {σ : L2.St}
theorem Sw.inv (s : Sw r a kvs H H') : Sw r a kvs H' H := ⟨s.out, s.to, s.fr, fun b hb => (s.same b hb).symm⟩
theorem Sw.ne (s : Sw r a kvs H H') {b : Addr} {u : HO} (e : H b = some u) (h1 : u ≠ .dK kvs) (h2 : ∀ o, u ≠ .frz o (.dK kvs)) : b ≠ a := fun z => by
  subst z
  rcases s.fr with q | ⟨o, q⟩
  · rw [q] at e; cases e; exact h1 rfl
  · rw [q] at e; cases e; exact h2 o rfl
theorem Sw.tup (s : Sw r a kvs H H') {b : Addr} {xs : List V} (x : FzT r H b xs) : FzT r H' b xs := ⟨(s.same b (s.ne x.1 (fun z => nomatch z) fun _ z => nomatch z)).trans x.1, x.2⟩
theorem Sw.lst (s : Sw r a kvs H H') {b : Addr} {xs : List V} (x : FzL r H b xs) : FzL r H' b xs := ⟨(s.same b (s.ne x.1 (fun z => nomatch z) fun _ z => nomatch z)).trans x.1, x.2⟩
theorem Sw.rd (s : Sw r a kvs H H') {b : Addr} {u : HO} (x : Rd H b u) (hu : b ≠ a ∨ ∃ ks, u = .dK ks) : Rd H' b u := by
  by_cases hb : b = a
  · subst hb
    obtain ⟨ks, rfl⟩ := hu.resolve_left fun z => z rfl
    have : ks = kvs := by
      rcases s.fr with q | ⟨o, q⟩ <;> rcases x with p | ⟨o', p⟩ <;> rw [q] at p <;> cases p <;> rfl
    subst this
    exact s.to
  · rcases x with p | ⟨o, p⟩
    · exact .inl ((s.same b hb).trans p)
    · exact .inr ⟨o, (s.same b hb).trans p⟩
theorem Sw.off (s : Sw r a kvs H H') {b : Addr} {u : HO} (x : Rd H b u) (h1 : ∀ ks, u ≠ .dK ks) (h2 : ∀ o ks, u ≠ .frz o (.dK ks)) : b ≠ a := fun z => by
  subst z
  rcases s.fr with q | ⟨o, q⟩ <;> rcases x with p | ⟨o', p⟩ <;> rw [q] at p <;> cases p <;> first | exact h1 kvs rfl | exact h2 _ _ rfl
mutual
theorem Sw.rv (s : Sw r a kvs H H') : ∀ {d : D} {v : V}, RV K r H d v → RV K r H' d v
  | .non, _, x => by simp only [RV] at x ⊢; exact x
  | .bl _, _, x => by simp only [RV] at x ⊢; exact x
  | .int _, _, x => by simp only [RV] at x ⊢; exact x
  | .str _, _, x => by simp only [RV] at x ⊢; exact x
  | .con _, _, x => by simp only [RV] at x ⊢; exact x
  | .tup ds, _, x => by
    simp only [RV] at x ⊢
    obtain ⟨b, vs, rfl, f, y⟩ := x
    exact ⟨b, vs, rfl, s.tup f, s.rvs y⟩
  | .wt ds, _, x => by
    simp only [RV] at x ⊢
    obtain ⟨b, vs, rfl, f, y⟩ := x
    exact ⟨b, vs, rfl, f, s.rvs y⟩
  | .lst ds, _, x => by
    simp only [RV] at x ⊢
    obtain ⟨b, vs, rfl, f, y⟩ := x
    exact ⟨b, vs, rfl, s.lst f, s.rvs y⟩
  | .scr ns, _, x => by
    simp only [RV] at x ⊢
    obtain ⟨b, rfl, f⟩ := x
    refine ⟨b, rfl, ?_⟩
    rcases f with ⟨f, n⟩ | f
    · exact .inl ⟨s.rd f (.inl (s.off f (fun _ z => nomatch z) fun _ _ z => nomatch z)), n⟩
    · exact .inr f
  | .dk ks ds, _, x => by
    simp only [RV] at x ⊢
    obtain ⟨b, vs, rfl, f, n, l, y⟩ := x
    exact ⟨b, vs, rfl, s.rd f (.inr ⟨_, rfl⟩), n, l, s.rvs y⟩
  | .dt ks ds, _, x => by
    simp only [RV] at x ⊢
    obtain ⟨b, vs, rfl, f, n, l, y⟩ := x
    exact ⟨b, vs, rfl, s.rd f (.inl (s.off f (fun _ z => nomatch z) fun _ _ z => nomatch z)), n, l, s.rvs y⟩
  | .ref n, _, x => by
    simp only [RV] at x ⊢
    exact x
theorem Sw.rvs (s : Sw r a kvs H H') : ∀ {ds : List D} {vs : List V}, RVs K r H ds vs → RVs K r H' ds vs
  | [], _, x => by simp only [RVs] at x ⊢; exact x
  | d :: ds, _, x => by
    simp only [RVs] at x ⊢
    obtain ⟨v, t, rfl, y, z⟩ := x
    exact ⟨v, t, rfl, s.rv y, s.rvs z⟩
end
theorem Sw.ro (s : Sw r a kvs H H') {b : Addr} (hb : b ∈ r) {o : O} (x : RO K r H b o) : RO K r H' b o := by
  have n : b ≠ a := fun z => s.out (z ▸ hb)
  cases o with
  | lst ds => obtain ⟨vs, p, q⟩ := x; exact ⟨vs, (s.same b n).trans p, s.rvs q⟩
  | dk ks ds => obtain ⟨vs, p, l, q⟩ := x; exact ⟨vs, (s.same b n).trans p, l, s.rvs q⟩
  | dt ks ds => obtain ⟨vs, p, l, q⟩ := x; exact ⟨vs, (s.same b n).trans p, l, s.rvs q⟩
  | ins C fs ds => obtain ⟨dx, vs, p, l, q⟩ := x; exact ⟨dx, vs, (s.same b n).trans p, l, s.rvs q⟩
theorem Sw.rh (s : Sw r a kvs H H') (x : RH K r h H) : RH K r h H' := ⟨x.len, x.nd, fun i b o p q => s.ro (.inl (List.mem_of_getElem? p)) (x.at_ i b o p q), fun b m => by
  rw [s.same b fun z => s.out (z ▸ .inr m)]
  exact x.bt b m⟩
theorem Sw.rs (s : Sw r a kvs H H') (x : RS K r H env σ) : RS K r H' env σ := ⟨x.1, fun i d q => let ⟨v, e1, e2⟩ := x.2 i d q; ⟨v, e1, s.rv e2⟩⟩
end
section
variable {X : Cx} {W : WX} {e : Expr} {body : List Stmt} {apos cpos pos tpos : Pos} {elts : List Expr} {kk : Nat} {t : Tg} {f : SF}
end
end Dt
namespace Dt
open PySem PySem.Spec PyProof.Rows L2
section
variable {X : Cx}
end
section
variable {K : PySem.W.Frag} {r : Rg} {h : DH} {H : Hp}
end
section
variable {X : Cx} {o : Expr} {p pos apos mpos : Pos} {td : TE}
end
section
variable {X : Cx} {W : WX} {o : Expr} {p pos apos mpos : Pos} {fa : EF}
end
end Dt
namespace Dt
open PySem PySem.Spec PyProof.Rows L2
section
variable {h : DH}
theorem enc_zT {r : List Int} : encD h (zT r) = .tuple (r.map .int) := by
  unfold encD
  rw [show toP h 60 (zT r) = some (.tuple (r.map .int)) from toP_tInt]
  rfl
/-- all that sorting asks of rows of numbers, and what it tells -/
theorem zT_sort {p q : List (List Int)} (hp : q.Perm p) (hne : ∀ r ∈ p, r ≠ []) (ho : q.Pairwise (· < ·)) :
    ((∀ d ∈ p.map zT, (toP h 60 d).isSome = true) ∧ (∀ d ∈ p.map zT, (encD h d).depth ≤ 60) ∧ PySem.W.AllAlike ((p.map zT).map (encD h)) ∧ PySem.W.Sortable ((p.map zT).map (encD h))) ∧
      (p.map zT).mergeSort (PySem.W.dataLe false (encD h)) = q.map zT := by
  have em : (p.map zT).map (encD h) = p.map fun r => PyData.tuple (r.map .int) := by
    rw [List.map_map]
    exact List.map_congr_left fun q _ => enc_zT
  refine ⟨⟨fun d hd => ?_, fun d hd => ?_, ?_, ?_⟩, ?_⟩
  · obtain ⟨q, _, rfl⟩ := List.mem_map.mp hd
    rw [show toP h 60 (zT q) = some (.tuple (q.map .int)) from toP_tInt]
    rfl
  · obtain ⟨q, _, rfl⟩ := List.mem_map.mp hd
    rw [enc_zT]
    have := lay_int (ns := q)
    simp only [PyData.depth]
    omega
  · rw [em]
    exact PySem.W.AllAlike.of fun b b' => by simpa only [PySem.W.alike] using PySem.W.alike_ints b b'
  · rw [em]
    refine .inl fun d hd => ?_
    obtain ⟨q, hq, rfl⟩ := List.mem_map.mp hd
    cases q with
    | nil => exact absurd rfl (hne _ hq)
    | cons a r => exact ⟨.int a, r.map .int, rfl⟩
  · have le1 : ∀ a b : List Int, PySem.W.dataLe false (encD h) (zT a) (zT b) = !decide (b < a) := fun a b => by
      show (!PySem.W.dataLt (encD h (zT b)) (encD h (zT a))) = _
      rw [enc_zT, enc_zT, PySem.W.dataLt_tuple]
      rw [show PyProof.Rows.lexLt PyProof.Rows.itemOrd (PySem.W.keyToksAll (b.map PyData.int)) (PySem.W.keyToksAll (a.map PyData.int)) = decide (b < a) from PySem.W.dataLt_ints b a]
    rw [← List.map_mergeSort (r := fun a b : List Int => !decide (b < a))]
    · congr 1
      have srt := List.pairwise_mergeSort (le := fun a b : List Int => !decide (b < a)) (fun a b c h1 h2 => by
        simp only [Bool.not_eq_true', decide_eq_false_iff_not] at h1 h2 ⊢
        exact List.not_lt.mpr (List.le_trans (List.not_lt.mp h1) (List.not_lt.mp h2))) (fun a b => by
        by_cases h : b < a
        · have : ¬ a < b := fun z => List.lt_irrefl _ (List.lt_trans h z)
          simp [this]
        · simp [h]) p
      refine List.Perm.eq_of_pairwise (le := fun a b : List Int => ¬ b < a) (fun a b _ _ h1 h2 => List.le_antisymm (List.not_lt.mp h1) (List.not_lt.mp h2)) ?_ ?_ ((List.mergeSort_perm _ _).trans hp.symm)
      · exact srt.imp fun {a b} hab => by simpa using hab
      · exact ho.imp fun {a b} hab z => List.lt_irrefl _ (List.lt_trans hab z)
    · intro a _ b _
      exact (le1 a b).symm
theorem sort_zT {own : Bool} {x : D} {p q : List (List Int)} (e : sq h x = some (p.map zT)) (hp : q.Perm p) (hne : ∀ r ∈ p, r ≠ []) (ho : q.Pairwise (· < ·)) : sortD own [x] h = mkL own (q.map zT) h := by
  obtain ⟨⟨c1, c2, c3, c4⟩, e1⟩ := zT_sort (h := h) hp hne ho
  unfold sortD
  simp only [e]
  rw [if_pos ⟨c1, fun d hd => Nat.le_trans (c2 d hd) (by decide), c3, c4⟩, e1]
end
end Dt
namespace Dt
open PySem PySem.Spec PyProof.Rows L2
section
variable {X : Cx}
end
def rowP (r : List Int) : PyData := .tuple (r.map .int)
end Dt
namespace Dt
open PySem PySem.Spec PyProof.Rows L2
theorem meets_enumerate_new1 {v : Value} {o : Obj} {H : Heap → Prop} (B : Begins v o H) :
    Meets (Builtin.«enumerate.__new__» ⟨[.type "enumerate", v], []⟩) (fun _ R s => H s.heap ∧
      R (.ok (.ret (.ref (s.heap.push o).objs.size))) { s with heap := (s.heap.push o).push { cls := .type "enumerate", data := .fields #[.none, .bool false, .ref s.heap.objs.size, rawInt 0, .none, .none] } }) :=
  .of_wp fun prog w A R s h => by
    obtain ⟨hp, g, d, tk, os⟩ := s; obtain ⟨h1, h⟩ := h
    have hsub := sub_enumerate
    have q1 : ∀ {A' : Around} {E : Value → Shared → Prop} {Q : Value → Shared → Prop}, Q (.ref hp.objs.size) ⟨hp.push o, g, d, tk, os⟩ → wpAny (model prog w) A' (pyIter v) Q E ⟨hp, g, d, tk, os⟩ :=
      fun q => B.iter prog w _ _ ⟨hp, g, d, tk, os⟩ _ h1 q
    wp_walk using q1
    refine wpAny_stack_any fun st => wpAny_pure ?_
    split
    · rename_i c _ _ _ _ _
      cases (c == Value.type "enumerate")
      · wp_walk using q1
        exact ⟨_, rfl, h⟩
      · wp_walk using q1
        exact ⟨_, rfl, h⟩
    · wp_walk using q1
      exact ⟨_, rfl, h⟩
section
variable {prog : Program} {w : World} {A : Around} {E : Value → Shared → Prop} {s : Shared}
theorem enum_begins1 {v : Value} {o : Obj} {H : Heap → Prop} {Q : Value → Shared → Prop} (B : Begins v o H) (h1 : H s.heap)
    (h : ∀ h', IsEnum h' (s.heap.objs.size + 1) s.heap.objs.size 0 .none → h'.get? s.heap.objs.size = some o →
      (∀ b o, s.heap.get? b = some o → h'.get? b = some o) → Q (.ref (s.heap.objs.size + 1)) { s with heap := h' }) :
    wpAny (model prog w) A (call (.type "enumerate") [v]) Q E s := by
  refine callType_new F.called_enumerate (by decide) (F.typeCall_enumerate_1 _) (F.newCall_enumerate_1 _) (fun obj => F.args_object_init_2 obj _) F.entry_enumerate_new
    (meets_enumerate_new1 B) ⟨h1, ?_⟩
  have hz : (s.heap.push o).objs.size = s.heap.objs.size + 1 := Heap.size_push ..
  show _ ∧ _
  rw [hz]
  have he : IsEnum ((s.heap.push o).push { cls := .type "enumerate", data := .fields #[.none, .bool false, .ref s.heap.objs.size, rawInt 0, .none, .none] }) (s.heap.objs.size + 1) s.heap.objs.size 0 .none := by
    have := Heap.get?_push_size (s.heap.push o) (o := { cls := .type "enumerate", data := .fields #[.none, .bool false, .ref s.heap.objs.size, rawInt 0, .none, .none] }) rfl
    rw [hz] at this; exact this
  refine ⟨⟨_, he, rfl⟩, h _ he (Heap.get?_push_of_some _ (Heap.get?_push_size _ B.free)) fun b o x => Heap.get?_push_of_some _ (Heap.get?_push_of_some _ x)⟩
end
section
variable {prog : Program} {w : World} {A : Around} {E : Value → Shared → Prop} {s : Shared}
theorem enum_end_tup {e it l : Addr} {i : Nat} {items : Array Value} {old : Value} {Q : Option Value → Shared → Prop} (hh : A.handled = none)
    (he : IsEnum s.heap e it i old) (hit : s.heap.IsTupleIter it l i) (hl : s.heap.IsTuple l items) (hx : items[i]? = none)
    (hQ : ∀ h', Heap.ExtBut it s.heap h' → Q none { s with heap := h' }) : wpAny (model prog w) A (pyNext (.ref e)) Q E s := by
  have hT : s.TypeIs (.ref e) "enumerate" := ⟨_, he, rfl⟩
  unfold pyNext
  refine wpAny_bind (wpAny_attempt (wpAny_callSpecial?_slot (name := Str.ofString "__next__") hT F.slot_enumerate_next
    (wpAny_call_entry F.slot_enumerate_next hT F.entry_enumerate_next ?_ (F.args_enumerate_next_1 _))))
  show wpAny _ _ (field (.ref e) 2 >>= _) _ _ _
  refine wpAny_bind (wpAny_field he rfl (x := .ref it) rfl ?_)
  refine wpAny_bind (wpAny_nextOf_tuple_end hh hit hl hx fun h' x he' hx' => ?_)
  obtain ⟨o, ho, hc⟩ := hx'
  refine wpAny_bind (wpAny_isInstance (T := "StopIteration") (b := true) ⟨o, ho, hc⟩ isSubtype_stop ?_)
  exact wpAny_pure (hQ _ he')
end
/-- the tuple at a, each item in a new pair -/
def IteT (K : PySem.W.Frag) (a : Addr) : It :=
  ⟨fun i H => ∃ (xs : List V) (x : V), SqT K H a xs ∧ xs[i]? = some x, fun i H v H' => ∃ T x, v = .ref T ∧ H T = none ∧ H' = upd H T (.tup [.int (i : Nat), x]) ∧ ∀ xs, SqT K H a xs → xs[i]? = some x, fun i H => ∃ xs : List V, SqT K H a xs ∧ xs.length ≤ i⟩
theorem turn_enumT {P : Program} {w : World} {K : PySem.W.Frag} {elts : List Expr} {kk : Nat} {tpos : Pos} (a e it : Addr) :
    Turn P w K (.Tuple elts kk tpos) (IteT K a) [e, it] e (fun i h => (∃ old, IsEnum h e it ((i : Nat) : Int) old) ∧ h.IsTupleIter it a i ∧ e ≠ it) where
  mem := by simp
  obj := fun i h st b hb => by
    obtain ⟨⟨old, he⟩, ⟨o, ho, hc, hd⟩, _⟩ := st
    have e' : b = e ∨ b = it := by simpa using hb
    rcases e' with z | z
    · rw [z]; exact ⟨_, he, fun v q => nomatch q⟩
    · rw [z]; exact ⟨o, ho, fun v q => by rw [hd] at q; cases q⟩
  keep := fun i h h' st k => let ⟨⟨old, he⟩, hi, hne⟩ := st; ⟨⟨old, k e (by simp) _ he⟩, hi.at fun o q => k it (by simp) o q, hne⟩
  item := by
    intro X hP hw hK hc i pins s σ H E I hf st hg
    subst hP hw hK
    obtain ⟨⟨old, he⟩, hit, hne⟩ := st
    obtain ⟨xs, x, hq, hx⟩ := hg
    obtain ⟨its, rv, p, hz⟩ := I.tuple hq
    obtain ⟨u, hu, ru⟩ := rv.get hx
    have p : s.heap.IsTuple a its.toArray := p
    have hel : e < s.heap.objs.size := Heap.lt_size he
    have hil : it < s.heap.objs.size := by obtain ⟨_, q, _⟩ := hit; exact Heap.lt_size q
    have n1 : a ≠ it := fun z => by
      subst z
      obtain ⟨o, ho, hcl, _⟩ := p
      obtain ⟨o2, ho2, hcl2, _⟩ := hit
      rw [ho] at ho2; cases ho2
      rw [hcl] at hcl2; simp at hcl2
    have n2 : a ≠ e := fun z => by
      subst z
      obtain ⟨o, ho, hcl, _⟩ := p
      have := ho.symm.trans he
      cases this
      simp at hcl
    have hil2 : i < its.toArray.size := by
      have := (List.getElem?_eq_some_iff.mp hu).1
      simpa using this
    have D : Draws X.prog X.w X.A.in1 it [it, a] its.toArray.size (fun i v => its.toArray[i]? = some v) (fun i h => h.IsTupleIter it a i ∧ h.IsTuple a its.toArray) := Draws.tuple (A := X.A.in1) (show X.A.in1.handled = none from I.ok.hd hc) it a n1 its.toArray
    refine wpAny_pyNext_enum_itemD D he ⟨hit, p⟩ hil2 hne (by simp [hne, Ne.symm n2]) fun v h' tk Pv ho st' hT hsz hk => ?_
    have ev : v = u := by
      have a1 : its[i]? = some v := by simpa using Pv
      rw [hu] at a1
      cases a1
      rfl
    subst ev
    refine ⟨_, rfl, wpAny_letOwnedTupleGo_enum (s := { s with heap := h', toks := tk + 1 }) ho fun h'' he' sb => ?_⟩
    have hT2 : h''.get? s.heap.objs.size = some { cls := .type "tuple", data := .seq #[.int i tk, v] } := (sb.2 _ (Nat.ne_of_gt hel)).trans hT
    have new : ObjOk X.prog X.w (upd H s.heap.objs.size (.tup [.int (i : Nat), x])) h'' s.heap.objs.size (.tup [.int (i : Nat), x]) :=
      ⟨by show 2 ≤ sizeLine; decide, [.int i tk, v], .cons ⟨_, rfl⟩ (.cons ru .nil), ⟨_, hT2, rfl, _, rfl⟩⟩
    have I1 : Inv X pins σ (upd H s.heap.objs.size (.tup [.int (i : Nat), x])) { s with heap := h'', toks := tk + 1 } :=
      I.turnedNew (ch := [e, it]) (fun b ob hb q => (sb.2 b (fun z => hb (by simp [z]))).trans (hk b ob (fun z => hb (by simp [z])) (fun z => hb (by simp [z])) q)) hf (Nat.le_refl _) new
    refine ⟨.ref s.heap.objs.size, _, I1, rfl, ⟨_, x, rfl, I.hok.fresh (Nat.le_refl _), rfl, fun ys hy => by rw [I.tuple_inj hy hq]; exact hx⟩, ⟨⟨v, ?_⟩, st'.1.at fun o q => (sb.2 it (Ne.symm hne)).trans q, hne⟩, fun b hb => ?_⟩
    · have e1 : ((i + 1 : Nat) : Int) = (i : Int) + 1 := by omega
      rw [e1]; exact he'
    · have hb' : b < s.heap.objs.size := by
        have e' : b = e ∨ b = it := by simpa using hb
        rcases e' with z | z
        · rw [z]; exact hel
        · rw [z]; exact hil
      rw [upd_ne (Nat.ne_of_lt hb')]
      exact (hf b hb).1
  done := by
    intro X hP hw hK hc i pins s σ H E I hf st hg
    subst hP hw hK
    obtain ⟨⟨old, he⟩, hit, hne⟩ := st
    obtain ⟨xs, hq, hx⟩ := hg
    obtain ⟨its, rv, p, hz⟩ := I.tuple hq
    have p : s.heap.IsTuple a its.toArray := p
    obtain ⟨f0, f1, f2, f3, f4, f5⟩ := hf it (by simp)
    have hl := rv.length
    have n1 : a ≠ it := fun z => by
      subst z
      obtain ⟨o, ho, hcl, _⟩ := p
      obtain ⟨o2, ho2, hcl2, _⟩ := hit
      rw [ho] at ho2; cases ho2
      rw [hcl] at hcl2; simp at hcl2
    exact enum_end_tup (I.ok.hd hc) he hit p (by simp; omega) fun h' eb => ⟨rfl, I.turned (t' := s.toks) (fun b o hb q => eb b o hb q) f0 f1 f3 f4 f5⟩
  self := fun A i s Q E st h => let ⟨⟨_, he⟩, _⟩ := st; wpAny_pyIter_enum he h
def iEnumT (K : PySem.W.Frag) (ta : TA) : TI := fun σ H R => ta σ H fun vs H1 => ∃ a xs, vs = [.ref a] ∧ SqT K H1 a xs ∧ R (IteT K a) H1
theorem pi_enumT {X : Cx} {e : Expr} {ta : TA} {p pos tpos : Pos} {elts : List Expr} {kk : Nat} (hg : Gl X "enumerate") (hm : X.mg "enumerate" = none) (ha : PA X [e] ta) (hs : starEach [e] X.env = [(false, eval e X.env)] := by rfl) :
    PI X (.Tuple elts kk tpos) (.Call (.Name "enumerate" p) [e] [] pos) (iEnumT X.K ta) := by
  refine ⟨fun pins s σ H R I h => ?_⟩
  refine Call_ (ld_blt I hg hm boot_enumerate (PyProof.Rows.callWith_type1 (thn (ha.run pos pins s σ H _ I h) fun us s1 ⟨vs, H1, I1, r1, q1⟩ => ?_) hs rfl))
  obtain ⟨a, xs, ex, hq, q⟩ := q1
  subst ex
  cases r1 with
  | cons r rr =>
    cases rr
    cases r
    obtain ⟨its, rv, p', hz⟩ := I1.tuple hq
    have p' : s1.heap.IsTuple a its.toArray := p'
    refine enum_begins1 (begins_tuple a its.toArray) p' fun h' he hit hk => wpAny_pyIter_enum he ?_
    have I2 : Inv X pins σ H1 { s1 with heap := h' } := I1.kept (t' := s1.toks) hk
    refine ⟨s1.heap.objs.size + 1, [s1.heap.objs.size + 1, s1.heap.objs.size], _, _, H1, rfl, I2, turn_enumT a (s1.heap.objs.size + 1) s1.heap.objs.size, ⟨⟨.none, he⟩, ⟨_, hit, rfl, rfl⟩, Nat.succ_ne_self _⟩, fun b hb => ?_, q⟩
    have e' : b = s1.heap.objs.size + 1 ∨ b = s1.heap.objs.size := by simpa using hb
    have hle : s1.heap.objs.size ≤ b := by
      rcases e' with z | z
      · rw [z]; exact Nat.le_add_right _ _
      · rw [z]; exact Nat.le_refl _
    exact I1.fpOk hle (I1.hok.fresh hle)
def enmT (as : AF) : IF := fun env h => bd (as env h) fun ds h1 => match ds with
  | [x] => match zsrc h1 x with
    | some (true, so, xs) => .ok ⟨so, numD 0 xs⟩ h1
    | _ => .bad
  | _ => .bad
section
variable {X : Cx} {W : WX} {K : PySem.W.Frag} {as : AF} {p pos : Pos} {e : Expr}
theorem di_enumT {tpos : Pos} {elts : List Expr} {kk : Nat} (hg : Gl X "enumerate") (hm : X.mg "enumerate" = none) (ha : PA X [e] (tA X.K W as)) (hs : starEach [e] X.env = [(false, eval e X.env)] := by rfl) :
    PI X (.Tuple elts kk tpos) (.Call (.Name "enumerate" p) [e] [] pos) (tI X.K W (enmT as)) :=
  PI.imp (pi_enumT hg hm ha hs) fun σ H R pp => tG.first (R := RVs X.K) (f := as) (g := fun ds _ h1 => match ds with
  | [x] => match zsrc h1 x with
    | some (true, so, xs) => .ok (ItD.mk so (numD 0 xs)) h1
    | _ => .bad
  | _ => .bad) pp fun r0 env h1 x v H1 rh rs rx p1 => by
    split at p1
    · rename_i x
      obtain ⟨u, rfl, ru⟩ := rx.inv1
      split at p1
      · rename_i so0 xs e1
        obtain ⟨a, vs, rfl, f1, q1⟩ := zsrc_at e1 ru .refl rh (zsrc_ok e1)
        have f1 : SqT X.K H1 a vs := f1
        refine ⟨a, vs, rfl, f1, p1 _ _ _ .refl rh fun r' h' H' e rh' so i => ?_⟩
        obtain ⟨a', vs, ea, f1, q1⟩ := zsrc_at e1 ru e rh' fun p hp => so p hp
        cases ea
        have f1 : SqT X.K H' a vs := f1
        refine ⟨fun d hd => ?_, fun hl => ?_⟩
        · obtain ⟨z, hz, rfl⟩ := numD_get hd
          obtain ⟨z1, hz1, rz1⟩ := q1.get hz
          refine ⟨⟨vs, z1, f1, hz1⟩, fun x H'' hy => ?_⟩
          obtain ⟨T, z3, rfl, hn, rfl, g1⟩ := hy
          have g1 := g1 vs f1
          rw [hz1] at g1; cases g1
          rw [Nat.zero_add]
          exact lay_pair rh' hn (rv_int.mpr rfl) rz1
        · dsimp only at hl
          rw [numD_len, q1.length] at hl
          exact ⟨vs, f1, hl⟩
      · exact p1.elim
    · exact p1.elim
theorem ev_enmT {env : Env'} {ds : List D} {h h' : DH} (ea : as env h = .ok [.tup ds] h') : enmT as env h = .ok ⟨[], numD 0 ds⟩ h' := by
  unfold enmT
  rw [ea]
  rfl
end
end Dt
namespace Dt
open PySem PySem.W PySem.Spec PyProof.Rows L2
section
variable {X : Cx} {W : WX} {k : Nat} {f : Addr} {fd : FuncData} {G : FD} {nm p1 p2 : Str} {e : Expr} {kws : List Keyword} {as : AF} {p pos : Pos}
end
section
variable {X : Cx} {W : WX} {K : PySem.W.Frag} {e : Expr} {fa : EF} {x : Str} {p pos : Pos}
theorem cr_reprP (gd : X.A.guards = some []) (hu : X.A.units + 65 < cLine) : CallR X (.builtin "repr") (rStrP X.K) := by
  intro pins s σ H xs us Q I rv ⟨a, d, e1, dp, hs, hd, hz, hl, q⟩
  subst e1
  obtain ⟨u, rfl, ru⟩ := vals1 rv
  obtain rfl : u = Value.ref a := ru
  obtain ⟨as, rd⟩ := Dp.reads I d (.ref a) (.ref a) dp rfl
  exact repr_of_reads' (h₀ := s.heap) rd hs (fun z => by rw [hd] at z; cases z) gd (by omega) (fun _ _ z => z) (fun h' u tk k => ⟨.str d.shown, H, I.kept k, ⟨u, rfl⟩, q⟩) hl
noncomputable def reprD (xs : List D) (h : DH) : Rs D := match xs with
  | [x] => strqD x h
  | _ => .bad
theorem cd_repr : CallD K reprD (rStrP K) := by
  intro r0 h H xs vs W σ Q rh rx p
  unfold reprD at p
  split at p
  · rename_i x
    obtain ⟨v, rfl, rv⟩ := rx.inv1
    unfold strqD at p
    split at p
    · rename_i q e2
      split at p
      · rename_i hc
        obtain ⟨c1, c2, c3, c4, c5⟩ := hc
        have dp := toP_dp rh e2 rv
        obtain ⟨a, rfl⟩ : ∃ a, v = .ref a := by
          cases dp with
          | non => cases c1
          | bl => cases c1
          | int => cases c1
          | str => cases c1
          | lst => exact ⟨_, rfl⟩
          | tup => exact ⟨_, rfl⟩
        exact ⟨a, q, rfl, dp, c3, c4, c2, line_le c5, po_v rh (rv_str.mpr rfl) p⟩
      · exact p.elim
    · exact p.elim
  · exact p.elim
end
end Dt
namespace WS
open PySem PySem.Spec PyProof.Rows L2
section
variable {X : Cx}
def rSetNT (K : PySem.W.Frag) (w : World) : List V → Hp → VK → Prop := fun xs H Q => ∃ (l : Addr) (ns : List Int), xs = [V.ref l] ∧ SqT K H l (ns.map V.int) ∧ ns.length ≤ 1000 ∧
  ∀ a, H a = none → Q (.ref a) (upd H a (IsO w a ns))
theorem cr_setNT (hc : X.calm = true) : CallR X (.type "set") (rSetNT X.K X.w) := by
  intro pins s σ H xs us Q I r h
  obtain ⟨l, ns, rfl, hl, cap, q⟩ := h
  rw [Vals.ref1 r]
  obtain ⟨its, rv, pl, hz⟩ := I.tuple hl
  have fresh : H s.heap.objs.size = none := I.hok.fresh (Nat.le_refl _)
  refine call_set_tupI (P := X.prog) (w := X.w) (items := its.toArray) ns (I.ok.hd hc) pl (by simpa using Vals.ints rv) (Nat.lt_of_le_of_lt (Nat.succ_le_succ cap) (by decide)) fun h' tk c R _ kp => ?_
  have ec := count_is R
  subst ec
  exact ⟨.ref s.heap.objs.size, _, I.laid (t' := tk) kp (Nat.le_refl _) (isO_ok R), rfl, q _ fresh⟩
end
end WS
namespace Dt
open PySem PySem.Spec PyProof.Rows L2 WS
def sortsetT (own : Bool) (x : D) (h : DH) : Rs D := match tsq x with
  | some ds => match toI ds with
    | some ns => if ns.length ≤ 1000 ∧ (iset ns).length < 64 then mkL own ((iset ns).map D.int) h else .bad
    | none => .bad
  | none => .bad
section
variable {X : Cx} {K : PySem.W.Frag} {r : Rg} {h : DH} {H : Hp} {W : WX} {ds : List D} {vs : List V}
theorem de_sortsetT {x y : Str} {e : Expr} {p p2 q pos : Pos} {fa : EF} (own : Bool) (hc : X.calm = true) (hx : x = "sorted") (hy : y = "set") (hg : Gl X x) (hm : X.mg x = none) (hg2 : Gl X y) (hm2 : X.mg y = none) (ha : PE X e (tE X.K W fa)) (hs : ∀ c, starEach [e] c = [(false, eval e c)] := by intro c; rfl) :
    PE X (.Call (.Name x p) [.Call (.Name y p2) [e] [] q] [] pos) (tE X.K W (o1 (sortsetT own) fa)) := by
  subst hx; subst hy
  refine PE.imp (pe_callB (cr_sortN hc) hg hm (by rfl) (pa_cons (pe_callTy (cr_setNT hc) hg2 hm2 PyProof.Rows.boot_set (pa_cons ha pa_nil (hs X.env)) (he := hs X.env)) pa_nil)) fun σ H Q p => ?_
  refine tG.first (R := RV X.K) (f := fa) (g := fun a _ h1 => sortsetT own a h1) p fun r0 env h1 x v H1 rh rs rx p1 => ?_
  unfold sortsetT at p1
  split at p1
  · rename_i ds e1
    split at p1
    · rename_i ns e2
      split at p1
      · rename_i hc2
        obtain ⟨l, ys, rfl, sl, qv⟩ := tsq_at rx e1
        rw [toI_map e2] at qv
        rw [qv.of_ints] at sl
        refine ⟨l, ns, rfl, sl, hc2.1, fun S hS => ?_⟩
        obtain ⟨ex, rh1⟩ := rh.lay (o := IsO X.w S ns) hS
        refine ⟨S, ns, rfl, upd_same, hc2.2, fun z hz => ?_⟩
        exact (po_mkL rh1 RVs.ints (Po.later ex p1)).2 z hz
      · exact p1.elim
    · exact p1.elim
  · exact p1.elim
theorem ev_sortsetT {own : Bool} {ns : List Int} (hl : ns.length ≤ 1000) (hz : (iset ns).length < 64) : sortsetT own (.tup (ns.map D.int)) h = mkL own ((iset ns).map D.int) h := by
  unfold sortsetT
  show (match toI (ns.map D.int) with
    | some ns => if ns.length ≤ 1000 ∧ (iset ns).length < 64 then mkL own ((iset ns).map D.int) h else .bad
    | none => .bad) = _
  rw [toI_ints]
  exact if_pos ⟨hl, hz⟩
end
end Dt
namespace WS
open PySem PySem.Spec PyProof.Rows L2 AutoSeq1
theorem meets_extT (l b : Addr) (xs ys : Array Value) (c c2 : Nat) (od : Option Addr) (osl : Array (Option Value)) (h1 : ¬(!xs.isEmpty && Builtin.List.listTooLong (xs.size + ys.size)) = true) (h2 : xs.size ≤ sizeLine) (h3 : xs.size + ys.size ≤ sizeLine + 1) :
    Meets (Builtin.«list.extend» ⟨[.ref l, .ref b], []⟩) (fun _ R s => s.heap.get? l = some { cls := .type "list", dict := none, data := .seq xs c, slots := #[] } ∧ s.heap.get? b = some { cls := .type "tuple", dict := od, data := .seq ys c2, slots := osl } ∧ R (.ok (.ret Value.none)) { s with heap := s.heap.update l (Obj.mapSeq fun z => z ++ ys), toks := s.toks }) :=
  .of_wp fun prog w A R s hh => by
    obtain ⟨hp, g, d, tk, os⟩ := s
    obtain ⟨hl, hb, hr⟩ := hh
    have f1 := idx_int
    have f2 := AutoSeq1.sub_tuple_tuple
    have f3 := AutoSeq1.sub_list_list
    have f4 := AutoSeq1.sub_tuple_list
    have f5 := AutoSeq1.sub_list_tuple
    have hz : (xs ++ ys).size ≤ sizeLine + 1 := by
      rw [Array.size_append]
      exact h3
    wp_walk using (wpAny_updateSeq hl rfl (hz := h2) (_hz' := hz)), wpAny_loadPart' hl, wpAny_loadPart' hb
    exact ⟨_, rfl, hr⟩
section
variable {X : Cx}
def rExtT (K : PySem.W.Frag) : V → List V → Hp → VK → Prop := fun x vs H Q => ∃ l b xs zs, x = .ref l ∧ vs = [.ref b] ∧ H l = some (.lst xs) ∧ SqT K H b zs ∧ xs.length + zs.length ≤ sizeLine ∧ Q .non (upd H l (.lst (xs ++ zs)))
theorem mt_extT : MtM X "list.extend" (rExtT X.K) := by
  intro pins s σ H x vs v us Q I rx rv hh
  obtain ⟨l, b, xs, zs, rfl, rfl, hH, hB, hz, q⟩ := hh
  cases rx
  obtain ⟨u, rfl, ru⟩ := rv.one
  cases ru
  obtain ⟨z, its, n, r, hl, e⟩ := I.lstM hH
  obtain ⟨its2, r2, pt, _⟩ := I.tuple hB
  obtain ⟨⟨oc, od, dt, osl⟩, ho, hc, n2, hd⟩ := pt
  have hc : oc = .type "tuple" := hc
  have hd : dt = .seq its2.toArray n2 := hd
  subst hc hd
  have l2 := r2.length
  have hsz : its.toArray.size + its2.toArray.size ≤ sizeLine := by
    rw [List.size_toArray, List.size_toArray]
    omega
  have hlong : ¬ (!its.toArray.isEmpty && Builtin.List.listTooLong (its.toArray.size + its2.toArray.size)) = true := by
    have : Builtin.List.listTooLong (its.toArray.size + its2.toArray.size) = false := notLongL hsz
    rw [this, Bool.and_false]
    decide
  refine call_meets F.slot_list_extend ⟨_, e, rfl⟩ F.entry_list_extend (F.args_list_extend_2 _ _) (meets_extT l b its.toArray its2.toArray n n2 od osl hlong (by rw [List.size_toArray]; omega) (by omega)) ⟨e, ho, ?_⟩
  refine ⟨.non, _, I.lset (its' := its ++ its2) hH e (by simp) (r.append r2) ?_, rfl, q⟩
  rw [List.length_append]
  omega
end
end WS
namespace Dt
open PySem PySem.Spec PyProof.Rows L2 WS
def extendTD (x : D) (xs : List D) (h : DH) : Rs D := match mlst h x, xs with
  | some (n, ds), [y] => match tsq y with
    | some es => if ds.length + es.length ≤ 1000000 then .ok .non (h.set n (.lst (ds ++ es))) else .bad
    | none => .bad
  | _, _ => .bad
theorem md_extT {K : PySem.W.Frag} : MtD K extendTD (rExtT K) := by
  intro r0 h H x v xs vs W σ Q rh rx rxs p
  unfold extendTD at p
  split at p
  · rename_i e
    split at p
    · rename_i e2
      split at p
      · rename_i hl
        obtain ⟨a, ys, rfl, ha, f, q⟩ := mlst_at rh rx e
        obtain ⟨u, rfl, ru⟩ := rxs.inv1
        obtain ⟨b, zs, rfl, g, q2⟩ := tsq_at ru e2
        exact ⟨a, b, ys, zs, rfl, rfl, f, g, by rw [← q.length, ← q2.length]; exact line_le hl, po_put rh ha (q.append q2) (rv_non.mpr rfl) p⟩
      · exact p.elim
    · exact p.elim
  · exact p.elim
theorem ev_extT {h : DH} {r : Nat} {ds es : List D} (e : h[r]? = some (.lst ds)) (hl : ds.length + es.length ≤ 1000000) : extendTD (.ref r) [.tup es] h = .ok .non (h.set r (.lst (ds ++ es))) := by
  have : tsq (.tup es) = some es := rfl
  unfold extendTD
  simp only [mlst, e, this]
  rw [if_pos hl]
end Dt
namespace P03
open PySem PySem.Spec PyProof.Rows L2 Dt
section
def top (i : Nat) : Stmt := PySem.Challenge.pw_beatnet_k03_what_is_a_parting.main.body.getD i (.Pass ⟨0, 0, 0, 0⟩)
abbrev st_is_whole : Stmt := (top 5)
abbrev N_is_whole : List Str := ["thing"]
theorem sc_is_whole : FnScope N_is_whole ["thing"] (defScope st_is_whole) := ⟨rfl, rfl, rfl, by decide +kernel, rfl, by decide +kernel, by decide +kernel⟩
def dd_is_whole : He.DefD := ⟨("is_whole", none), "is_whole", "is_whole", defArgs st_is_whole, defBody st_is_whole, defScope st_is_whole, [], []⟩
abbrev st_are_rising : Stmt := (top 6)
abbrev N_are_rising : List Str := ["some", "one", "other"]
theorem sc_are_rising : FnScope N_are_rising ["some"] (defScope st_are_rising) := ⟨rfl, rfl, rfl, by decide +kernel, rfl, by decide +kernel, by decide +kernel⟩
def dd_are_rising : He.DefD := ⟨("are_rising", none), "are_rising", "are_rising", defArgs st_are_rising, defBody st_are_rising, defScope st_are_rising, [], []⟩
abbrev st_is_hand : Stmt := (top 7)
abbrev N_is_hand : List Str := ["hands", "thing"]
theorem sc_is_hand : FnScope N_is_hand ["hands", "thing"] (defScope st_is_hand) := ⟨rfl, rfl, rfl, by decide +kernel, rfl, by decide +kernel, by decide +kernel⟩
def dd_is_hand : He.DefD := ⟨("is_hand", none), "is_hand", "is_hand", defArgs st_is_hand, defBody st_is_hand, defScope st_is_hand, [], []⟩
abbrev st_is_edge : Stmt := (top 8)
abbrev N_is_edge : List Str := ["hands", "thing"]
theorem sc_is_edge : FnScope N_is_edge ["hands", "thing"] (defScope st_is_edge) := ⟨rfl, rfl, rfl, by decide +kernel, rfl, by decide +kernel, by decide +kernel⟩
def dd_is_edge : He.DefD := ⟨("is_edge", none), "is_edge", "is_edge", defArgs st_is_edge, defBody st_is_edge, defScope st_is_edge, [], []⟩
abbrev st_beside : Stmt := (top 9)
abbrev N_beside : List Str := ["net", "hands", "edges", "found", "hand", "one", "other"]
theorem sc_beside : FnScope N_beside ["net"] (defScope st_beside) := ⟨rfl, rfl, rfl, by decide +kernel, rfl, by decide +kernel, by decide +kernel⟩
def dd_beside : He.DefD := ⟨("beside", none), "beside", "beside", defArgs st_beside, defBody st_beside, defScope st_beside, [], []⟩
abbrev st_reached : Stmt := (top 10)
abbrev N_reached : List Str := ["lists", "hand", "within", "found", "row", "at", "other"]
theorem sc_reached : FnScope N_reached ["lists", "hand", "within"] (defScope st_reached) := ⟨rfl, rfl, rfl, by decide +kernel, rfl, by decide +kernel, by decide +kernel⟩
def dd_reached : He.DefD := ⟨("reached", none), "reached", "reached", defArgs st_reached, defBody st_reached, defScope st_reached, [], []⟩
abbrev st_is_net : Stmt := (top 11)
abbrev N_is_net : List Str := ["thing", "hands", "edges", "edge"]
theorem sc_is_net : FnScope N_is_net ["thing"] (defScope st_is_net) := ⟨rfl, rfl, rfl, by decide +kernel, rfl, by decide +kernel, by decide +kernel⟩
def dd_is_net : He.DefD := ⟨("is_net", none), "is_net", "is_net", defArgs st_is_net, defBody st_is_net, defScope st_is_net, [], []⟩
abbrev st_need_net : Stmt := (top 12)
abbrev N_need_net : List Str := ["net"]
theorem sc_need_net : FnScope N_need_net ["net"] (defScope st_need_net) := ⟨rfl, rfl, rfl, by decide +kernel, rfl, by decide +kernel, by decide +kernel⟩
def dd_need_net : He.DefD := ⟨("need_net", none), "need_net", "need_net", defArgs st_need_net, defBody st_need_net, defScope st_need_net, [], []⟩
abbrev st_is_part : Stmt := (top 13)
abbrev N_is_part : List Str := ["net", "lists", "thing", "hand"]
theorem sc_is_part : FnScope N_is_part ["net", "lists", "thing"] (defScope st_is_part) := ⟨rfl, rfl, rfl, by decide +kernel, rfl, by decide +kernel, by decide +kernel⟩
def dd_is_part : He.DefD := ⟨("is_part", none), "is_part", "is_part", defArgs st_is_part, defBody st_is_part, defScope st_is_part, [], []⟩
abbrev st_is_parting : Stmt := (top 14)
abbrev N_is_parting : List Str := ["net", "thing", "lists", "part", "hand"]
theorem sc_is_parting : FnScope N_is_parting ["net", "thing"] (defScope st_is_parting) := ⟨rfl, rfl, rfl, by decide +kernel, rfl, by decide +kernel, by decide +kernel⟩
def dd_is_parting : He.DefD := ⟨("is_parting", none), "is_parting", "is_parting", defArgs st_is_parting, defBody st_is_parting, defScope st_is_parting, [], []⟩
abbrev st_law_cell_at : Stmt := (top 16)
abbrev N_law_cell_at : List Str := ["script", "k"]
theorem sc_law_cell_at : FnScope N_law_cell_at ["script", "k"] (defScope st_law_cell_at) := ⟨rfl, rfl, rfl, by decide +kernel, rfl, by decide +kernel, by decide +kernel⟩
def dd_law_cell_at : He.DefD := ⟨("_law_cell_at", none), "_law_cell_at", "_law_cell_at", defArgs st_law_cell_at, defBody st_law_cell_at, defScope st_law_cell_at, [], []⟩
abbrev st_law_bag : Stmt := (top 17)
abbrev N_law_bag : List Str := ["cell", "k"]
theorem sc_law_bag : FnScope N_law_bag ["cell", "k"] (defScope st_law_bag) := ⟨rfl, rfl, rfl, by decide +kernel, rfl, by decide +kernel, by decide +kernel⟩
def dd_law_bag : He.DefD := ⟨("_law_bag", none), "_law_bag", "_law_bag", defArgs st_law_bag, defBody st_law_bag, defScope st_law_bag, [], []⟩
abbrev st_law_take : Stmt := (top 18)
abbrev N_law_take : List Str := ["bag", "many", "found", "mixed"]
theorem sc_law_take : FnScope N_law_take ["bag", "many"] (defScope st_law_take) := ⟨rfl, rfl, rfl, by decide +kernel, rfl, by decide +kernel, by decide +kernel⟩
def dd_law_take : He.DefD := ⟨("_law_take", none), "_law_take", "_law_take", defArgs st_law_take, defBody st_law_take, defScope st_law_take, [], []⟩
abbrev st_law_mixed : Stmt := (top 19)
abbrev N_law_mixed : List Str := ["bag", "some", "left", "one"]
theorem sc_law_mixed : FnScope N_law_mixed ["bag", "some"] (defScope st_law_mixed) := ⟨rfl, rfl, rfl, by decide +kernel, rfl, by decide +kernel, by decide +kernel⟩
def dd_law_mixed : He.DefD := ⟨("_law_mixed", none), "_law_mixed", "_law_mixed", defArgs st_law_mixed, defBody st_law_mixed, defScope st_law_mixed, [], []⟩
abbrev st_law_net : Stmt := (top 20)
abbrev N_law_net : List Str := ["bag", "most", "shape", "hands", "called", "pairs", "k", "j", "pair"]
theorem sc_law_net : FnScope N_law_net ["bag", "most"] (defScope st_law_net) := ⟨rfl, rfl, rfl, by decide +kernel, rfl, by decide +kernel, by decide +kernel⟩
def dd_law_net : He.DefD := ⟨("_law_net", none), "_law_net", "_law_net", defArgs st_law_net, defBody st_law_net, defScope st_law_net, [], []⟩
abbrev st_law_parting : Stmt := (top 21)
abbrev N_law_parting : List Str := ["bag", "net", "hands", "edges", "joined", "many", "turn", "one", "other", "at", "groups", "hand"]
theorem sc_law_parting : FnScope N_law_parting ["bag", "net"] (defScope st_law_parting) := ⟨rfl, rfl, rfl, by decide +kernel, rfl, by decide +kernel, by decide +kernel⟩
def dd_law_parting : He.DefD := ⟨("_law_parting", none), "_law_parting", "_law_parting", defArgs st_law_parting, defBody st_law_parting, defScope st_law_parting, [], []⟩
abbrev st_law_steps : Stmt := (top 22)
abbrev N_law_steps : List Str := ["net", "hand", "within", "found", "ways", "pair", "going", "one", "other"]
theorem sc_law_steps : FnScope N_law_steps ["net", "hand", "within"] (defScope st_law_steps) := ⟨rfl, rfl, rfl, by decide +kernel, rfl, by decide +kernel, by decide +kernel⟩
def dd_law_steps : He.DefD := ⟨("_law_steps", none), "_law_steps", "_law_steps", defArgs st_law_steps, defBody st_law_steps, defScope st_law_steps, [], []⟩
abbrev st_law_is_whole : Stmt := (top 23)
abbrev N_law_is_whole : List Str := ["thing"]
theorem sc_law_is_whole : FnScope N_law_is_whole ["thing"] (defScope st_law_is_whole) := ⟨rfl, rfl, rfl, by decide +kernel, rfl, by decide +kernel, by decide +kernel⟩
def dd_law_is_whole : He.DefD := ⟨("_law_is_whole", none), "_law_is_whole", "_law_is_whole", defArgs st_law_is_whole, defBody st_law_is_whole, defScope st_law_is_whole, [], []⟩
abbrev st_law_is_part : Stmt := (top 24)
abbrev N_law_is_part : List Str := ["net", "part", "hand", "reach"]
theorem sc_law_is_part : FnScope N_law_is_part ["net", "part"] (defScope st_law_is_part) := ⟨rfl, rfl, rfl, by decide +kernel, rfl, by decide +kernel, by decide +kernel⟩
def dd_law_is_part : He.DefD := ⟨("_law_is_part", none), "_law_is_part", "_law_is_part", defArgs st_law_is_part, defBody st_law_is_part, defScope st_law_is_part, [], []⟩
abbrev st_law_is_parting : Stmt := (top 25)
abbrev N_law_is_parting : List Str := ["net", "thing", "part", "hands", "firsts"]
theorem sc_law_is_parting : FnScope N_law_is_parting ["net", "thing"] (defScope st_law_is_parting) := ⟨rfl, rfl, rfl, by decide +kernel, rfl, by decide +kernel, by decide +kernel⟩
def dd_law_is_parting : He.DefD := ⟨("_law_is_parting", none), "_law_is_parting", "_law_is_parting", defArgs st_law_is_parting, defBody st_law_is_parting, defScope st_law_is_parting, [], []⟩
abbrev st_law_odd : Stmt := (top 26)
abbrev N_law_odd : List Str := ["bag", "net"]
theorem sc_law_odd : FnScope N_law_odd ["bag", "net"] (defScope st_law_odd) := ⟨rfl, rfl, rfl, by decide +kernel, rfl, by decide +kernel, by decide +kernel⟩
def dd_law_odd : He.DefD := ⟨("_law_odd", none), "_law_odd", "_law_odd", defArgs st_law_odd, defBody st_law_odd, defScope st_law_odd, [], []⟩
abbrev st_law_part_bent : Stmt := (top 27)
abbrev N_law_part_bent : List Str := ["bag", "net", "part", "way", "at"]
theorem sc_law_part_bent : FnScope N_law_part_bent ["bag", "net", "part"] (defScope st_law_part_bent) := ⟨rfl, rfl, rfl, by decide +kernel, rfl, by decide +kernel, by decide +kernel⟩
def dd_law_part_bent : He.DefD := ⟨("_law_part_bent", none), "_law_part_bent", "_law_part_bent", defArgs st_law_part_bent, defBody st_law_part_bent, defScope st_law_part_bent, [], []⟩
abbrev st_law_bent : Stmt := (top 28)
abbrev N_law_bent : List Str := ["bag", "net", "parting", "way", "at", "other", "rest", "k", "part", "cut", "some"]
theorem sc_law_bent : FnScope N_law_bent ["bag", "net", "parting"] (defScope st_law_bent) := ⟨rfl, rfl, rfl, by decide +kernel, rfl, by decide +kernel, by decide +kernel⟩
def dd_law_bent : He.DefD := ⟨("_law_bent", none), "_law_bent", "_law_bent", defArgs st_law_bent, defBody st_law_bent, defScope st_law_bent, [], []⟩
abbrev st_law : Stmt := (top 29)
abbrev N_law : List Str := ["script", "k", "bag", "many", "net", "thing", "turn", "one", "kept", "found"]
theorem sc_law : FnScope N_law ["script"] (defScope st_law) := ⟨rfl, rfl, rfl, by decide +kernel, rfl, by decide +kernel, by decide +kernel⟩
def dd_law : He.DefD := ⟨("law", none), "law", "law", defArgs st_law, defBody st_law, defScope st_law, [], []⟩
structure Fx (K : PySem.W.Frag) (w : World) (mg : Str → Option Value) where
  z_int : mg "int" = none
  z_isinstance : mg "isinstance" = none
  z_bool : mg "bool" = none
  z_zip : mg "zip" = none
  z_all : mg "all" = none
  g_is_whole : mg "is_whole" = some (.ref (He.ga K "is_whole"))
  z_tuple : mg "tuple" = none
  z_len : mg "len" = none
  g_is_hand : mg "is_hand" = some (.ref (He.ga K "is_hand"))
  z_range : mg "range" = none
  i_MOST_HANDS : ∃ t, mg "MOST_HANDS" = some (.int 16 t)
  g_is_edge : mg "is_edge" = some (.ref (He.ga K "is_edge"))
  g_are_rising : mg "are_rising" = some (.ref (He.ga K "are_rising"))
  g_beside : mg "beside" = some (.ref (He.ga K "beside"))
  z_list : mg "list" = none
  g_reached : mg "reached" = some (.ref (He.ga K "reached"))
  g_is_net : mg "is_net" = some (.ref (He.ga K "is_net"))
  g_need_net : mg "need_net" = some (.ref (He.ga K "need_net"))
  g_is_part : mg "is_part" = some (.ref (He.ga K "is_part"))
  z_sorted : mg "sorted" = none
  z_max : mg "max" = none
  g__law_take : mg "_law_take" = some (.ref (He.ga K "_law_take"))
  g__law_mixed : mg "_law_mixed" = some (.ref (He.ga K "_law_mixed"))
  z_min : mg "min" = none
  z_set : mg "set" = none
  g__law_is_whole : mg "_law_is_whole" = some (.ref (He.ga K "_law_is_whole"))
  g__law_steps : mg "_law_steps" = some (.ref (He.ga K "_law_steps"))
  g__law_is_part : mg "_law_is_part" = some (.ref (He.ga K "_law_is_part"))
  g__law_odd : mg "_law_odd" = some (.ref (He.ga K "_law_odd"))
  z_enumerate : mg "enumerate" = none
  g__law_part_bent : mg "_law_part_bent" = some (.ref (He.ga K "_law_part_bent"))
  g__law_cell_at : mg "_law_cell_at" = some (.ref (He.ga K "_law_cell_at"))
  g__law_bag : mg "_law_bag" = some (.ref (He.ga K "_law_bag"))
  g__law_net : mg "_law_net" = some (.ref (He.ga K "_law_net"))
  g__law_parting : mg "_law_parting" = some (.ref (He.ga K "_law_parting"))
  g__law_is_parting : mg "_law_is_parting" = some (.ref (He.ga K "_law_is_parting"))
  g__law_bent : mg "_law_bent" = some (.ref (He.ga K "_law_bent"))
  z_repr : mg "repr" = none
  g_is_parting : mg "is_parting" = some (.ref (He.ga K "is_parting"))
  g_law : mg "law" = some (.ref (He.ga K "law"))
  fd_is_whole : FuncData
  F_is_whole : FunD K "is_whole" "is_whole" (defArgs st_is_whole) (defBody st_is_whole) (defScope st_is_whole) [] [] (He.ga K "is_whole") fd_is_whole
  B_is_whole : Binds K fd_is_whole ["thing"] []
  fd_are_rising : FuncData
  F_are_rising : FunD K "are_rising" "are_rising" (defArgs st_are_rising) (defBody st_are_rising) (defScope st_are_rising) [] [] (He.ga K "are_rising") fd_are_rising
  B_are_rising : Binds K fd_are_rising ["some"] []
  fd_is_hand : FuncData
  F_is_hand : FunD K "is_hand" "is_hand" (defArgs st_is_hand) (defBody st_is_hand) (defScope st_is_hand) [] [] (He.ga K "is_hand") fd_is_hand
  B_is_hand : Binds K fd_is_hand ["hands", "thing"] []
  fd_is_edge : FuncData
  F_is_edge : FunD K "is_edge" "is_edge" (defArgs st_is_edge) (defBody st_is_edge) (defScope st_is_edge) [] [] (He.ga K "is_edge") fd_is_edge
  B_is_edge : Binds K fd_is_edge ["hands", "thing"] []
  fd_beside : FuncData
  F_beside : FunD K "beside" "beside" (defArgs st_beside) (defBody st_beside) (defScope st_beside) [] [] (He.ga K "beside") fd_beside
  B_beside : Binds K fd_beside ["net"] []
  fd_reached : FuncData
  F_reached : FunD K "reached" "reached" (defArgs st_reached) (defBody st_reached) (defScope st_reached) [] [] (He.ga K "reached") fd_reached
  B_reached : Binds K fd_reached ["lists", "hand", "within"] []
  fd_is_net : FuncData
  F_is_net : FunD K "is_net" "is_net" (defArgs st_is_net) (defBody st_is_net) (defScope st_is_net) [] [] (He.ga K "is_net") fd_is_net
  B_is_net : Binds K fd_is_net ["thing"] []
  fd_need_net : FuncData
  F_need_net : FunD K "need_net" "need_net" (defArgs st_need_net) (defBody st_need_net) (defScope st_need_net) [] [] (He.ga K "need_net") fd_need_net
  B_need_net : Binds K fd_need_net ["net"] []
  fd_is_part : FuncData
  F_is_part : FunD K "is_part" "is_part" (defArgs st_is_part) (defBody st_is_part) (defScope st_is_part) [] [] (He.ga K "is_part") fd_is_part
  B_is_part : Binds K fd_is_part ["net", "lists", "thing"] []
  fd_is_parting : FuncData
  F_is_parting : FunD K "is_parting" "is_parting" (defArgs st_is_parting) (defBody st_is_parting) (defScope st_is_parting) [] [] (He.ga K "is_parting") fd_is_parting
  B_is_parting : Binds K fd_is_parting ["net", "thing"] []
  fd_law_cell_at : FuncData
  F_law_cell_at : FunD K "_law_cell_at" "_law_cell_at" (defArgs st_law_cell_at) (defBody st_law_cell_at) (defScope st_law_cell_at) [] [] (He.ga K "_law_cell_at") fd_law_cell_at
  B_law_cell_at : Binds K fd_law_cell_at ["script", "k"] []
  fd_law_bag : FuncData
  F_law_bag : FunD K "_law_bag" "_law_bag" (defArgs st_law_bag) (defBody st_law_bag) (defScope st_law_bag) [] [] (He.ga K "_law_bag") fd_law_bag
  B_law_bag : Binds K fd_law_bag ["cell", "k"] []
  fd_law_take : FuncData
  F_law_take : FunD K "_law_take" "_law_take" (defArgs st_law_take) (defBody st_law_take) (defScope st_law_take) [] [] (He.ga K "_law_take") fd_law_take
  B_law_take : Binds K fd_law_take ["bag", "many"] []
  fd_law_mixed : FuncData
  F_law_mixed : FunD K "_law_mixed" "_law_mixed" (defArgs st_law_mixed) (defBody st_law_mixed) (defScope st_law_mixed) [] [] (He.ga K "_law_mixed") fd_law_mixed
  B_law_mixed : Binds K fd_law_mixed ["bag", "some"] []
  fd_law_net : FuncData
  F_law_net : FunD K "_law_net" "_law_net" (defArgs st_law_net) (defBody st_law_net) (defScope st_law_net) [] [] (He.ga K "_law_net") fd_law_net
  B_law_net : Binds K fd_law_net ["bag", "most"] []
  fd_law_parting : FuncData
  F_law_parting : FunD K "_law_parting" "_law_parting" (defArgs st_law_parting) (defBody st_law_parting) (defScope st_law_parting) [] [] (He.ga K "_law_parting") fd_law_parting
  B_law_parting : Binds K fd_law_parting ["bag", "net"] []
  fd_law_steps : FuncData
  F_law_steps : FunD K "_law_steps" "_law_steps" (defArgs st_law_steps) (defBody st_law_steps) (defScope st_law_steps) [] [] (He.ga K "_law_steps") fd_law_steps
  B_law_steps : Binds K fd_law_steps ["net", "hand", "within"] []
  fd_law_is_whole : FuncData
  F_law_is_whole : FunD K "_law_is_whole" "_law_is_whole" (defArgs st_law_is_whole) (defBody st_law_is_whole) (defScope st_law_is_whole) [] [] (He.ga K "_law_is_whole") fd_law_is_whole
  B_law_is_whole : Binds K fd_law_is_whole ["thing"] []
  fd_law_is_part : FuncData
  F_law_is_part : FunD K "_law_is_part" "_law_is_part" (defArgs st_law_is_part) (defBody st_law_is_part) (defScope st_law_is_part) [] [] (He.ga K "_law_is_part") fd_law_is_part
  B_law_is_part : Binds K fd_law_is_part ["net", "part"] []
  fd_law_is_parting : FuncData
  F_law_is_parting : FunD K "_law_is_parting" "_law_is_parting" (defArgs st_law_is_parting) (defBody st_law_is_parting) (defScope st_law_is_parting) [] [] (He.ga K "_law_is_parting") fd_law_is_parting
  B_law_is_parting : Binds K fd_law_is_parting ["net", "thing"] []
  fd_law_odd : FuncData
  F_law_odd : FunD K "_law_odd" "_law_odd" (defArgs st_law_odd) (defBody st_law_odd) (defScope st_law_odd) [] [] (He.ga K "_law_odd") fd_law_odd
  B_law_odd : Binds K fd_law_odd ["bag", "net"] []
  fd_law_part_bent : FuncData
  F_law_part_bent : FunD K "_law_part_bent" "_law_part_bent" (defArgs st_law_part_bent) (defBody st_law_part_bent) (defScope st_law_part_bent) [] [] (He.ga K "_law_part_bent") fd_law_part_bent
  B_law_part_bent : Binds K fd_law_part_bent ["bag", "net", "part"] []
  fd_law_bent : FuncData
  F_law_bent : FunD K "_law_bent" "_law_bent" (defArgs st_law_bent) (defBody st_law_bent) (defScope st_law_bent) [] [] (He.ga K "_law_bent") fd_law_bent
  B_law_bent : Binds K fd_law_bent ["bag", "net", "parting"] []
  fd_law : FuncData
  F_law : FunD K "law" "law" (defArgs st_law) (defBody st_law) (defScope st_law) [] [] (He.ga K "law") fd_law
  B_law : Binds K fd_law ["script"] []
noncomputable def b_is_whole (K : PySem.W.Frag) : SF :=
  (ret (eandT (oA isiD (ac (vr 0) (ac (ct (.con (.ty "int"))) an))) (enot (oA isiD (ac (vr 0) (ac (ct (.con (.ty "bool"))) an))))))
noncomputable def G_is_whole (K : PySem.W.Frag) : FD := raw N_is_whole (b_is_whole K)
noncomputable def b_are_rising (K : PySem.W.Frag) : SF :=
  (ret (oA allD (ac (lcE (zipX (ac (vr 0) (ac (esl false (vr 0) (ps (ct (.int 1))) pn) an))) (.tp [(.nm 1), (.nm 2)]) tyes (o2 ltD (vr 1) (vr 2)) [1, 2]) an)))
noncomputable def G_are_rising (K : PySem.W.Frag) : FD := raw N_are_rising (b_are_rising K)
noncomputable def b_is_hand (K : PySem.W.Frag) : SF :=
  (ret (eandT (cll 1 (G_is_whole K) (ac (vr 1) an)) (och leD ltD (ct (.int 0)) (vr 1) (vr 0))))
noncomputable def G_is_hand (K : PySem.W.Frag) : FD := raw N_is_hand (b_is_hand K)
noncomputable def b_is_edge (K : PySem.W.Frag) : SF :=
  (seq (ife (tor (tnot (tv (oA isiD (ac (vr 1) (ac (ct (.con (.ty "tuple"))) an))))) (tv (o2 neD (oA lenD (ac (vr 1) an)) (ct (.int 2))))) (ret (ct (.bl false))) skp)
    (ret (eandT (cll 2 (G_is_hand K) (ac (vr 0) (ac (o2 ixD (vr 1) (ct (.int 0))) an))) (eandT (cll 2 (G_is_hand K) (ac (vr 0) (ac (o2 ixD (vr 1) (ct (.int 1))) an))) (o2 ltD (o2 ixD (vr 1) (ct (.int 0))) (o2 ixD (vr 1) (ct (.int 1))))))))
noncomputable def G_is_edge (K : PySem.W.Frag) : FD := raw N_is_edge (b_is_edge K)
noncomputable def b_beside (K : PySem.W.Frag) : SF :=
  (seq (asg (vr 0) (.tp [(.nm 1), (.nm 2)]))
    (seq (asg (lcE (rng1 (ac (vr 1) an)) (.nm 4) tyes (oA (mkL true) an) [4]) (.nm 3))
    (seq (forE (isq (vr 2)) (.tp [(.nm 5), (.nm 6)]) (seq (drp (mth lstK appendD (o2 ixD (vr 3) (vr 5)) (ac (vr 6) an)))
    (drp (mth lstK appendD (o2 ixD (vr 3) (vr 6)) (ac (vr 5) an)))))
    (ret (vr 3)))))
noncomputable def G_beside (K : PySem.W.Frag) : FD := raw N_beside (b_beside K)
noncomputable def b_reached (K : PySem.W.Frag) : SF :=
  (seq (asg (dspE true [((vr 1), (ct (.int 0)))]) (.nm 3))
    (seq (asg (oA (mkL true) (ac (vr 1) an)) (.nm 4))
    (seq (asg (ct (.int 0)) (.nm 5))
    (seq (whF (tv (o2 ltD (vr 5) (oA lenD (ac (vr 4) an)))) (seq (forE (isq (o2 ixD (vr 0) (o2 ixD (vr 4) (vr 5)))) (.nm 6) (ife (tand (tv (o2 inD (vr 6) (vr 2))) (tv (o2 ninD (vr 6) (vr 3)))) (seq (setD (vr 3) (vr 6) (o2 (addD false) (o2 ixD (vr 3) (o2 ixD (vr 4) (vr 5))) (ct (.int 1))))
    (drp (mth lstK appendD (vr 4) (ac (vr 6) an)))) skp))
    (augN 5 (ct (.int 1)) addI)) many)
    (ret (vr 3))))))
noncomputable def G_reached (K : PySem.W.Frag) : FD := raw N_reached (b_reached K)
noncomputable def b_is_net (K : PySem.W.Frag) : SF :=
  (seq (ife (tor (tnot (tv (oA isiD (ac (vr 0) (ac (ct (.con (.ty "tuple"))) an))))) (tv (o2 neD (oA lenD (ac (vr 0) an)) (ct (.int 2))))) (ret (ct (.bl false))) skp)
    (seq (asg (vr 0) (.tp [(.nm 1), (.nm 2)]))
    (seq (ife (tor (tnot (tv (cll 1 (G_is_whole K) (ac (vr 1) an)))) (tor (tnot (tv (och leD leD (ct (.int 1)) (vr 1) (ct (.int 16))))) (tnot (tv (oA isiD (ac (vr 2) (ac (ct (.con (.ty "tuple"))) an))))))) (ret (ct (.bl false))) skp)
    (seq (ife (tor (tnot (tv (oA allD (ac (lcE (isq (vr 2)) (.nm 3) tyes (cll 2 (G_is_edge K) (ac (vr 1) (ac (vr 3) an))) [3]) an)))) (tnot (tv (cll 1 (G_are_rising K) (ac (vr 2) an))))) (ret (ct (.bl false))) skp)
    (ret (o2 eqD (oA lenD (ac (cll 3 (G_reached K) (ac (cll 1 (G_beside K) (ac (vr 0) an)) (ac (ct (.int 0)) (ac (lrg false (vr 1)) an)))) an)) (vr 1)))))))
noncomputable def G_is_net (K : PySem.W.Frag) : FD := raw N_is_net (b_is_net K)
noncomputable def b_need_net (K : PySem.W.Frag) : SF :=
  (ife (tnot (tv (cll 1 (G_is_net K) (ac (vr 0) an)))) nev skp)
noncomputable def G_need_net (K : PySem.W.Frag) : FD := raw N_need_net (b_need_net K)
noncomputable def b_is_part (K : PySem.W.Frag) : SF :=
  (seq (ife (tor (tnot (tv (oA isiD (ac (vr 2) (ac (ct (.con (.ty "tuple"))) an))))) (tor (tv (o2 eqD (oA lenD (ac (vr 2) an)) (ct (.int 0)))) (tnot (tv (oA allD (ac (lcE (isq (vr 2)) (.nm 3) tyes (cll 2 (G_is_hand K) (ac (o2 ixD (vr 0) (ct (.int 0))) (ac (vr 3) an))) [3]) an)))))) (ret (ct (.bl false))) skp)
    (ret (eandT (cll 1 (G_are_rising K) (ac (vr 2) an)) (o2 eqD (oA lenD (ac (cll 3 (G_reached K) (ac (vr 1) (ac (o2 ixD (vr 2) (ct (.int 0))) (ac (vr 2) an)))) an)) (oA lenD (ac (vr 2) an))))))
noncomputable def G_is_part (K : PySem.W.Frag) : FD := raw N_is_part (b_is_part K)
noncomputable def b_is_parting (K : PySem.W.Frag) : SF :=
  (seq (drp (cll 1 (G_need_net K) (ac (vr 0) an)))
    (seq (asg (cll 1 (G_beside K) (ac (vr 0) an)) (.nm 2))
    (seq (ife (tor (tnot (tv (oA isiD (ac (vr 1) (ac (ct (.con (.ty "tuple"))) an))))) (tnot (tv (oA allD (ac (lcE (isq (vr 1)) (.nm 3) tyes (cll 3 (G_is_part K) (ac (vr 0) (ac (vr 2) (ac (vr 3) an)))) [3]) an))))) (ret (ct (.bl false))) skp)
    (seq (ife (tv (o2 neD (oA (sortD false) (ac (lc2E (isq (vr 1)) (.nm 3) tyes (isq (vr 3)) (.nm 4) tyes (vr 4) [3, 4] [4]) an)) (lrg false (o2 ixD (vr 0) (ct (.int 0)))))) (ret (ct (.bl false))) skp)
    (ret (cll 1 (G_are_rising K) (ac (lcE (isq (vr 1)) (.nm 3) tyes (o2 ixD (vr 3) (ct (.int 0))) [3]) an)))))))
noncomputable def G_is_parting (K : PySem.W.Frag) : FD := raw N_is_parting (b_is_parting K)
noncomputable def b_law_cell_at (K : PySem.W.Frag) : SF :=
  (seq (ife (tv (o2 ltD (vr 1) (oA lenD (ac (vr 0) an)))) (ret (o2 ixD (vr 0) (vr 1))) skp)
    (ret (ct (.int 0))))
noncomputable def G_law_cell_at (K : PySem.W.Frag) : FD := raw N_law_cell_at (b_law_cell_at K)
noncomputable def b_law_bag (K : PySem.W.Frag) : SF :=
  (ret (oA (mkL true) (ac (oA max2D (ac (ct (.int 0)) (ac (o2 subD (vr 0) (o2 powD (ct (.int 10)) (ct (.int 18)))) an))) (ac (o2 (addD false) (o2 modD (vr 0) (o2 (addD false) (o2 powD (ct (.int 10)) (ct (.int 44))) (ct (.int 31)))) (o2 (mulD false) (ct (.int 15487469)) (o2 (addD false) (vr 1) (ct (.int 1))))) (ac (ct (.int 0)) an)))))
noncomputable def G_law_bag (K : PySem.W.Frag) : FD := raw N_law_bag (b_law_bag K)
noncomputable def b_law_take (K : PySem.W.Frag) : SF :=
  (seq (ife (tv (o2 gtD (o2 ixD (vr 0) (ct (.int 0))) (ct (.int 1)))) (seq (asg (o2 modD (o2 ixD (vr 0) (ct (.int 0))) (vr 1)) (.nm 2))
    (seq (setI (vr 0) (ct (.int 0)) (o2 fdivD (o2 ixD (vr 0) (ct (.int 0))) (vr 1)))
    (ret (vr 2)))) skp)
    (seq (setI (vr 0) (ct (.int 2)) (o2 (addD false) (o2 ixD (vr 0) (ct (.int 2))) (ct (.int 1))))
    (seq (asg (o2 modD (o2 powD (o2 (addD false) (o2 ixD (vr 0) (ct (.int 1))) (o2 (mulD false) (ct (.int 32452867)) (o2 ixD (vr 0) (ct (.int 2))))) (ct (.int 3))) (o2 (addD false) (o2 powD (ct (.int 10)) (ct (.int 42))) (ct (.int 63)))) (.nm 3))
    (seq (asg (o2 modD (o2 powD (o2 (addD false) (vr 3) (o2 (mulD false) (ct (.int 49979693)) (o2 ixD (vr 0) (ct (.int 2))))) (ct (.int 5))) (o2 (addD false) (o2 powD (ct (.int 10)) (ct (.int 40))) (ct (.int 121)))) (.nm 3))
    (ret (o2 modD (o2 fdivD (vr 3) (ct (.int 8192))) (vr 1)))))))
noncomputable def G_law_take (K : PySem.W.Frag) : FD := raw N_law_take (b_law_take K)
noncomputable def b_law_mixed (K : PySem.W.Frag) : SF :=
  (seq (asg (oA (listD true) (ac (vr 1) an)) (.nm 2))
    (ret (lcE (isq (vr 1)) (.nm 3) tyes (mth lstK popAtD (vr 2) (ac (cll 2 (G_law_take K) (ac (vr 0) (ac (oA lenD (ac (vr 2) an)) an))) an)) [3])))
noncomputable def G_law_mixed (K : PySem.W.Frag) : FD := raw N_law_mixed (b_law_mixed K)
noncomputable def b_law_net (K : PySem.W.Frag) : SF :=
  (seq (asg (cll 2 (G_law_take K) (ac (vr 0) (ac (ct (.int 8)) an))) (.nm 2))
    (seq (asg (o2 (addD false) (ct (.int 1)) (cll 2 (G_law_take K) (ac (vr 0) (ac (vr 1) an)))) (.nm 3))
    (seq (asg (cll 2 (G_law_mixed K) (ac (vr 0) (ac (lrg false (vr 3)) an))) (.nm 4))
    (seq (asg (oA (mkL true) an) (.nm 5))
    (seq (forE (rng2 (ac (ct (.int 1)) (ac (vr 3) an))) (.nm 6) (seq (drp (mth lstK appendD (vr 5) (ac (oA mkT (ac (o2 ixD (vr 4) (o2 ixD (oA (mkL false) (ac (o2 subD (vr 6) (ct (.int 1))) (ac (ct (.int 0)) (ac (cll 2 (G_law_take K) (ac (vr 0) (ac (vr 6) an))) an)))) (oA min2D (ac (o2 fdivD (vr 2) (ct (.int 2))) (ac (ct (.int 2)) an))))) (ac (o2 ixD (vr 4) (vr 6)) an))) an)))
    (ife (tv (o2 eqD (vr 2) (ct (.int 3)))) (drp (mth lstK extendD (vr 5) (ac (lcE (rng1 (ac (vr 6) an)) (.nm 7) tyes (oA mkT (ac (o2 ixD (vr 4) (vr 7)) (ac (o2 ixD (vr 4) (vr 6)) an))) [7]) an))) skp)))
    (seq (ife (tv (o2 eqD (vr 2) (ct (.int 1)))) (drp (mth lstK appendD (vr 5) (ac (oA mkT (ac (o2 ixD (vr 4) (ct (.int 0))) (ac (o2 ixD (vr 4) (o1 negD (ct (.int 1)))) an))) an))) skp)
    (seq (forE (rng1 (ac (o2 ixD (oA (mkL false) (ac (ct (.int 0)) (ac (o2 (addD false) (o2 fdivD (vr 3) (ct (.int 2))) (ct (.int 1))) (ac (o2 (mulD false) (ct (.int 3)) (vr 3)) an)))) (oA max2D (ac (ct (.int 0)) (ac (o2 subD (vr 2) (ct (.int 5))) an)))) an)) (.nm 6) (drp (mth lstK appendD (vr 5) (ac (oA mkT (ac (cll 2 (G_law_take K) (ac (vr 0) (ac (vr 3) an))) (ac (cll 2 (G_law_take K) (ac (vr 0) (ac (vr 3) an))) an))) an))))
    (ret (oA mkT (ac (vr 3) (ac (oA tupleD (ac (o1 (sortsetD false) (lcE (isq (vr 5)) (.nm 8) (tv (o2 neD (o2 ixD (vr 8) (ct (.int 0))) (o2 ixD (vr 8) (ct (.int 1))))) (oA mkT (ac (oA minqD (ac (vr 8) an)) (ac (oA maxqD (ac (vr 8) an)) an))) [8])) an)) an)))))))))))
noncomputable def G_law_net (K : PySem.W.Frag) : FD := raw N_law_net (b_law_net K)
noncomputable def b_law_parting (K : PySem.W.Frag) : SF :=
  (seq (asg (vr 1) (.tp [(.nm 2), (.nm 3)]))
    (seq (asg (lrg false (vr 2)) (.nm 4))
    (seq (asg (o2 ixD (oA (mkL false) (ac (ct (.int 0)) (ac (o2 (mulD false) (ct (.int 3)) (vr 2)) (ac (o2 (addD false) (ct (.int 1)) (cll 2 (G_law_take K) (ac (vr 0) (ac (vr 2) an)))) (ac (o2 (addD false) (ct (.int 1)) (cll 2 (G_law_take K) (ac (vr 0) (ac (o2 (mulD false) (ct (.int 2)) (vr 2)) an)))) an))))) (cll 2 (G_law_take K) (ac (vr 0) (ac (ct (.int 4)) an)))) (.nm 5))
    (seq (forE (rng1 (ac (vr 5) an)) (.nm 6) (ife (tv (o2 neD (vr 3) (oA mkT an))) (seq (asg (o2 ixD (vr 3) (cll 2 (G_law_take K) (ac (vr 0) (ac (oA lenD (ac (vr 3) an)) an)))) (.tp [(.nm 7), (.nm 8)]))
    (asg (lcE (isq (vr 4)) (.nm 9) tyes (o2 ixD (oA (mkL false) (ac (vr 9) (ac (o2 ixD (vr 4) (vr 8)) an))) (oA intD (ac (o2 eqD (vr 9) (o2 ixD (vr 4) (vr 7))) an))) [9]) (.nm 4))) skp))
    (seq (asg (oA (mkL true) an) (.nm 10))
    (seq (forE (isq (o1 (sortsetI false) (vr 4))) (.nm 9) (drp (mth lstK appendD (vr 10) (ac (oA tupleD (ac (lcE (rng1 (ac (vr 2) an)) (.nm 11) (tv (o2 eqD (o2 ixD (vr 4) (vr 11)) (vr 9))) (vr 11) [11]) an)) an))))
    (ret (oA tupleD (ac (oA (sortD false) (ac (vr 10) an)) an)))))))))
noncomputable def G_law_parting (K : PySem.W.Frag) : FD := raw N_law_parting (b_law_parting K)
noncomputable def b_law_steps (K : PySem.W.Frag) : SF :=
  (seq (asg (o2 (mulD true) (oA (mkL false) (ac (ct .non) an)) (o2 ixD (vr 0) (ct (.int 0)))) (.nm 3))
    (seq (setI (vr 3) (vr 1) (ct (.int 0)))
    (seq (asg (o2 (addD false) (o2 ixD (vr 0) (ct (.int 1))) (oA tupleD (ac (lcE (isq (o2 ixD (vr 0) (ct (.int 1)))) (.nm 5) tyes (o2 revTD (vr 5) (o1 negD (ct (.int 1)))) [5]) an))) (.nm 4))
    (seq (asg (ct (.bl true)) (.nm 6))
    (seq (whF (tv (vr 6)) (seq (asg (ct (.bl false)) (.nm 6))
    (forE (isq (vr 4)) (.tp [(.nm 7), (.nm 8)]) (ife (tand (tv (o2 inD (vr 8) (vr 2))) (tand (tv (o2 isntD (o2 ixD (vr 3) (vr 7)) (ct .non))) (tor (tv (o2 isD (o2 ixD (vr 3) (vr 8)) (ct .non))) (tv (o2 gtD (o2 ixD (vr 3) (vr 8)) (o2 (addD false) (o2 ixD (vr 3) (vr 7)) (ct (.int 1)))))))) (seq (setI (vr 3) (vr 8) (o2 (addD false) (o2 ixD (vr 3) (vr 7)) (ct (.int 1))))
    (asg (ct (.bl true)) (.nm 6))) skp))) many)
    (ret (vr 3)))))))
noncomputable def G_law_steps (K : PySem.W.Frag) : FD := raw N_law_steps (b_law_steps K)
noncomputable def b_law_is_whole (K : PySem.W.Frag) : SF :=
  (ret (eandT (oA isiD (ac (vr 0) (ac (ct (.con (.ty "int"))) an))) (enot (oA isiD (ac (vr 0) (ac (ct (.con (.ty "bool"))) an))))))
noncomputable def G_law_is_whole (K : PySem.W.Frag) : FD := raw N_law_is_whole (b_law_is_whole K)
noncomputable def b_law_is_part (K : PySem.W.Frag) : SF :=
  (seq (ife (tor (tnot (tv (oA isiD (ac (vr 1) (ac (ct (.con (.ty "tuple"))) an))))) (tor (tv (o2 eqD (vr 1) (oA mkT an))) (tv (o2 neD (lcE (isq (vr 1)) (.nm 2) (tnot (tv (cll 1 (G_law_is_whole K) (ac (vr 2) an)))) (vr 2) [2]) (oA (mkL false) an))))) (ret (ct (.bl false))) skp)
    (seq (ife (tor (tv (o2 neD (lcE (isq (vr 1)) (.nm 2) (tnot (tv (och leD ltD (ct (.int 0)) (vr 2) (o2 ixD (vr 0) (ct (.int 0)))))) (vr 2) [2]) (oA (mkL false) an))) (tv (o2 neD (oA (listD false) (ac (vr 1) an)) (o1 (sortsetT false) (vr 1))))) (ret (ct (.bl false))) skp)
    (seq (asg (cll 3 (G_law_steps K) (ac (vr 0) (ac (o2 ixD (vr 1) (ct (.int 0))) (ac (vr 1) an)))) (.nm 3))
    (ret (o2 eqD (lcE (isq (vr 1)) (.nm 2) (tv (o2 isD (o2 ixD (vr 3) (vr 2)) (ct .non))) (vr 2) [2]) (oA (mkL false) an))))))
noncomputable def G_law_is_part (K : PySem.W.Frag) : FD := raw N_law_is_part (b_law_is_part K)
noncomputable def b_law_is_parting (K : PySem.W.Frag) : SF :=
  (seq (ife (tor (tnot (tv (oA isiD (ac (vr 1) (ac (ct (.con (.ty "tuple"))) an))))) (tv (o2 neD (lcE (isq (vr 1)) (.nm 2) (tnot (tv (cll 2 (G_law_is_part K) (ac (vr 0) (ac (vr 2) an))))) (vr 2) [2]) (oA (mkL false) an)))) (ret (ct (.bl false))) skp)
    (seq (asg (oA (mkL true) an) (.nm 3))
    (seq (forE (isq (vr 1)) (.nm 2) (drp (mth lstK extendTD (vr 3) (ac (vr 2) an))))
    (seq (asg (lcE (isq (vr 1)) (.nm 2) tyes (o2 ixD (vr 2) (ct (.int 0))) [2]) (.nm 4))
    (ret (eand (o2 eqD (oA (sortD false) (ac (vr 3) an)) (lrg false (o2 ixD (vr 0) (ct (.int 0))))) (o2 eqD (vr 4) (oA (sortD false) (ac (vr 4) an)))))))))
noncomputable def G_law_is_parting (K : PySem.W.Frag) : FD := raw N_law_is_parting (b_law_is_parting K)
noncomputable def b_law_odd (K : PySem.W.Frag) : SF :=
  (ret (o2 ixD (oA (mkL false) (ac (ct .non) (ac (ct (.bl true)) (ac (ct (.str "0")) (ac (o1 negD (ct (.int 1))) (ac (o2 ixD (vr 1) (ct (.int 0))) (ac (o2 powD (ct (.int 10)) (ct (.int 19))) (ac (oA mkT an) (ac (oA (mkL false) an) (ac (oA mkT (ac (oA mkT an) an)) (ac (oA mkT (ac (ct (.int 0)) an)) (ac (oA (mkL false) (ac (ct (.int 0)) an)) (ac (oA mkT (ac (ct (.bl true)) an)) (ac (oA mkT (ac (ct (.str "a")) an)) an)))))))))))))) (cll 2 (G_law_take K) (ac (vr 0) (ac (ct (.int 13)) an)))))
noncomputable def G_law_odd (K : PySem.W.Frag) : FD := raw N_law_odd (b_law_odd K)
noncomputable def b_law_part_bent (K : PySem.W.Frag) : SF :=
  (seq (asg (cll 2 (G_law_take K) (ac (vr 0) (ac (ct (.int 6)) an))) (.nm 3))
    (seq (asg (cll 2 (G_law_take K) (ac (vr 0) (ac (oA lenD (ac (vr 2) an)) an))) (.nm 4))
    (seq (ife (tv (o2 eqD (vr 3) (ct (.int 0)))) (ret (o2 revTD (vr 2) (o1 negD (ct (.int 1))))) skp)
    (seq (ife (tv (o2 eqD (vr 3) (ct (.int 1)))) (ret (o2 (addD false) (esl false (vr 2) pn (ps (vr 4))) (esl false (vr 2) (ps (o2 (addD false) (vr 4) (ct (.int 1)))) pn))) skp)
    (seq (ife (tv (o2 eqD (vr 3) (ct (.int 2)))) (ret (oA tupleD (ac (o1 (sortsetT false) (o2 (addD false) (vr 2) (oA mkT (ac (cll 2 (G_law_take K) (ac (vr 0) (ac (o2 ixD (vr 1) (ct (.int 0))) an))) an)))) an))) skp)
    (seq (ife (tv (o2 eqD (vr 3) (ct (.int 3)))) (ret (oA (listD false) (ac (vr 2) an))) skp)
    (seq (ife (tv (o2 eqD (vr 3) (ct (.int 4)))) (ret (o2 (addD false) (o2 (addD false) (esl false (vr 2) pn (ps (vr 4))) (oA mkT (ac (o2 ixD (vr 2) (vr 4)) (ac (o2 ixD (vr 2) (vr 4)) an)))) (esl false (vr 2) (ps (o2 (addD false) (vr 4) (ct (.int 1)))) pn))) skp)
    (ret (o2 (addD false) (o2 (addD false) (esl false (vr 2) pn (ps (vr 4))) (oA mkT (ac (cll 2 (G_law_odd K) (ac (vr 0) (ac (vr 1) an))) an))) (esl false (vr 2) (ps (o2 (addD false) (vr 4) (ct (.int 1)))) pn))))))))))
noncomputable def G_law_part_bent (K : PySem.W.Frag) : FD := raw N_law_part_bent (b_law_part_bent K)
noncomputable def b_law_bent (K : PySem.W.Frag) : SF :=
  (seq (asg (cll 2 (G_law_take K) (ac (vr 0) (ac (ct (.int 9)) an))) (.nm 3))
    (seq (asg (cll 2 (G_law_take K) (ac (vr 0) (ac (oA lenD (ac (vr 2) an)) an))) (.nm 4))
    (seq (asg (cll 2 (G_law_take K) (ac (vr 0) (ac (oA lenD (ac (vr 2) an)) an))) (.nm 5))
    (seq (asg (oA tupleD (ac (lcE (enmT (ac (vr 2) an)) (.tp [(.nm 7), (.nm 8)]) (tv (o2 ninD (vr 7) (oA mkT (ac (vr 4) (ac (vr 5) an))))) (vr 8) [7, 8]) an)) (.nm 6))
    (seq (ife (tv (o2 ltD (vr 3) (ct (.int 2)))) (ret (oA tupleD (ac (oA (sortD false) (ac (o2 (addD false) (vr 6) (oA mkT (ac (oA tupleD (ac (o1 (sortsetT false) (o2 (addD false) (o2 ixD (vr 2) (vr 4)) (o2 ixD (vr 2) (vr 5)))) an)) an))) an)) an))) skp)
    (seq (ife (tv (o2 eqD (vr 3) (ct (.int 2)))) (seq (asg (cll 2 (G_law_take K) (ac (vr 0) (ac (o2 (addD false) (oA lenD (ac (o2 ixD (vr 2) (vr 4)) an)) (ct (.int 1))) an))) (.nm 9))
    (seq (asg (lcE (isq (oA (mkL false) (ac (esl false (o2 ixD (vr 2) (vr 4)) pn (ps (vr 9))) (ac (esl false (o2 ixD (vr 2) (vr 4)) (ps (vr 9)) pn) an)))) (.nm 8) (tv (o2 neD (vr 8) (oA mkT an))) (vr 8) [8]) (.nm 10))
    (ret (oA tupleD (ac (oA (sortD false) (ac (o2 (addD false) (o2 (addD false) (esl false (vr 2) pn (ps (vr 4))) (esl false (vr 2) (ps (o2 (addD false) (vr 4) (ct (.int 1)))) pn)) (oA tupleD (ac (vr 10) an))) an)) an))))) skp)
    (seq (ife (tv (o2 eqD (vr 3) (ct (.int 3)))) (ret (o2 revTD (vr 2) (o1 negD (ct (.int 1))))) skp)
    (seq (ife (tv (o2 eqD (vr 3) (ct (.int 4)))) (ret (o2 (addD false) (esl false (vr 2) pn (ps (vr 4))) (esl false (vr 2) (ps (o2 (addD false) (vr 4) (ct (.int 1)))) pn))) skp)
    (seq (ife (tv (o2 eqD (vr 3) (ct (.int 5)))) (ret (o2 (addD false) (o2 (addD false) (esl false (vr 2) pn (ps (vr 4))) (oA mkT (ac (o2 ixD (vr 2) (vr 4)) an))) (esl false (vr 2) (ps (vr 4)) pn))) skp)
    (seq (ife (tv (o2 eqD (vr 3) (ct (.int 6)))) (ret (o2 ixD (oA (mkL false) (ac (oA (listD false) (ac (vr 2) an)) (ac (o2 (addD false) (vr 2) (oA mkT (ac (oA mkT an) an))) (ac (cll 2 (G_law_odd K) (ac (vr 0) (ac (vr 1) an))) an)))) (cll 2 (G_law_take K) (ac (vr 0) (ac (ct (.int 3)) an))))) skp)
    (seq (asg (cll 3 (G_law_part_bent K) (ac (vr 0) (ac (vr 1) (ac (o2 ixD (vr 2) (vr 4)) an)))) (.nm 8))
    (ret (o2 (addD false) (o2 (addD false) (esl false (vr 2) pn (ps (vr 4))) (oA mkT (ac (vr 8) an))) (esl false (vr 2) (ps (o2 (addD false) (vr 4) (ct (.int 1)))) pn))))))))))))))
noncomputable def G_law_bent (K : PySem.W.Frag) : FD := raw N_law_bent (b_law_bent K)
noncomputable def b_law (K : PySem.W.Frag) : SF :=
  (seq (forE (rng1 (ac (oA max2D (ac (ct (.int 1)) (ac (oA min2D (ac (ct (.int 16)) (ac (oA lenD (ac (vr 0) an)) an))) an))) an)) (.nm 1) (seq (asg (cll 2 (G_law_bag K) (ac (cll 2 (G_law_cell_at K) (ac (vr 0) (ac (vr 1) an))) (ac (vr 1) an))) (.nm 2))
    (seq (asg (o2 ixD (oA (mkL false) (ac (ct (.int 0)) (ac (ct (.int 1)) (ac (ct (.int 1)) (ac (ct (.int 2)) an))))) (cll 2 (G_law_take K) (ac (vr 2) (ac (ct (.int 4)) an)))) (.nm 3))
    (seq (asg (cll 2 (G_law_net K) (ac (vr 2) (ac (o2 ixD (oA (mkL false) (ac (ct (.int 5)) (ac (ct (.int 16)) an))) (cll 2 (G_law_take K) (ac (vr 2) (ac (ct (.int 2)) an)))) an))) (.nm 4))
    (seq (asg (cll 2 (G_law_parting K) (ac (vr 2) (ac (vr 4) an))) (.nm 5))
    (seq (forE (rng1 (ac (vr 3) an)) (.nm 6) (ife (tand (tv (o2 neD (vr 5) (oA mkT an))) (tv (cll 2 (G_law_is_parting K) (ac (vr 4) (ac (vr 5) an))))) (asg (cll 3 (G_law_bent K) (ac (vr 2) (ac (vr 4) (ac (vr 5) an)))) (.nm 5)) skp))
    (forE (isq (oA (mkL false) (ac (vr 5) (ac (cll 2 (G_law_odd K) (ac (vr 2) (ac (vr 4) an))) an)))) (.nm 7) (seq (asg (oA reprD (ac (oA (mkL false) (ac (vr 4) (ac (vr 7) an))) an)) (.nm 8))
    (forE (rng1 (ac (ct (.int 2)) an)) (.nm 6) (seq (asg (cll 2 (G_is_parting K) (ac (vr 4) (ac (vr 7) an))) (.nm 9))
    (seq (ife (tor (tnot (tv (oA isiD (ac (vr 9) (ac (ct (.con (.ty "bool"))) an))))) (tv (o2 neD (oA reprD (ac (oA (mkL false) (ac (vr 4) (ac (vr 7) an))) an)) (vr 8)))) (ret (ct (.bl false))) skp)
    (ife (tv (o2 neD (vr 9) (cll 2 (G_law_is_parting K) (ac (vr 4) (ac (vr 7) an))))) (ret (ct (.bl false))) skp))))))))))))
    (ret (ct (.bl true))))
noncomputable def G_law (K : PySem.W.Frag) : FD := raw N_law (b_law K)
end
end P03
namespace P03
open PySem PySem.Spec PyProof.Rows L2 Dt
section
variable {P : Program} {w : World} {K : PySem.W.Frag} {mg : Str → Option Value} {base : Heap}
theorem ok_is_whole (T : Fx K w mg) : FnD P w K mg base 1 (He.ga K "is_whole") T.fd_is_whole ["thing"] (G_is_whole K) :=
  fnd_raw T.F_is_whole sc_is_whole (fun cdv A outer s H E hr => ((dss_one (ds_ret (de_andT (de_callB (call_isiAll) cd_isi (by rfl) T.z_isinstance (by decide +kernel) (da_cons (de_var (pv 0)) (da_cons (de_ty (T := "int") (by rfl) T.z_int boot_int) da_nil))) (de_one (de_not (de_callB (call_isiAll) cd_isi (by rfl) T.z_isinstance (by decide +kernel) (da_cons (de_var (pv 0)) (da_cons (de_ty (T := "bool") (by rfl) T.z_bool boot_bool) da_nil)))))))) : PSs _ _ (tS K (WE E) (b_is_whole K))))
theorem ok_are_rising (T : Fx K w mg) : FnD P w K mg base 1 (He.ga K "are_rising") T.fd_are_rising ["some"] (G_are_rising K) :=
  fnd_raw T.F_are_rising sc_are_rising (fun cdv A outer s H E hr => ((dss_one (ds_ret (de_callB (cr_all rfl) cd_all (by rfl) T.z_all (by decide +kernel) (da_cons (de_lc (own := [("one", 1), ("other", 2)]) rfl sc_are_rising.nd (di_zipX (by rfl) T.z_zip (da_cons (de_var (pv 0)) (da_cons (de_sl false (de_var (pv 0)) (dp_some de_int) dp_none) da_nil))) (blkOk_by (by rfl)) (fun _ _ _ _ _ => by exact (pg_seq rfl (pgs_cons (pg_name (i := 1) sc_are_rising.nd rfl (by first | exact Or.inl rfl | exact Or.inr rfl)) (pgs_cons (pg_name (i := 2) sc_are_rising.nd rfl (by first | exact Or.inl rfl | exact Or.inr rfl)) pgs_nil)))) (fun _ _ _ _ _ => by exact dts_nil) (fun _ _ _ _ _ => by exact (de_cmp (op_ltAll (un0 hr)) opd_lt (de_var (pv 1)) (de_var (pv 2)) (nomark _)))) da_nil)))) : PSs _ _ (tS K (WE E) (b_are_rising K))))
theorem ok_is_hand (T : Fx K w mg) : FnD P w K mg base 2 (He.ga K "is_hand") T.fd_is_hand ["hands", "thing"] (G_is_hand K) :=
  fnd_raw T.F_is_hand sc_is_hand (fun cdv A outer s H E hr => ((dss_one (ds_ret (de_andT (de_call (ok_is_whole T) tkf (hr.mono (by first | decide | omega)) (by rfl) T.g_is_whole T.F_is_whole.kp T.B_is_whole (da_cons (de_var (pv 1)) da_nil)) (de_one (de_chain (op_le) opd_le (op_ltAll (un0 hr)) opd_lt de_int (de_var (pv 1)) (de_var (pv 0))))))) : PSs _ _ (tS K (WE E) (b_is_hand K))))
theorem ok_is_edge (T : Fx K w mg) : FnD P w K mg base 3 (He.ga K "is_edge") T.fd_is_edge ["hands", "thing"] (G_is_edge K) :=
  fnd_raw T.F_is_edge sc_is_edge (fun cdv A outer s H E hr => ((dss_cons (ds_if (PW.pt (dw_or (dt_not (dt_val (de_callB (call_isiAll) cd_isi (by rfl) T.z_isinstance (by decide +kernel) (da_cons (de_var (pv 1)) (da_cons (de_ty (T := "tuple") (by rfl) T.z_tuple boot_tuple) da_nil))))) (dw_or1 (dt_cmp (op_neD (un64 hr)) opd_ne (de_callB (call_lenAll) cd_len (by rfl) T.z_len (by decide +kernel) (da_cons (de_var (pv 1)) da_nil)) de_int (nomark _))))) (dss_one (ds_ret de_bl)) dss_nil)
    (dss_one (ds_ret (de_andT (de_call (ok_is_hand T) tkf (hr.mono (by first | decide | omega)) (by rfl) T.g_is_hand T.F_is_hand.kp T.B_is_hand (da_cons (de_var (pv 0)) (da_cons (de_ix (un1 hr) (de_var (pv 1)) de_int (fun _ _ => rfl)) da_nil))) (de_andT (de_call (ok_is_hand T) tkf (hr.mono (by first | decide | omega)) (by rfl) T.g_is_hand T.F_is_hand.kp T.B_is_hand (da_cons (de_var (pv 0)) (da_cons (de_ix (un1 hr) (de_var (pv 1)) de_int (fun _ _ => rfl)) da_nil))) (de_one (de_cmp (op_ltAll (un0 hr)) opd_lt (de_ix (un1 hr) (de_var (pv 1)) de_int (fun _ _ => rfl)) (de_ix (un1 hr) (de_var (pv 1)) de_int (fun _ _ => rfl)) (nomark _)))))))) : PSs _ _ (tS K (WE E) (b_is_edge K))))
theorem ok_beside (T : Fx K w mg) : FnD P w K mg base 1 (He.ga K "beside") T.fd_beside ["net"] (G_beside K) :=
  fnd_raw T.F_beside sc_beside (fun cdv A outer s H E hr => ((dss_cons (ds_asg (de_var (pv 0)) (show PG _ _ (tgR K (.tp [(.nm 1), (.nm 2)])) from (pg_seq rfl (pgs_cons (pg_name (i := 1) sc_beside.nd rfl (by first | exact Or.inl rfl | exact Or.inr rfl)) (pgs_cons (pg_name (i := 2) sc_beside.nd rfl (by first | exact Or.inl rfl | exact Or.inr rfl)) pgs_nil)))))
    (dss_cons (ds_setLc (own := [("hand", 4)]) rfl sc_beside.nd (i := 3) rfl rfl (sw_true rfl rfl rfl (by decide +kernel)) (di_rng1 (by rfl) T.z_range (da_cons (de_var (pv 1)) da_nil)) (blkOk_by (by rfl)) (fun _ _ _ _ _ => by exact (pg_name (i := 4) sc_beside.nd rfl (by first | exact Or.inl rfl | exact Or.inr rfl))) (fun _ _ _ _ _ => by exact dts_nil) (fun _ _ _ _ _ => by exact (de_lst true da_nil)))
    (dss_cons (ds_for pof rfl (di_seq (de_var (pv 2))) (show PG _ _ (tgR K (.tp [(.nm 5), (.nm 6)])) from (pg_seq rfl (pgs_cons (pg_name (i := 5) sc_beside.nd rfl (by first | exact Or.inl rfl | exact Or.inr rfl)) (pgs_cons (pg_name (i := 6) sc_beside.nd rfl (by first | exact Or.inl rfl | exact Or.inr rfl)) pgs_nil)))) (dss_cons (ds_expr (de_bm PySem.F.plainAttrs_list PySem.F.slot_list_append PySem.F.type_list_append mt_append ty_lst md_append (de_ix (un1 hr) (de_var (pv 3)) (de_var (pv 5)) (fun _ _ => rfl)) (da_cons (de_var (pv 6)) da_nil)))
    (dss_one (ds_expr (de_bm PySem.F.plainAttrs_list PySem.F.slot_list_append PySem.F.type_list_append mt_append ty_lst md_append (de_ix (un1 hr) (de_var (pv 3)) (de_var (pv 6)) (fun _ _ => rfl)) (da_cons (de_var (pv 5)) da_nil))))))
    (dss_one (ds_ret (de_var (pv 3))))))) : PSs _ _ (tS K (WE E) (b_beside K))))
theorem ok_reached (T : Fx K w mg) : FnD P w K mg base 1 (He.ga K "reached") T.fd_reached ["lists", "hand", "within"] (G_reached K) :=
  fnd_raw T.F_reached sc_reached (fun cdv A outer s H E hr => ((dss_cons (ds_set (i := 3) sc_reached.nd rfl (by first | exact Or.inl rfl | exact Or.inr rfl) (de_disp true (dpp_cons (de_var (pv 1)) de_int dpp_nil)))
    (dss_cons (ds_set (i := 4) sc_reached.nd rfl (by first | exact Or.inl rfl | exact Or.inr rfl) (de_lst true (da_cons (de_var (pv 1)) da_nil)))
    (dss_cons (ds_set (i := 5) sc_reached.nd rfl (by first | exact Or.inl rfl | exact Or.inr rfl) de_int)
    (dss_cons (ds_while many pof (dt_cmp (op_ltAll (un0 hr)) opd_lt (de_var (pv 5)) (de_callB (call_lenAll) cd_len (by rfl) T.z_len (by decide +kernel) (da_cons (de_var (pv 4)) da_nil)) (nomark _)) (dss_cons (ds_for pof rfl (di_seq (de_ix (un1 hr) (de_var (pv 0)) (de_ix (un1 hr) (de_var (pv 4)) (de_var (pv 5)) (fun _ _ => rfl)) (fun _ _ => rfl))) (show PG _ _ (tgR K (.nm 6)) from (pg_name (i := 6) sc_reached.nd rfl (by first | exact Or.inl rfl | exact Or.inr rfl))) (dss_one (ds_if (PW.pt (dw_and (dt_cmp (op_inAll (un65 hr)) opd_in (de_var (pv 6)) (de_var (pv 2)) (by rfl)) (dw_and1 (dt_cmp (op_ninAll (un65 hr)) opd_nin (de_var (pv 6)) (de_var (pv 3)) (by rfl))))) (dss_cons (ds_setD (un1 hr) (de_var (pv 3)) (de_var (pv 6)) (de_op op_addAll (opd_add false) (de_ix (un1 hr) (de_var (pv 3)) (de_ix (un1 hr) (de_var (pv 4)) (de_var (pv 5)) (fun _ _ => rfl)) (fun _ _ => rfl)) de_int))
    (dss_one (ds_expr (de_bm PySem.F.plainAttrs_list PySem.F.slot_list_append PySem.F.type_list_append mt_append ty_lst md_append (de_var (pv 4)) (da_cons (de_var (pv 6)) da_nil))))) dss_nil)))
    (dss_one (ds_aug (i := 5) sc_reached.nd rfl (by first | exact Or.inl rfl | exact Or.inr rfl) de_int))))
    (dss_one (ds_ret (de_var (pv 3)))))))) : PSs _ _ (tS K (WE E) (b_reached K))))
theorem ok_is_net (T : Fx K w mg) : FnD P w K mg base 4 (He.ga K "is_net") T.fd_is_net ["thing"] (G_is_net K) :=
  fnd_raw T.F_is_net sc_is_net (fun cdv A outer s H E hr => ((dss_cons (ds_if (PW.pt (dw_or (dt_not (dt_val (de_callB (call_isiAll) cd_isi (by rfl) T.z_isinstance (by decide +kernel) (da_cons (de_var (pv 0)) (da_cons (de_ty (T := "tuple") (by rfl) T.z_tuple boot_tuple) da_nil))))) (dw_or1 (dt_cmp (op_neD (un64 hr)) opd_ne (de_callB (call_lenAll) cd_len (by rfl) T.z_len (by decide +kernel) (da_cons (de_var (pv 0)) da_nil)) de_int (nomark _))))) (dss_one (ds_ret de_bl)) dss_nil)
    (dss_cons (ds_asg (de_var (pv 0)) (show PG _ _ (tgR K (.tp [(.nm 1), (.nm 2)])) from (pg_seq rfl (pgs_cons (pg_name (i := 1) sc_is_net.nd rfl (by first | exact Or.inl rfl | exact Or.inr rfl)) (pgs_cons (pg_name (i := 2) sc_is_net.nd rfl (by first | exact Or.inl rfl | exact Or.inr rfl)) pgs_nil)))))
    (dss_cons (ds_if (PW.pt (dw_or (dt_not (dt_val (de_call (ok_is_whole T) tkf (hr.mono (by first | decide | omega)) (by rfl) T.g_is_whole T.F_is_whole.kp T.B_is_whole (da_cons (de_var (pv 1)) da_nil)))) (dw_or (dt_not (dt_chain (op_le) opd_le (op_le) opd_le de_int (de_var (pv 1)) (de_gint (by rfl) T.i_MOST_HANDS))) (dw_or1 (dt_not (dt_val (de_callB (call_isiAll) cd_isi (by rfl) T.z_isinstance (by decide +kernel) (da_cons (de_var (pv 2)) (da_cons (de_ty (T := "tuple") (by rfl) T.z_tuple boot_tuple) da_nil))))))))) (dss_one (ds_ret de_bl)) dss_nil)
    (dss_cons (ds_if (PW.pt (dw_or (dt_not (dt_val (de_callB (cr_all rfl) cd_all (by rfl) T.z_all (by decide +kernel) (da_cons (de_lc (own := [("edge", 3)]) rfl sc_is_net.nd (di_seq (de_var (pv 2))) (blkOk_by (by rfl)) (fun _ _ _ _ _ => by exact (pg_name (i := 3) sc_is_net.nd rfl (by first | exact Or.inl rfl | exact Or.inr rfl))) (fun _ _ _ _ _ => by exact dts_nil) (fun _ _ _ _ _ => by exact (de_call (ok_is_edge T) tk0 (hr.mono (by first | decide | omega)) (by rfl) T.g_is_edge T.F_is_edge.kp T.B_is_edge (da_cons (de_var (pv 1)) (da_cons (de_var (pv 3)) da_nil))))) da_nil)))) (dw_or1 (dt_not (dt_val (de_call (ok_are_rising T) tkf (hr.mono (by first | decide | omega)) (by rfl) T.g_are_rising T.F_are_rising.kp T.B_are_rising (da_cons (de_var (pv 2)) da_nil))))))) (dss_one (ds_ret de_bl)) dss_nil)
    (dss_one (ds_ret (de_cmp (op_eqD (un64 hr)) opd_eq (de_callB (call_lenAll) cd_len (by rfl) T.z_len (by decide +kernel) (da_cons (de_call (ok_reached T) tkf (hr.mono (by first | decide | omega)) (by rfl) T.g_reached T.F_reached.kp T.B_reached (da_cons (de_call (ok_beside T) tkf (hr.mono (by first | decide | omega)) (by rfl) T.g_beside T.F_beside.kp T.B_beside (da_cons (de_var (pv 0)) da_nil)) (da_cons de_int (da_cons (de_lrg false rfl (by rfl) T.z_list (by rfl) T.z_range (de_var (pv 1))) da_nil)))) da_nil)) (de_var (pv 1)) (nomark _)))))))) : PSs _ _ (tS K (WE E) (b_is_net K))))
theorem ok_need_net (T : Fx K w mg) : FnD P w K mg base 5 (He.ga K "need_net") T.fd_need_net ["net"] (G_need_net K) :=
  fnd_raw T.F_need_net sc_need_net (fun cdv A outer s H E hr => ((dss_one (ds_if (dt_not (dt_val (de_call (ok_is_net T) tkf (hr.mono (by first | decide | omega)) (by rfl) T.g_is_net T.F_is_net.kp T.B_is_net (da_cons (de_var (pv 0)) da_nil)))) (dss_one ds_nev) dss_nil)) : PSs _ _ (tS K (WE E) (b_need_net K))))
theorem ok_is_part (T : Fx K w mg) : FnD P w K mg base 3 (He.ga K "is_part") T.fd_is_part ["net", "lists", "thing"] (G_is_part K) :=
  fnd_raw T.F_is_part sc_is_part (fun cdv A outer s H E hr => ((dss_cons (ds_if (PW.pt (dw_or (dt_not (dt_val (de_callB (call_isiAll) cd_isi (by rfl) T.z_isinstance (by decide +kernel) (da_cons (de_var (pv 2)) (da_cons (de_ty (T := "tuple") (by rfl) T.z_tuple boot_tuple) da_nil))))) (dw_or (dt_cmp (op_eqD (un64 hr)) opd_eq (de_callB (call_lenAll) cd_len (by rfl) T.z_len (by decide +kernel) (da_cons (de_var (pv 2)) da_nil)) de_int (nomark _)) (dw_or1 (dt_not (dt_val (de_callB (cr_all rfl) cd_all (by rfl) T.z_all (by decide +kernel) (da_cons (de_lc (own := [("hand", 3)]) rfl sc_is_part.nd (di_seq (de_var (pv 2))) (blkOk_by (by rfl)) (fun _ _ _ _ _ => by exact (pg_name (i := 3) sc_is_part.nd rfl (by first | exact Or.inl rfl | exact Or.inr rfl))) (fun _ _ _ _ _ => by exact dts_nil) (fun _ _ _ _ _ => by exact (de_call (ok_is_hand T) tk0 (hr.mono (by first | decide | omega)) (by rfl) T.g_is_hand T.F_is_hand.kp T.B_is_hand (da_cons (de_ix (un1 hr) (de_var (pv 0)) de_int (fun _ _ => rfl)) (da_cons (de_var (pv 3)) da_nil))))) da_nil)))))))) (dss_one (ds_ret de_bl)) dss_nil)
    (dss_one (ds_ret (de_andT (de_call (ok_are_rising T) tkf (hr.mono (by first | decide | omega)) (by rfl) T.g_are_rising T.F_are_rising.kp T.B_are_rising (da_cons (de_var (pv 2)) da_nil)) (de_one (de_cmp (op_eqD (un64 hr)) opd_eq (de_callB (call_lenAll) cd_len (by rfl) T.z_len (by decide +kernel) (da_cons (de_call (ok_reached T) tkf (hr.mono (by first | decide | omega)) (by rfl) T.g_reached T.F_reached.kp T.B_reached (da_cons (de_var (pv 1)) (da_cons (de_ix (un1 hr) (de_var (pv 2)) de_int (fun _ _ => rfl)) (da_cons (de_var (pv 2)) da_nil)))) da_nil)) (de_callB (call_lenAll) cd_len (by rfl) T.z_len (by decide +kernel) (da_cons (de_var (pv 2)) da_nil)) (nomark _))))))) : PSs _ _ (tS K (WE E) (b_is_part K))))
theorem ok_is_parting (T : Fx K w mg) : FnD P w K mg base 6 (He.ga K "is_parting") T.fd_is_parting ["net", "thing"] (G_is_parting K) :=
  fnd_raw T.F_is_parting sc_is_parting (fun cdv A outer s H E hr => ((dss_cons (ds_expr (de_call (ok_need_net T) tkf (hr.mono (by first | decide | omega)) (by rfl) T.g_need_net T.F_need_net.kp T.B_need_net (da_cons (de_var (pv 0)) da_nil)))
    (dss_cons (ds_set (i := 2) sc_is_parting.nd rfl (by first | exact Or.inl rfl | exact Or.inr rfl) (de_call (ok_beside T) tkf (hr.mono (by first | decide | omega)) (by rfl) T.g_beside T.F_beside.kp T.B_beside (da_cons (de_var (pv 0)) da_nil)))
    (dss_cons (ds_if (PW.pt (dw_or (dt_not (dt_val (de_callB (call_isiAll) cd_isi (by rfl) T.z_isinstance (by decide +kernel) (da_cons (de_var (pv 1)) (da_cons (de_ty (T := "tuple") (by rfl) T.z_tuple boot_tuple) da_nil))))) (dw_or1 (dt_not (dt_val (de_callB (cr_all rfl) cd_all (by rfl) T.z_all (by decide +kernel) (da_cons (de_lc (own := [("part", 3)]) rfl sc_is_parting.nd (di_seq (de_var (pv 1))) (blkOk_by (by rfl)) (fun _ _ _ _ _ => by exact (pg_name (i := 3) sc_is_parting.nd rfl (by first | exact Or.inl rfl | exact Or.inr rfl))) (fun _ _ _ _ _ => by exact dts_nil) (fun _ _ _ _ _ => by exact (de_call (ok_is_part T) tk0 (hr.mono (by first | decide | omega)) (by rfl) T.g_is_part T.F_is_part.kp T.B_is_part (da_cons (de_var (pv 0)) (da_cons (de_var (pv 2)) (da_cons (de_var (pv 3)) da_nil)))))) da_nil))))))) (dss_one (ds_ret de_bl)) dss_nil)
    (dss_cons (ds_if (dt_cmp (op_neD (un64 hr)) opd_ne (de_callB (call_sortedD (un68 hr)) (cd_sorted false) (by rfl) T.z_sorted (by decide +kernel) (da_cons (de_lc2 (own := [("part", 3), ("hand", 4)]) (vs1 := [4]) rfl sc_is_parting.nd (di_seq (de_var (pv 1))) (blkOk_by (by rfl)) (fun _ _ _ _ _ => by exact (pg_name (i := 3) sc_is_parting.nd rfl (by first | exact Or.inl rfl | exact Or.inr rfl))) (fun _ _ _ _ _ => by exact dts_nil) (fun _ _ _ _ _ => by exact (di_seq (de_var (pv 3)))) (fun _ _ _ _ _ => by exact (pg_name (i := 4) sc_is_parting.nd rfl (by first | exact Or.inl rfl | exact Or.inr rfl))) (fun _ _ _ _ _ => by exact dts_nil) (fun _ _ _ _ _ => by exact (de_var (pv 4)))) da_nil)) (de_lrg false rfl (by rfl) T.z_list (by rfl) T.z_range (de_ix (un1 hr) (de_var (pv 0)) de_int (fun _ _ => rfl))) (nomark _)) (dss_one (ds_ret de_bl)) dss_nil)
    (dss_one (ds_ret (de_call (ok_are_rising T) tkf (hr.mono (by first | decide | omega)) (by rfl) T.g_are_rising T.F_are_rising.kp T.B_are_rising (da_cons (de_lc (own := [("part", 3)]) rfl sc_is_parting.nd (di_seq (de_var (pv 1))) (blkOk_by (by rfl)) (fun _ _ _ _ _ => by exact (pg_name (i := 3) sc_is_parting.nd rfl (by first | exact Or.inl rfl | exact Or.inr rfl))) (fun _ _ _ _ _ => by exact dts_nil) (fun _ _ _ _ _ => by exact (de_ix (un1 hr) (de_var (pv 3)) de_int (fun _ _ => rfl)))) da_nil)))))))) : PSs _ _ (tS K (WE E) (b_is_parting K))))
theorem ok_law_cell_at (T : Fx K w mg) : FnD P w K mg base 1 (He.ga K "_law_cell_at") T.fd_law_cell_at ["script", "k"] (G_law_cell_at K) :=
  fnd_raw T.F_law_cell_at sc_law_cell_at (fun cdv A outer s H E hr => ((dss_cons (ds_if (dt_cmp (op_ltAll (un0 hr)) opd_lt (de_var (pv 1)) (de_callB (call_lenAll) cd_len (by rfl) T.z_len (by decide +kernel) (da_cons (de_var (pv 0)) da_nil)) (nomark _)) (dss_one (ds_ret (de_ix (un1 hr) (de_var (pv 0)) (de_var (pv 1)) (fun _ _ => rfl)))) dss_nil)
    (dss_one (ds_ret de_int))) : PSs _ _ (tS K (WE E) (b_law_cell_at K))))
theorem ok_law_bag (T : Fx K w mg) : FnD P w K mg base 1 (He.ga K "_law_bag") T.fd_law_bag ["cell", "k"] (G_law_bag K) :=
  fnd_raw T.F_law_bag sc_law_bag (fun cdv A outer s H E hr => ((dss_one (ds_ret (de_lst true (da_cons (de_callB (call_max2 rfl) cd_max2 (by rfl) T.z_max (by decide +kernel) (da_cons de_int (da_cons (de_op op_sub opd_sub (de_var (pv 0)) (de_op op_powW opd_pow de_int de_int)) da_nil))) (da_cons (de_op op_addAll (opd_add false) (de_op op_mod opd_mod (de_var (pv 0)) (de_op op_addAll (opd_add false) (de_op op_powW opd_pow de_int de_int) de_int)) (de_op op_mulAll (opd_mul false) de_int (de_op op_addAll (opd_add false) (de_var (pv 1)) de_int))) (da_cons de_int da_nil)))))) : PSs _ _ (tS K (WE E) (b_law_bag K))))
theorem ok_law_take (T : Fx K w mg) : FnD P w K mg base 1 (He.ga K "_law_take") T.fd_law_take ["bag", "many"] (G_law_take K) :=
  fnd_raw T.F_law_take sc_law_take (fun cdv A outer s H E hr => ((dss_cons (ds_if (dt_cmp (op_gt) opd_gt (de_ix (un1 hr) (de_var (pv 0)) de_int (fun _ _ => rfl)) de_int (nomark _)) (dss_cons (ds_set (i := 2) sc_law_take.nd rfl (by first | exact Or.inl rfl | exact Or.inr rfl) (de_op op_mod opd_mod (de_ix (un1 hr) (de_var (pv 0)) de_int (fun _ _ => rfl)) (de_var (pv 1))))
    (dss_cons (ds_setI (de_var (pv 0)) de_int (de_op op_fdivW opd_fdiv (de_ix (un1 hr) (de_var (pv 0)) de_int (fun _ _ => rfl)) (de_var (pv 1))))
    (dss_one (ds_ret (de_var (pv 2)))))) dss_nil)
    (dss_cons (ds_setI (de_var (pv 0)) de_int (de_op op_addAll (opd_add false) (de_ix (un1 hr) (de_var (pv 0)) de_int (fun _ _ => rfl)) de_int))
    (dss_cons (ds_set (i := 3) sc_law_take.nd rfl (by first | exact Or.inl rfl | exact Or.inr rfl) (de_op op_mod opd_mod (de_op op_powW opd_pow (de_op op_addAll (opd_add false) (de_ix (un1 hr) (de_var (pv 0)) de_int (fun _ _ => rfl)) (de_op op_mulAll (opd_mul false) de_int (de_ix (un1 hr) (de_var (pv 0)) de_int (fun _ _ => rfl)))) de_int) (de_op op_addAll (opd_add false) (de_op op_powW opd_pow de_int de_int) de_int)))
    (dss_cons (ds_set (i := 3) sc_law_take.nd rfl (by first | exact Or.inl rfl | exact Or.inr rfl) (de_op op_mod opd_mod (de_op op_powW opd_pow (de_op op_addAll (opd_add false) (de_var (pv 3)) (de_op op_mulAll (opd_mul false) de_int (de_ix (un1 hr) (de_var (pv 0)) de_int (fun _ _ => rfl)))) de_int) (de_op op_addAll (opd_add false) (de_op op_powW opd_pow de_int de_int) de_int)))
    (dss_one (ds_ret (de_op op_mod opd_mod (de_op op_fdivW opd_fdiv (de_var (pv 3)) de_int) (de_var (pv 1))))))))) : PSs _ _ (tS K (WE E) (b_law_take K))))
theorem ok_law_mixed (T : Fx K w mg) : FnD P w K mg base 2 (He.ga K "_law_mixed") T.fd_law_mixed ["bag", "some"] (G_law_mixed K) :=
  fnd_raw T.F_law_mixed sc_law_mixed (fun cdv A outer s H E hr => ((dss_cons (ds_set (i := 2) sc_law_mixed.nd rfl (by first | exact Or.inl rfl | exact Or.inr rfl) (de_callTy call_list_of (cd_list true) (by rfl) T.z_list boot_list (da_cons (de_var (pv 1)) da_nil)))
    (dss_one (ds_ret (de_lc (own := [("one", 3)]) rfl sc_law_mixed.nd (di_seq (de_var (pv 1))) (blkOk_by (by rfl)) (fun _ _ _ _ _ => by exact (pg_name (i := 3) sc_law_mixed.nd rfl (by first | exact Or.inl rfl | exact Or.inr rfl))) (fun _ _ _ _ _ => by exact dts_nil) (fun _ _ _ _ _ => by exact (de_bm PySem.F.plainAttrs_list PySem.F.slot_list_pop PySem.F.type_list_pop mt_popAt ty_lst md_popAt (de_var (pv 2)) (da_cons (de_call (ok_law_take T) tk0 (hr.mono (by first | decide | omega)) (by rfl) T.g__law_take T.F_law_take.kp T.B_law_take (da_cons (de_var (pv 0)) (da_cons (de_callB (call_lenAll) cd_len (by rfl) T.z_len (by decide +kernel) (da_cons (de_var (pv 2)) da_nil)) da_nil))) da_nil))))))) : PSs _ _ (tS K (WE E) (b_law_mixed K))))
theorem ok_law_net (T : Fx K w mg) : FnD P w K mg base 3 (He.ga K "_law_net") T.fd_law_net ["bag", "most"] (G_law_net K) :=
  fnd_raw T.F_law_net sc_law_net (fun cdv A outer s H E hr => ((dss_cons (ds_set (i := 2) sc_law_net.nd rfl (by first | exact Or.inl rfl | exact Or.inr rfl) (de_call (ok_law_take T) tkf (hr.mono (by first | decide | omega)) (by rfl) T.g__law_take T.F_law_take.kp T.B_law_take (da_cons (de_var (pv 0)) (da_cons de_int da_nil))))
    (dss_cons (ds_set (i := 3) sc_law_net.nd rfl (by first | exact Or.inl rfl | exact Or.inr rfl) (de_op op_addAll (opd_add false) de_int (de_call (ok_law_take T) tkf (hr.mono (by first | decide | omega)) (by rfl) T.g__law_take T.F_law_take.kp T.B_law_take (da_cons (de_var (pv 0)) (da_cons (de_var (pv 1)) da_nil)))))
    (dss_cons (ds_set (i := 4) sc_law_net.nd rfl (by first | exact Or.inl rfl | exact Or.inr rfl) (de_call (ok_law_mixed T) tkf (hr.mono (by first | decide | omega)) (by rfl) T.g__law_mixed T.F_law_mixed.kp T.B_law_mixed (da_cons (de_var (pv 0)) (da_cons (de_lrg false rfl (by rfl) T.z_list (by rfl) T.z_range (de_var (pv 3))) da_nil))))
    (dss_cons (ds_set (i := 5) sc_law_net.nd rfl (by first | exact Or.inl rfl | exact Or.inr rfl) (de_lst true da_nil))
    (dss_cons (ds_for pof rfl (di_rng2 (by rfl) T.z_range (da_cons de_int (da_cons (de_var (pv 3)) da_nil))) (show PG _ _ (tgR K (.nm 6)) from (pg_name (i := 6) sc_law_net.nd rfl (by first | exact Or.inl rfl | exact Or.inr rfl))) (dss_cons (ds_expr (de_bm PySem.F.plainAttrs_list PySem.F.slot_list_append PySem.F.type_list_append mt_append ty_lst md_append (de_var (pv 5)) (da_cons (de_tup (da_cons (de_ix (un1 hr) (de_var (pv 4)) (de_ix (un1 hr) (de_lst false (da_cons (de_op op_sub opd_sub (de_var (pv 6)) de_int) (da_cons de_int (da_cons (de_call (ok_law_take T) tkf (hr.mono (by first | decide | omega)) (by rfl) T.g__law_take T.F_law_take.kp T.B_law_take (da_cons (de_var (pv 0)) (da_cons (de_var (pv 6)) da_nil))) da_nil)))) (de_callB (call_min2 rfl) cd_min2 (by rfl) T.z_min (by decide +kernel) (da_cons (de_op op_fdivW opd_fdiv (de_var (pv 2)) de_int) (da_cons de_int da_nil))) (fun _ _ => rfl)) (fun _ _ => rfl)) (da_cons (de_ix (un1 hr) (de_var (pv 4)) (de_var (pv 6)) (fun _ _ => rfl)) da_nil))) da_nil)))
    (dss_one (ds_if (dt_cmp (op_eqD (un64 hr)) opd_eq (de_var (pv 2)) de_int (nomark _)) (dss_one (ds_expr (de_bm PySem.F.plainAttrs_list PySem.F.slot_list_extend PySem.F.type_list_extend mt_extend ty_lst md_extend (de_var (pv 5)) (da_cons (de_lc (own := [("j", 7)]) rfl sc_law_net.nd (di_rng1 (by rfl) T.z_range (da_cons (de_var (pv 6)) da_nil)) (blkOk_by (by rfl)) (fun _ _ _ _ _ => by exact (pg_name (i := 7) sc_law_net.nd rfl (by first | exact Or.inl rfl | exact Or.inr rfl))) (fun _ _ _ _ _ => by exact dts_nil) (fun _ _ _ _ _ => by exact (de_tup (da_cons (de_ix (un1 hr) (de_var (pv 4)) (de_var (pv 7)) (fun _ _ => rfl)) (da_cons (de_ix (un1 hr) (de_var (pv 4)) (de_var (pv 6)) (fun _ _ => rfl)) da_nil))))) da_nil)))) dss_nil))))
    (dss_cons (ds_if (dt_cmp (op_eqD (un64 hr)) opd_eq (de_var (pv 2)) de_int (nomark _)) (dss_one (ds_expr (de_bm PySem.F.plainAttrs_list PySem.F.slot_list_append PySem.F.type_list_append mt_append ty_lst md_append (de_var (pv 5)) (da_cons (de_tup (da_cons (de_ix (un1 hr) (de_var (pv 4)) de_int (fun _ _ => rfl)) (da_cons (de_ix (un1 hr) (de_var (pv 4)) (de_un un_neg und_neg de_int) (fun _ _ => rfl)) da_nil))) da_nil)))) dss_nil)
    (dss_cons (ds_for pof rfl (di_rng1 (by rfl) T.z_range (da_cons (de_ix (un1 hr) (de_lst false (da_cons de_int (da_cons (de_op op_addAll (opd_add false) (de_op op_fdivW opd_fdiv (de_var (pv 3)) de_int) de_int) (da_cons (de_op op_mulAll (opd_mul false) de_int (de_var (pv 3))) da_nil)))) (de_callB (call_max2 rfl) cd_max2 (by rfl) T.z_max (by decide +kernel) (da_cons de_int (da_cons (de_op op_sub opd_sub (de_var (pv 2)) de_int) da_nil))) (fun _ _ => rfl)) da_nil)) (show PG _ _ (tgR K (.nm 6)) from (pg_name (i := 6) sc_law_net.nd rfl (by first | exact Or.inl rfl | exact Or.inr rfl))) (dss_one (ds_expr (de_bm PySem.F.plainAttrs_list PySem.F.slot_list_append PySem.F.type_list_append mt_append ty_lst md_append (de_var (pv 5)) (da_cons (de_tup (da_cons (de_call (ok_law_take T) tkf (hr.mono (by first | decide | omega)) (by rfl) T.g__law_take T.F_law_take.kp T.B_law_take (da_cons (de_var (pv 0)) (da_cons (de_var (pv 3)) da_nil))) (da_cons (de_call (ok_law_take T) tkf (hr.mono (by first | decide | omega)) (by rfl) T.g__law_take T.F_law_take.kp T.B_law_take (da_cons (de_var (pv 0)) (da_cons (de_var (pv 3)) da_nil))) da_nil))) da_nil)))))
    (dss_one (ds_ret (de_tup (da_cons (de_var (pv 3)) (da_cons (de_callTy (call_tuple_of) cd_tuple (by rfl) T.z_tuple boot_tuple (da_cons (de_sortset false rfl (un68 hr) rfl rfl (by rfl) T.z_sorted (by rfl) T.z_set (de_lc (own := [("pair", 8)]) rfl sc_law_net.nd (di_seq (de_var (pv 5))) (blkOk_by (by rfl)) (fun _ _ _ _ _ => by exact (pg_name (i := 8) sc_law_net.nd rfl (by first | exact Or.inl rfl | exact Or.inr rfl))) (fun _ _ _ _ _ => by exact (dts_one (dt_cmp (op_neD (un64 hr)) opd_ne (de_ix (un1 hr) (de_var (pv 8)) de_int (fun _ _ => rfl)) (de_ix (un1 hr) (de_var (pv 8)) de_int (fun _ _ => rfl)) (nomark _)))) (fun _ _ _ _ _ => by exact (de_tup (da_cons (de_callB ((cr_min rfl).or (cr_minT rfl (un1 hr))) cd_minq (by rfl) T.z_min (by decide +kernel) (da_cons (de_var (pv 8)) da_nil)) (da_cons (de_callB ((cr_max rfl).or (cr_maxT rfl (un1 hr))) cd_maxq (by rfl) T.z_max (by decide +kernel) (da_cons (de_var (pv 8)) da_nil)) da_nil)))))) da_nil)) da_nil)))))))))))) : PSs _ _ (tS K (WE E) (b_law_net K))))
theorem ok_law_parting (T : Fx K w mg) : FnD P w K mg base 2 (He.ga K "_law_parting") T.fd_law_parting ["bag", "net"] (G_law_parting K) :=
  fnd_raw T.F_law_parting sc_law_parting (fun cdv A outer s H E hr => ((dss_cons (ds_asg (de_var (pv 1)) (show PG _ _ (tgR K (.tp [(.nm 2), (.nm 3)])) from (pg_seq rfl (pgs_cons (pg_name (i := 2) sc_law_parting.nd rfl (by first | exact Or.inl rfl | exact Or.inr rfl)) (pgs_cons (pg_name (i := 3) sc_law_parting.nd rfl (by first | exact Or.inl rfl | exact Or.inr rfl)) pgs_nil)))))
    (dss_cons (ds_set (i := 4) sc_law_parting.nd rfl (by first | exact Or.inl rfl | exact Or.inr rfl) (de_lrg false rfl (by rfl) T.z_list (by rfl) T.z_range (de_var (pv 2))))
    (dss_cons (ds_set (i := 5) sc_law_parting.nd rfl (by first | exact Or.inl rfl | exact Or.inr rfl) (de_ix (un1 hr) (de_lst false (da_cons de_int (da_cons (de_op op_mulAll (opd_mul false) de_int (de_var (pv 2))) (da_cons (de_op op_addAll (opd_add false) de_int (de_call (ok_law_take T) tkf (hr.mono (by first | decide | omega)) (by rfl) T.g__law_take T.F_law_take.kp T.B_law_take (da_cons (de_var (pv 0)) (da_cons (de_var (pv 2)) da_nil)))) (da_cons (de_op op_addAll (opd_add false) de_int (de_call (ok_law_take T) tkf (hr.mono (by first | decide | omega)) (by rfl) T.g__law_take T.F_law_take.kp T.B_law_take (da_cons (de_var (pv 0)) (da_cons (de_op op_mulAll (opd_mul false) de_int (de_var (pv 2))) da_nil)))) da_nil))))) (de_call (ok_law_take T) tkf (hr.mono (by first | decide | omega)) (by rfl) T.g__law_take T.F_law_take.kp T.B_law_take (da_cons (de_var (pv 0)) (da_cons de_int da_nil))) (fun _ _ => rfl)))
    (dss_cons (ds_for pof rfl (di_rng1 (by rfl) T.z_range (da_cons (de_var (pv 5)) da_nil)) (show PG _ _ (tgR K (.nm 6)) from (pg_name (i := 6) sc_law_parting.nd rfl (by first | exact Or.inl rfl | exact Or.inr rfl))) (dss_one (ds_if (dt_cmp (op_neD (un64 hr)) opd_ne (de_var (pv 3)) (de_tup da_nil) (nomark _)) (dss_cons (ds_asg (de_ix (un1 hr) (de_var (pv 3)) (de_call (ok_law_take T) tkf (hr.mono (by first | decide | omega)) (by rfl) T.g__law_take T.F_law_take.kp T.B_law_take (da_cons (de_var (pv 0)) (da_cons (de_callB (call_lenAll) cd_len (by rfl) T.z_len (by decide +kernel) (da_cons (de_var (pv 3)) da_nil)) da_nil))) (fun _ _ => rfl)) (show PG _ _ (tgR K (.tp [(.nm 7), (.nm 8)])) from (pg_seq rfl (pgs_cons (pg_name (i := 7) sc_law_parting.nd rfl (by first | exact Or.inl rfl | exact Or.inr rfl)) (pgs_cons (pg_name (i := 8) sc_law_parting.nd rfl (by first | exact Or.inl rfl | exact Or.inr rfl)) pgs_nil)))))
    (dss_one (ds_set (i := 4) sc_law_parting.nd rfl (by first | exact Or.inl rfl | exact Or.inr rfl) (de_lc (own := [("at", 9)]) rfl sc_law_parting.nd (di_seq (de_var (pv 4))) (blkOk_by (by rfl)) (fun _ _ _ _ _ => by exact (pg_name (i := 9) sc_law_parting.nd rfl (by first | exact Or.inl rfl | exact Or.inr rfl))) (fun _ _ _ _ _ => by exact dts_nil) (fun _ _ _ _ _ => by exact (de_ix (un1 hr) (de_lst false (da_cons (de_var (pv 9)) (da_cons (de_ix (un1 hr) (de_var (pv 4)) (de_var (pv 8)) (fun _ _ => rfl)) da_nil))) (de_callTy (call_intAll) cd_int (by rfl) T.z_int boot_int (da_cons (de_cmp (op_eqD (un64 hr)) opd_eq (de_var (pv 9)) (de_ix (un1 hr) (de_var (pv 4)) (de_var (pv 7)) (fun _ _ => rfl)) (nomark _)) da_nil)) (fun _ _ => rfl))))))) dss_nil)))
    (dss_cons (ds_set (i := 10) sc_law_parting.nd rfl (by first | exact Or.inl rfl | exact Or.inr rfl) (de_lst true da_nil))
    (dss_cons (ds_for pof rfl (di_seq (de_sortsetI false rfl rfl rfl (by rfl) T.z_sorted (by rfl) T.z_set (de_var (pv 4)))) (show PG _ _ (tgR K (.nm 9)) from (pg_name (i := 9) sc_law_parting.nd rfl (by first | exact Or.inl rfl | exact Or.inr rfl))) (dss_one (ds_expr (de_bm PySem.F.plainAttrs_list PySem.F.slot_list_append PySem.F.type_list_append mt_append ty_lst md_append (de_var (pv 10)) (da_cons (de_callTy (call_tuple_of) cd_tuple (by rfl) T.z_tuple boot_tuple (da_cons (de_lc (own := [("hand", 11)]) rfl sc_law_parting.nd (di_rng1 (by rfl) T.z_range (da_cons (de_var (pv 2)) da_nil)) (blkOk_by (by rfl)) (fun _ _ _ _ _ => by exact (pg_name (i := 11) sc_law_parting.nd rfl (by first | exact Or.inl rfl | exact Or.inr rfl))) (fun _ _ _ _ _ => by exact (dts_one (dt_cmp (op_eqD (un64 hr)) opd_eq (de_ix (un1 hr) (de_var (pv 4)) (de_var (pv 11)) (fun _ _ => rfl)) (de_var (pv 9)) (nomark _)))) (fun _ _ _ _ _ => by exact (de_var (pv 11)))) da_nil)) da_nil)))))
    (dss_one (ds_ret (de_callTy (call_tuple_of) cd_tuple (by rfl) T.z_tuple boot_tuple (da_cons (de_callB (call_sortedD (un68 hr)) (cd_sorted false) (by rfl) T.z_sorted (by decide +kernel) (da_cons (de_var (pv 10)) da_nil)) da_nil)))))))))) : PSs _ _ (tS K (WE E) (b_law_parting K))))
theorem ok_law_steps (T : Fx K w mg) : FnD P w K mg base 1 (He.ga K "_law_steps") T.fd_law_steps ["net", "hand", "within"] (G_law_steps K) :=
  fnd_raw T.F_law_steps sc_law_steps (fun cdv A outer s H E hr => ((dss_cons (ds_set (i := 3) sc_law_steps.nd rfl (by first | exact Or.inl rfl | exact Or.inr rfl) (de_op op_mulAll (opd_mul true) (de_lst false (da_cons de_non da_nil)) (de_ix (un1 hr) (de_var (pv 0)) de_int (fun _ _ => rfl))))
    (dss_cons (ds_setI (de_var (pv 3)) (de_var (pv 1)) de_int)
    (dss_cons (ds_set (i := 4) sc_law_steps.nd rfl (by first | exact Or.inl rfl | exact Or.inr rfl) (de_op op_addAll (opd_add false) (de_ix (un1 hr) (de_var (pv 0)) de_int (fun _ _ => rfl)) (de_callTy (call_tuple_of) cd_tuple (by rfl) T.z_tuple boot_tuple (da_cons (de_lc (own := [("pair", 5)]) rfl sc_law_steps.nd (di_seq (de_ix (un1 hr) (de_var (pv 0)) de_int (fun _ _ => rfl))) (blkOk_by (by rfl)) (fun _ _ _ _ _ => by exact (pg_name (i := 5) sc_law_steps.nd rfl (by first | exact Or.inl rfl | exact Or.inr rfl))) (fun _ _ _ _ _ => by exact dts_nil) (fun _ _ _ _ _ => by exact (de_revT (de_var (pv 5)) (de_un un_neg und_neg de_int)))) da_nil))))
    (dss_cons (ds_set (i := 6) sc_law_steps.nd rfl (by first | exact Or.inl rfl | exact Or.inr rfl) de_bl)
    (dss_cons (ds_while many pof (dt_val (de_var (pv 6))) (dss_cons (ds_set (i := 6) sc_law_steps.nd rfl (by first | exact Or.inl rfl | exact Or.inr rfl) de_bl)
    (dss_one (ds_for pof rfl (di_seq (de_var (pv 4))) (show PG _ _ (tgR K (.tp [(.nm 7), (.nm 8)])) from (pg_seq rfl (pgs_cons (pg_name (i := 7) sc_law_steps.nd rfl (by first | exact Or.inl rfl | exact Or.inr rfl)) (pgs_cons (pg_name (i := 8) sc_law_steps.nd rfl (by first | exact Or.inl rfl | exact Or.inr rfl)) pgs_nil)))) (dss_one (ds_if (PW.pt (dw_and (dt_cmp (op_inAll (un65 hr)) opd_in (de_var (pv 8)) (de_var (pv 2)) (by rfl)) (dw_and (dt_cmp (op_notN) opd_isnt (de_ix (un1 hr) (de_var (pv 3)) (de_var (pv 7)) (fun _ _ => rfl)) de_non (nomark _)) (dw_and1 (PW.pt (dw_or (dt_cmp (op_isN) opd_is (de_ix (un1 hr) (de_var (pv 3)) (de_var (pv 8)) (fun _ _ => rfl)) de_non (nomark _)) (dw_or1 (dt_cmp (op_gt) opd_gt (de_ix (un1 hr) (de_var (pv 3)) (de_var (pv 8)) (fun _ _ => rfl)) (de_op op_addAll (opd_add false) (de_ix (un1 hr) (de_var (pv 3)) (de_var (pv 7)) (fun _ _ => rfl)) de_int) (nomark _))))))))) (dss_cons (ds_setI (de_var (pv 3)) (de_var (pv 8)) (de_op op_addAll (opd_add false) (de_ix (un1 hr) (de_var (pv 3)) (de_var (pv 7)) (fun _ _ => rfl)) de_int))
    (dss_one (ds_set (i := 6) sc_law_steps.nd rfl (by first | exact Or.inl rfl | exact Or.inr rfl) de_bl))) dss_nil))))))
    (dss_one (ds_ret (de_var (pv 3))))))))) : PSs _ _ (tS K (WE E) (b_law_steps K))))
theorem ok_law_is_whole (T : Fx K w mg) : FnD P w K mg base 1 (He.ga K "_law_is_whole") T.fd_law_is_whole ["thing"] (G_law_is_whole K) :=
  fnd_raw T.F_law_is_whole sc_law_is_whole (fun cdv A outer s H E hr => ((dss_one (ds_ret (de_andT (de_callB (call_isiAll) cd_isi (by rfl) T.z_isinstance (by decide +kernel) (da_cons (de_var (pv 0)) (da_cons (de_ty (T := "int") (by rfl) T.z_int boot_int) da_nil))) (de_one (de_not (de_callB (call_isiAll) cd_isi (by rfl) T.z_isinstance (by decide +kernel) (da_cons (de_var (pv 0)) (da_cons (de_ty (T := "bool") (by rfl) T.z_bool boot_bool) da_nil)))))))) : PSs _ _ (tS K (WE E) (b_law_is_whole K))))
theorem ok_law_is_part (T : Fx K w mg) : FnD P w K mg base 2 (He.ga K "_law_is_part") T.fd_law_is_part ["net", "part"] (G_law_is_part K) :=
  fnd_raw T.F_law_is_part sc_law_is_part (fun cdv A outer s H E hr => ((dss_cons (ds_if (PW.pt (dw_or (dt_not (dt_val (de_callB (call_isiAll) cd_isi (by rfl) T.z_isinstance (by decide +kernel) (da_cons (de_var (pv 1)) (da_cons (de_ty (T := "tuple") (by rfl) T.z_tuple boot_tuple) da_nil))))) (dw_or (dt_cmp (op_eqD (un64 hr)) opd_eq (de_var (pv 1)) (de_tup da_nil) (nomark _)) (dw_or1 (dt_cmp (op_neD (un64 hr)) opd_ne (de_lc (own := [("hand", 2)]) rfl sc_law_is_part.nd (di_seq (de_var (pv 1))) (blkOk_by (by rfl)) (fun _ _ _ _ _ => by exact (pg_name (i := 2) sc_law_is_part.nd rfl (by first | exact Or.inl rfl | exact Or.inr rfl))) (fun _ _ _ _ _ => by exact (dts_one (dt_not (dt_val (de_call (ok_law_is_whole T) tk0 (hr.mono (by first | decide | omega)) (by rfl) T.g__law_is_whole T.F_law_is_whole.kp T.B_law_is_whole (da_cons (de_var (pv 2)) da_nil)))))) (fun _ _ _ _ _ => by exact (de_var (pv 2)))) (de_lst false da_nil) (nomark _)))))) (dss_one (ds_ret de_bl)) dss_nil)
    (dss_cons (ds_if (PW.pt (dw_or (dt_cmp (op_neD (un64 hr)) opd_ne (de_lc (own := [("hand", 2)]) rfl sc_law_is_part.nd (di_seq (de_var (pv 1))) (blkOk_by (by rfl)) (fun _ _ _ _ _ => by exact (pg_name (i := 2) sc_law_is_part.nd rfl (by first | exact Or.inl rfl | exact Or.inr rfl))) (fun _ _ _ _ _ => by exact (dts_one (dt_not (dt_chain (op_le) opd_le (op_ltAll (un0 hr)) opd_lt de_int (de_var (pv 2)) (de_ix (un1 hr) (de_var (pv 0)) de_int (fun _ _ => rfl)))))) (fun _ _ _ _ _ => by exact (de_var (pv 2)))) (de_lst false da_nil) (nomark _)) (dw_or1 (dt_cmp (op_neD (un64 hr)) opd_ne (de_callTy call_list_of (cd_list false) (by rfl) T.z_list boot_list (da_cons (de_var (pv 1)) da_nil)) (de_sortsetT false rfl rfl rfl (by rfl) T.z_sorted (by rfl) T.z_set (de_var (pv 1))) (nomark _))))) (dss_one (ds_ret de_bl)) dss_nil)
    (dss_cons (ds_set (i := 3) sc_law_is_part.nd rfl (by first | exact Or.inl rfl | exact Or.inr rfl) (de_call (ok_law_steps T) tkf (hr.mono (by first | decide | omega)) (by rfl) T.g__law_steps T.F_law_steps.kp T.B_law_steps (da_cons (de_var (pv 0)) (da_cons (de_ix (un1 hr) (de_var (pv 1)) de_int (fun _ _ => rfl)) (da_cons (de_var (pv 1)) da_nil)))))
    (dss_one (ds_ret (de_cmp (op_eqD (un64 hr)) opd_eq (de_lc (own := [("hand", 2)]) rfl sc_law_is_part.nd (di_seq (de_var (pv 1))) (blkOk_by (by rfl)) (fun _ _ _ _ _ => by exact (pg_name (i := 2) sc_law_is_part.nd rfl (by first | exact Or.inl rfl | exact Or.inr rfl))) (fun _ _ _ _ _ => by exact (dts_one (dt_cmp (op_isN) opd_is (de_ix (un1 hr) (de_var (pv 3)) (de_var (pv 2)) (fun _ _ => rfl)) de_non (nomark _)))) (fun _ _ _ _ _ => by exact (de_var (pv 2)))) (de_lst false da_nil) (nomark _))))))) : PSs _ _ (tS K (WE E) (b_law_is_part K))))
theorem ok_law_is_parting (T : Fx K w mg) : FnD P w K mg base 3 (He.ga K "_law_is_parting") T.fd_law_is_parting ["net", "thing"] (G_law_is_parting K) :=
  fnd_raw T.F_law_is_parting sc_law_is_parting (fun cdv A outer s H E hr => ((dss_cons (ds_if (PW.pt (dw_or (dt_not (dt_val (de_callB (call_isiAll) cd_isi (by rfl) T.z_isinstance (by decide +kernel) (da_cons (de_var (pv 1)) (da_cons (de_ty (T := "tuple") (by rfl) T.z_tuple boot_tuple) da_nil))))) (dw_or1 (dt_cmp (op_neD (un64 hr)) opd_ne (de_lc (own := [("part", 2)]) rfl sc_law_is_parting.nd (di_seq (de_var (pv 1))) (blkOk_by (by rfl)) (fun _ _ _ _ _ => by exact (pg_name (i := 2) sc_law_is_parting.nd rfl (by first | exact Or.inl rfl | exact Or.inr rfl))) (fun _ _ _ _ _ => by exact (dts_one (dt_not (dt_val (de_call (ok_law_is_part T) tk0 (hr.mono (by first | decide | omega)) (by rfl) T.g__law_is_part T.F_law_is_part.kp T.B_law_is_part (da_cons (de_var (pv 0)) (da_cons (de_var (pv 2)) da_nil))))))) (fun _ _ _ _ _ => by exact (de_var (pv 2)))) (de_lst false da_nil) (nomark _))))) (dss_one (ds_ret de_bl)) dss_nil)
    (dss_cons (ds_set (i := 3) sc_law_is_parting.nd rfl (by first | exact Or.inl rfl | exact Or.inr rfl) (de_lst true da_nil))
    (dss_cons (ds_for pof rfl (di_seq (de_var (pv 1))) (show PG _ _ (tgR K (.nm 2)) from (pg_name (i := 2) sc_law_is_parting.nd rfl (by first | exact Or.inl rfl | exact Or.inr rfl))) (dss_one (ds_expr (de_bm PySem.F.plainAttrs_list PySem.F.slot_list_extend PySem.F.type_list_extend WS.mt_extT ty_lst md_extT (de_var (pv 3)) (da_cons (de_var (pv 2)) da_nil)))))
    (dss_cons (ds_setLc (own := [("part", 2)]) rfl sc_law_is_parting.nd (i := 4) rfl rfl (sw_true rfl rfl rfl (by decide +kernel)) (di_seq (de_var (pv 1))) (blkOk_by (by rfl)) (fun _ _ _ _ _ => by exact (pg_name (i := 2) sc_law_is_parting.nd rfl (by first | exact Or.inl rfl | exact Or.inr rfl))) (fun _ _ _ _ _ => by exact dts_nil) (fun _ _ _ _ _ => by exact (de_ix (un1 hr) (de_var (pv 2)) de_int (fun _ _ => rfl))))
    (dss_one (ds_ret (de_and (de_cmp (op_eqD (un64 hr)) opd_eq (de_callB (call_sortedD (un68 hr)) (cd_sorted false) (by rfl) T.z_sorted (by decide +kernel) (da_cons (de_var (pv 3)) da_nil)) (de_lrg false rfl (by rfl) T.z_list (by rfl) T.z_range (de_ix (un1 hr) (de_var (pv 0)) de_int (fun _ _ => rfl))) (nomark _)) (de_one (de_cmp (op_eqD (un64 hr)) opd_eq (de_var (pv 4)) (de_callB (call_sortedD (un68 hr)) (cd_sorted false) (by rfl) T.z_sorted (by decide +kernel) (da_cons (de_var (pv 4)) da_nil)) (nomark _)))))))))) : PSs _ _ (tS K (WE E) (b_law_is_parting K))))
theorem ok_law_odd (T : Fx K w mg) : FnD P w K mg base 2 (He.ga K "_law_odd") T.fd_law_odd ["bag", "net"] (G_law_odd K) :=
  fnd_raw T.F_law_odd sc_law_odd (fun cdv A outer s H E hr => ((dss_one (ds_ret (de_ix (un1 hr) (de_lst false (da_cons de_non (da_cons de_bl (da_cons de_str (da_cons (de_un un_neg und_neg de_int) (da_cons (de_ix (un1 hr) (de_var (pv 1)) de_int (fun _ _ => rfl)) (da_cons (de_op op_powW opd_pow de_int de_int) (da_cons (de_tup da_nil) (da_cons (de_lst false da_nil) (da_cons (de_tup (da_cons (de_tup da_nil) da_nil)) (da_cons (de_tup (da_cons de_int da_nil)) (da_cons (de_lst false (da_cons de_int da_nil)) (da_cons (de_tup (da_cons de_bl da_nil)) (da_cons (de_tup (da_cons de_str da_nil)) da_nil)))))))))))))) (de_call (ok_law_take T) tkf (hr.mono (by first | decide | omega)) (by rfl) T.g__law_take T.F_law_take.kp T.B_law_take (da_cons (de_var (pv 0)) (da_cons de_int da_nil))) (fun _ _ => rfl)))) : PSs _ _ (tS K (WE E) (b_law_odd K))))
theorem ok_law_part_bent (T : Fx K w mg) : FnD P w K mg base 3 (He.ga K "_law_part_bent") T.fd_law_part_bent ["bag", "net", "part"] (G_law_part_bent K) :=
  fnd_raw T.F_law_part_bent sc_law_part_bent (fun cdv A outer s H E hr => ((dss_cons (ds_set (i := 3) sc_law_part_bent.nd rfl (by first | exact Or.inl rfl | exact Or.inr rfl) (de_call (ok_law_take T) tkf (hr.mono (by first | decide | omega)) (by rfl) T.g__law_take T.F_law_take.kp T.B_law_take (da_cons (de_var (pv 0)) (da_cons de_int da_nil))))
    (dss_cons (ds_set (i := 4) sc_law_part_bent.nd rfl (by first | exact Or.inl rfl | exact Or.inr rfl) (de_call (ok_law_take T) tkf (hr.mono (by first | decide | omega)) (by rfl) T.g__law_take T.F_law_take.kp T.B_law_take (da_cons (de_var (pv 0)) (da_cons (de_callB (call_lenAll) cd_len (by rfl) T.z_len (by decide +kernel) (da_cons (de_var (pv 2)) da_nil)) da_nil))))
    (dss_cons (ds_if (dt_cmp (op_eqD (un64 hr)) opd_eq (de_var (pv 3)) de_int (nomark _)) (dss_one (ds_ret (de_revT (de_var (pv 2)) (de_un un_neg und_neg de_int)))) dss_nil)
    (dss_cons (ds_if (dt_cmp (op_eqD (un64 hr)) opd_eq (de_var (pv 3)) de_int (nomark _)) (dss_one (ds_ret (de_op op_addAll (opd_add false) (de_sl false (de_var (pv 2)) dp_none (dp_some (de_var (pv 4)))) (de_sl false (de_var (pv 2)) (dp_some (de_op op_addAll (opd_add false) (de_var (pv 4)) de_int)) dp_none)))) dss_nil)
    (dss_cons (ds_if (dt_cmp (op_eqD (un64 hr)) opd_eq (de_var (pv 3)) de_int (nomark _)) (dss_one (ds_ret (de_callTy (call_tuple_of) cd_tuple (by rfl) T.z_tuple boot_tuple (da_cons (de_sortsetT false rfl rfl rfl (by rfl) T.z_sorted (by rfl) T.z_set (de_op op_addAll (opd_add false) (de_var (pv 2)) (de_tup (da_cons (de_call (ok_law_take T) tkf (hr.mono (by first | decide | omega)) (by rfl) T.g__law_take T.F_law_take.kp T.B_law_take (da_cons (de_var (pv 0)) (da_cons (de_ix (un1 hr) (de_var (pv 1)) de_int (fun _ _ => rfl)) da_nil))) da_nil)))) da_nil)))) dss_nil)
    (dss_cons (ds_if (dt_cmp (op_eqD (un64 hr)) opd_eq (de_var (pv 3)) de_int (nomark _)) (dss_one (ds_ret (de_callTy call_list_of (cd_list false) (by rfl) T.z_list boot_list (da_cons (de_var (pv 2)) da_nil)))) dss_nil)
    (dss_cons (ds_if (dt_cmp (op_eqD (un64 hr)) opd_eq (de_var (pv 3)) de_int (nomark _)) (dss_one (ds_ret (de_op op_addAll (opd_add false) (de_op op_addAll (opd_add false) (de_sl false (de_var (pv 2)) dp_none (dp_some (de_var (pv 4)))) (de_tup (da_cons (de_ix (un1 hr) (de_var (pv 2)) (de_var (pv 4)) (fun _ _ => rfl)) (da_cons (de_ix (un1 hr) (de_var (pv 2)) (de_var (pv 4)) (fun _ _ => rfl)) da_nil)))) (de_sl false (de_var (pv 2)) (dp_some (de_op op_addAll (opd_add false) (de_var (pv 4)) de_int)) dp_none)))) dss_nil)
    (dss_one (ds_ret (de_op op_addAll (opd_add false) (de_op op_addAll (opd_add false) (de_sl false (de_var (pv 2)) dp_none (dp_some (de_var (pv 4)))) (de_tup (da_cons (de_call (ok_law_odd T) tkf (hr.mono (by first | decide | omega)) (by rfl) T.g__law_odd T.F_law_odd.kp T.B_law_odd (da_cons (de_var (pv 0)) (da_cons (de_var (pv 1)) da_nil))) da_nil))) (de_sl false (de_var (pv 2)) (dp_some (de_op op_addAll (opd_add false) (de_var (pv 4)) de_int)) dp_none))))))))))) : PSs _ _ (tS K (WE E) (b_law_part_bent K))))
theorem ok_law_bent (T : Fx K w mg) : FnD P w K mg base 4 (He.ga K "_law_bent") T.fd_law_bent ["bag", "net", "parting"] (G_law_bent K) :=
  fnd_raw T.F_law_bent sc_law_bent (fun cdv A outer s H E hr => ((dss_cons (ds_set (i := 3) sc_law_bent.nd rfl (by first | exact Or.inl rfl | exact Or.inr rfl) (de_call (ok_law_take T) tkf (hr.mono (by first | decide | omega)) (by rfl) T.g__law_take T.F_law_take.kp T.B_law_take (da_cons (de_var (pv 0)) (da_cons de_int da_nil))))
    (dss_cons (ds_set (i := 4) sc_law_bent.nd rfl (by first | exact Or.inl rfl | exact Or.inr rfl) (de_call (ok_law_take T) tkf (hr.mono (by first | decide | omega)) (by rfl) T.g__law_take T.F_law_take.kp T.B_law_take (da_cons (de_var (pv 0)) (da_cons (de_callB (call_lenAll) cd_len (by rfl) T.z_len (by decide +kernel) (da_cons (de_var (pv 2)) da_nil)) da_nil))))
    (dss_cons (ds_set (i := 5) sc_law_bent.nd rfl (by first | exact Or.inl rfl | exact Or.inr rfl) (de_call (ok_law_take T) tkf (hr.mono (by first | decide | omega)) (by rfl) T.g__law_take T.F_law_take.kp T.B_law_take (da_cons (de_var (pv 0)) (da_cons (de_callB (call_lenAll) cd_len (by rfl) T.z_len (by decide +kernel) (da_cons (de_var (pv 2)) da_nil)) da_nil))))
    (dss_cons (ds_set (i := 6) sc_law_bent.nd rfl (by first | exact Or.inl rfl | exact Or.inr rfl) (de_callTy (call_tuple_of) cd_tuple (by rfl) T.z_tuple boot_tuple (da_cons (de_lc (own := [("k", 7), ("part", 8)]) rfl sc_law_bent.nd (di_enumT (by rfl) T.z_enumerate (da_cons (de_var (pv 2)) da_nil)) (blkOk_by (by rfl)) (fun _ _ _ _ _ => by exact (pg_seq rfl (pgs_cons (pg_name (i := 7) sc_law_bent.nd rfl (by first | exact Or.inl rfl | exact Or.inr rfl)) (pgs_cons (pg_name (i := 8) sc_law_bent.nd rfl (by first | exact Or.inl rfl | exact Or.inr rfl)) pgs_nil)))) (fun _ _ _ _ _ => by exact (dts_one (dt_cmp (op_ninAll (un65 hr)) opd_nin (de_var (pv 7)) (de_tup (da_cons (de_var (pv 4)) (da_cons (de_var (pv 5)) da_nil))) (by rfl)))) (fun _ _ _ _ _ => by exact (de_var (pv 8)))) da_nil)))
    (dss_cons (ds_if (dt_cmp (op_ltAll (un0 hr)) opd_lt (de_var (pv 3)) de_int (nomark _)) (dss_one (ds_ret (de_callTy (call_tuple_of) cd_tuple (by rfl) T.z_tuple boot_tuple (da_cons (de_callB (call_sortedD (un68 hr)) (cd_sorted false) (by rfl) T.z_sorted (by decide +kernel) (da_cons (de_op op_addAll (opd_add false) (de_var (pv 6)) (de_tup (da_cons (de_callTy (call_tuple_of) cd_tuple (by rfl) T.z_tuple boot_tuple (da_cons (de_sortsetT false rfl rfl rfl (by rfl) T.z_sorted (by rfl) T.z_set (de_op op_addAll (opd_add false) (de_ix (un1 hr) (de_var (pv 2)) (de_var (pv 4)) (fun _ _ => rfl)) (de_ix (un1 hr) (de_var (pv 2)) (de_var (pv 5)) (fun _ _ => rfl)))) da_nil)) da_nil))) da_nil)) da_nil)))) dss_nil)
    (dss_cons (ds_if (dt_cmp (op_eqD (un64 hr)) opd_eq (de_var (pv 3)) de_int (nomark _)) (dss_cons (ds_set (i := 9) sc_law_bent.nd rfl (by first | exact Or.inl rfl | exact Or.inr rfl) (de_call (ok_law_take T) tkf (hr.mono (by first | decide | omega)) (by rfl) T.g__law_take T.F_law_take.kp T.B_law_take (da_cons (de_var (pv 0)) (da_cons (de_op op_addAll (opd_add false) (de_callB (call_lenAll) cd_len (by rfl) T.z_len (by decide +kernel) (da_cons (de_ix (un1 hr) (de_var (pv 2)) (de_var (pv 4)) (fun _ _ => rfl)) da_nil)) de_int) da_nil))))
    (dss_cons (ds_setLc (own := [("part", 8)]) rfl sc_law_bent.nd (i := 10) rfl rfl (sw_true rfl rfl rfl (by decide +kernel)) (di_seq (de_lst false (da_cons (de_sl false (de_ix (un1 hr) (de_var (pv 2)) (de_var (pv 4)) (fun _ _ => rfl)) dp_none (dp_some (de_var (pv 9)))) (da_cons (de_sl false (de_ix (un1 hr) (de_var (pv 2)) (de_var (pv 4)) (fun _ _ => rfl)) (dp_some (de_var (pv 9))) dp_none) da_nil)))) (blkOk_by (by rfl)) (fun _ _ _ _ _ => by exact (pg_name (i := 8) sc_law_bent.nd rfl (by first | exact Or.inl rfl | exact Or.inr rfl))) (fun _ _ _ _ _ => by exact (dts_one (dt_cmp (op_neD (un64 hr)) opd_ne (de_var (pv 8)) (de_tup da_nil) (nomark _)))) (fun _ _ _ _ _ => by exact (de_var (pv 8))))
    (dss_one (ds_ret (de_callTy (call_tuple_of) cd_tuple (by rfl) T.z_tuple boot_tuple (da_cons (de_callB (call_sortedD (un68 hr)) (cd_sorted false) (by rfl) T.z_sorted (by decide +kernel) (da_cons (de_op op_addAll (opd_add false) (de_op op_addAll (opd_add false) (de_sl false (de_var (pv 2)) dp_none (dp_some (de_var (pv 4)))) (de_sl false (de_var (pv 2)) (dp_some (de_op op_addAll (opd_add false) (de_var (pv 4)) de_int)) dp_none)) (de_callTy (call_tuple_of) cd_tuple (by rfl) T.z_tuple boot_tuple (da_cons (de_var (pv 10)) da_nil))) da_nil)) da_nil)))))) dss_nil)
    (dss_cons (ds_if (dt_cmp (op_eqD (un64 hr)) opd_eq (de_var (pv 3)) de_int (nomark _)) (dss_one (ds_ret (de_revT (de_var (pv 2)) (de_un un_neg und_neg de_int)))) dss_nil)
    (dss_cons (ds_if (dt_cmp (op_eqD (un64 hr)) opd_eq (de_var (pv 3)) de_int (nomark _)) (dss_one (ds_ret (de_op op_addAll (opd_add false) (de_sl false (de_var (pv 2)) dp_none (dp_some (de_var (pv 4)))) (de_sl false (de_var (pv 2)) (dp_some (de_op op_addAll (opd_add false) (de_var (pv 4)) de_int)) dp_none)))) dss_nil)
    (dss_cons (ds_if (dt_cmp (op_eqD (un64 hr)) opd_eq (de_var (pv 3)) de_int (nomark _)) (dss_one (ds_ret (de_op op_addAll (opd_add false) (de_op op_addAll (opd_add false) (de_sl false (de_var (pv 2)) dp_none (dp_some (de_var (pv 4)))) (de_tup (da_cons (de_ix (un1 hr) (de_var (pv 2)) (de_var (pv 4)) (fun _ _ => rfl)) da_nil))) (de_sl false (de_var (pv 2)) (dp_some (de_var (pv 4))) dp_none)))) dss_nil)
    (dss_cons (ds_if (dt_cmp (op_eqD (un64 hr)) opd_eq (de_var (pv 3)) de_int (nomark _)) (dss_one (ds_ret (de_ix (un1 hr) (de_lst false (da_cons (de_callTy call_list_of (cd_list false) (by rfl) T.z_list boot_list (da_cons (de_var (pv 2)) da_nil)) (da_cons (de_op op_addAll (opd_add false) (de_var (pv 2)) (de_tup (da_cons (de_tup da_nil) da_nil))) (da_cons (de_call (ok_law_odd T) tkf (hr.mono (by first | decide | omega)) (by rfl) T.g__law_odd T.F_law_odd.kp T.B_law_odd (da_cons (de_var (pv 0)) (da_cons (de_var (pv 1)) da_nil))) da_nil)))) (de_call (ok_law_take T) tkf (hr.mono (by first | decide | omega)) (by rfl) T.g__law_take T.F_law_take.kp T.B_law_take (da_cons (de_var (pv 0)) (da_cons de_int da_nil))) (fun _ _ => rfl)))) dss_nil)
    (dss_cons (ds_set (i := 8) sc_law_bent.nd rfl (by first | exact Or.inl rfl | exact Or.inr rfl) (de_call (ok_law_part_bent T) tkf (hr.mono (by first | decide | omega)) (by rfl) T.g__law_part_bent T.F_law_part_bent.kp T.B_law_part_bent (da_cons (de_var (pv 0)) (da_cons (de_var (pv 1)) (da_cons (de_ix (un1 hr) (de_var (pv 2)) (de_var (pv 4)) (fun _ _ => rfl)) da_nil)))))
    (dss_one (ds_ret (de_op op_addAll (opd_add false) (de_op op_addAll (opd_add false) (de_sl false (de_var (pv 2)) dp_none (dp_some (de_var (pv 4)))) (de_tup (da_cons (de_var (pv 8)) da_nil))) (de_sl false (de_var (pv 2)) (dp_some (de_op op_addAll (opd_add false) (de_var (pv 4)) de_int)) dp_none))))))))))))))) : PSs _ _ (tS K (WE E) (b_law_bent K))))
theorem ok_law (T : Fx K w mg) : FnDG P w K mg base 7 (He.ga K "law") T.fd_law ["script"] (G_law K) :=
  fnG_raw T.F_law sc_law (fun cdv A outer s H E gd hr => ((dss_cons (ds_for pof rfl (di_rng1 (by rfl) T.z_range (da_cons (de_callB (call_max2 rfl) cd_max2 (by rfl) T.z_max (by decide +kernel) (da_cons de_int (da_cons (de_callB (call_min2 rfl) cd_min2 (by rfl) T.z_min (by decide +kernel) (da_cons de_int (da_cons (de_callB (call_lenAll) cd_len (by rfl) T.z_len (by decide +kernel) (da_cons (de_var (pv 0)) da_nil)) da_nil))) da_nil))) da_nil)) (show PG _ _ (tgR K (.nm 1)) from (pg_name (i := 1) sc_law.nd rfl (by first | exact Or.inl rfl | exact Or.inr rfl))) (dss_cons (ds_set (i := 2) sc_law.nd rfl (by first | exact Or.inl rfl | exact Or.inr rfl) (de_call (ok_law_bag T) tkf (hr.mono (by first | decide | omega)) (by rfl) T.g__law_bag T.F_law_bag.kp T.B_law_bag (da_cons (de_call (ok_law_cell_at T) tkf (hr.mono (by first | decide | omega)) (by rfl) T.g__law_cell_at T.F_law_cell_at.kp T.B_law_cell_at (da_cons (de_var (pv 0)) (da_cons (de_var (pv 1)) da_nil))) (da_cons (de_var (pv 1)) da_nil))))
    (dss_cons (ds_set (i := 3) sc_law.nd rfl (by first | exact Or.inl rfl | exact Or.inr rfl) (de_ix (un1 hr) (de_lst false (da_cons de_int (da_cons de_int (da_cons de_int (da_cons de_int da_nil))))) (de_call (ok_law_take T) tkf (hr.mono (by first | decide | omega)) (by rfl) T.g__law_take T.F_law_take.kp T.B_law_take (da_cons (de_var (pv 2)) (da_cons de_int da_nil))) (fun _ _ => rfl)))
    (dss_cons (ds_set (i := 4) sc_law.nd rfl (by first | exact Or.inl rfl | exact Or.inr rfl) (de_call (ok_law_net T) tkf (hr.mono (by first | decide | omega)) (by rfl) T.g__law_net T.F_law_net.kp T.B_law_net (da_cons (de_var (pv 2)) (da_cons (de_ix (un1 hr) (de_lst false (da_cons de_int (da_cons de_int da_nil))) (de_call (ok_law_take T) tkf (hr.mono (by first | decide | omega)) (by rfl) T.g__law_take T.F_law_take.kp T.B_law_take (da_cons (de_var (pv 2)) (da_cons de_int da_nil))) (fun _ _ => rfl)) da_nil))))
    (dss_cons (ds_set (i := 5) sc_law.nd rfl (by first | exact Or.inl rfl | exact Or.inr rfl) (de_call (ok_law_parting T) tkf (hr.mono (by first | decide | omega)) (by rfl) T.g__law_parting T.F_law_parting.kp T.B_law_parting (da_cons (de_var (pv 2)) (da_cons (de_var (pv 4)) da_nil))))
    (dss_cons (ds_for pof rfl (di_rng1 (by rfl) T.z_range (da_cons (de_var (pv 3)) da_nil)) (show PG _ _ (tgR K (.nm 6)) from (pg_name (i := 6) sc_law.nd rfl (by first | exact Or.inl rfl | exact Or.inr rfl))) (dss_one (ds_if (PW.pt (dw_and (dt_cmp (op_neD (un64 hr)) opd_ne (de_var (pv 5)) (de_tup da_nil) (nomark _)) (dw_and1 (dt_val (de_call (ok_law_is_parting T) tkf (hr.mono (by first | decide | omega)) (by rfl) T.g__law_is_parting T.F_law_is_parting.kp T.B_law_is_parting (da_cons (de_var (pv 4)) (da_cons (de_var (pv 5)) da_nil))))))) (dss_one (ds_set (i := 5) sc_law.nd rfl (by first | exact Or.inl rfl | exact Or.inr rfl) (de_call (ok_law_bent T) tkf (hr.mono (by first | decide | omega)) (by rfl) T.g__law_bent T.F_law_bent.kp T.B_law_bent (da_cons (de_var (pv 2)) (da_cons (de_var (pv 4)) (da_cons (de_var (pv 5)) da_nil)))))) dss_nil)))
    (dss_one (ds_for pof rfl (di_seq (de_lst false (da_cons (de_var (pv 5)) (da_cons (de_call (ok_law_odd T) tkf (hr.mono (by first | decide | omega)) (by rfl) T.g__law_odd T.F_law_odd.kp T.B_law_odd (da_cons (de_var (pv 2)) (da_cons (de_var (pv 4)) da_nil))) da_nil)))) (show PG _ _ (tgR K (.nm 7)) from (pg_name (i := 7) sc_law.nd rfl (by first | exact Or.inl rfl | exact Or.inr rfl))) (dss_cons (ds_set (i := 8) sc_law.nd rfl (by first | exact Or.inl rfl | exact Or.inr rfl) (de_callB (cr_reprP gd (un65 hr)) cd_repr (by rfl) T.z_repr (by decide +kernel) (da_cons (de_lst false (da_cons (de_var (pv 4)) (da_cons (de_var (pv 7)) da_nil))) da_nil)))
    (dss_one (ds_for pof rfl (di_rng1 (by rfl) T.z_range (da_cons de_int da_nil)) (show PG _ _ (tgR K (.nm 6)) from (pg_name (i := 6) sc_law.nd rfl (by first | exact Or.inl rfl | exact Or.inr rfl))) (dss_cons (ds_set (i := 9) sc_law.nd rfl (by first | exact Or.inl rfl | exact Or.inr rfl) (de_call (ok_is_parting T) tkf (hr.mono (by first | decide | omega)) (by rfl) T.g_is_parting T.F_is_parting.kp T.B_is_parting (da_cons (de_var (pv 4)) (da_cons (de_var (pv 7)) da_nil))))
    (dss_cons (ds_if (PW.pt (dw_or (dt_not (dt_val (de_callB (call_isiAll) cd_isi (by rfl) T.z_isinstance (by decide +kernel) (da_cons (de_var (pv 9)) (da_cons (de_ty (T := "bool") (by rfl) T.z_bool boot_bool) da_nil))))) (dw_or1 (dt_cmp (op_neD (un64 hr)) opd_ne (de_callB (cr_reprP gd (un65 hr)) cd_repr (by rfl) T.z_repr (by decide +kernel) (da_cons (de_lst false (da_cons (de_var (pv 4)) (da_cons (de_var (pv 7)) da_nil))) da_nil)) (de_var (pv 8)) (nomark _))))) (dss_one (ds_ret de_bl)) dss_nil)
    (dss_one (ds_if (dt_cmp (op_neD (un64 hr)) opd_ne (de_var (pv 9)) (de_call (ok_law_is_parting T) tkf (hr.mono (by first | decide | omega)) (by rfl) T.g__law_is_parting T.F_law_is_parting.kp T.B_law_is_parting (da_cons (de_var (pv 4)) (da_cons (de_var (pv 7)) da_nil))) (nomark _)) (dss_one (ds_ret de_bl)) dss_nil)))))))))))))))
    (dss_one (ds_ret de_bl))) : PSs _ _ (tS K (WE E) (b_law K))))
end
end P03
namespace P03
open PySem PySem.Spec PyProof.Rows L2 Dt
section
def fn : List He.DefD := [dd_is_whole, dd_are_rising, dd_is_hand, dd_is_edge, dd_beside, dd_reached, dd_is_net, dd_need_net, dd_is_part, dd_is_parting, dd_law_cell_at, dd_law_bag, dd_law_take, dd_law_mixed, dd_law_net, dd_law_parting, dd_law_steps, dd_law_is_whole, dd_law_is_part, dd_law_is_parting, dd_law_odd, dd_law_part_bent, dd_law_bent, dd_law]
def fa : List He.Fa := [.free "int", .free "isinstance", .free "bool", .free "zip", .free "all", .glo "is_whole", .free "tuple", .free "len", .glo "is_hand", .free "range", .int "MOST_HANDS" 16, .glo "is_edge", .glo "are_rising", .glo "beside", .free "list", .glo "reached", .glo "is_net", .glo "need_net", .glo "is_part", .free "sorted", .free "max", .glo "_law_take", .glo "_law_mixed", .free "min", .free "set", .glo "_law_is_whole", .glo "_law_steps", .glo "_law_is_part", .glo "_law_odd", .free "enumerate", .glo "_law_part_bent", .glo "_law_cell_at", .glo "_law_bag", .glo "_law_net", .glo "_law_parting", .glo "_law_is_parting", .glo "_law_bent", .free "repr", .glo "is_parting", .glo "law"]
def ts : List TabQ := []
def us : List TupQ := []
theorem facts {K : PySem.W.Frag} {w : World} {h : Heap} {mg : Str → Option Value} (X : K.In h) (G : h.Ns mainGlobals mg) (cc : SaysY fa fn ts us w K) : Nonempty (Fx K w mg) := by
  have c := cc.d
  obtain ⟨fd0, F0⟩ := c.def_ 0 (d := dd_is_whole) rfl
  obtain ⟨fd1, F1⟩ := c.def_ 1 (d := dd_are_rising) rfl
  obtain ⟨fd2, F2⟩ := c.def_ 2 (d := dd_is_hand) rfl
  obtain ⟨fd3, F3⟩ := c.def_ 3 (d := dd_is_edge) rfl
  obtain ⟨fd4, F4⟩ := c.def_ 4 (d := dd_beside) rfl
  obtain ⟨fd5, F5⟩ := c.def_ 5 (d := dd_reached) rfl
  obtain ⟨fd6, F6⟩ := c.def_ 6 (d := dd_is_net) rfl
  obtain ⟨fd7, F7⟩ := c.def_ 7 (d := dd_need_net) rfl
  obtain ⟨fd8, F8⟩ := c.def_ 8 (d := dd_is_part) rfl
  obtain ⟨fd9, F9⟩ := c.def_ 9 (d := dd_is_parting) rfl
  obtain ⟨fd10, F10⟩ := c.def_ 10 (d := dd_law_cell_at) rfl
  obtain ⟨fd11, F11⟩ := c.def_ 11 (d := dd_law_bag) rfl
  obtain ⟨fd12, F12⟩ := c.def_ 12 (d := dd_law_take) rfl
  obtain ⟨fd13, F13⟩ := c.def_ 13 (d := dd_law_mixed) rfl
  obtain ⟨fd14, F14⟩ := c.def_ 14 (d := dd_law_net) rfl
  obtain ⟨fd15, F15⟩ := c.def_ 15 (d := dd_law_parting) rfl
  obtain ⟨fd16, F16⟩ := c.def_ 16 (d := dd_law_steps) rfl
  obtain ⟨fd17, F17⟩ := c.def_ 17 (d := dd_law_is_whole) rfl
  obtain ⟨fd18, F18⟩ := c.def_ 18 (d := dd_law_is_part) rfl
  obtain ⟨fd19, F19⟩ := c.def_ 19 (d := dd_law_is_parting) rfl
  obtain ⟨fd20, F20⟩ := c.def_ 20 (d := dd_law_odd) rfl
  obtain ⟨fd21, F21⟩ := c.def_ 21 (d := dd_law_part_bent) rfl
  obtain ⟨fd22, F22⟩ := c.def_ 22 (d := dd_law_bent) rfl
  obtain ⟨fd23, F23⟩ := c.def_ 23 (d := dd_law) rfl
  exact ⟨⟨He.free_ok X G (c.fact 0 (f := .free "int") rfl),
    He.free_ok X G (c.fact 1 (f := .free "isinstance") rfl),
    He.free_ok X G (c.fact 2 (f := .free "bool") rfl),
    He.free_ok X G (c.fact 3 (f := .free "zip") rfl),
    He.free_ok X G (c.fact 4 (f := .free "all") rfl),
    He.glo_ok X G (c.fact 5 (f := .glo "is_whole") rfl),
    He.free_ok X G (c.fact 6 (f := .free "tuple") rfl),
    He.free_ok X G (c.fact 7 (f := .free "len") rfl),
    He.glo_ok X G (c.fact 8 (f := .glo "is_hand") rfl),
    He.free_ok X G (c.fact 9 (f := .free "range") rfl),
    He.int_ok X G (c.fact 10 (f := .int "MOST_HANDS" 16) rfl),
    He.glo_ok X G (c.fact 11 (f := .glo "is_edge") rfl),
    He.glo_ok X G (c.fact 12 (f := .glo "are_rising") rfl),
    He.glo_ok X G (c.fact 13 (f := .glo "beside") rfl),
    He.free_ok X G (c.fact 14 (f := .free "list") rfl),
    He.glo_ok X G (c.fact 15 (f := .glo "reached") rfl),
    He.glo_ok X G (c.fact 16 (f := .glo "is_net") rfl),
    He.glo_ok X G (c.fact 17 (f := .glo "need_net") rfl),
    He.glo_ok X G (c.fact 18 (f := .glo "is_part") rfl),
    He.free_ok X G (c.fact 19 (f := .free "sorted") rfl),
    He.free_ok X G (c.fact 20 (f := .free "max") rfl),
    He.glo_ok X G (c.fact 21 (f := .glo "_law_take") rfl),
    He.glo_ok X G (c.fact 22 (f := .glo "_law_mixed") rfl),
    He.free_ok X G (c.fact 23 (f := .free "min") rfl),
    He.free_ok X G (c.fact 24 (f := .free "set") rfl),
    He.glo_ok X G (c.fact 25 (f := .glo "_law_is_whole") rfl),
    He.glo_ok X G (c.fact 26 (f := .glo "_law_steps") rfl),
    He.glo_ok X G (c.fact 27 (f := .glo "_law_is_part") rfl),
    He.glo_ok X G (c.fact 28 (f := .glo "_law_odd") rfl),
    He.free_ok X G (c.fact 29 (f := .free "enumerate") rfl),
    He.glo_ok X G (c.fact 30 (f := .glo "_law_part_bent") rfl),
    He.glo_ok X G (c.fact 31 (f := .glo "_law_cell_at") rfl),
    He.glo_ok X G (c.fact 32 (f := .glo "_law_bag") rfl),
    He.glo_ok X G (c.fact 33 (f := .glo "_law_net") rfl),
    He.glo_ok X G (c.fact 34 (f := .glo "_law_parting") rfl),
    He.glo_ok X G (c.fact 35 (f := .glo "_law_is_parting") rfl),
    He.glo_ok X G (c.fact 36 (f := .glo "_law_bent") rfl),
    He.free_ok X G (c.fact 37 (f := .free "repr") rfl),
    He.glo_ok X G (c.fact 38 (f := .glo "is_parting") rfl),
    He.glo_ok X G (c.fact 39 (f := .glo "law") rfl),
    fd0,
    F0,
    FunD.bindsN F0 fun _ _ _ _ _ _ us hl => match us, hl with | [_], _ => rfl,
    fd1,
    F1,
    FunD.bindsN F1 fun _ _ _ _ _ _ us hl => match us, hl with | [_], _ => rfl,
    fd2,
    F2,
    FunD.bindsN F2 fun _ _ _ _ _ _ us hl => match us, hl with | [_, _], _ => rfl,
    fd3,
    F3,
    FunD.bindsN F3 fun _ _ _ _ _ _ us hl => match us, hl with | [_, _], _ => rfl,
    fd4,
    F4,
    FunD.bindsN F4 fun _ _ _ _ _ _ us hl => match us, hl with | [_], _ => rfl,
    fd5,
    F5,
    FunD.bindsN F5 fun _ _ _ _ _ _ us hl => match us, hl with | [_, _, _], _ => rfl,
    fd6,
    F6,
    FunD.bindsN F6 fun _ _ _ _ _ _ us hl => match us, hl with | [_], _ => rfl,
    fd7,
    F7,
    FunD.bindsN F7 fun _ _ _ _ _ _ us hl => match us, hl with | [_], _ => rfl,
    fd8,
    F8,
    FunD.bindsN F8 fun _ _ _ _ _ _ us hl => match us, hl with | [_, _, _], _ => rfl,
    fd9,
    F9,
    FunD.bindsN F9 fun _ _ _ _ _ _ us hl => match us, hl with | [_, _], _ => rfl,
    fd10,
    F10,
    FunD.bindsN F10 fun _ _ _ _ _ _ us hl => match us, hl with | [_, _], _ => rfl,
    fd11,
    F11,
    FunD.bindsN F11 fun _ _ _ _ _ _ us hl => match us, hl with | [_, _], _ => rfl,
    fd12,
    F12,
    FunD.bindsN F12 fun _ _ _ _ _ _ us hl => match us, hl with | [_, _], _ => rfl,
    fd13,
    F13,
    FunD.bindsN F13 fun _ _ _ _ _ _ us hl => match us, hl with | [_, _], _ => rfl,
    fd14,
    F14,
    FunD.bindsN F14 fun _ _ _ _ _ _ us hl => match us, hl with | [_, _], _ => rfl,
    fd15,
    F15,
    FunD.bindsN F15 fun _ _ _ _ _ _ us hl => match us, hl with | [_, _], _ => rfl,
    fd16,
    F16,
    FunD.bindsN F16 fun _ _ _ _ _ _ us hl => match us, hl with | [_, _, _], _ => rfl,
    fd17,
    F17,
    FunD.bindsN F17 fun _ _ _ _ _ _ us hl => match us, hl with | [_], _ => rfl,
    fd18,
    F18,
    FunD.bindsN F18 fun _ _ _ _ _ _ us hl => match us, hl with | [_, _], _ => rfl,
    fd19,
    F19,
    FunD.bindsN F19 fun _ _ _ _ _ _ us hl => match us, hl with | [_, _], _ => rfl,
    fd20,
    F20,
    FunD.bindsN F20 fun _ _ _ _ _ _ us hl => match us, hl with | [_, _], _ => rfl,
    fd21,
    F21,
    FunD.bindsN F21 fun _ _ _ _ _ _ us hl => match us, hl with | [_, _, _], _ => rfl,
    fd22,
    F22,
    FunD.bindsN F22 fun _ _ _ _ _ _ us hl => match us, hl with | [_, _, _], _ => rfl,
    fd23,
    F23,
    FunD.bindsN F23 fun _ _ _ _ _ _ us hl => match us, hl with | [_], _ => rfl⟩⟩
end
end P03
namespace P03
open PySem PySem.Spec PyProof.Rows L2 Dt
def nms0 : List Str := ["BeatError", "NoNet", "MOST_HANDS", "is_whole", "are_rising", "is_hand", "is_edge", "beside", "reached", "is_net", "need_net", "is_part", "is_parting", "_law_cell_at", "_law_bag", "_law_take", "_law_mixed", "_law_net", "_law_parting", "_law_steps", "_law_is_whole", "_law_is_part", "_law_is_parting", "_law_odd", "_law_part_bent", "_law_bent"]
def nms : List Str := nms0
abbrev Rw : PySem.W.OpenRow := PySem.W.OpenLaw.row PySem.Challenge.rw_beatnet_k03_what_is_a_parting
abbrev hk : PySem.W.Hook := hookY 4 fa fn ts us
def ob (s : PySem.W.SharedT) : AlY := obsYG 4 fa fn ts us (HandSHeadRun.getT s)
theorem ob_eq (s : PySem.W.SharedT) : ob s = hk.obs s.abs := obsYG_eq (HandSHeadRun.getT_eq s)
theorem headRun (w : World) : HandSHeadRun.RunEq Rw (PySem.W.view Rw.prog [29]) hk ob 3000 nms w := by
  intro os
  kernel_rfl
def M : Nat := 3000
def li : Nat := 29
end P03
namespace A
open PySem PySem.Spec PyProof.Rows L2 Dt
abbrev N_law_cell_at : List Str := ["script", "k"]
noncomputable def b_law_cell_at (K : PySem.W.Frag) : SF :=
  (seq (ife (tv (o2 ltD (vr 1) (oA lenD (ac (vr 0) an)))) (ret (o2 ixD (vr 0) (vr 1))) skp)
    (ret (ct (.int 0))))
noncomputable def G_law_cell_at (K : PySem.W.Frag) : FD := raw N_law_cell_at (b_law_cell_at K)
abbrev N_law_bag : List Str := ["cell", "nth"]
noncomputable def b_law_bag (K : PySem.W.Frag) : SF :=
  (ret (oA (mkL true) (ac (oA max2D (ac (ct (.int 0)) (ac (o2 subD (vr 0) (o2 powD (ct (.int 10)) (ct (.int 18)))) an))) (ac (o2 (addD false) (o2 modD (vr 0) (ct (.int 170141183460469231731687303715884105727))) (o2 (mulD false) (ct (.int 86028121)) (vr 1))) (ac (ct (.int 0)) an)))))
noncomputable def G_law_bag (K : PySem.W.Frag) : FD := raw N_law_bag (b_law_bag K)
abbrev N_law_draw : List Str := ["bag", "many", "found", "mixed"]
noncomputable def b_law_draw (K : PySem.W.Frag) : SF :=
  (seq (ife (tv (o2 gtD (o2 ixD (vr 0) (ct (.int 0))) (ct (.int 1)))) (seq (asg (o2 modD (o2 ixD (vr 0) (ct (.int 0))) (vr 1)) (.nm 2))
    (seq (setI (vr 0) (ct (.int 0)) (o2 fdivD (o2 ixD (vr 0) (ct (.int 0))) (vr 1)))
    (ret (vr 2)))) skp)
    (seq (setI (vr 0) (ct (.int 2)) (o2 (addD false) (o2 ixD (vr 0) (ct (.int 2))) (ct (.int 1))))
    (seq (asg (o2 modD (o2 powD (o2 (addD false) (o2 ixD (vr 0) (ct (.int 1))) (o2 (mulD false) (ct (.int 49979687)) (o2 ixD (vr 0) (ct (.int 2))))) (ct (.int 3))) (ct (.int 170141183460469231731687303715884105727))) (.nm 3))
    (seq (asg (o2 modD (o2 powD (o2 (addD false) (vr 3) (o2 (mulD false) (ct (.int 86028157)) (o2 ixD (vr 0) (ct (.int 2))))) (ct (.int 3))) (ct (.int 162259276829213363391578010288127))) (.nm 3))
    (ret (o2 modD (o2 fdivD (vr 3) (ct (.int 4096))) (vr 1)))))))
noncomputable def G_law_draw (K : PySem.W.Frag) : FD := raw N_law_draw (b_law_draw K)
end A
namespace A
open PySem PySem.Spec PyProof.Rows L2 Dt
variable {K : PySem.W.Frag} {h : DH}
def b1 (p : Prop) [Decidable p] : Int := if p then 1 else 0
theorem ev_dec {p : Prop} [Decidable p] : intD [.bl (decide p)] h = .ok (.int (b1 p)) h := by
  unfold b1
  by_cases hp : p <;> simp [hp, ev_intB]
inductive Ex where
  | num (n : Int) | reg (x : Str) | hand | beat | ties | sum | many
  | most (a : Ex) | least (a : Ex) | frm (a b : Ex) | op (s : Nat) (a b : Ex) | mx (a b : Ex) | mn (a b : Ex) | ite (a b c : Ex)
def sg (s : Nat) : Str := ⟨#[[43, 45, 42, 60, 61, 38, 124].getD s 0]⟩
def Ex.d : Ex → D
  | .num n => .tup [.str "num", .int n]
  | .reg x => .tup [.str "reg", .str x]
  | .hand => .tup [.str "hand"]
  | .beat => .tup [.str "beat"]
  | .ties => .tup [.str "ties"]
  | .sum => .tup [.str "sum"]
  | .many => .tup [.str "many"]
  | .most a => .tup [.str "most", a.d]
  | .least a => .tup [.str "least", a.d]
  | .frm a b => .tup [.str "from", a.d, b.d]
  | .op s a b => .tup [.str "op", .str (sg s), a.d, b.d]
  | .mx a b => .tup [.str "max", a.d, b.d]
  | .mn a b => .tup [.str "min", a.d, b.d]
  | .ite a b c => .tup [.str "if", a.d, b.d, c.d]
def Ex.deep : Ex → Nat
  | .most a => 1 + a.deep
  | .least a => 1 + a.deep
  | .frm a b => 1 + max a.deep b.deep
  | .op _ a b => 1 + max a.deep b.deep
  | .mx a b => 1 + max a.deep b.deep
  | .mn a b => 1 + max a.deep b.deep
  | .ite a b c => 1 + max a.deep (max b.deep c.deep)
  | _ => 1
/-- well made: over some names; may: what is kept and what came may be asked for -/
def Ex.ok (ns : List Str) (may : Bool) : Ex → Prop
  | .reg x => may = true ∧ x ∈ ns
  | .sum => may = true
  | .many => may = true
  | .most a => may = true ∧ a.ok ns may
  | .least a => may = true ∧ a.ok ns may
  | .frm a b => may = true ∧ a.ok ns may ∧ b.ok ns may
  | .op s a b => s < 7 ∧ a.ok ns may ∧ b.ok ns may
  | .mx a b => a.ok ns may ∧ b.ok ns may
  | .mn a b => a.ok ns may ∧ b.ok ns may
  | .ite a b c => a.ok ns may ∧ b.ok ns may ∧ c.ok ns may
  | _ => True
structure Si where
  hand : Int
  beat : Int
  came : List (Option Int)
  regs : List (Str × Int)
def Si.lets (σ : Si) : List Int := σ.came.filterMap id
/-- the letters' sum, cut at each step -/
def tot (ns : List Int) : Int := ns.foldl (fun a n => bnd (a + n)) 0
def opv : Nat → Int → Int → Int
  | 0, a, b => bnd (a + b)
  | 1, a, b => bnd (a - b)
  | 2, a, b => bnd (a * b)
  | 3, a, b => b1 (a < b)
  | 4, a, b => b1 (a = b)
  | 5, a, b => b1 (a ≠ 0 ∧ b ≠ 0)
  | _, a, b => b1 (a ≠ 0 ∨ b ≠ 0)
def Si.frm (σ : Si) (p o : Int) : Int := if 0 ≤ p then ((σ.came.getD p.toNat none).getD o) else o
def Ex.val (σ : Si) : Ex → Int
  | .num n => bnd n
  | .reg x => (σ.regs.lookup x).getD 0
  | .hand => σ.hand
  | .beat => σ.beat
  | .ties => σ.came.length
  | .sum => tot σ.lets
  | .many => σ.lets.length
  | .most a => if σ.lets = [] then a.val σ else maxL σ.lets
  | .least a => if σ.lets = [] then a.val σ else minL σ.lets
  | .frm a b => σ.frm (a.val σ) (b.val σ)
  | .op s a b => opv s (a.val σ) (b.val σ)
  | .mx a b => max (a.val σ) (b.val σ)
  | .mn a b => min (a.val σ) (b.val σ)
  | .ite a b c => if a.val σ ≠ 0 then b.val σ else c.val σ
def optD : Option Int → D
  | none => .non
  | some n => .int n
def rk (p : Str × Int) : Key := .inr p.1
def rv (p : Str × Int) : D := .int p.2
abbrev regD (rs : List (Str × Int)) : D := .dk (rs.map rk) (rs.map rv)
section
variable {a b c w : D}
end
section
variable {s : Nat} {σ : Si} {e : Env'}
end
end A
namespace A
open PySem PySem.Spec PyProof.Rows L2 Dt
variable {K : PySem.W.Frag} {h : DH}
section
variable {s : Nat} {σ : Si} {e : Env'}
theorem Sm.b1 {p : Prop} [Decidable p] : Sm (b1 p) := by
  unfold A.b1 Sm
  split <;> omega
end
end A
namespace A
open PySem PySem.Spec PyProof.Rows L2 Dt
variable {K : PySem.W.Frag} {h : DH}
section
variable {s : Nat} {σ : Si} {e : Env'}
theorem raw_of {N : List Str} {b : SF} {ds : List D} {d : D} {h1 : DH} (e : b (startD N ds) h = .rt d h1) : raw N b ds h = .ok d h1 := by
  unfold raw
  rw [e]
theorem ix1 {a b : Int} {r : List Int} : ixD (.lst ((a :: b :: r).map D.int)) (.int 1) h = .ok (.int b) h := ev_ixL (i := 1) rfl
theorem ix2 {a b c : Int} {r : List Int} : ixD (.lst ((a :: b :: c :: r).map D.int)) (.int 2) h = .ok (.int c) h := ev_ixL (i := 2) rfl
end
end A
namespace A
open PySem PySem.Spec PyProof.Rows L2 Dt
variable {K : PySem.W.Frag} {h : DH}
structure Pg where
  first : List (Str × Ex)
  later : List (Str × Ex)
  send : List (Option Ex × Ex × Ex)
def Pg.names (p : Pg) : List Str := p.first.map Prod.fst
structure Pg.ok (p : Pg) : Prop where
  nd : p.names.Nodup
  nok : ∀ n ∈ p.names, PyData.strOk n = true
  same : p.later.map Prod.fst = p.names
  few : p.first.length ≤ 1000
  fews : p.send.length ≤ 1000
  efirst : ∀ q ∈ p.first, q.2.ok [] true ∧ q.2.deep ≤ 16
  elater : ∀ q ∈ p.later, q.2.ok p.names true ∧ q.2.deep ≤ 16
  eto : ∀ r ∈ p.send, ∀ e, r.1 = some e → e.ok p.names true ∧ e.deep ≤ 16
  econd : ∀ r ∈ p.send, r.2.1.ok p.names true ∧ r.2.1.deep ≤ 16
  enum : ∀ r ∈ p.send, r.2.2.ok p.names true ∧ r.2.2.deep ≤ 16
def Pg.rows (p : Pg) (beat : Nat) : List (Str × Ex) := if beat = 0 then p.first else p.later
def Pg.ahead (p : Pg) (beat : Nat) (regs : List Int) : List (Str × Int) := if beat = 0 then [] else p.names.zip regs
def Pg.si (p : Pg) (hand beat : Nat) (regs : List Int) (came : List (Option Int)) : Si := ⟨hand, beat, came, p.ahead beat regs⟩
def Pg.fresh (p : Pg) (hand beat : Nat) (regs : List Int) (came : List (Option Int)) : List Int := (p.rows beat).map fun q => q.2.val (p.si hand beat regs came)
def Pg.si2 (p : Pg) (hand beat : Nat) (regs : List Int) (came : List (Option Int)) : Si := ⟨hand, beat, came, p.names.zip (p.fresh hand beat regs came)⟩
/-- what one row of send makes of the words -/
def wrt (σ : Si) (ws : List (Option Int)) (r : Option Ex × Ex × Ex) : List (Option Int) :=
  if r.2.1.val σ ≠ 0 then ws.mapIdx fun at_ w => match r.1 with
    | none => some (r.2.2.val σ)
    | some e => if e.val σ = (at_ : Int) then some (r.2.2.val σ) else w
  else ws
def Pg.words (p : Pg) (hand beat : Nat) (regs : List Int) (came : List (Option Int)) : List (Option Int) :=
  p.send.foldl (wrt (p.si2 hand beat regs came)) (came.map fun _ => none)
section
variable {d : D} {ds : List D} {s : Nat} {o : O}
end
end A
namespace A
open PySem PySem.Spec PyProof.Rows L2 Dt
variable {K : PySem.W.Frag} {h : DH}
def Ex.p : Ex → PyData
  | .num n => .tuple [.str "num", .int n]
  | .reg x => .tuple [.str "reg", .str x]
  | .hand => .tuple [.str "hand"]
  | .beat => .tuple [.str "beat"]
  | .ties => .tuple [.str "ties"]
  | .sum => .tuple [.str "sum"]
  | .many => .tuple [.str "many"]
  | .most a => .tuple [.str "most", a.p]
  | .least a => .tuple [.str "least", a.p]
  | .frm a b => .tuple [.str "from", a.p, b.p]
  | .op s a b => .tuple [.str "op", .str (sg s), a.p, b.p]
  | .mx a b => .tuple [.str "max", a.p, b.p]
  | .mn a b => .tuple [.str "min", a.p, b.p]
  | .ite a b c => .tuple [.str "if", a.p, b.p, c.p]
theorem toP_i {k : Nat} {x : Int} : toP h (k + 1) (.int x) = some (.int x) := rfl
theorem toP_t2 {k : Nat} {a b : D} {x y : PyData} (ha : toP h k a = some x) (hb : toP h k b = some y) : toP h (k + 1) (.tup [a, b]) = some (.tuple [x, y]) := by
  show (mapO (toP h k) [a, b]).map PyData.tuple = _
  simp [mapO, ha, hb]
end A
namespace A
open PySem PySem.Spec PyProof.Rows L2 Dt
variable {K : PySem.W.Frag} {h : DH}
section
variable {s : Nat} {σ : Si} {p : Pg}
end
end A
namespace A
open PySem PySem.Spec PyProof.Rows L2 Dt
variable {K : PySem.W.Frag} {h : DH}
section
variable {p : Pg} {hand beat : Nat} {regs : List Int} {came : List (Option Int)}
theorem Pg.ok.rlen (P : p.ok) : (p.rows beat).length = p.names.length ∧ (p.rows beat).map Prod.fst = p.names := by
  have e : (p.rows beat).map Prod.fst = p.names := by
    unfold Pg.rows
    split
    · rfl
    · exact P.same
  refine ⟨by rw [← e, List.length_map], e⟩
end
end A
namespace A
open PySem PySem.Spec PyProof.Rows L2 Dt
variable {K : PySem.W.Frag} {h : DH}
theorem bag_ok {c : Int} {k : Nat} (hk : k ≤ 1000) : ∃ bs, G_law_bag K [.int c, .int k] h = .ok (.ref h.length) (h ++ [.lst bs]) ∧ Bag (h ++ [.lst bs]) h.length 0 := by
  have e1 : powD (.int 10) (.int 18) h = .ok (.int (10 ^ 18)) h := ev_pow ⟨smal_of (by decide) (by decide), by decide, by decide⟩
  have s1 : smal (k : Int) := smal_of (Int.natCast_nonneg k) (Int.lt_trans (b := 1001) (Int.ofNat_lt.mpr (Nat.lt_succ_of_le hk)) (by decide))
  have e2 : mulD false (.int 86028121) (.int k) h = .ok (.int (86028121 * k)) h := ev_mul ⟨smal_of (by decide) (by decide), s1⟩
  have e3 : modD (.int c) (.int 170141183460469231731687303715884105727) h = .ok (.int (c % 170141183460469231731687303715884105727)) h := ev_mod (by decide)
  have e4 : ∀ x y z : D, mkL true [x, y, z] h = .ok (.ref h.length) (h ++ [.lst [x, y, z]]) := fun x y z => ev_mkO (by simp)
  refine ⟨[.int (max 0 (c - 10 ^ 18)), .int (c % 170141183460469231731687303715884105727 + 86028121 * k), .int 0], ?_, _, _, _, List.getElem?_concat_length .., ?_, ?_, ?_, ?_, ?_⟩
  · unfold G_law_bag raw b_law_bag
    rw [show startD N_law_bag [.int c, .int k] = [some (.int c), some (.int k)] from rfl]
    simp only [ev_ret, ev_oA, ev_ac, ev_an, ev_ct, ev_o2, ev_vr0, ev_vrS, bd_ok, e1, e2, e3, ev_sub, ev_add, ev_max, e4, ev_bs_ok]
  · exact Int.le_max_left ..
  · have := Int.emod_nonneg c (b := 170141183460469231731687303715884105727) (by decide)
    omega
  · have q1 := Int.emod_lt_of_pos c (b := 170141183460469231731687303715884105727) (by decide)
    have q2 : (2 : Int) ^ 130 = 1361129467683753853853498429727072845824 := by decide
    rw [q2]
    omega
  · exact Int.le_refl _
  · exact Int.le_refl _
theorem cell_ok {ns : List Int} {k : Nat} : ∃ z, G_law_cell_at K [.scr ns, .int k] h = .ok (.int z) h := by
  unfold G_law_cell_at raw b_law_cell_at
  rw [show startD N_law_cell_at [.scr ns, .int k] = [some (.scr ns), some (.int k)] from rfl]
  by_cases hk : k < ns.length
  · have e1 : ixD (.scr ns) (.int k) h = .ok (.int ns[k]) h := ev_ixS (List.getElem?_eq_getElem hk)
    have e2 : ((k : Int) < (ns.length : Int)) = True := eq_true (by omega)
    exact ⟨ns[k], by simp [e1, hk]⟩
  · have e2 : ¬ ((k : Int) < (ns.length : Int)) := by omega
    exact ⟨0, by simp [hk]⟩
/-- what stays beside the bag -/
def Beside (n : Nat) (h h' : DH) : Prop := h'.length = h.length ∧ ∀ k, k ≠ n → h'[k]? = h[k]?
theorem Beside.trans {n : Nat} {a b c : DH} (x : Beside n a b) (y : Beside n b c) : Beside n a c := ⟨y.1.trans x.1, fun k hk => (y.2 k hk).trans (x.2 k hk)⟩
theorem Beside.refl {n : Nat} {a : DH} : Beside n a a := ⟨rfl, fun _ _ => rfl⟩
theorem draw {n c : Nat} {m : Int} (hb : Bag h n c) (hc : c < 1000000) (hm : 0 < m) (hm2 : m < 1000000000000000000000000000000) :
    ∃ (r : Nat) (h' : DH), G_law_draw K [.ref n, .int m] h = .ok (.int r) h' ∧ (r : Int) < m ∧ Bag h' n (c + 1) ∧ Beside n h h' := by
  obtain ⟨r, bs, e, l, b⟩ := draw_ok hb (by omega) hm hm2
  exact ⟨r, _, e, l, b, List.length_set, fun k hk => List.getElem?_set_ne (Ne.symm hk)⟩
/-- a call of the draw, in any def -/
theorem cdraw {n c : Nat} {m : Int} {env : Env'} {as : AF} {G : FD} (eG : G = G_law_draw K) (ea : as env h = .ok [.ref n, .int m] h) (hb : Bag h n c) (hc : c < 1000000) (hm : 0 < m) (hm2 : m < 1000000000000000000000000000000) :
    ∃ (r : Nat) (h' : DH), cll 2 G as env h = .ok (.int r) h' ∧ (r : Int) < m ∧ Bag h' n (c + 1) ∧ Beside n h h' := by
  obtain ⟨r, h', a, b, c, d⟩ := draw (K := K) hb hc hm hm2
  refine ⟨r, h', ?_, b, c, d⟩
  rw [ev_cll, ea]
  simp only [bd_ok, List.length_cons, List.length_nil, if_true, eG, a]
end A
namespace A
open PySem PySem.Spec PyProof.Rows L2 Dt
abbrev N_law_net : List Str := ["bag", "most", "many", "order", "k", "way", "pairs", "spot", "one", "pair"]
noncomputable def b_law_net (K : PySem.W.Frag) : SF :=
  (seq (asg (o2 (addD false) (ct (.int 1)) (cll 2 (G_law_draw K) (ac (vr 0) (ac (o2 ixD (oA (mkL false) (ac (ct (.int 4)) (ac (ct (.int 7)) (ac (ct (.int 16)) an)))) (cll 2 (G_law_draw K) (ac (vr 0) (ac (ct (.int 3)) an)))) an)))) (.nm 2))
    (seq (asg (oA min2D (ac (vr 2) (ac (vr 1) an))) (.nm 2))
    (seq (asg (oA (mkL true) an) (.nm 3))
    (seq (forE (rng1 (ac (vr 2) an)) (.nm 4) (drp (mth lstK insertD (vr 3) (ac (cll 2 (G_law_draw K) (ac (vr 0) (ac (o2 (addD false) (vr 4) (ct (.int 1))) an))) (ac (vr 4) an)))))
    (seq (asg (cll 2 (G_law_draw K) (ac (vr 0) (ac (ct (.int 6)) an))) (.nm 5))
    (seq (asg (oA (mkL true) an) (.nm 6))
    (seq (forE (rng2 (ac (ct (.int 1)) (ac (vr 2) an))) (.nm 4) (seq (asg (cll 2 (G_law_draw K) (ac (vr 0) (ac (vr 4) an))) (.nm 7))
    (seq (drp (mth lstK appendD (vr 6) (ac (oA mkT (ac (o2 ixD (vr 3) (o2 ixD (oA (mkL false) (ac (o2 subD (vr 4) (ct (.int 1))) (ac (o2 subD (vr 4) (ct (.int 1))) (ac (ct (.int 0)) (ac (vr 7) (ac (vr 7) (ac (vr 7) an))))))) (vr 5))) (ac (o2 ixD (vr 3) (vr 4)) an))) an)))
    (ife (tv (o2 eqD (vr 5) (ct (.int 3)))) (asg (o2 (addD true) (vr 6) (lcE (isq (esl false (vr 3) pn (ps (vr 4)))) (.nm 8) tyes (oA mkT (ac (vr 8) (ac (o2 ixD (vr 3) (vr 4)) an))) [8])) (.nm 6)) skp))))
    (seq (ife (tv (o2 eqD (vr 5) (ct (.int 1)))) (drp (mth lstK appendD (vr 6) (ac (oA mkT (ac (o2 ixD (vr 3) (ct (.int 0))) (ac (o2 ixD (vr 3) (o1 negD (ct (.int 1)))) an))) an))) skp)
    (seq (forE (rng1 (ac (o2 (mulD false) (cll 2 (G_law_draw K) (ac (vr 0) (ac (o2 (mulD false) (ct (.int 2)) (vr 2)) an))) (oA intD (ac (o2 eqD (vr 5) (ct (.int 5))) an))) an)) (.nm 4) (drp (mth lstK appendD (vr 6) (ac (oA mkT (ac (cll 2 (G_law_draw K) (ac (vr 0) (ac (vr 2) an))) (ac (cll 2 (G_law_draw K) (ac (vr 0) (ac (vr 2) an))) an))) an))))
    (ret (oA mkT (ac (vr 2) (ac (oA tupleD (ac (o1 (sortsetD false) (lcE (isq (vr 6)) (.nm 9) (tv (o2 neD (o2 ixD (vr 9) (ct (.int 0))) (o2 ixD (vr 9) (ct (.int 1))))) (oA mkT (ac (oA minqD (ac (vr 9) an)) (ac (oA maxqD (ac (vr 9) an)) an))) [9])) an)) an)))))))))))))
noncomputable def G_law_net (K : PySem.W.Frag) : FD := raw N_law_net (b_law_net K)
end A
namespace A
open PySem PySem.Spec PyProof.Rows L2 Dt
variable {K : PySem.W.Frag} {h : DH}
abbrev Ed := Nat × Nat
/-- reached over edges, either way -/
inductive Rc (E : List Ed) : Nat → Nat → Prop where
  | refl (a : Nat) : Rc E a a
  | fwd {a b c : Nat} : Rc E a b → (b, c) ∈ E → Rc E a c
  | bwd {a b c : Nat} : Rc E a b → (c, b) ∈ E → Rc E a c
theorem Rc.trans {E : List Ed} {a b c : Nat} (x : Rc E a b) (y : Rc E b c) : Rc E a c := by
  induction y with
  | refl => exact x
  | fwd _ e ih => exact .fwd ih e
  | bwd _ e ih => exact .bwd ih e
theorem Rc.symm {E : List Ed} {a b : Nat} (x : Rc E a b) : Rc E b a := by
  induction x with
  | refl => exact .refl _
  | fwd _ e ih => exact (Rc.bwd (.refl _) e).trans ih
  | bwd _ e ih => exact (Rc.fwd (.refl _) e).trans ih
theorem Rc.mono {E F : List Ed} (h : ∀ a b, (a, b) ∈ E → Rc F a b) {a b : Nat} (x : Rc E a b) : Rc F a b := by
  induction x with
  | refl => exact .refl _
  | fwd _ e ih => exact ih.trans (h _ _ e)
  | bwd _ e ih => exact ih.trans (h _ _ e).symm
def eLt (a b : Ed) : Prop := a.1 < b.1 ∨ (a.1 = b.1 ∧ a.2 < b.2)
structure Net (n : Nat) (E : List Ed) : Prop where
  pos : 1 ≤ n
  le : n ≤ 16
  lt : ∀ e ∈ E, e.1 < e.2 ∧ e.2 < n
  asc : E.Pairwise eLt
  con : ∀ i, i < n → Rc E 0 i
def eD (e : Ed) : D := .tup [.int e.1, .int e.2]
def netD (n : Nat) (E : List Ed) : D := .tup [.int n, .tup (E.map eD)]
/-- the heap grown, all that was there kept but the bag -/
def Grow (b : Nat) (h h' : DH) : Prop := h.length ≤ h'.length ∧ ∀ k, k < h.length → k ≠ b → h'[k]? = h[k]?
theorem Grow.refl {b : Nat} : Grow b h h := ⟨Nat.le_refl _, fun _ _ _ => rfl⟩
theorem Grow.trans {b : Nat} {x y z : DH} (p : Grow b x y) (q : Grow b y z) : Grow b x z := ⟨Nat.le_trans p.1 q.1, fun k hk hn => (q.2 k (Nat.lt_of_lt_of_le hk p.1) hn).trans (p.2 k hk hn)⟩
theorem Beside.grow {b : Nat} {h h' : DH} (x : Beside b h h') : Grow b h h' := ⟨Nat.le_of_eq x.1.symm, fun k _ hn => x.2 k hn⟩
theorem Grow.app {b : Nat} {g : DH} : Grow b h (h ++ g) := ⟨by simp, fun k hk _ => List.getElem?_append_left hk⟩
theorem Grow.get {b n : Nat} {h h' : DH} {o : O} (x : Grow b h h') (e : h[n]? = some o) (hn : n ≠ b) : h'[n]? = some o := (x.2 n (lt_of e) hn).trans e
/-- something of ours changed, that was not there at first -/
theorem Grow.set {b n : Nat} {h h' : DH} {o : O} (x : Grow b h h') (hn : h.length ≤ n) : Grow b h (h'.set n o) := ⟨by rw [List.length_set]; exact x.1, fun k hk hb => by rw [List.getElem?_set_ne (by omega)]; exact x.2 k hk hb⟩
theorem ev_ins {n p : Nat} {ds : List D} {x : D} (e : h[n]? = some (.lst ds)) (hl : ds.length ≤ 1000) (hp : p ≤ 1000) : insertD (.ref n) [.int (p : Int), x] h = .ok .non (h.set n (.lst (ds.take p ++ [x] ++ ds.drop p))) := by
  have c : ds.length ≤ 1000000 ∧ (0 : Int) ≤ (p : Int) ∧ (p : Int) < 1000000 := ⟨by omega, by omega, by omega⟩
  unfold insertD
  simp only [mlst, e]
  rw [if_pos c]
  rfl
theorem ev_addRL {n : Nat} {ds es : List D} (e : h[n]? = some (.lst ds)) (hl : ds.length + es.length ≤ 1000000) : addD true (.ref n) (.lst es) h = .ok (.ref h.length) (h ++ [.lst (ds ++ es)]) := by
  unfold addD
  simp only [xsq, e]
  exact ev_mkO (by simpa using hl)
theorem ev_last {n : Nat} {ds : List D} {x : D} (e : h[n]? = some (.lst ds)) (hx : ds.getLast? = some x) : ixD (.ref n) (.int (-1)) h = .ok x h := by
  have hne : ds ≠ [] := by intro z; subst z; cases hx
  have hl : 0 < ds.length := List.length_pos_iff.mpr hne
  have e1 : ixN ds.length (-1) = some (ds.length - 1) := by
    unfold ixN
    have h1 : ¬ ((0 : Int) ≤ -1) := by decide
    have h2 : (0 : Int) ≤ -1 + (ds.length : Nat) := by omega
    first
      | (rw [if_neg h1, if_pos h2]; congr 1; omega)
      | (simp only [h1, if_false]; split <;> first | (congr 1; omega) | omega)
  have e2 : atI ds (-1) = some x := by
    unfold atI
    rw [e1]
    rw [List.getLast?_eq_getElem?] at hx
    exact hx
  simp [ixD, lkD, dkq, dtq, sq, lsq, e, e2]
theorem cut_to (ds : List D) (k : Nat) : cutD ds none (some (k : Int)) = ds.take k := by
  unfold Dt.cutD
  rw [HT.sIx_nat, HT.sIx_none]
  simp only [List.drop_zero, Nat.sub_zero]
  rcases Nat.le_total k ds.length with c | c
  · rw [Nat.min_eq_left c]
  · rw [Nat.min_eq_right c, List.take_of_length_le (Nat.le_refl _), List.take_of_length_le c]
theorem perm_ins {l : List Nat} {k p : Nat} (hp : l.Perm (List.range k)) : (l.take p ++ [k] ++ l.drop p).Perm (List.range (k + 1)) := by
  rw [List.range_succ]
  have h1 : (l.take p ++ [k] ++ l.drop p).Perm (l.take p ++ l.drop p ++ [k]) := by
    rw [List.append_assoc, List.append_assoc]
    exact List.Perm.append_left _ List.perm_append_comm
  rw [List.take_append_drop] at h1
  exact h1.trans (hp.append_right _)
end A
namespace A
open PySem PySem.Spec PyProof.Rows L2 Dt
variable {K : PySem.W.Frag} {h : DH}
def cap : Nat → Nat
  | 0 => 0
  | j + 1 => cap j + j + 2
theorem cap_le {j : Nat} (hj : j ≤ 15) : cap j ≤ 135 := by
  have : ∀ j, j ≤ 15 → cap j ≤ 135 := by decide
  exact this j hj
/-- how many hands -/
theorem many_ok {b c : Nat} {x1 x2 x3 x4 x5 x6 x7 x8 x9 : Option D} (hb : Bag h b c) (hc : c < 900000) : ∃ (r : Nat) (h1 : DH), o2 (addD false) (ct (.int 1)) (cll 2 (G_law_draw K) (ac (vr 0) (ac (o2 ixD (oA (mkL false) (ac (ct (.int 4)) (ac (ct (.int 7)) (ac (ct (.int 16)) an)))) (cll 2 (G_law_draw K) (ac (vr 0) (ac (ct (.int 3)) an)))) an)))
    [some (.ref b), x1, x2, x3, x4, x5, x6, x7, x8, x9] h = .ok (.int (1 + r)) h1 ∧ r < 16 ∧ Bag h1 b (c + 2) ∧ Beside b h h1 := by
  obtain ⟨q, h1, e1, l1, b1, s1⟩ := cdraw (K := K) (m := 3) (env := [some (.ref b), x1, x2, x3, x4, x5, x6, x7, x8, x9]) (as := ac (vr 0) (ac (ct (.int 3)) an)) (G := G_law_draw K) rfl rfl hb (by omega) (by decide) (by decide)
  obtain ⟨m, em, m0, m1⟩ : ∃ m : Int, ([D.int 4, .int 7, .int 16])[q]? = some (.int m) ∧ 0 < m ∧ m ≤ 16 := by
    have : q = 0 ∨ q = 1 ∨ q = 2 := by omega
    rcases this with rfl | rfl | rfl
    · exact ⟨4, rfl, by decide, by decide⟩
    · exact ⟨7, rfl, by decide, by decide⟩
    · exact ⟨16, rfl, by decide, by decide⟩
  have mk : mkL false [.int 4, .int 7, .int 16] h = .ok (.lst [.int 4, .int 7, .int 16]) h := ev_mkF (by simp)
  have ix : ixD (.lst [.int 4, .int 7, .int 16]) (.int (q : Int)) h1 = .ok (.int m) h1 := ev_ixL em
  obtain ⟨r, h2, e2, l2, b2, s2⟩ := draw (K := K) (m := m) b1 (by omega) m0 (by omega)
  refine ⟨r, h2, ?_, by omega, b2, s1.trans s2⟩
  rw [ev_o2, ev_ct]
  simp only [bd_ok]
  rw [ev_cll]
  simp only [ev_ac, ev_vr0, ev_o2, ev_oA, ev_ct, ev_an, bd_ok, mk, e1, ix, List.length_cons, List.length_nil, if_true, e2, ev_add]
/-- the order -/
theorem order_ok {b c n O : Nat} {x1 x4 x5 x6 x7 x8 x9 : Option D} (hn : n ≤ 16) (hb : Bag h b c) (hc : c < 900000) (hO : h[O]? = some (.lst [])) (hbO : b ≠ O) : ∃ (ord : List Nat) (x : Option D) (h1 : DH),
    forE (rng1 (ac (vr 2) an)) (.nm 4) (drp (mth lstK insertD (vr 3) (ac (cll 2 (G_law_draw K) (ac (vr 0) (ac (o2 (addD false) (vr 4) (ct (.int 1))) an))) (ac (vr 4) an)))) [some (.ref b), x1, some (.int n), some (.ref O), x4, x5, x6, x7, x8, x9] h
      = .nx [some (.ref b), x1, some (.int n), some (.ref O), x, x5, x6, x7, x8, x9] h1 ∧ ord.Perm (List.range n) ∧ h1[O]? = some (.lst (ord.map iD)) ∧ Bag h1 b (c + n) ∧ h1.length = h.length ∧ ∀ k, k ≠ b → k ≠ O → h1[k]? = h[k]? := by
  have it : rng1 (ac (vr 2) an) [some (.ref b), x1, some (.int n), some (.ref O), x4, x5, x6, x7, x8, x9] h = .ok (rgI 0 n) h := ev_rng1 (by simp only [ev_ac, ev_vrS, ev_vr0, ev_an, bd_ok]) (by unfold smR; omega)
  have il : (rgI 0 (n : Int)).items.length = n := by unfold rgI; simp
  obtain ⟨e2, h2, lp, ord, x, rfl, pm, eO, bg, ln, kp⟩ := for_g (t := .nm 4) (body := drp (mth lstK insertD (vr 3) (ac (cll 2 (G_law_draw K) (ac (vr 0) (ac (o2 (addD false) (vr 4) (ct (.int 1))) an))) (ac (vr 4) an))))
    (fun k e g => ∃ (ord : List Nat) (x : Option D), e = [some (.ref b), x1, some (.int n), some (.ref O), x, x5, x6, x7, x8, x9] ∧ ord.Perm (List.range k) ∧ g[O]? = some (.lst (ord.map iD)) ∧ Bag g b (c + k) ∧ g.length = h.length ∧ ∀ k, k ≠ b → k ≠ O → g[k]? = h[k]?)
    it ⟨[], x4, rfl, .refl _, hO, hb, rfl, fun _ _ _ => rfl⟩ (fun _ _ _ _ => so_nil) (fun k e g d hI hd => by
      obtain ⟨ord, x, rfl, pm, eO, bg, ln, kp⟩ := hI
      have kn := (List.getElem?_eq_some_iff.mp hd).1
      obtain ⟨_, rfl⟩ := range_get (lo := 0) (n := ((n : Int) - 0).toNat) hd
      rw [Int.zero_add]
      rw [il] at kn
      obtain ⟨p, g1, f1, lp, bg1, sg⟩ := draw (K := K) (m := ((k : Int) + 1)) bg (by omega) (by omega) (by omega)
      have eO1 : g1[O]? = some (.lst (ord.map iD)) := by rw [sg.2 O (Ne.symm hbO)]; exact eO
      have ol := pm.length_eq
      rw [List.length_range] at ol
      have ins := ev_ins (p := p) (x := .int (k : Int)) eO1 (by simp; omega) (by omega)
      have eq : (ord.map iD).take p ++ [D.int (k : Int)] ++ (ord.map iD).drop p = (ord.take p ++ [k] ++ ord.drop p).map iD := by simp
      rw [eq] at ins
      have lk : ∀ x, lstK x (.ref O) = (lsq x (.ref O)).isSome := fun _ => rfl
      refine ⟨_, [some (.ref b), x1, some (.int n), some (.ref O), some (.int k), x5, x6, x7, x8, x9], g1.set O (.lst ((ord.take p ++ [k] ++ ord.drop p).map iD)), rfl, .inl ?_, _, some (.int k), rfl, perm_ins pm, get_set (lt_of eO1), bg1.set (Ne.symm hbO), by rw [List.length_set, sg.1, ln], fun j j1 j2 => by
        rw [List.getElem?_set_ne (Ne.symm j2), sg.2 j j1, kp j j1 j2]⟩
      simp -implicitDefEqProofs only [List.set_cons_succ, List.set_cons_zero, ev_drp, ev_mth, ev_vrS, ev_vr0, bd_ok, ev_lstK eO, if_true, ev_ac, ev_cll, ev_o2, ev_ct, ev_add, ev_an, List.length_cons, List.length_nil, f1, ins, ev_bs_ok])
  rw [il] at pm bg
  exact ⟨ord, x, h2, lp, pm, eO, bg, ln, kp⟩
end A
namespace A
open PySem PySem.Spec PyProof.Rows L2 Dt
variable {K : PySem.W.Frag} {h : DH}
theorem pick {k way spot : Nat} (hw : way < 6) (hs : spot < k) : ∃ pk : Nat, pk < k ∧ ([D.int ((k : Int) - 1), .int ((k : Int) - 1), .int 0, .int spot, .int spot, .int spot])[way]? = some (.int (pk : Int)) := by
  have e : (k : Int) - 1 = ((k - 1 : Nat) : Int) := by omega
  have : way = 0 ∨ way = 1 ∨ way = 2 ∨ way = 3 ∨ way = 4 ∨ way = 5 := by omega
  rcases this with rfl | rfl | rfl | rfl | rfl | rfl
  · exact ⟨k - 1, by omega, by rw [e]; rfl⟩
  · exact ⟨k - 1, by omega, by rw [e]; rfl⟩
  · exact ⟨0, by omega, rfl⟩
  · exact ⟨spot, hs, rfl⟩
  · exact ⟨spot, hs, rfl⟩
  · exact ⟨spot, hs, rfl⟩
noncomputable def pairBody (K : PySem.W.Frag) : SF := (seq (asg (cll 2 (G_law_draw K) (ac (vr 0) (ac (vr 4) an))) (.nm 7))
    (seq (drp (mth lstK appendD (vr 6) (ac (oA mkT (ac (o2 ixD (vr 3) (o2 ixD (oA (mkL false) (ac (o2 subD (vr 4) (ct (.int 1))) (ac (o2 subD (vr 4) (ct (.int 1))) (ac (ct (.int 0)) (ac (vr 7) (ac (vr 7) (ac (vr 7) an))))))) (vr 5))) (ac (o2 ixD (vr 3) (vr 4)) an))) an)))
    (ife (tv (o2 eqD (vr 5) (ct (.int 3)))) (asg (o2 (addD true) (vr 6) (lcE (isq (esl false (vr 3) pn (ps (vr 4)))) (.nm 8) tyes (oA mkT (ac (vr 8) (ac (o2 ixD (vr 3) (vr 4)) an))) [8])) (.nm 6)) skp)))
theorem pair_turn {b c n O P k way : Nat} {ord : List Nat} {PL : List Ed} {x1 x2 x7 x8 x9 : Option D} (hn : n ≤ 16) (hk : k < n) (h1 : 1 ≤ k) (hw : way < 6) (ol : ord.length = n) (hb : Bag h b c) (hc : c < 900000) (eO : h[O]? = some (.lst (ord.map iD))) (eP : h[P]? = some (.lst (PL.map eD)))
    (hbO : b ≠ O) (hbP : b ≠ P) (hOP : O ≠ P) (hl : PL.length ≤ 1000) :
    ∃ (P' : Nat) (PL' : List Ed) (y7 : Option D) (h' : DH), pairBody K [some (.ref b), x1, x2, some (.ref O), some (.int k), some (.int way), some (.ref P), x7, x8, x9] h = .nx [some (.ref b), x1, x2, some (.ref O), some (.int k), some (.int way), some (.ref P'), y7, x8, x9] h' ∧
      (∃ p, p < k ∧ (∃ a d, ord[p]? = some a ∧ ord[k]? = some d ∧ (a, d) ∈ PL')) ∧ (∀ e ∈ PL, e ∈ PL') ∧ (∀ e ∈ PL', e ∈ PL ∨ (e.1 ∈ ord ∧ e.2 ∈ ord)) ∧ PL'.length ≤ PL.length + k + 1 ∧
      h'[P']? = some (.lst (PL'.map eD)) ∧ h'[O]? = some (.lst (ord.map iD)) ∧ Bag h' b (c + 1) ∧ b ≠ P' ∧ O ≠ P' ∧ h.length ≤ h'.length ∧ (P' = P ∨ h.length ≤ P') ∧ ∀ j, j < h.length → j ≠ b → j ≠ P → h'[j]? = h[j]? := by
  obtain ⟨spot, g1, f1, ls, b1, s1⟩ := draw (K := K) (m := (k : Int)) hb (by omega) (by omega) (by omega)
  obtain ⟨pk, lpk, epk⟩ := pick hw (show spot < k by omega)
  have eO1 : g1[O]? = some (.lst (ord.map iD)) := by rw [s1.2 O (Ne.symm hbO)]; exact eO
  have eP1 : g1[P]? = some (.lst (PL.map eD)) := by rw [s1.2 P (Ne.symm hbP)]; exact eP
  have op : ord[pk]? = some ord[pk] := List.getElem?_eq_getElem (by omega)
  have ok : ord[k]? = some ord[k] := List.getElem?_eq_getElem (by omega)
  generalize ord[pk] = a at op
  generalize ord[k] = d at ok
  have ixp : ixD (.ref O) (.int (pk : Int)) g1 = .ok (iD a) g1 := ev_ixR eO1 (by rw [List.getElem?_map, op]; rfl)
  have ixk : ixD (.ref O) (.int (k : Int)) g1 = .ok (iD d) g1 := ev_ixR eO1 (by rw [List.getElem?_map, ok]; rfl)
  have mk : mkL false [.int ((k : Int) - 1), .int ((k : Int) - 1), .int 0, .int spot, .int spot, .int spot] g1 = .ok (.lst [.int ((k : Int) - 1), .int ((k : Int) - 1), .int 0, .int spot, .int spot, .int spot]) g1 := ev_mkF (by simp)
  have ixw : ixD (.lst [.int ((k : Int) - 1), .int ((k : Int) - 1), .int 0, .int spot, .int spot, .int spot]) (.int (way : Int)) g1 = .ok (.int (pk : Int)) g1 := ev_ixL epk
  have mt : mkT [iD a, iD d] g1 = .ok (eD (a, d)) g1 := ev_mkT (by simp)
  have ap : appendD (.ref P) [eD (a, d)] g1 = .ok .non (g1.set P (.lst ((PL ++ [(a, d)]).map eD))) := by
    rw [ev_app eP1 (by rw [List.length_map]; omega)]
    simp
  obtain ⟨g2, eg2⟩ : ∃ g2, g2 = g1.set P (.lst ((PL ++ [(a, d)]).map eD)) := ⟨_, rfl⟩
  rw [← eg2] at ap
  have eP2 : g2[P]? = some (.lst ((PL ++ [(a, d)]).map eD)) := by rw [eg2]; exact get_set (lt_of eP1)
  have eO2 : g2[O]? = some (.lst (ord.map iD)) := by rw [eg2]; exact get_ne eO1 (Ne.symm hOP)
  have b2 : Bag g2 b (c + 1) := by rw [eg2]; exact b1.set (Ne.symm hbP)
  have l2 : g2.length = h.length := by rw [eg2, List.length_set, s1.1]
  have kp : ∀ j, j < h.length → j ≠ b → j ≠ P → g2[j]? = h[j]? := fun j _ j1 j2 => by rw [eg2, List.getElem?_set_ne (Ne.symm j2), s1.2 j j1]
  have ma : a ∈ ord := List.mem_of_getElem? op
  have md : d ∈ ord := List.mem_of_getElem? ok
  have q3 : ∀ g, eqD (.int (way : Int)) (.int 3) g = .ok (.bl (decide (way = 3))) g := fun g => by
    rw [ev_eqI]
    congr 2
    exact decide_eq_decide.mpr (by omega)
  by_cases w3 : way = 3
  · have d3 : decide (way = 3) = true := decide_eq_true w3
    have sl : slD false (.ref O) none (some (k : Int)) g2 = .ok (.lst ((ord.take k).map iD)) g2 := by
      unfold slD
      simp only [lsq, eO2]
      rw [cut_to, ← List.map_take]
      exact ev_mkF (by simp; omega)
    have ixk2 : ixD (.ref O) (.int (k : Int)) g2 = .ok (iD d) g2 := ev_ixR eO2 (by rw [List.getElem?_map, ok]; rfl)
    have lc : lcE (isq (esl false (vr 3) pn (ps (vr 4)))) (.nm 8) tyes (oA mkT (ac (vr 8) (ac (o2 ixD (vr 3) (vr 4)) an))) [8] [some (.ref b), x1, x2, some (.ref O), some (.int k), some (.int way), some (.ref P), some (.int spot), x8, x9] g2 = .ok (.lst (((ord.take k).map fun z => (z, d)).map eD)) g2 := by
      rw [List.map_map]
      refine ev_lcg (t := .nm 8) iD _ (ord.take k) (it := ⟨[], (ord.take k).map iD⟩) (by simp only [ev_isq, ev_esl, ev_vrS, ev_vr0, ev_pn, ev_ps, bd_ok, sl, ev_sqL]) so_nil rfl (fun z _ => ⟨_, rfl, ?_⟩) (by simp; omega)
      simp only [wipD, List.set_cons_succ, List.set_cons_zero, ev_oA, ev_ac, ev_vrS, ev_vr0, ev_o2, ixk2, ev_an, bd_ok]
      exact ev_mkT (by simp)
    have ad := ev_addRL (h := g2) (n := P) (es := (((ord.take k).map fun z => (z, d)).map eD)) eP2 (by simp; omega)
    rw [← List.map_append] at ad
    refine ⟨g2.length, PL ++ [(a, d)] ++ (ord.take k).map (fun z => (z, d)), some (.int spot), g2 ++ [.lst ((PL ++ [(a, d)] ++ (ord.take k).map (fun z => (z, d))).map eD)], ?_, ⟨pk, lpk, a, d, op, ok, by simp⟩, fun e he => by simp [he], fun e he => ?_, by simp; omega, get_new, get_app eO2 _, b2.app,
      by rw [l2]; exact Nat.ne_of_lt hb.lt, by rw [l2]; exact Nat.ne_of_lt (lt_of eO), by simp [l2], .inr (by omega), fun j hj j1 j2 => by rw [List.getElem?_append_left (by omega)]; exact kp j hj j1 j2⟩
    · unfold pairBody
      simp -implicitDefEqProofs only [ev_seq, ev_asg, ev_cll, ev_ac, ev_vrS, ev_vr0, ev_an, bd_ok, List.length_cons, List.length_nil, if_true, f1, ev_bs_ok, List.set_cons_succ, List.set_cons_zero, ev_sq_nx, ev_drp, ev_mth, ev_lstK eP1, ev_oA, ev_o2, ev_ct, ev_sub, mk, ixw, ixp, ixk, mt, ap, ev_ife, ev_tv, q3, d3, ev_tst, lc, ad]
    · rcases List.mem_append.mp he with he | he
      · rcases List.mem_append.mp he with he | he
        · exact .inl he
        · rw [List.mem_singleton.mp he]; exact .inr ⟨ma, md⟩
      · obtain ⟨z, hz, rfl⟩ := List.mem_map.mp he
        exact .inr ⟨List.mem_of_mem_take hz, md⟩
  · have d3 : decide (way = 3) = false := decide_eq_false w3
    refine ⟨P, PL ++ [(a, d)], some (.int spot), g2, ?_, ⟨pk, lpk, a, d, op, ok, by simp⟩, fun e he => by simp [he], fun e he => ?_, by simp, eP2, eO2, b2, hbP, hOP, by omega, .inl rfl, kp⟩
    · unfold pairBody
      simp -implicitDefEqProofs only [ev_seq, ev_asg, ev_cll, ev_ac, ev_vrS, ev_vr0, ev_an, bd_ok, List.length_cons, List.length_nil, if_true, f1, ev_bs_ok, List.set_cons_succ, List.set_cons_zero, ev_sq_nx, ev_drp, ev_mth, ev_lstK eP1, ev_oA, ev_o2, ev_ct, ev_sub, mk, ixw, ixp, ixk, mt, ap, ev_ife, ev_tv, q3, d3, ev_tst, Bool.false_eq_true, if_false, ev_skp]
    · rcases List.mem_append.mp he with he | he
      · exact .inl he
      · rw [List.mem_singleton.mp he]; exact .inr ⟨ma, md⟩
end A
namespace A
open PySem PySem.Spec PyProof.Rows L2 Dt
variable {K : PySem.W.Frag} {h : DH}
/-- the pairs drawn lead from the first hand to all -/
def Tree (ord : List Nat) (PL : List Ed) (j : Nat) : Prop := ∀ q, 1 ≤ q → q ≤ j → ∃ p, p < q ∧ ∃ a d, ord[p]? = some a ∧ ord[q]? = some d ∧ (a, d) ∈ PL
theorem Tree.mono {ord : List Nat} {PL PL' : List Ed} {j : Nat} (t : Tree ord PL j) (h : ∀ e ∈ PL, e ∈ PL') : Tree ord PL' j := fun q a b => by
  obtain ⟨p, lp, x, y, e1, e2, m⟩ := t q a b
  exact ⟨p, lp, x, y, e1, e2, h _ m⟩
theorem pairs_ok {b c n O P way L0 : Nat} {h0 : DH} {ord : List Nat} {x1 x4 x7 x8 x9 : Option D} (hn : n ≤ 16) (n1 : 1 ≤ n) (hw : way < 6) (ol : ord.length = n) (hb : Bag h b c) (hc : c < 800000) (eO : h[O]? = some (.lst (ord.map iD))) (eP : h[P]? = some (.lst []))
    (hbO : b ≠ O) (hbP : b ≠ P) (hOP : O ≠ P) (hP : L0 ≤ P) (hL : L0 ≤ h.length) (kp0 : ∀ j, j < L0 → j ≠ b → h[j]? = h0[j]?) :
    ∃ (P' : Nat) (PL : List Ed) (y4 y7 : Option D) (h' : DH), forE (rng2 (ac (ct (.int 1)) (ac (vr 2) an))) (.nm 4) (pairBody K) [some (.ref b), x1, some (.int n), some (.ref O), x4, some (.int way), some (.ref P), x7, x8, x9] h
        = .nx [some (.ref b), x1, some (.int n), some (.ref O), y4, some (.int way), some (.ref P'), y7, x8, x9] h' ∧
      Tree ord PL (n - 1) ∧ (∀ e ∈ PL, e.1 ∈ ord ∧ e.2 ∈ ord) ∧ PL.length ≤ cap (n - 1) ∧ h'[P']? = some (.lst (PL.map eD)) ∧ h'[O]? = some (.lst (ord.map iD)) ∧ Bag h' b (c + (n - 1)) ∧ b ≠ P' ∧ O ≠ P' ∧ L0 ≤ P' ∧ L0 ≤ h'.length ∧ ∀ j, j < L0 → j ≠ b → h'[j]? = h0[j]? := by
  have it : rng2 (ac (ct (.int 1)) (ac (vr 2) an)) [some (.ref b), x1, some (.int n), some (.ref O), x4, some (.int way), some (.ref P), x7, x8, x9] h = .ok (rgI 1 n) h := by
    unfold rng2
    simp only [ev_ac, ev_ct, ev_vrS, ev_vr0, ev_an, bd_ok]
    exact if_pos ⟨by unfold smR; omega, by unfold smR; omega⟩
  have il : (rgI 1 (n : Int)).items.length = n - 1 := by unfold rgI; simp
  obtain ⟨e2, h2, lp, P', PL, y4, y7, rfl, tr, mem, len, eP', eO', bg, q1, q2, q3, q4, kp⟩ := for_g (t := .nm 4) (body := pairBody K)
    (fun j e g => ∃ (P : Nat) (PL : List Ed) (y4 y7 : Option D), e = [some (.ref b), x1, some (.int n), some (.ref O), y4, some (.int way), some (.ref P), y7, x8, x9] ∧ Tree ord PL j ∧ (∀ e ∈ PL, e.1 ∈ ord ∧ e.2 ∈ ord) ∧ PL.length ≤ cap j ∧
      g[P]? = some (.lst (PL.map eD)) ∧ g[O]? = some (.lst (ord.map iD)) ∧ Bag g b (c + j) ∧ b ≠ P ∧ O ≠ P ∧ L0 ≤ P ∧ L0 ≤ g.length ∧ ∀ j, j < L0 → j ≠ b → g[j]? = h0[j]?)
    it ⟨P, [], x4, x7, rfl, fun q a b => by omega, by simp, by simp, eP, eO, hb, hbP, hOP, hP, hL, kp0⟩ (fun _ _ _ _ => so_nil) (fun j e g d hI hd => by
      obtain ⟨P, PL, y4, y7, rfl, tr, mem, len, eP, eO, bg, hbP, hOP, hP, hL, kp⟩ := hI
      have jn := (List.getElem?_eq_some_iff.mp hd).1
      rw [il] at jn
      obtain ⟨_, rfl⟩ := range_get (lo := 1) (n := ((n : Int) - 1).toNat) hd
      have ek : (1 : Int) + (j : Int) = ((j + 1 : Nat) : Int) := by omega
      rw [ek]
      have cl := cap_le (j := j) (by omega)
      obtain ⟨P', PL', z7, g', f, ⟨p, lp, a, d, o1, o2, m⟩, sub, sup, ln, eP', eO', bg', r1, r2, r3, r4, r5⟩ := pair_turn (K := K) (x1 := x1) (x2 := some (.int n)) (x7 := y7) (x8 := x8) (x9 := x9) (k := j + 1) hn (by omega) (by omega) hw ol bg (by omega) eO eP hbO hbP hOP (by omega)
      refine ⟨_, _, g', rfl, .inl f, P', PL', some (.int ((j + 1 : Nat) : Int)), z7, rfl, fun q a1 a2 => ?_, fun e he => ?_, by show _ ≤ cap j + j + 2; omega, eP', eO', bg', r1, r2, by omega, by omega, fun i hi hib => ?_⟩
      · by_cases hq : q ≤ j
        · exact tr.mono sub q a1 hq
        · obtain rfl : q = j + 1 := by omega
          exact ⟨p, lp, a, d, o1, o2, m⟩
      · rcases sup e he with he | he
        · exact mem e he
        · exact he
      · rw [r5 i (by omega) hib (by omega)]
        exact kp i hi hib)
  rw [il] at tr len bg
  exact ⟨P', PL, y4, y7, h2, lp, tr, mem, len, eP', eO', bg, q1, q2, q3, q4, kp⟩
/-- a ring is closed -/
theorem ring_ok {b n O P way L0 : Nat} {h0 : DH} {ord : List Nat} {PL : List Ed} {x1 x2 x4 x7 x8 x9 : Option D} {c : Nat} (n1 : 1 ≤ n) (ol : ord.length = n) (hb : Bag h b c) (eO : h[O]? = some (.lst (ord.map iD))) (eP : h[P]? = some (.lst (PL.map eD))) (hl : PL.length ≤ 1000)
    (hbP : b ≠ P) (hOP : O ≠ P) (hP : L0 ≤ P) (kp0 : ∀ j, j < L0 → j ≠ b → h[j]? = h0[j]?) (mem : ∀ e ∈ PL, e.1 ∈ ord ∧ e.2 ∈ ord) :
    ∃ (PL' : List Ed) (h' : DH), ife (tv (o2 eqD (vr 5) (ct (.int 1)))) (drp (mth lstK appendD (vr 6) (ac (oA mkT (ac (o2 ixD (vr 3) (ct (.int 0))) (ac (o2 ixD (vr 3) (o1 negD (ct (.int 1)))) an))) an))) skp
        [some (.ref b), x1, x2, some (.ref O), x4, some (.int way), some (.ref P), x7, x8, x9] h = .nx [some (.ref b), x1, x2, some (.ref O), x4, some (.int way), some (.ref P), x7, x8, x9] h' ∧
      (∀ e ∈ PL, e ∈ PL') ∧ (∀ e ∈ PL', e.1 ∈ ord ∧ e.2 ∈ ord) ∧ PL'.length ≤ PL.length + 1 ∧ h'[P]? = some (.lst (PL'.map eD)) ∧ Bag h' b c ∧ h'.length = h.length ∧ ∀ j, j < L0 → j ≠ b → h'[j]? = h0[j]? := by
  have q1 : ∀ g, eqD (.int (way : Int)) (.int 1) g = .ok (.bl (decide (way = 1))) g := fun g => by
    rw [ev_eqI]
    congr 2
    exact decide_eq_decide.mpr (by omega)
  by_cases w : way = 1
  · have d1 : decide (way = 1) = true := decide_eq_true w
    obtain ⟨a, r, eo⟩ : ∃ a r, ord = a :: r := List.exists_cons_of_length_pos (by omega)
    obtain ⟨z, ez⟩ : ∃ z, ord.getLast? = some z := by rw [eo]; exact ⟨_, List.getLast?_eq_some_getLast (by simp)⟩
    have i0 : ixD (.ref O) (.int 0) h = .ok (iD a) h := ev_ixR (i := 0) eO (by rw [eo]; rfl)
    have i1 : ixD (.ref O) (.int (-1)) h = .ok (iD z) h := ev_last eO (by rw [List.getLast?_map, ez]; rfl)
    have mt : mkT [iD a, iD z] h = .ok (eD (a, z)) h := ev_mkT (by simp)
    have ap : appendD (.ref P) [eD (a, z)] h = .ok .non (h.set P (.lst ((PL ++ [(a, z)]).map eD))) := by
      rw [ev_app eP (by rw [List.length_map]; omega)]
      simp
    refine ⟨PL ++ [(a, z)], h.set P (.lst ((PL ++ [(a, z)]).map eD)), ?_, fun e he => by simp [he], fun e he => ?_, by simp, get_set (lt_of eP), hb.set (Ne.symm hbP), List.length_set, fun j hj hjb => by rw [List.getElem?_set_ne (by omega)]; exact kp0 j hj hjb⟩
    · simp -implicitDefEqProofs only [ev_ife, ev_tv, ev_o2, ev_vrS, ev_vr0, ev_ct, bd_ok, q1, d1, ev_tst, ev_bs_ok, if_true, ev_drp, ev_mth, ev_lstK eP, ev_ac, ev_oA, i0, ev_o1, ev_neg, i1, ev_an, mt, ap]
    · rcases List.mem_append.mp he with he | he
      · exact mem e he
      · rw [List.mem_singleton.mp he]
        exact ⟨by rw [eo]; exact List.mem_cons_self, List.mem_of_getLast? ez⟩
  · have d1 : decide (way = 1) = false := decide_eq_false w
    refine ⟨PL, h, ?_, fun e he => he, mem, by omega, eP, hb, rfl, kp0⟩
    simp -implicitDefEqProofs only [ev_ife, ev_tv, ev_o2, ev_vrS, ev_vr0, ev_ct, bd_ok, q1, d1, ev_tst, ev_bs_ok, Bool.false_eq_true, if_false, ev_skp]
/-- edges more -/
theorem more_ok {b c n O P way L0 : Nat} {h0 : DH} {ord : List Nat} {PL : List Ed} {x1 x4 x7 x8 x9 : Option D} (hn : n ≤ 16) (n1 : 1 ≤ n) (pm : ord.Perm (List.range n)) (hb : Bag h b c) (hc : c < 800000) (eP : h[P]? = some (.lst (PL.map eD))) (hl : PL.length ≤ 900)
    (hbP : b ≠ P) (hP : L0 ≤ P) (hL : L0 ≤ h.length) (kp0 : ∀ j, j < L0 → j ≠ b → h[j]? = h0[j]?) (mem : ∀ e ∈ PL, e.1 ∈ ord ∧ e.2 ∈ ord) :
    ∃ (PL' : List Ed) (y4 : Option D) (h' : DH), forE (rng1 (ac (o2 (mulD false) (cll 2 (G_law_draw K) (ac (vr 0) (ac (o2 (mulD false) (ct (.int 2)) (vr 2)) an))) (oA intD (ac (o2 eqD (vr 5) (ct (.int 5))) an))) an)) (.nm 4)
        (drp (mth lstK appendD (vr 6) (ac (oA mkT (ac (cll 2 (G_law_draw K) (ac (vr 0) (ac (vr 2) an))) (ac (cll 2 (G_law_draw K) (ac (vr 0) (ac (vr 2) an))) an))) an)))
        [some (.ref b), x1, some (.int n), some (.ref O), x4, some (.int way), some (.ref P), x7, x8, x9] h = .nx [some (.ref b), x1, some (.int n), some (.ref O), y4, some (.int way), some (.ref P), x7, x8, x9] h' ∧
      (∀ e ∈ PL, e ∈ PL') ∧ (∀ e ∈ PL', e.1 ∈ ord ∧ e.2 ∈ ord) ∧ PL'.length ≤ PL.length + 31 ∧ h'[P]? = some (.lst (PL'.map eD)) ∧ Bag h' b (c + 63) ∧ L0 ≤ h'.length ∧ ∀ j, j < L0 → j ≠ b → h'[j]? = h0[j]? := by
  have om : ∀ z, z < n → z ∈ ord := fun z hz => pm.mem_iff.mpr (List.mem_range.mpr hz)
  have m2 : mulD false (.int 2) (.int (n : Int)) h = .ok (.int (2 * n)) h := ev_mul ⟨Sm.smal (by unfold Sm; omega), Sm.smal (by unfold Sm; omega)⟩
  obtain ⟨q, g1, f1, lq, b1, s1⟩ := draw (K := K) (m := (2 * n : Int)) hb (by omega) (by omega) (by omega)
  have ed : ∀ g, oA intD (ac (o2 eqD (vr 5) (ct (.int 5))) an) [some (.ref b), x1, some (.int n), some (.ref O), x4, some (.int way), some (.ref P), x7, x8, x9] g = .ok (.int (A.b1 ((way : Int) = 5))) g := fun g => by
    simp only [ev_oA, ev_ac, ev_o2, ev_vrS, ev_vr0, ev_ct, bd_ok, ev_eqI, ev_an, ev_dec]
  have bb : 0 ≤ A.b1 ((way : Int) = 5) ∧ A.b1 ((way : Int) = 5) ≤ 1 := by unfold A.b1; split <;> omega
  obtain ⟨w, ew⟩ : ∃ w, w = A.b1 ((way : Int) = 5) := ⟨_, rfl⟩
  rw [← ew] at bb
  have m3 : mulD false (.int (q : Int)) (.int w) g1 = .ok (.int ((q : Int) * w)) g1 := ev_mul ⟨Sm.smal (by unfold Sm; omega), Sm.smal (by unfold Sm; omega)⟩
  obtain ⟨r, er, hr⟩ : ∃ r : Nat, (q : Int) * w = r ∧ r ≤ 31 := by
    have : w = 0 ∨ w = 1 := by omega
    rcases this with hw | hw
    · exact ⟨0, by rw [hw]; omega, by omega⟩
    · exact ⟨q, by rw [hw]; omega, by omega⟩
  rw [er] at m3
  have it : rng1 (ac (o2 (mulD false) (cll 2 (G_law_draw K) (ac (vr 0) (ac (o2 (mulD false) (ct (.int 2)) (vr 2)) an))) (oA intD (ac (o2 eqD (vr 5) (ct (.int 5))) an))) an) [some (.ref b), x1, some (.int n), some (.ref O), x4, some (.int way), some (.ref P), x7, x8, x9] h = .ok (rgI 0 r) g1 := by
    refine ev_rng1 ?_ (by unfold smR; omega)
    rw [ev_ac, ev_o2, ev_cll]
    simp only [ev_ac, ev_vr0, ev_vrS, ev_o2, ev_ct, bd_ok, m2, ev_an, List.length_cons, List.length_nil, if_true, f1, ed, ← ew, m3]
  have il : (rgI 0 (r : Int)).items.length = r := by unfold rgI; simp
  have eP1 : g1[P]? = some (.lst (PL.map eD)) := by rw [s1.2 P (Ne.symm hbP)]; exact eP
  obtain ⟨e2, h2, lp, PL', y4, rfl, sub, mem', len, eP', bg, hL', kp⟩ := for_g (t := .nm 4) (body := drp (mth lstK appendD (vr 6) (ac (oA mkT (ac (cll 2 (G_law_draw K) (ac (vr 0) (ac (vr 2) an))) (ac (cll 2 (G_law_draw K) (ac (vr 0) (ac (vr 2) an))) an))) an)))
    (fun j e g => ∃ (PL' : List Ed) (y4 : Option D), e = [some (.ref b), x1, some (.int n), some (.ref O), y4, some (.int way), some (.ref P), x7, x8, x9] ∧ (∀ e ∈ PL, e ∈ PL') ∧ (∀ e ∈ PL', e.1 ∈ ord ∧ e.2 ∈ ord) ∧ PL'.length = PL.length + j ∧ g[P]? = some (.lst (PL'.map eD)) ∧ Bag g b (c + 1 + 2 * j) ∧ L0 ≤ g.length ∧ ∀ j, j < L0 → j ≠ b → g[j]? = h0[j]?)
    it ⟨PL, x4, rfl, fun _ h => h, mem, rfl, eP1, b1, by rw [s1.1]; exact hL, fun j hj hjb => by rw [s1.2 j hjb]; exact kp0 j hj hjb⟩ (fun _ _ _ _ => so_nil) (fun j e g d hI hd => by
      obtain ⟨PL', y4, rfl, sub, mem', len, eP', bg, hL', kp⟩ := hI
      have jn := (List.getElem?_eq_some_iff.mp hd).1
      rw [il] at jn
      obtain ⟨a, ga, fa, la, ba, sa⟩ := draw (K := K) (m := (n : Int)) bg (by omega) (by omega) (by omega)
      obtain ⟨z, gz, fz, lz, bz, sz⟩ := draw (K := K) (m := (n : Int)) ba (by omega) (by omega) (by omega)
      have eP2 : gz[P]? = some (.lst (PL'.map eD)) := by rw [sz.2 P (Ne.symm hbP), sa.2 P (Ne.symm hbP)]; exact eP'
      have mt : mkT [iD a, iD z] gz = .ok (eD (a, z)) gz := ev_mkT (by simp)
      have ap : appendD (.ref P) [eD (a, z)] gz = .ok .non (gz.set P (.lst ((PL' ++ [(a, z)]).map eD))) := by
        rw [ev_app eP2 (by rw [List.length_map]; omega)]
        simp
      refine ⟨_, [some (.ref b), x1, some (.int n), some (.ref O), some d, some (.int way), some (.ref P), x7, x8, x9], gz.set P (.lst ((PL' ++ [(a, z)]).map eD)), rfl, .inl ?_, PL' ++ [(a, z)], some d, rfl, fun e he => List.mem_append_left _ (sub e he), fun e he => ?_, by simp; omega, get_set (lt_of eP2),
        (bz.le (by omega)).set (Ne.symm hbP), by rw [List.length_set, sz.1, sa.1]; exact hL', fun i hi hib => by rw [List.getElem?_set_ne (by omega), sz.2 i hib, sa.2 i hib]; exact kp i hi hib⟩
      · simp -implicitDefEqProofs only [List.set_cons_succ, List.set_cons_zero, ev_drp, ev_mth, ev_vrS, ev_vr0, bd_ok, ev_lstK eP', if_true, ev_ac, ev_oA, ev_cll, ev_an, List.length_cons, List.length_nil, fa, fz, mt, ap, ev_bs_ok]
      · rcases List.mem_append.mp he with he | he
        · exact mem' e he
        · rw [List.mem_singleton.mp he]
          exact ⟨om a (by omega), om z (by omega)⟩)
  rw [il] at len bg
  exact ⟨PL', y4, h2, lp, sub, mem', by omega, eP', bg.le (by omega), hL', kp⟩
def pk2 (e : Ed) : List Int := [((min e.1 e.2 : Nat) : Int), ((max e.1 e.2 : Nat) : Int)]
def edOf (l : List Int) : Ed := ((l.getD 0 0).toNat, (l.getD 1 0).toNat)
def edges (PL : List Ed) : List Ed := (sset ((PL.filter fun e => decide (e.1 ≠ e.2)).map pk2)).map edOf
theorem ed_pk (e : Ed) : edOf (pk2 e) = (min e.1 e.2, max e.1 e.2) := by
  unfold edOf pk2
  simp
theorem mem_edges {PL : List Ed} {x : Ed} : x ∈ edges PL ↔ ∃ e ∈ PL, e.1 ≠ e.2 ∧ x = (min e.1 e.2, max e.1 e.2) := by
  unfold edges
  constructor
  · intro hx
    obtain ⟨l, hl, rfl⟩ := List.mem_map.mp hx
    obtain ⟨e, he, rfl⟩ := List.mem_map.mp (mem_sset.mp hl)
    obtain ⟨h1, h2⟩ := List.mem_filter.mp he
    exact ⟨e, h1, of_decide_eq_true h2, ed_pk e⟩
  · rintro ⟨e, he, hn, rfl⟩
    exact List.mem_map.mpr ⟨pk2 e, mem_sset.mpr (List.mem_map_of_mem (List.mem_filter.mpr ⟨he, decide_eq_true hn⟩)), ed_pk e⟩
theorem edges_d (PL : List Ed) : (sset ((PL.filter fun e => decide (e.1 ≠ e.2)).map pk2)).map zT = (edges PL).map eD := by
  unfold edges
  rw [List.map_map]
  refine List.map_congr_left fun l hl => ?_
  obtain ⟨e, he, rfl⟩ := List.mem_map.mp (mem_sset.mp hl)
  show zT (pk2 e) = eD (edOf (pk2 e))
  rw [ed_pk]
  rfl
theorem edges_net {n : Nat} {ord : List Nat} {PL : List Ed} (n1 : 1 ≤ n) (hn : n ≤ 16) (pm : ord.Perm (List.range n)) (mem : ∀ e ∈ PL, e.1 ∈ ord ∧ e.2 ∈ ord) (tr : Tree ord PL (n - 1)) : Net n (edges PL) := by
  have ol : ord.length = n := by rw [pm.length_eq, List.length_range]
  have lt : ∀ z ∈ ord, z < n := fun z hz => List.mem_range.mp (pm.mem_iff.mp hz)
  have nd : ord.Nodup := pm.nodup_iff.mpr List.nodup_range
  refine ⟨n1, hn, fun x hx => ?_, ?_, ?_⟩
  · obtain ⟨e, he, hne, rfl⟩ := mem_edges.mp hx
    have h1 := lt _ (mem e he).1
    have h2 := lt _ (mem e he).2
    dsimp only
    omega
  · unfold edges
    rw [List.pairwise_map]
    refine List.Pairwise.imp_of_mem (fun {a b} ha hb hab => ?_) ris_sset
    obtain ⟨x, hx, rfl⟩ := List.mem_map.mp (mem_sset.mp ha)
    obtain ⟨y, hy, rfl⟩ := List.mem_map.mp (mem_sset.mp hb)
    rw [ed_pk, ed_pk]
    unfold pk2 at hab
    rw [List.cons_lt_cons_iff, List.cons_lt_cons_iff] at hab
    unfold eLt
    dsimp only
    rcases hab with h | ⟨h, h | ⟨_, h⟩⟩
    · left; omega
    · right; omega
    · exact absurd h (List.lt_irrefl _)
  · have first : ∃ a0, ord[0]? = some a0 := ⟨_, List.getElem?_eq_getElem (by omega)⟩
    obtain ⟨a0, h0⟩ := first
    have all : ∀ q, q < n → ∀ d, ord[q]? = some d → Rc (edges PL) a0 d := by
      intro q
      induction q using Nat.strongRecOn with
      | _ q ih =>
        intro hq d hd
        by_cases q0 : q = 0
        · subst q0
          rw [h0] at hd
          cases hd
          exact .refl _
        · obtain ⟨p, lp, a, d', e1, e2, m⟩ := tr q (by omega) (by omega)
          rw [hd] at e2
          cases e2
          have ra := ih p lp (by omega) a e1
          have ne : a ≠ d := fun z => by
            subst z
            obtain ⟨p1, p2⟩ := List.getElem?_eq_some_iff.mp e1
            obtain ⟨p3, p4⟩ := List.getElem?_eq_some_iff.mp hd
            have := (List.getElem_inj nd).mp (p2.trans p4.symm)
            omega
          have me : (min a d, max a d) ∈ edges PL := mem_edges.mpr ⟨(a, d), m, ne, rfl⟩
          rcases Nat.lt_or_ge a d with c | c
          · rw [Nat.min_eq_left (by omega), Nat.max_eq_right (by omega)] at me
            exact ra.fwd me
          · rw [Nat.min_eq_right (by omega), Nat.max_eq_left (by omega)] at me
            exact ra.bwd me
    have at_ : ∀ i, i < n → Rc (edges PL) a0 i := fun i hi => by
      obtain ⟨q, hq⟩ := List.getElem?_of_mem (pm.mem_iff.mpr (List.mem_range.mpr hi))
      exact all q (by have := (List.getElem?_eq_some_iff.mp hq).1; omega) i hq
    exact fun i hi => (at_ 0 (by omega)).symm.trans (at_ i hi)
end A
namespace A
open PySem PySem.Spec PyProof.Rows L2 Dt
variable {K : PySem.W.Frag} {h : DH}
theorem net_ok {b c most : Nat} (hb : Bag h b c) (hc : c ≤ 700000) (m1 : 1 ≤ most) (m16 : most ≤ 16) : ∃ (n : Nat) (E : List Ed) (h' : DH), G_law_net K [.ref b, .int most] h = .ok (netD n E) h' ∧ Net n E ∧ n ≤ most ∧ E.length ≤ 200 ∧ Bag h' b (c + 120) ∧ Grow b h h' := by
  obtain ⟨r, h1, e1, lr, b1, s1⟩ := many_ok (K := K) (x1 := some (.int most)) (x2 := none) (x3 := none) (x4 := none) (x5 := none) (x6 := none) (x7 := none) (x8 := none) (x9 := none) hb (by omega)
  obtain ⟨n, en⟩ : ∃ n, n = min (1 + r) most := ⟨_, rfl⟩
  have n1 : 1 ≤ n := by omega
  have n16 : n ≤ 16 := by omega
  have em : min ((1 : Int) + (r : Int)) (most : Int) = (n : Int) := by omega
  have bl := b1.lt
  obtain ⟨O, eO⟩ : ∃ O, O = h1.length := ⟨_, rfl⟩
  have mk1 : mkL true [] h1 = .ok (.ref O) (h1 ++ [.lst []]) := by rw [eO]; exact ev_mkO (by simp)
  obtain ⟨ord, x4, h3, e3, pm, o3, b3, l3, k3⟩ := order_ok (K := K) (h := h1 ++ [.lst []]) (O := O) (x1 := some (.int most)) (x4 := none) (x5 := none) (x6 := none) (x7 := none) (x8 := none) (x9 := none) n16 b1.app (by omega) (by rw [eO]; exact get_new) (by omega)
  have ol : ord.length = n := by rw [pm.length_eq, List.length_range]
  have l3' : h3.length = h1.length + 1 := by rw [l3]; simp
  obtain ⟨way, h4, e4, lw, b4, s4⟩ := cdraw (K := K) (m := 6) (env := [some (.ref b), some (.int most), some (.int n), some (.ref O), x4, none, none, none, none, none]) (as := ac (vr 0) (ac (ct (.int 6)) an)) (G := G_law_draw K) rfl rfl b3 (by omega) (by decide) (by decide)
  obtain ⟨P, eP⟩ : ∃ P, P = h4.length := ⟨_, rfl⟩
  have l4 : h4.length = h1.length + 1 := by rw [s4.1, l3']
  have mk2 : mkL true [] h4 = .ok (.ref P) (h4 ++ [.lst []]) := by rw [eP]; exact ev_mkO (by simp)
  have kp4 : ∀ j, j < h1.length → j ≠ b → (h4 ++ [Dt.O.lst []])[j]? = h1[j]? := fun j hj hjb => by
    rw [List.getElem?_append_left (by omega), s4.2 j hjb, k3 j hjb (by omega), List.getElem?_append_left hj]
  obtain ⟨P', PL, y4, y7, h5, e5, tr, mem, len, p5, o5, b5, q1, q2, q3, q4, kp5⟩ := pairs_ok (K := K) (h := h4 ++ [.lst []]) (h0 := h1) (L0 := h1.length) (O := O) (P := P) (way := way) (x1 := some (.int most)) (x4 := x4) (x7 := none) (x8 := none) (x9 := none) n16 n1 (by omega) ol b4.app (by omega)
    (by refine get_app ?_ _; rw [s4.2 O (by omega)]; exact o3) (by rw [eP]; exact get_new) (by omega) (by omega) (by omega) (by omega) (by simp; omega) kp4
  have cl := cap_le (j := n - 1) (by omega)
  obtain ⟨PL6, h6, e6, sub6, mem6, len6, p6, b6, l6, kp6⟩ := ring_ok (h := h5) (h0 := h1) (L0 := h1.length) (O := O) (P := P') (way := way) (x1 := some (.int most)) (x2 := some (.int n)) (x4 := y4) (x7 := y7) (x8 := none) (x9 := none) n1 ol b5 o5 p5 (by omega) q1 q2 q3 kp5 mem
  obtain ⟨PL7, z4, h7, e7, sub7, mem7, len7, p7, b7, l7, kp7⟩ := more_ok (K := K) (h := h6) (h0 := h1) (L0 := h1.length) (O := O) (P := P') (way := way) (x1 := some (.int most)) (x4 := y4) (x7 := y7) (x8 := none) (x9 := none) n16 n1 pm b6 (by omega) p6 (by omega) q1 q3 (by omega) kp6 mem6
  have tr7 : Tree ord PL7 (n - 1) := (tr.mono sub6).mono sub7
  -- the edges
  have lc : lcE (isq (vr 6)) (.nm 9) (tv (o2 neD (o2 ixD (vr 9) (ct (.int 0))) (o2 ixD (vr 9) (ct (.int 1))))) (oA mkT (ac (oA minqD (ac (vr 9) an)) (ac (oA maxqD (ac (vr 9) an)) an))) [9]
      [some (.ref b), some (.int most), some (.int n), some (.ref O), z4, some (.int way), some (.ref P'), y7, none, none] h7 = .ok (.lst (((PL7.filter fun e => decide (e.1 ≠ e.2)).map pk2).map zT)) h7 := by
    rw [List.map_map]
    refine ev_lcp (t := .nm 9) eD _ (fun e => decide (e.1 ≠ e.2)) PL7 (it := ⟨[(P', PL7.map eD)], PL7.map eD⟩) (by simp only [ev_isq, ev_vrS, ev_vr0, bd_ok]; exact ev_sqR p7) (so_one p7) rfl (fun e _ => ⟨_, rfl, ?_, fun _ => ?_⟩) (by omega)
    · have i0 : ixD (eD e) (.int 0) h7 = .ok (iD e.1) h7 := ev_ixT (i := 0) rfl
      have i1 : ixD (eD e) (.int 1) h7 = .ok (iD e.2) h7 := ev_ixT (i := 1) rfl
      simp only [wipD, List.set_cons_succ, List.set_cons_zero, ev_tv, ev_o2, ev_vrS, ev_vr0, ev_ct, bd_ok, i0, i1, ev_neI, ev_tst]
      congr 1
      by_cases hh : e.1 = e.2
      · simp [hh]
      · have : ¬ ((e.1 : Int) = (e.2 : Int)) := by omega
        simp [hh, this]
    · have i0 : minqD [eD e] h7 = .ok (.int (([(e.2 : Int)] : List Int).foldl min (e.1 : Int))) h7 := ev_minq (n := (e.1 : Int)) (ns := [(e.2 : Int)])
      have i1 : maxqD [eD e] h7 = .ok (.int (([(e.2 : Int)] : List Int).foldl max (e.1 : Int))) h7 := ev_maxq (n := (e.1 : Int)) (ns := [(e.2 : Int)])
      have j0 : ([(e.2 : Int)] : List Int).foldl min (e.1 : Int) = ((min e.1 e.2 : Nat) : Int) := by show min (e.1 : Int) (e.2 : Int) = _; omega
      have j1 : ([(e.2 : Int)] : List Int).foldl max (e.1 : Int) = ((max e.1 e.2 : Nat) : Int) := by show max (e.1 : Int) (e.2 : Int) = _; omega
      rw [j0] at i0
      rw [j1] at i1
      simp only [wipD, List.set_cons_succ, List.set_cons_zero, ev_oA, ev_ac, ev_vrS, ev_vr0, ev_an, bd_ok, i0, i1]
      exact ev_mkT (by simp)
  have fl : ((PL7.filter fun e => decide (e.1 ≠ e.2)).map pk2).length ≤ 200 := by
    rw [List.length_map]
    have := List.length_filter_le (fun e : Ed => decide (e.1 ≠ e.2)) PL7
    omega
  have ss : sortsetD false (.lst (((PL7.filter fun e => decide (e.1 ≠ e.2)).map pk2).map zT)) h7 = .ok (.lst ((edges PL7).map eD)) h7 := by
    rw [ev_sortset rfl fl (fun k hk => by obtain ⟨e, _, rfl⟩ := List.mem_map.mp hk; simp [pk2]), ev_mkF (by
      have := len_sset (ks := (PL7.filter fun e => decide (e.1 ≠ e.2)).map pk2)
      rw [List.length_map]; omega), edges_d]
  have el : (edges PL7).length ≤ 200 := by
    unfold edges
    rw [List.length_map]
    exact Nat.le_trans len_sset fl
  have tt : tupleD [.lst ((edges PL7).map eD)] h7 = .ok (.tup ((edges PL7).map eD)) h7 := ev_mkT (by rw [List.length_map]; omega)
  have fin : mkT [.int (n : Int), .tup ((edges PL7).map eD)] h7 = .ok (netD n (edges PL7)) h7 := ev_mkT (by simp)
  refine ⟨n, edges PL7, h7, raw_of ?_, edges_net n1 n16 pm mem7 tr7, by omega, el, b7.le (by omega), by rw [← s1.1]; exact l7, fun j hj hjb => by rw [kp7 j (by rw [s1.1]; exact hj) hjb, s1.2 j hjb]⟩
  rw [show startD N_law_net [.ref b, .int most] = [some (.ref b), some (.int most), none, none, none, none, none, none, none, none] from rfl]
  unfold b_law_net
  rw [ev_seq, ev_asg, e1]
  have st2 : ∀ x2, asg (oA min2D (ac (vr 2) (ac (vr 1) an))) (.nm 2) [some (.ref b), some (.int most), some (.int (1 + r)), none, none, none, none, none, none, none] x2 = .nx [some (.ref b), some (.int most), some (.int n), none, none, none, none, none, none, none] x2 := fun x2 => by
    simp only [ev_asg, ev_oA, ev_ac, ev_vrS, ev_vr0, ev_an, bd_ok, ev_min, em, ev_bs_ok, List.set_cons_succ, List.set_cons_zero]
  have st6 : ∀ x, asg (oA (mkL true) an) (.nm 6) [some (.ref b), some (.int most), some (.int n), some (.ref O), x, some (.int way), none, none, none, none] h4 = .nx [some (.ref b), some (.int most), some (.int n), some (.ref O), x, some (.int way), some (.ref P), none, none, none] (h4 ++ [.lst []]) := fun x => by
    simp only [ev_asg, ev_oA, ev_an, bd_ok, mk2, ev_bs_ok, List.set_cons_succ, List.set_cons_zero]
  have st3 : asg (oA (mkL true) an) (.nm 3) [some (.ref b), some (.int most), some (.int n), none, none, none, none, none, none, none] h1 = .nx [some (.ref b), some (.int most), some (.int n), some (.ref O), none, none, none, none, none, none] (h1 ++ [.lst []]) := by
    simp only [ev_asg, ev_oA, ev_an, bd_ok, mk1, ev_bs_ok, List.set_cons_succ, List.set_cons_zero]
  unfold pairBody at e5
  simp -implicitDefEqProofs only [ev_bs_ok, List.set_cons_succ, List.set_cons_zero, ev_sq_nx, ev_seq, st2, st3, e3]
  rw [ev_asg, e4]
  simp -implicitDefEqProofs only [ev_bs_ok, List.set_cons_succ, List.set_cons_zero, ev_sq_nx, ev_seq, st6 x4, e5, e6, e7, ev_ret, ev_oA, ev_ac, ev_vrS, ev_vr0, ev_o1, lc, bd_ok, ss, ev_an, tt, fin]
def nb (n : Nat) (E : List Ed) (w : Nat) : List Nat := (List.range n).filter fun k => decide ((k, w) ∈ E ∨ (w, k) ∈ E)
def eP (e : Ed) : PyData := .tuple [.int e.1, .int e.2]
theorem toP_e {k : Nat} (e : Ed) : toP h (k + 2) (eD e) = some (eP e) := toP_t2 toP_i toP_i
theorem toP_es {k : Nat} (E : List Ed) : toP h (k + 3) (.tup (E.map eD)) = some (.tuple (E.map eP)) := by
  show (mapO (toP h (k + 2)) (E.map eD)).map PyData.tuple = _
  rw [mapO_map (e := eP) fun x _ => toP_e x]
  rfl
theorem lay_es : ∀ E : List Ed, PyData.canLayAll0 (E.map eP) = true ∧ PyData.depthAll (E.map eP) ≤ 1
  | [] => by simp [PyData.canLayAll0, PyData.depthAll]
  | e :: E => by
    obtain ⟨a, b⟩ := lay_es E
    simp only [List.map_cons, PyData.canLayAll0, PyData.depthAll, a]
    simp [eP, PyData.canLayAll0, PyData.canLay0, PyData.depthAll, PyData.depth]
    omega
theorem shp_es (E : List Ed) : SeqAt.shaped (.tuple (E.map eP)) = true := by
  obtain ⟨a, b⟩ := lay_es E
  simp [SeqAt.shaped, PyData.canLay0, PyData.depth, a]
  omega
end A
namespace B
open PySem PySem.Spec PyProof.Rows L2 Dt
abbrev N_law_cell_at : List Str := ["script", "k"]
noncomputable def b_law_cell_at (K : PySem.W.Frag) : SF :=
  (seq (ife (tv (o2 ltD (vr 1) (oA lenD (ac (vr 0) an)))) (ret (o2 ixD (vr 0) (vr 1))) skp)
    (ret (ct (.int 0))))
noncomputable def G_law_cell_at (K : PySem.W.Frag) : FD := raw N_law_cell_at (b_law_cell_at K)
abbrev N_law_bag : List Str := ["cell", "k"]
noncomputable def b_law_bag (K : PySem.W.Frag) : SF :=
  (ret (oA (mkL true) (ac (oA max2D (ac (ct (.int 0)) (ac (o2 subD (vr 0) (o2 powD (ct (.int 10)) (ct (.int 18)))) an))) (ac (o2 (addD false) (o2 modD (vr 0) (o2 (addD false) (o2 powD (ct (.int 10)) (ct (.int 44))) (ct (.int 31)))) (o2 (mulD false) (ct (.int 15487469)) (o2 (addD false) (vr 1) (ct (.int 1))))) (ac (ct (.int 0)) an)))))
noncomputable def G_law_bag (K : PySem.W.Frag) : FD := raw N_law_bag (b_law_bag K)
abbrev N_law_take : List Str := ["bag", "many", "found", "mixed"]
noncomputable def b_law_take (K : PySem.W.Frag) : SF :=
  (seq (ife (tv (o2 gtD (o2 ixD (vr 0) (ct (.int 0))) (ct (.int 1)))) (seq (asg (o2 modD (o2 ixD (vr 0) (ct (.int 0))) (vr 1)) (.nm 2))
    (seq (setI (vr 0) (ct (.int 0)) (o2 fdivD (o2 ixD (vr 0) (ct (.int 0))) (vr 1)))
    (ret (vr 2)))) skp)
    (seq (setI (vr 0) (ct (.int 2)) (o2 (addD false) (o2 ixD (vr 0) (ct (.int 2))) (ct (.int 1))))
    (seq (asg (o2 modD (o2 powD (o2 (addD false) (o2 ixD (vr 0) (ct (.int 1))) (o2 (mulD false) (ct (.int 32452867)) (o2 ixD (vr 0) (ct (.int 2))))) (ct (.int 3))) (o2 (addD false) (o2 powD (ct (.int 10)) (ct (.int 42))) (ct (.int 63)))) (.nm 3))
    (seq (asg (o2 modD (o2 powD (o2 (addD false) (vr 3) (o2 (mulD false) (ct (.int 49979693)) (o2 ixD (vr 0) (ct (.int 2))))) (ct (.int 5))) (o2 (addD false) (o2 powD (ct (.int 10)) (ct (.int 40))) (ct (.int 121)))) (.nm 3))
    (ret (o2 modD (o2 fdivD (vr 3) (ct (.int 8192))) (vr 1)))))))
noncomputable def G_law_take (K : PySem.W.Frag) : FD := raw N_law_take (b_law_take K)
abbrev N_law_mixed : List Str := ["bag", "some", "left", "one"]
noncomputable def b_law_mixed (K : PySem.W.Frag) : SF :=
  (seq (asg (oA (listD true) (ac (vr 1) an)) (.nm 2))
    (ret (lcE (isq (vr 1)) (.nm 3) tyes (mth lstK popAtD (vr 2) (ac (cll 2 (G_law_take K) (ac (vr 0) (ac (oA lenD (ac (vr 2) an)) an))) an)) [3])))
noncomputable def G_law_mixed (K : PySem.W.Frag) : FD := raw N_law_mixed (b_law_mixed K)
abbrev N_law_net : List Str := ["bag", "most", "shape", "hands", "called", "pairs", "k", "j", "pair"]
noncomputable def b_law_net (K : PySem.W.Frag) : SF :=
  (seq (asg (cll 2 (G_law_take K) (ac (vr 0) (ac (ct (.int 8)) an))) (.nm 2))
    (seq (asg (o2 (addD false) (ct (.int 1)) (cll 2 (G_law_take K) (ac (vr 0) (ac (vr 1) an)))) (.nm 3))
    (seq (asg (cll 2 (G_law_mixed K) (ac (vr 0) (ac (lrg false (vr 3)) an))) (.nm 4))
    (seq (asg (oA (mkL true) an) (.nm 5))
    (seq (forE (rng2 (ac (ct (.int 1)) (ac (vr 3) an))) (.nm 6) (seq (drp (mth lstK appendD (vr 5) (ac (oA mkT (ac (o2 ixD (vr 4) (o2 ixD (oA (mkL false) (ac (o2 subD (vr 6) (ct (.int 1))) (ac (ct (.int 0)) (ac (cll 2 (G_law_take K) (ac (vr 0) (ac (vr 6) an))) an)))) (oA min2D (ac (o2 fdivD (vr 2) (ct (.int 2))) (ac (ct (.int 2)) an))))) (ac (o2 ixD (vr 4) (vr 6)) an))) an)))
    (ife (tv (o2 eqD (vr 2) (ct (.int 3)))) (drp (mth lstK extendD (vr 5) (ac (lcE (rng1 (ac (vr 6) an)) (.nm 7) tyes (oA mkT (ac (o2 ixD (vr 4) (vr 7)) (ac (o2 ixD (vr 4) (vr 6)) an))) [7]) an))) skp)))
    (seq (ife (tv (o2 eqD (vr 2) (ct (.int 1)))) (drp (mth lstK appendD (vr 5) (ac (oA mkT (ac (o2 ixD (vr 4) (ct (.int 0))) (ac (o2 ixD (vr 4) (o1 negD (ct (.int 1)))) an))) an))) skp)
    (seq (forE (rng1 (ac (o2 ixD (oA (mkL false) (ac (ct (.int 0)) (ac (o2 (addD false) (o2 fdivD (vr 3) (ct (.int 2))) (ct (.int 1))) (ac (o2 (mulD false) (ct (.int 3)) (vr 3)) an)))) (oA max2D (ac (ct (.int 0)) (ac (o2 subD (vr 2) (ct (.int 5))) an)))) an)) (.nm 6) (drp (mth lstK appendD (vr 5) (ac (oA mkT (ac (cll 2 (G_law_take K) (ac (vr 0) (ac (vr 3) an))) (ac (cll 2 (G_law_take K) (ac (vr 0) (ac (vr 3) an))) an))) an))))
    (ret (oA mkT (ac (vr 3) (ac (oA tupleD (ac (o1 (sortsetD false) (lcE (isq (vr 5)) (.nm 8) (tv (o2 neD (o2 ixD (vr 8) (ct (.int 0))) (o2 ixD (vr 8) (ct (.int 1))))) (oA mkT (ac (oA minqD (ac (vr 8) an)) (ac (oA maxqD (ac (vr 8) an)) an))) [8])) an)) an)))))))))))
noncomputable def G_law_net (K : PySem.W.Frag) : FD := raw N_law_net (b_law_net K)
end B
namespace B
open PySem PySem.Spec PyProof.Rows L2 Dt
open A (Beside raw_of)
variable {K : PySem.W.Frag} {h : DH}
def Bg (h : DH) (n c : Nat) : Prop := ∃ b0 b1 b2 : Int, h[n]? = some (.lst [.int b0, .int b1, .int b2]) ∧ 0 ≤ b0 ∧ 0 ≤ b1 ∧ b1 < 2 ^ 150 ∧ 0 ≤ b2 ∧ b2 ≤ c
theorem Bg.lt {n c : Nat} (b : Bg h n c) : n < h.length := by
  obtain ⟨_, _, _, e, _⟩ := b
  exact (List.getElem?_eq_some_iff.mp e).1
theorem Bg.set {n c m : Nat} {o : O} (b : Bg h n c) (hm : m ≠ n) : Bg (h.set m o) n c := by
  obtain ⟨b0, b1, b2, e, r⟩ := b
  exact ⟨b0, b1, b2, by rw [List.getElem?_set_ne hm]; exact e, r⟩
theorem Bg.app {g : DH} {n c : Nat} (b : Bg h n c) : Bg (h ++ g) n c := by
  have hl := b.lt
  obtain ⟨b0, b1, b2, e, r⟩ := b
  exact ⟨b0, b1, b2, by rw [List.getElem?_append_left hl]; exact e, r⟩
theorem Bg.le {n c c' : Nat} (b : Bg h n c) (hc : c ≤ c') : Bg h n c' := by
  obtain ⟨b0, b1, b2, e, r1, r2, r3, r4, r5⟩ := b
  exact ⟨b0, b1, b2, e, r1, r2, r3, r4, by omega⟩
theorem Bg.kept {h' : DH} {n c : Nat} (b : Bg h n c) (e : h'[n]? = h[n]?) : Bg h' n c := by
  obtain ⟨b0, b1, b2, q, r⟩ := b
  exact ⟨b0, b1, b2, e.trans q, r⟩
theorem big {i : Int} (h0 : 0 ≤ i) (h1 : i < 2 ^ 160) : smal i := by
  have : (2 : Int) ^ 160 = 1461501637330902918203684832716283019655932542976 := by decide
  unfold smal
  omega
theorem take_ok {n c : Nat} {m : Int} (hb : Bg h n c) (hc : c < 1000000000) (hm : 0 < m) (hm2 : m < 1000000000000000000000000000000) :
    ∃ (r : Nat) (bs : List D), G_law_take K [.ref n, .int m] h = .ok (.int r) (h.set n (.lst bs)) ∧ (r : Int) < m ∧ Bg (h.set n (.lst bs)) n (c + 1) := by
  have hl := hb.lt
  obtain ⟨b0, b1, b2, hn, p0, p1, q1, p2, q2⟩ := hb
  have i0 : ixD (.ref n) (.int 0) h = .ok (.int b0) h := ev_ixR (i := 0) hn rfl
  have i1 : ∀ (x y z : D), ixD (.ref n) (.int 1) (h.set n (.lst [x, y, z])) = .ok y (h.set n (.lst [x, y, z])) := fun x y z => ev_ixR (i := 1) (by rw [List.getElem?_set_self hl]) rfl
  have i2 : ∀ (x y z : D), ixD (.ref n) (.int 2) (h.set n (.lst [x, y, z])) = .ok z (h.set n (.lst [x, y, z])) := fun x y z => ev_ixR (i := 2) (by rw [List.getElem?_set_self hl]) rfl
  have j2 : ixD (.ref n) (.int 2) h = .ok (.int b2) h := ev_ixR (i := 2) hn rfl
  have s0 : ∀ d, setItD (.ref n) (.int 0) d h = some (h.set n (.lst [d, .int b1, .int b2])) := fun d => ev_setIt (i := 0) hn (by simp)
  have s2 : ∀ d, setItD (.ref n) (.int 2) d h = some (h.set n (.lst [.int b0, .int b1, d])) := fun d => ev_setIt (i := 2) hn (by simp)
  have ml : m < 1809251394333065553493296640760748560207343510400633813116524750123642650624 := Int.lt_trans hm2 (by decide)
  have dv : ∀ h, fdivD (.int b0) (.int m) h = .ok (.int (b0 / m)) h := fun h => ev_div ⟨hm, ml⟩
  have dw : ∀ x h, fdivD (.int x) (.int 8192) h = .ok (.int (x / 8192)) h := fun x h => ev_div ⟨by decide, by decide⟩
  by_cases hgt : b0 > 1
  · refine ⟨(b0 % m).toNat, [.int (b0 / m), .int b1, .int b2], ?_, ?_, ?_⟩
    · have e1 : ((b0 % m).toNat : Int) = b0 % m := Int.toNat_of_nonneg (Int.emod_nonneg _ (by omega))
      rw [e1]
      simp [G_law_take, b_law_take, raw, startD, List.replicate, i0, hgt, hm, dv, s0, ev_mod]
    · rw [Int.toNat_of_nonneg (Int.emod_nonneg _ (by omega))]
      exact Int.emod_lt_of_pos _ hm
    · exact ⟨b0 / m, b1, b2, by rw [List.getElem?_set_self hl], Int.ediv_nonneg p0 (by omega), p1, q1, p2, by omega⟩
  · have e150 : (2 : Int) ^ 150 = 1427247692705959881058285969449495136382746624 := by decide
    have e160 : (2 : Int) ^ 160 = 1461501637330902918203684832716283019655932542976 := by decide
    rw [e150] at q1
    have a1 : smal (32452867 : Int) := big (by decide) (by decide)
    have a2 : smal (b2 + 1) := big (by omega) (by rw [e160]; omega)
    have a3 : smal (49979693 : Int) := big (by decide) (by decide)
    have a4 : smal (b1 + 32452867 * (b2 + 1)) := big (by omega) (by rw [e160]; omega)
    obtain ⟨M1, eM1⟩ : ∃ M1 : Int, M1 = 10 ^ 42 + 63 := ⟨_, rfl⟩
    obtain ⟨M2, eM2⟩ : ∃ M2 : Int, M2 = 10 ^ 40 + 121 := ⟨_, rfl⟩
    have M1p : 0 < M1 ∧ M1 < 2 ^ 159 := by rw [eM1]; constructor <;> decide
    have M2p : 0 < M2 := by rw [eM2]; decide
    have e159 : (2 : Int) ^ 159 = 730750818665451459101842416358141509827966271488 := by decide
    rw [e159] at M1p
    have a5 : ∀ x : Int, smal (x % M1 + 49979693 * (b2 + 1)) := fun x => big (by
      have := Int.emod_nonneg x (b := M1) (by omega)
      omega) (by
      have := Int.emod_lt_of_pos x (b := M1) (by omega)
      rw [e160]
      omega)
    have p42 : ∀ g, powD (.int 10) (.int 42) g = .ok (.int (10 ^ 42)) g := fun g => ev_pow ⟨big (by decide) (by decide), by decide, by decide⟩
    have p40 : ∀ g, powD (.int 10) (.int 40) g = .ok (.int (10 ^ 40)) g := fun g => ev_pow ⟨big (by decide) (by decide), by decide, by decide⟩
    have f1 : ∀ g, addD false (.int (10 ^ 42)) (.int 63) g = .ok (.int M1) g := fun g => by rw [eM1]; rfl
    have f2 : ∀ g, addD false (.int (10 ^ 40)) (.int 121) g = .ok (.int M2) g := fun g => by rw [eM2]; rfl
    obtain ⟨v, hv⟩ : ∃ v : Int, v = ((((b1 + 32452867 * (b2 + 1)) ^ 3 % M1 + 49979693 * (b2 + 1)) ^ 5 % M2) / 8192) % m := ⟨_, rfl⟩
    have v0 : 0 ≤ v := by rw [hv]; exact Int.emod_nonneg _ (by omega)
    have v1 : v < m := by rw [hv]; exact Int.emod_lt_of_pos _ hm
    refine ⟨v.toNat, [.int b0, .int b1, .int (b2 + 1)], ?_, ?_, ?_⟩
    · rw [Int.toNat_of_nonneg v0, hv]
      have z3 : (3 : Int).toNat = 3 := rfl
      have z5 : (5 : Int).toNat = 5 := rfl
      have g0 : ∀ g, gtD (.int b0) (.int 1) g = .ok (.bl (decide (b0 > 1))) g := fun _ => rfl
      have d0 : decide (b0 > 1) = false := decide_eq_false hgt
      have p3 : ∀ x : Int, smal x → ∀ g, powD (.int x) (.int 3) g = .ok (.int (x ^ 3)) g := fun x hx g => ev_pow ⟨hx, by decide, by decide⟩
      have p5 : ∀ x : Int, smal x → ∀ g, powD (.int x) (.int 5) g = .ok (.int (x ^ 5)) g := fun x hx g => ev_pow ⟨hx, by decide, by decide⟩
      have m1 : ∀ x g, modD (.int x) (.int M1) g = .ok (.int (x % M1)) g := fun x g => ev_mod (by omega)
      have m2 : ∀ x g, modD (.int x) (.int M2) g = .ok (.int (x % M2)) g := fun x g => ev_mod (by omega)
      have m3 : ∀ x g, modD (.int x) (.int m) g = .ok (.int (x % m)) g := fun x g => ev_mod hm
      have u1 : ∀ g, mulD false (.int 32452867) (.int (b2 + 1)) g = .ok (.int (32452867 * (b2 + 1))) g := fun g => ev_mul ⟨a1, a2⟩
      have u2 : ∀ g, mulD false (.int 49979693) (.int (b2 + 1)) g = .ok (.int (49979693 * (b2 + 1))) g := fun g => ev_mul ⟨a3, a2⟩
      refine raw_of ?_
      rw [show startD N_law_take [.ref n, .int m] = [some (.ref n), some (.int m), none, none] from rfl]
      unfold b_law_take
      simp -implicitDefEqProofs only [ev_seq, ev_ife, ev_tv, ev_o2, ev_vr0, ev_vrS, ev_ct, bd_ok, i0, g0, d0, ev_tst, ev_bs_ok, Bool.false_eq_true, if_false, ev_skp, ev_sq_nx, ev_setI, j2, ev_add, s2, i1, i2, u1, u2, p3 _ a4, p42, f1, m1, ev_asg, List.set_cons_succ, List.set_cons_zero, p5 _ (a5 _), p40, f2, m2, ev_ret, dw, m3]
    · rw [Int.toNat_of_nonneg v0]; exact v1
    · exact ⟨b0, b1, b2 + 1, by rw [List.getElem?_set_self hl], p0, p1, by rw [e150]; exact q1, by omega, by omega⟩
end B
namespace B
open PySem PySem.Spec PyProof.Rows L2 Dt
open A (Beside raw_of Grow)
variable {K : PySem.W.Frag} {h : DH}
theorem cell_ok {ns : List Int} {k : Nat} : ∃ z, G_law_cell_at K [.scr ns, .int k] h = .ok (.int z) h := by
  unfold G_law_cell_at raw b_law_cell_at
  rw [show startD N_law_cell_at [.scr ns, .int k] = [some (.scr ns), some (.int k)] from rfl]
  by_cases hk : k < ns.length
  · have e1 : ixD (.scr ns) (.int k) h = .ok (.int ns[k]) h := ev_ixS (List.getElem?_eq_getElem hk)
    have e2 : ((k : Int) < (ns.length : Int)) = True := eq_true (by omega)
    exact ⟨ns[k], by simp [e1, hk]⟩
  · have e2 : ¬ ((k : Int) < (ns.length : Int)) := by omega
    exact ⟨0, by simp [hk]⟩
theorem bag_ok {c : Int} {k : Nat} (hk : k ≤ 1000) : ∃ bs, G_law_bag K [.int c, .int k] h = .ok (.ref h.length) (h ++ [.lst bs]) ∧ Bg (h ++ [.lst bs]) h.length 0 := by
  obtain ⟨M, eM⟩ : ∃ M : Int, M = 10 ^ 44 + 31 := ⟨_, rfl⟩
  have e150 : (2 : Int) ^ 150 = 1427247692705959881058285969449495136382746624 := by decide
  have Mp : 0 < M ∧ M < 1427247692705959881058285969449495136382746624 - 100000000000 := by rw [eM]; constructor <;> decide
  have e1 : powD (.int 10) (.int 18) h = .ok (.int (10 ^ 18)) h := ev_pow ⟨big (by decide) (by decide), by decide, by decide⟩
  have e0 : powD (.int 10) (.int 44) h = .ok (.int (10 ^ 44)) h := ev_pow ⟨big (by decide) (by decide), by decide, by decide⟩
  have f0 : addD false (.int (10 ^ 44)) (.int 31) h = .ok (.int M) h := by rw [eM]; rfl
  have s1 : smal ((k : Int) + 1) := big (by omega) (Int.lt_trans (b := 1002) (by omega) (by decide))
  have e2 : mulD false (.int 15487469) (.int ((k : Int) + 1)) h = .ok (.int (15487469 * ((k : Int) + 1))) h := ev_mul ⟨big (by decide) (by decide), s1⟩
  have e3 : modD (.int c) (.int M) h = .ok (.int (c % M)) h := ev_mod (by omega)
  have e4 : ∀ x y z : D, mkL true [x, y, z] h = .ok (.ref h.length) (h ++ [.lst [x, y, z]]) := fun x y z => ev_mkO (by simp)
  refine ⟨[.int (max 0 (c - 10 ^ 18)), .int (c % M + 15487469 * ((k : Int) + 1)), .int 0], ?_, _, _, _, List.getElem?_concat_length .., Int.le_max_left .., ?_, ?_, Int.le_refl _, Int.le_refl _⟩
  · unfold G_law_bag raw b_law_bag
    rw [show startD N_law_bag [.int c, .int k] = [some (.int c), some (.int k)] from rfl]
    simp -implicitDefEqProofs only [ev_ret, ev_oA, ev_ac, ev_an, ev_ct, ev_o2, ev_vr0, ev_vrS, bd_ok, e1, e0, f0, ev_add, e2, e3, ev_sub, ev_max, e4, ev_bs_ok]
  · have := Int.emod_nonneg c (b := M) (by omega)
    omega
  · have q1 := Int.emod_lt_of_pos c (b := M) (by omega)
    rw [e150]
    omega
theorem take {n c : Nat} {m : Int} (hb : Bg h n c) (hc : c < 1000000) (hm : 0 < m) (hm2 : m < 1000000000000000000000000000000) :
    ∃ (r : Nat) (h' : DH), G_law_take K [.ref n, .int m] h = .ok (.int r) h' ∧ (r : Int) < m ∧ Bg h' n (c + 1) ∧ Beside n h h' := by
  obtain ⟨r, bs, e, l, b⟩ := take_ok hb (by omega) hm hm2
  exact ⟨r, _, e, l, b, List.length_set, fun k hk => List.getElem?_set_ne (Ne.symm hk)⟩
theorem ev_popAt {n r : Nat} {ds : List D} {d : D} (e : h[n]? = some (.lst ds)) (hr : r ≤ 1000) (hd : ds[r]? = some d) : popAtD (.ref n) [.int (r : Int)] h = .ok d (h.set n (.lst (ds.eraseIdx r))) := by
  unfold popAtD
  simp only [mlst, e, Int.toNat_natCast, hd]
  rw [if_pos ⟨by omega, by omega⟩]
theorem lrg_ok {env : Env'} {fa : EF} {n : Nat} (hn : n ≤ 1000) (e : fa env h = .ok (.int n) h) : lrg false fa env h = .ok (.lst ((List.range n).map iD)) h := by
  unfold lrg
  rw [e]
  simp only [bd_ok]
  rw [if_pos ⟨by omega, by omega⟩, show rgsD (n : Int) = (List.range n).map iD from by unfold rgsD; simp]
  exact ev_mkF (by simp; omega)
theorem er_map {α β : Type} {f : α → β} : ∀ {xs : List α} {r : Nat}, (xs.map f).eraseIdx r = (xs.eraseIdx r).map f
  | [], r => by simp
  | x :: xs, 0 => rfl
  | x :: xs, r + 1 => by simp [er_map]
theorem er_perm {α : Type} : ∀ {xs : List α} {r : Nat} (h : r < xs.length), (xs[r] :: xs.eraseIdx r).Perm xs
  | x :: xs, 0, _ => .refl _
  | x :: xs, r + 1, h => (List.Perm.swap x _ _).trans ((er_perm (xs := xs) (r := r) (by simpa using h)).cons x)
theorem mixed_ok {α : Type} (f : α → D) {xs : List α} {b c : Nat} (hb : Bg h b c) (hc : c < 900000) (hl : xs.length ≤ 200) :
    ∃ (ys : List α) (h' : DH), G_law_mixed K [.ref b, .lst (xs.map f)] h = .ok (.lst (ys.map f)) h' ∧ ys.Perm xs ∧ Bg h' b (c + xs.length) ∧ Grow b h h' := by
  obtain ⟨L, eL⟩ : ∃ L, L = h.length := ⟨_, rfl⟩
  have bL : b ≠ L := by have := hb.lt; omega
  have e1 : listD true [.lst (xs.map f)] h = .ok (.ref L) (h ++ [.lst (xs.map f)]) := by rw [eL]; exact ev_mkO (by simp; omega)
  obtain ⟨zs, h2, e2, lz, ys, left, ez, pm, eLf, bg, gr⟩ := ev_lca (t := .nm 3) (vs := [3]) (fe := mth lstK popAtD (vr 2) (ac (cll 2 (G_law_take K) (ac (vr 0) (ac (oA lenD (ac (vr 2) an)) an))) an)) (fi := isq (vr 1))
    (env := [some (.ref b), some (.lst (xs.map f)), some (.ref L), none]) (h := h ++ [.lst (xs.map f)]) (h1 := h ++ [.lst (xs.map f)]) (it := ⟨[], xs.map f⟩)
    (fun acc g => ∃ (ys left : List α), acc = ys.map f ∧ (ys ++ left).Perm xs ∧ g[L]? = some (.lst (left.map f)) ∧ Bg g b (c + acc.length) ∧ Grow b h g)
    (by rw [ev_isq]; simp only [ev_vrS, ev_vr0, bd_ok, ev_sqL]) ⟨[], xs, rfl, .refl _, by rw [eL]; exact get_new, hb.app, Grow.app⟩ (fun _ _ _ => so_nil) (fun acc g d hI hd => by
      obtain ⟨ys, left, rfl, pm, eLf, bg, gr⟩ := hI
      have hw := (List.getElem?_eq_some_iff.mp hd).1
      have pl := pm.length_eq
      simp only [List.length_map, List.length_append] at hw pl
      have ln : lenD [.ref L] g = .ok (.int (left.length : Nat)) g := by rw [ev_lenR eLf, List.length_map]
      obtain ⟨r, g1, t1, lr, b1, s1⟩ := take (K := K) (m := ((left.length : Nat) : Int)) bg (by simp only [List.length_map]; omega) (by omega) (by omega)
      have rl : r < left.length := by omega
      have eL1 : g1[L]? = some (.lst (left.map f)) := by rw [s1.2 L (Ne.symm bL)]; exact eLf
      have pp := ev_popAt (r := r) (d := f left[r]) eL1 (by omega) (by rw [List.getElem?_map, List.getElem?_eq_getElem rl]; rfl)
      have er : (left.map f).eraseIdx r = (left.eraseIdx r).map f := by exact er_map
      rw [er] at pp
      refine ⟨_, f left[r], g1.set L (.lst ((left.eraseIdx r).map f)), rfl, ?_, ys ++ [left[r]], left.eraseIdx r, by simp, ?_, get_set (lt_of eL1), ?_, (gr.trans s1.grow).set (by omega)⟩
      · simp -implicitDefEqProofs only [wipD, List.set_cons_succ, List.set_cons_zero, ev_mth, ev_vrS, ev_vr0, bd_ok, ev_lstK eLf, if_true, ev_ac, ev_cll, ev_oA, ev_an, ln, List.length_cons, List.length_nil, t1, pp]
      · have := er_perm rl
        rw [List.append_assoc]
        exact (List.Perm.append_left ys this).trans pm
      · have := b1.set (o := .lst ((left.eraseIdx r).map f)) (Ne.symm bL)
        refine this.le ?_
        simp only [List.length_append, List.length_map, List.length_cons, List.length_nil]
        omega) (by simp; omega)
  subst ez
  have yl : ys.length = xs.length := by simpa using lz
  have ll := pm.length_eq
  rw [List.length_append] at ll
  have l0 : left = [] := List.length_eq_zero_iff.mp (by omega)
  subst l0
  rw [List.append_nil] at pm
  refine ⟨ys, h2, raw_of ?_, pm, bg.le (by simp; omega), gr⟩
  rw [show startD N_law_mixed [.ref b, .lst (xs.map f)] = [some (.ref b), some (.lst (xs.map f)), none, none] from rfl]
  unfold b_law_mixed
  simp -implicitDefEqProofs only [ev_seq, ev_asg, ev_oA, ev_ac, ev_vrS, ev_vr0, ev_an, bd_ok, e1, ev_bs_ok, List.set_cons_succ, List.set_cons_zero, ev_sq_nx, ev_ret]
  rw [e2]
  simp only [ev_bs_ok]
end B
namespace B
open PySem PySem.Spec PyProof.Rows L2 Dt
open A (Beside raw_of Grow Ed eD netD Net Tree cap cap_le edges edges_d edges_net pk2)
variable {K : PySem.W.Frag} {h : DH}
theorem pick {k sh spot : Nat} (hw : sh < 8) (hs : spot < k) : ∃ pk : Nat, pk < k ∧ ∀ g : DH, bd (min2D [.int ((sh : Int) / 2), .int 2] g) (fun i h1 => ixD (.lst [.int ((k : Int) - 1), .int 0, .int spot]) i h1) = .ok (.int (pk : Int)) g := by
  have e : (k : Int) - 1 = ((k - 1 : Nat) : Int) := by omega
  have hh : min (sh / 2) 2 = 0 ∨ min (sh / 2) 2 = 1 ∨ min (sh / 2) 2 = 2 := by omega
  have mm : min ((sh : Int) / 2) 2 = ((min (sh / 2) 2 : Nat) : Int) := by omega
  have key : ∀ (i pk : Nat), min (sh / 2) 2 = i → ([D.int ((k : Int) - 1), .int 0, .int spot])[i]? = some (.int (pk : Int)) → ∀ g : DH, bd (min2D [.int ((sh : Int) / 2), .int 2] g) (fun i h1 => ixD (.lst [.int ((k : Int) - 1), .int 0, .int spot]) i h1) = .ok (.int (pk : Int)) g := fun i pk hi hp g => by
    rw [ev_min, mm, hi]
    exact ev_ixL hp
  rcases hh with q | q | q
  · exact ⟨k - 1, by omega, key _ _ q (by rw [e]; rfl)⟩
  · exact ⟨0, by omega, key _ _ q rfl⟩
  · exact ⟨spot, hs, key _ _ q rfl⟩
noncomputable def pairBody (K : PySem.W.Frag) : SF := (seq (drp (mth lstK appendD (vr 5) (ac (oA mkT (ac (o2 ixD (vr 4) (o2 ixD (oA (mkL false) (ac (o2 subD (vr 6) (ct (.int 1))) (ac (ct (.int 0)) (ac (cll 2 (G_law_take K) (ac (vr 0) (ac (vr 6) an))) an)))) (oA min2D (ac (o2 fdivD (vr 2) (ct (.int 2))) (ac (ct (.int 2)) an))))) (ac (o2 ixD (vr 4) (vr 6)) an))) an)))
    (ife (tv (o2 eqD (vr 2) (ct (.int 3)))) (drp (mth lstK extendD (vr 5) (ac (lcE (rng1 (ac (vr 6) an)) (.nm 7) tyes (oA mkT (ac (o2 ixD (vr 4) (vr 7)) (ac (o2 ixD (vr 4) (vr 6)) an))) [7]) an))) skp))
theorem range_items {n : Nat} : (rgI 0 (n : Int)).items = (List.range n).map iD := by unfold rgI; simp
theorem pair_turn {b c n P k sh : Nat} {ord : List Nat} {PL : List Ed} {x1 x7 x8 : Option D} (hn : n ≤ 16) (hk : k < n) (h1 : 1 ≤ k) (hw : sh < 8) (ol : ord.length = n) (hb : Bg h b c) (hc : c < 900000) (eP : h[P]? = some (.lst (PL.map eD)))
    (hbP : b ≠ P) (hl : PL.length ≤ 1000) :
    ∃ (PL' : List Ed) (h' : DH), pairBody K [some (.ref b), x1, some (.int sh), some (.int n), some (.lst (ord.map iD)), some (.ref P), some (.int k), x7, x8] h = .nx [some (.ref b), x1, some (.int sh), some (.int n), some (.lst (ord.map iD)), some (.ref P), some (.int k), x7, x8] h' ∧
      (∃ p, p < k ∧ (∃ a d, ord[p]? = some a ∧ ord[k]? = some d ∧ (a, d) ∈ PL')) ∧ (∀ e ∈ PL, e ∈ PL') ∧ (∀ e ∈ PL', e ∈ PL ∨ (e.1 ∈ ord ∧ e.2 ∈ ord)) ∧ PL'.length ≤ PL.length + k + 1 ∧
      h'[P]? = some (.lst (PL'.map eD)) ∧ Bg h' b (c + 1) ∧ h'.length = h.length ∧ ∀ j, j ≠ b → j ≠ P → h'[j]? = h[j]? := by
  obtain ⟨spot, g1, f1, ls, b1, s1⟩ := take (K := K) (m := (k : Int)) hb (by omega) (by omega) (by omega)
  obtain ⟨pk, lpk, epk⟩ := pick hw (show spot < k by omega)
  have eP1 : g1[P]? = some (.lst (PL.map eD)) := by rw [s1.2 P (Ne.symm hbP)]; exact eP
  have op : ord[pk]? = some ord[pk] := List.getElem?_eq_getElem (by omega)
  have ok : ord[k]? = some ord[k] := List.getElem?_eq_getElem (by omega)
  generalize ord[pk] = a at op
  generalize ord[k] = d at ok
  have ixp : ixD (.lst (ord.map iD)) (.int (pk : Int)) g1 = .ok (iD a) g1 := ev_ixL (by rw [List.getElem?_map, op]; rfl)
  have ixk : ∀ g, ixD (.lst (ord.map iD)) (.int (k : Int)) g = .ok (iD d) g := fun g => ev_ixL (by rw [List.getElem?_map, ok]; rfl)
  have mk : mkL false [.int ((k : Int) - 1), .int 0, .int spot] g1 = .ok (.lst [.int ((k : Int) - 1), .int 0, .int spot]) g1 := ev_mkF (by simp)
  have mt : mkT [iD a, iD d] g1 = .ok (eD (a, d)) g1 := ev_mkT (by simp)
  have ap : appendD (.ref P) [eD (a, d)] g1 = .ok .non (g1.set P (.lst ((PL ++ [(a, d)]).map eD))) := by
    rw [ev_app eP1 (by rw [List.length_map]; omega)]
    simp
  have dv : fdivD (.int (sh : Int)) (.int 2) g1 = .ok (.int ((sh : Int) / 2)) g1 := ev_div ⟨by decide, by decide⟩
  obtain ⟨g2, eg2⟩ : ∃ g2, g2 = g1.set P (.lst ((PL ++ [(a, d)]).map eD)) := ⟨_, rfl⟩
  rw [← eg2] at ap
  have eP2 : g2[P]? = some (.lst ((PL ++ [(a, d)]).map eD)) := by rw [eg2]; exact get_set (lt_of eP1)
  have b2 : Bg g2 b (c + 1) := by rw [eg2]; exact b1.set (Ne.symm hbP)
  have l2 : g2.length = h.length := by rw [eg2, List.length_set, s1.1]
  have kp : ∀ j, j ≠ b → j ≠ P → g2[j]? = h[j]? := fun j j1 j2 => by rw [eg2, List.getElem?_set_ne (Ne.symm j2), s1.2 j j1]
  have ma : a ∈ ord := List.mem_of_getElem? op
  have md : d ∈ ord := List.mem_of_getElem? ok
  have q3 : ∀ g, eqD (.int (sh : Int)) (.int 3) g = .ok (.bl (decide (sh = 3))) g := fun g => by
    rw [ev_eqI]
    congr 2
    exact decide_eq_decide.mpr (by omega)
  have st : drp (mth lstK appendD (vr 5) (ac (oA mkT (ac (o2 ixD (vr 4) (o2 ixD (oA (mkL false) (ac (o2 subD (vr 6) (ct (.int 1))) (ac (ct (.int 0)) (ac (cll 2 (G_law_take K) (ac (vr 0) (ac (vr 6) an))) an)))) (oA min2D (ac (o2 fdivD (vr 2) (ct (.int 2))) (ac (ct (.int 2)) an))))) (ac (o2 ixD (vr 4) (vr 6)) an))) an))
      [some (.ref b), x1, some (.int sh), some (.int n), some (.lst (ord.map iD)), some (.ref P), some (.int k), x7, x8] h = .nx [some (.ref b), x1, some (.int sh), some (.int n), some (.lst (ord.map iD)), some (.ref P), some (.int k), x7, x8] g2 := by
    have epk' := epk g1
    simp -implicitDefEqProofs only [ev_drp, ev_mth, ev_vrS, ev_vr0, bd_ok, ev_lstK eP, if_true, ev_ac, ev_oA, ev_o2, ev_ct, ev_sub, ev_cll, ev_an, List.length_cons, List.length_nil, f1, mk, dv, epk', ixp, ixk, mt, ap, ev_bs_ok]
  unfold pairBody
  rw [ev_seq, st, ev_sq_nx]
  by_cases w3 : sh = 3
  · have d3 : decide (sh = 3) = true := decide_eq_true w3
    have lc : lcE (rng1 (ac (vr 6) an)) (.nm 7) tyes (oA mkT (ac (o2 ixD (vr 4) (vr 7)) (ac (o2 ixD (vr 4) (vr 6)) an))) [7] [some (.ref b), x1, some (.int sh), some (.int n), some (.lst (ord.map iD)), some (.ref P), some (.int k), x7, x8] g2 = .ok (.lst (((ord.take k).map fun z => (z, d)).map eD)) g2 := by
      have tk : (ord.take k).map (fun z => (z, d)) = (List.range k).map fun j => (ord.getD j 0, d) := by
        refine List.ext_getElem (by simp; omega) fun i h1 h2 => ?_
        simp only [List.getElem_map, List.getElem_take, List.getElem_range, List.getD]
        rw [List.getElem?_eq_getElem (by simp at h2; omega)]
        rfl
      rw [tk, List.map_map]
      refine ev_lcg (t := .nm 7) iD _ (List.range k) (it := rgI 0 (k : Int)) (ev_rng1 (by simp only [ev_ac, ev_vrS, ev_vr0, ev_an, bd_ok]) (by unfold smR; omega)) so_nil range_items (fun j hj => ⟨_, rfl, ?_⟩) (by simp; omega)
      have hj := List.mem_range.mp hj
      have ixj : ixD (.lst (ord.map iD)) (.int (j : Int)) g2 = .ok (iD (ord.getD j 0)) g2 := ev_ixL (by rw [List.getElem?_map, List.getElem?_eq_getElem (by omega)]; simp [List.getD, List.getElem?_eq_getElem (show j < ord.length by omega)])
      simp only [wipD, List.set_cons_succ, List.set_cons_zero, ev_oA, ev_ac, ev_vrS, ev_vr0, ev_o2, ixj, ixk, ev_an, bd_ok]
      exact ev_mkT (by simp)
    have ad : extendD (.ref P) [.lst (((ord.take k).map fun z => (z, d)).map eD)] g2 = .ok .non (g2.set P (.lst ((PL ++ [(a, d)] ++ (ord.take k).map (fun z => (z, d))).map eD))) := by
      unfold extendD
      simp only [mlst, eP2, xsq]
      rw [if_pos (by simp; omega), ← List.map_append]
    refine ⟨PL ++ [(a, d)] ++ (ord.take k).map (fun z => (z, d)), g2.set P (.lst ((PL ++ [(a, d)] ++ (ord.take k).map (fun z => (z, d))).map eD)), ?_, ⟨pk, lpk, a, d, op, ok, by simp⟩, fun e he => by simp [he], fun e he => ?_, by simp; omega, get_set (lt_of eP2), b2.set (Ne.symm hbP),
      by rw [List.length_set, l2], fun j j1 j2 => by rw [List.getElem?_set_ne (Ne.symm j2)]; exact kp j j1 j2⟩
    · simp -implicitDefEqProofs only [ev_ife, ev_tv, ev_o2, ev_vrS, ev_vr0, ev_ct, bd_ok, q3, d3, ev_tst, ev_bs_ok, if_true, ev_drp, ev_mth, ev_lstK eP2, ev_ac, lc, ev_an, ad]
    · rcases List.mem_append.mp he with he | he
      · rcases List.mem_append.mp he with he | he
        · exact .inl he
        · rw [List.mem_singleton.mp he]; exact .inr ⟨ma, md⟩
      · obtain ⟨z, hz, rfl⟩ := List.mem_map.mp he
        exact .inr ⟨List.mem_of_mem_take hz, md⟩
  · have d3 : decide (sh = 3) = false := decide_eq_false w3
    refine ⟨PL ++ [(a, d)], g2, ?_, ⟨pk, lpk, a, d, op, ok, by simp⟩, fun e he => by simp [he], fun e he => ?_, by simp, eP2, b2, l2, kp⟩
    · simp -implicitDefEqProofs only [ev_ife, ev_tv, ev_o2, ev_vrS, ev_vr0, ev_ct, bd_ok, q3, d3, ev_tst, ev_bs_ok, Bool.false_eq_true, if_false, ev_skp]
    · rcases List.mem_append.mp he with he | he
      · exact .inl he
      · rw [List.mem_singleton.mp he]; exact .inr ⟨ma, md⟩
end B
namespace B
open PySem PySem.Spec PyProof.Rows L2 Dt
open A (Beside raw_of Grow Ed eD netD Net Tree cap cap_le edges edges_d edges_net pk2 Tree.mono)
variable {K : PySem.W.Frag} {h : DH}
theorem ev_lastL {ds : List D} {x : D} (hx : ds.getLast? = some x) : ixD (.lst ds) (.int (-1)) h = .ok x h := by
  have hne : ds ≠ [] := by intro z; subst z; cases hx
  have hl : 0 < ds.length := List.length_pos_iff.mpr hne
  have e1 : ixN ds.length (-1) = some (ds.length - 1) := by
    unfold ixN
    have h1 : ¬ ((0 : Int) ≤ -1) := by decide
    have h2 : (0 : Int) ≤ -1 + (ds.length : Nat) := by omega
    first
      | (rw [if_neg h1, if_pos h2]; congr 1; omega)
      | (simp only [h1, if_false]; split <;> first | (congr 1; omega) | omega)
  have e2 : atI ds (-1) = some x := by
    unfold atI
    rw [e1]
    rw [List.getLast?_eq_getElem?] at hx
    exact hx
  simp [ixD, lkD, dkq, dtq, sq, lsq, e2]
theorem pairs_ok {b c n P sh : Nat} {ord : List Nat} {x1 x6 x7 x8 : Option D} (hn : n ≤ 16) (n1 : 1 ≤ n) (hw : sh < 8) (ol : ord.length = n) (hb : Bg h b c) (hc : c < 800000) (eP : h[P]? = some (.lst [])) (hbP : b ≠ P) :
    ∃ (PL : List Ed) (y6 : Option D) (h' : DH), forE (rng2 (ac (ct (.int 1)) (ac (vr 3) an))) (.nm 6) (pairBody K) [some (.ref b), x1, some (.int sh), some (.int n), some (.lst (ord.map iD)), some (.ref P), x6, x7, x8] h
        = .nx [some (.ref b), x1, some (.int sh), some (.int n), some (.lst (ord.map iD)), some (.ref P), y6, x7, x8] h' ∧
      Tree ord PL (n - 1) ∧ (∀ e ∈ PL, e.1 ∈ ord ∧ e.2 ∈ ord) ∧ PL.length ≤ cap (n - 1) ∧ h'[P]? = some (.lst (PL.map eD)) ∧ Bg h' b (c + (n - 1)) ∧ h'.length = h.length ∧ ∀ j, j ≠ b → j ≠ P → h'[j]? = h[j]? := by
  have it : rng2 (ac (ct (.int 1)) (ac (vr 3) an)) [some (.ref b), x1, some (.int sh), some (.int n), some (.lst (ord.map iD)), some (.ref P), x6, x7, x8] h = .ok (rgI 1 n) h := by
    unfold rng2
    simp only [ev_ac, ev_ct, ev_vrS, ev_vr0, ev_an, bd_ok]
    exact if_pos ⟨by unfold smR; omega, by unfold smR; omega⟩
  have il : (rgI 1 (n : Int)).items.length = n - 1 := by unfold rgI; simp
  obtain ⟨e2, h2, lp, PL, y6, rfl, tr, mem, len, eP', bg, ln, kp⟩ := for_g (t := .nm 6) (body := pairBody K)
    (fun j e g => ∃ (PL : List Ed) (y6 : Option D), e = [some (.ref b), x1, some (.int sh), some (.int n), some (.lst (ord.map iD)), some (.ref P), y6, x7, x8] ∧ Tree ord PL j ∧ (∀ e ∈ PL, e.1 ∈ ord ∧ e.2 ∈ ord) ∧ PL.length ≤ cap j ∧
      g[P]? = some (.lst (PL.map eD)) ∧ Bg g b (c + j) ∧ g.length = h.length ∧ ∀ j, j ≠ b → j ≠ P → g[j]? = h[j]?)
    it ⟨[], x6, rfl, fun q a b => by omega, by simp, by simp, eP, hb, rfl, fun _ _ _ => rfl⟩ (fun _ _ _ _ => so_nil) (fun j e g d hI hd => by
      obtain ⟨PL, y6, rfl, tr, mem, len, eP, bg, ln, kp⟩ := hI
      have jn := (List.getElem?_eq_some_iff.mp hd).1
      rw [il] at jn
      obtain ⟨_, rfl⟩ := range_get (lo := 1) (n := ((n : Int) - 1).toNat) hd
      have ek : (1 : Int) + (j : Int) = ((j + 1 : Nat) : Int) := by omega
      rw [ek]
      have cl := cap_le (j := j) (by omega)
      obtain ⟨PL', g', f, ⟨p, lp, a, d, o1, o2, m⟩, sub, sup, ln2, eP', bg', r4, r5⟩ := pair_turn (K := K) (x1 := x1) (x7 := x7) (x8 := x8) (k := j + 1) hn (by omega) (by omega) hw ol bg (by omega) eP hbP (by omega)
      refine ⟨_, _, g', rfl, .inl f, PL', some (.int ((j + 1 : Nat) : Int)), rfl, fun q a1 a2 => ?_, fun e he => ?_, by show _ ≤ cap j + j + 2; omega, eP', bg', by omega, fun i hib hiP => (r5 i hib hiP).trans (kp i hib hiP)⟩
      · by_cases hq : q ≤ j
        · exact tr.mono sub q a1 hq
        · obtain rfl : q = j + 1 := by omega
          exact ⟨p, lp, a, d, o1, o2, m⟩
      · rcases sup e he with he | he
        · exact mem e he
        · exact he)
  rw [il] at tr len bg
  exact ⟨PL, y6, h2, lp, tr, mem, len, eP', bg, ln, kp⟩
/-- a ring is closed -/
theorem ring_ok {b c n P sh : Nat} {ord : List Nat} {PL : List Ed} {x0 x1 x3 x6 x7 x8 : Option D} (n1 : 1 ≤ n) (ol : ord.length = n) (hb : Bg h b c) (eP : h[P]? = some (.lst (PL.map eD))) (hl : PL.length ≤ 1000) (hbP : b ≠ P) (mem : ∀ e ∈ PL, e.1 ∈ ord ∧ e.2 ∈ ord) :
    ∃ (PL' : List Ed) (h' : DH), ife (tv (o2 eqD (vr 2) (ct (.int 1)))) (drp (mth lstK appendD (vr 5) (ac (oA mkT (ac (o2 ixD (vr 4) (ct (.int 0))) (ac (o2 ixD (vr 4) (o1 negD (ct (.int 1)))) an))) an))) skp
        [x0, x1, some (.int sh), x3, some (.lst (ord.map iD)), some (.ref P), x6, x7, x8] h = .nx [x0, x1, some (.int sh), x3, some (.lst (ord.map iD)), some (.ref P), x6, x7, x8] h' ∧
      (∀ e ∈ PL, e ∈ PL') ∧ (∀ e ∈ PL', e.1 ∈ ord ∧ e.2 ∈ ord) ∧ PL'.length ≤ PL.length + 1 ∧ h'[P]? = some (.lst (PL'.map eD)) ∧ Bg h' b c ∧ h'.length = h.length ∧ ∀ j, j ≠ b → j ≠ P → h'[j]? = h[j]? := by
  have q1 : ∀ g, eqD (.int (sh : Int)) (.int 1) g = .ok (.bl (decide (sh = 1))) g := fun g => by
    rw [ev_eqI]
    congr 2
    exact decide_eq_decide.mpr (by omega)
  by_cases w : sh = 1
  · have d1 : decide (sh = 1) = true := decide_eq_true w
    obtain ⟨a, r, eo⟩ : ∃ a r, ord = a :: r := List.exists_cons_of_length_pos (by omega)
    obtain ⟨z, ez⟩ : ∃ z, ord.getLast? = some z := by rw [eo]; exact ⟨_, List.getLast?_eq_some_getLast (by simp)⟩
    have i0 : ixD (.lst (ord.map iD)) (.int 0) h = .ok (iD a) h := ev_ixL (i := 0) (by rw [eo]; rfl)
    have i1 : ixD (.lst (ord.map iD)) (.int (-1)) h = .ok (iD z) h := ev_lastL (by rw [List.getLast?_map, ez]; rfl)
    have mt : mkT [iD a, iD z] h = .ok (eD (a, z)) h := ev_mkT (by simp)
    have ap : appendD (.ref P) [eD (a, z)] h = .ok .non (h.set P (.lst ((PL ++ [(a, z)]).map eD))) := by
      rw [ev_app eP (by rw [List.length_map]; omega)]
      simp
    refine ⟨PL ++ [(a, z)], h.set P (.lst ((PL ++ [(a, z)]).map eD)), ?_, fun e he => by simp [he], fun e he => ?_, by simp, get_set (lt_of eP), hb.set (Ne.symm hbP), List.length_set, fun j hjb hjP => by rw [List.getElem?_set_ne (Ne.symm hjP)]⟩
    · simp -implicitDefEqProofs only [ev_ife, ev_tv, ev_o2, ev_vrS, ev_vr0, ev_ct, bd_ok, q1, d1, ev_tst, ev_bs_ok, if_true, ev_drp, ev_mth, ev_lstK eP, ev_ac, ev_oA, i0, ev_o1, ev_neg, i1, ev_an, mt, ap]
    · rcases List.mem_append.mp he with he | he
      · exact mem e he
      · rw [List.mem_singleton.mp he]
        exact ⟨by rw [eo]; exact List.mem_cons_self, List.mem_of_getLast? ez⟩
  · have d1 : decide (sh = 1) = false := decide_eq_false w
    refine ⟨PL, h, ?_, fun e he => he, mem, by omega, eP, hb, rfl, fun _ _ _ => rfl⟩
    simp -implicitDefEqProofs only [ev_ife, ev_tv, ev_o2, ev_vrS, ev_vr0, ev_ct, bd_ok, q1, d1, ev_tst, ev_bs_ok, Bool.false_eq_true, if_false, ev_skp]
theorem more_ok {b c n P sh : Nat} {ord : List Nat} {PL : List Ed} {x1 x4 x6 x7 x8 : Option D} (hn : n ≤ 16) (n1 : 1 ≤ n) (hw : sh < 8) (pm : ord.Perm (List.range n)) (hb : Bg h b c) (hc : c < 800000) (eP : h[P]? = some (.lst (PL.map eD))) (hl : PL.length ≤ 900)
    (hbP : b ≠ P) (mem : ∀ e ∈ PL, e.1 ∈ ord ∧ e.2 ∈ ord) :
    ∃ (PL' : List Ed) (y6 : Option D) (h' : DH), forE (rng1 (ac (o2 ixD (oA (mkL false) (ac (ct (.int 0)) (ac (o2 (addD false) (o2 fdivD (vr 3) (ct (.int 2))) (ct (.int 1))) (ac (o2 (mulD false) (ct (.int 3)) (vr 3)) an)))) (oA max2D (ac (ct (.int 0)) (ac (o2 subD (vr 2) (ct (.int 5))) an)))) an)) (.nm 6) (drp (mth lstK appendD (vr 5) (ac (oA mkT (ac (cll 2 (G_law_take K) (ac (vr 0) (ac (vr 3) an))) (ac (cll 2 (G_law_take K) (ac (vr 0) (ac (vr 3) an))) an))) an)))
        [some (.ref b), x1, some (.int sh), some (.int n), x4, some (.ref P), x6, x7, x8] h = .nx [some (.ref b), x1, some (.int sh), some (.int n), x4, some (.ref P), y6, x7, x8] h' ∧
      (∀ e ∈ PL, e ∈ PL') ∧ (∀ e ∈ PL', e.1 ∈ ord ∧ e.2 ∈ ord) ∧ PL'.length ≤ PL.length + 48 ∧ h'[P]? = some (.lst (PL'.map eD)) ∧ Bg h' b (c + 100) ∧ h'.length = h.length ∧ ∀ j, j ≠ b → j ≠ P → h'[j]? = h[j]? := by
  have om : ∀ z, z < n → z ∈ ord := fun z hz => pm.mem_iff.mpr (List.mem_range.mpr hz)
  have m3 : mulD false (.int 3) (.int (n : Int)) h = .ok (.int (3 * n)) h := ev_mul ⟨Sm.smal (by unfold Sm; omega), Sm.smal (by unfold Sm; omega)⟩
  have dv : fdivD (.int (n : Int)) (.int 2) h = .ok (.int ((n : Int) / 2)) h := ev_div ⟨by decide, by decide⟩
  have mk : mkL false [.int 0, .int ((n : Int) / 2 + 1), .int (3 * n)] h = .ok (.lst [.int 0, .int ((n : Int) / 2 + 1), .int (3 * n)]) h := ev_mkF (by simp)
  obtain ⟨r, er, hr⟩ : ∃ r : Nat, bd (max2D [.int 0, .int ((sh : Int) - 5)] h) (fun i h1 => ixD (.lst [.int 0, .int ((n : Int) / 2 + 1), .int (3 * n)]) i h1) = .ok (.int r) h ∧ r ≤ 48 := by
    rw [ev_max]
    have hh : max (0 : Int) ((sh : Int) - 5) = ((sh - 5 : Nat) : Int) := by omega
    have : sh - 5 = 0 ∨ sh - 5 = 1 ∨ sh - 5 = 2 := by omega
    rw [hh, bd_ok]
    rcases this with q | q | q
    · rw [q]; exact ⟨0, ev_ixL (i := 0) rfl, by omega⟩
    · rw [q]; exact ⟨n / 2 + 1, ev_ixL (i := 1) (by show some (D.int ((n : Int) / 2 + 1)) = some (D.int ((n / 2 + 1 : Nat) : Int)); congr 2), by omega⟩
    · rw [q]; exact ⟨3 * n, ev_ixL (i := 2) (by show some (D.int (3 * (n : Int))) = some (D.int ((3 * n : Nat) : Int)); congr 2), by omega⟩
  have it : rng1 (ac (o2 ixD (oA (mkL false) (ac (ct (.int 0)) (ac (o2 (addD false) (o2 fdivD (vr 3) (ct (.int 2))) (ct (.int 1))) (ac (o2 (mulD false) (ct (.int 3)) (vr 3)) an)))) (oA max2D (ac (ct (.int 0)) (ac (o2 subD (vr 2) (ct (.int 5))) an)))) an)
      [some (.ref b), x1, some (.int sh), some (.int n), x4, some (.ref P), x6, x7, x8] h = .ok (rgI 0 r) h := by
    refine ev_rng1 ?_ (by unfold smR; omega)
    simp -implicitDefEqProofs only [ev_ac, ev_o2, ev_oA, ev_vr0, ev_vrS, ev_ct, bd_ok, dv, ev_add, m3, mk, ev_sub, ev_an, er]
  have il : (rgI 0 (r : Int)).items.length = r := by unfold rgI; simp
  obtain ⟨e2, h2, lp, PL', y6, rfl, sub, mem', len, eP', bg, ln, kp⟩ := for_g (t := .nm 6) (body := drp (mth lstK appendD (vr 5) (ac (oA mkT (ac (cll 2 (G_law_take K) (ac (vr 0) (ac (vr 3) an))) (ac (cll 2 (G_law_take K) (ac (vr 0) (ac (vr 3) an))) an))) an)))
    (fun j e g => ∃ (PL' : List Ed) (y6 : Option D), e = [some (.ref b), x1, some (.int sh), some (.int n), x4, some (.ref P), y6, x7, x8] ∧ (∀ e ∈ PL, e ∈ PL') ∧ (∀ e ∈ PL', e.1 ∈ ord ∧ e.2 ∈ ord) ∧ PL'.length = PL.length + j ∧ g[P]? = some (.lst (PL'.map eD)) ∧ Bg g b (c + 2 * j) ∧ g.length = h.length ∧ ∀ j, j ≠ b → j ≠ P → g[j]? = h[j]?)
    it ⟨PL, x6, rfl, fun _ h => h, mem, rfl, eP, hb, rfl, fun _ _ _ => rfl⟩ (fun _ _ _ _ => so_nil) (fun j e g d hI hd => by
      obtain ⟨PL', y6, rfl, sub, mem', len, eP', bg, ln, kp⟩ := hI
      have jn := (List.getElem?_eq_some_iff.mp hd).1
      rw [il] at jn
      obtain ⟨a, ga, fa, la, ba, sa⟩ := take (K := K) (m := (n : Int)) bg (by omega) (by omega) (by omega)
      obtain ⟨z, gz, fz, lz, bz, sz⟩ := take (K := K) (m := (n : Int)) ba (by omega) (by omega) (by omega)
      have eP2 : gz[P]? = some (.lst (PL'.map eD)) := by rw [sz.2 P (Ne.symm hbP), sa.2 P (Ne.symm hbP)]; exact eP'
      have mt : mkT [iD a, iD z] gz = .ok (eD (a, z)) gz := ev_mkT (by simp)
      have ap : appendD (.ref P) [eD (a, z)] gz = .ok .non (gz.set P (.lst ((PL' ++ [(a, z)]).map eD))) := by
        rw [ev_app eP2 (by rw [List.length_map]; omega)]
        simp
      refine ⟨_, [some (.ref b), x1, some (.int sh), some (.int n), x4, some (.ref P), some d, x7, x8], gz.set P (.lst ((PL' ++ [(a, z)]).map eD)), rfl, .inl ?_, PL' ++ [(a, z)], some d, rfl, fun e he => List.mem_append_left _ (sub e he), fun e he => ?_, by simp; omega, get_set (lt_of eP2),
        (bz.le (by omega)).set (Ne.symm hbP), by rw [List.length_set, sz.1, sa.1]; exact ln, fun i hib hiP => by rw [List.getElem?_set_ne (Ne.symm hiP), sz.2 i hib, sa.2 i hib]; exact kp i hib hiP⟩
      · simp -implicitDefEqProofs only [List.set_cons_succ, List.set_cons_zero, ev_drp, ev_mth, ev_vrS, ev_vr0, bd_ok, ev_lstK eP', if_true, ev_ac, ev_oA, ev_cll, ev_an, List.length_cons, List.length_nil, fa, fz, mt, ap, ev_bs_ok]
      · rcases List.mem_append.mp he with he | he
        · exact mem' e he
        · rw [List.mem_singleton.mp he]
          exact ⟨om a (by omega), om z (by omega)⟩)
  rw [il] at len bg
  exact ⟨PL', y6, h2, lp, sub, mem', by omega, eP', bg.le (by omega), ln, kp⟩
theorem net_ok {b c most : Nat} (hb : Bg h b c) (hc : c ≤ 700000) (m1 : 1 ≤ most) (m16 : most ≤ 16) : ∃ (n : Nat) (E : List Ed) (h' : DH), G_law_net K [.ref b, .int most] h = .ok (netD n E) h' ∧ Net n E ∧ n ≤ most ∧ E.length ≤ 200 ∧ Bg h' b (c + 150) ∧ Grow b h h' := by
  obtain ⟨sh, h1, e1, l1, b1, s1⟩ := take (K := K) (m := 8) hb (by omega) (by decide) (by decide)
  obtain ⟨r, h2, e2, l2, b2, s2⟩ := take (K := K) (m := (most : Int)) b1 (by omega) (by omega) (by omega)
  obtain ⟨n, en⟩ : ∃ n, n = 1 + r := ⟨_, rfl⟩
  have n1 : 1 ≤ n := by omega
  have n16 : n ≤ 16 := by omega
  have ea : (1 : Int) + (r : Int) = (n : Int) := by omega
  have rg : ∀ (x1 x2 x4 x5 x6 x7 x8 : Option D), lrg false (vr 3) [some (.ref b), x1, x2, some (.int n), x4, x5, x6, x7, x8] h2 = .ok (.lst ((List.range n).map iD)) h2 := fun _ _ _ _ _ _ _ => lrg_ok (by omega) rfl
  obtain ⟨ord, h3, e3, pm, b3, g3⟩ := mixed_ok (K := K) iD (xs := List.range n) b2 (by omega) (by rw [List.length_range]; omega)
  rw [List.length_range] at b3
  have ol : ord.length = n := by rw [pm.length_eq, List.length_range]
  obtain ⟨P, eP⟩ : ∃ P, P = h3.length := ⟨_, rfl⟩
  have mk2 : mkL true [] h3 = .ok (.ref P) (h3 ++ [.lst []]) := by rw [eP]; exact ev_mkO (by simp)
  have bP : b ≠ P := by have := b3.lt; omega
  obtain ⟨PL, y6, h5, e5, tr, mem, len, p5, b5, l5, k5⟩ := pairs_ok (K := K) (h := h3 ++ [Dt.O.lst []]) (P := P) (sh := sh) (x1 := some (.int most)) (x6 := none) (x7 := none) (x8 := none) n16 n1 (by omega) ol b3.app (by omega) (by rw [eP]; exact get_new) bP
  have cl := cap_le (j := n - 1) (by omega)
  obtain ⟨PL6, h6, e6, sub6, mem6, len6, p6, b6, l6, k6⟩ := ring_ok (h := h5) (P := P) (sh := sh) (x0 := some (.ref b)) (x1 := some (.int most)) (x3 := some (.int n)) (x6 := y6) (x7 := none) (x8 := none) n1 ol b5 p5 (by omega) bP mem
  obtain ⟨PL7, z6, h7, e7, sub7, mem7, len7, p7, b7, l7, k7⟩ := more_ok (K := K) (h := h6) (P := P) (sh := sh) (x1 := some (.int most)) (x4 := some (.lst (ord.map iD))) (x6 := y6) (x7 := none) (x8 := none) n16 n1 (by omega) pm b6 (by omega) p6 (by omega) bP mem6
  have tr7 : Tree ord PL7 (n - 1) := (tr.mono sub6).mono sub7
  have lc : lcE (isq (vr 5)) (.nm 8) (tv (o2 neD (o2 ixD (vr 8) (ct (.int 0))) (o2 ixD (vr 8) (ct (.int 1))))) (oA mkT (ac (oA minqD (ac (vr 8) an)) (ac (oA maxqD (ac (vr 8) an)) an))) [8]
      [some (.ref b), some (.int most), some (.int sh), some (.int n), some (.lst (ord.map iD)), some (.ref P), z6, none, none] h7 = .ok (.lst (((PL7.filter fun e => decide (e.1 ≠ e.2)).map pk2).map zT)) h7 := by
    rw [List.map_map]
    refine ev_lcp (t := .nm 8) eD _ (fun e => decide (e.1 ≠ e.2)) PL7 (it := ⟨[(P, PL7.map eD)], PL7.map eD⟩) (by simp only [ev_isq, ev_vrS, ev_vr0, bd_ok]; exact ev_sqR p7) (so_one p7) rfl (fun e _ => ⟨_, rfl, ?_, fun _ => ?_⟩) (by omega)
    · have i0 : ixD (eD e) (.int 0) h7 = .ok (iD e.1) h7 := ev_ixT (i := 0) rfl
      have i1 : ixD (eD e) (.int 1) h7 = .ok (iD e.2) h7 := ev_ixT (i := 1) rfl
      simp only [wipD, List.set_cons_succ, List.set_cons_zero, ev_tv, ev_o2, ev_vrS, ev_vr0, ev_ct, bd_ok, i0, i1, ev_neI, ev_tst]
      congr 1
      by_cases hh : e.1 = e.2
      · simp [hh]
      · have : ¬ ((e.1 : Int) = (e.2 : Int)) := by omega
        simp [hh, this]
    · have i0 : minqD [eD e] h7 = .ok (.int (([(e.2 : Int)] : List Int).foldl min (e.1 : Int))) h7 := ev_minq (n := (e.1 : Int)) (ns := [(e.2 : Int)])
      have i1 : maxqD [eD e] h7 = .ok (.int (([(e.2 : Int)] : List Int).foldl max (e.1 : Int))) h7 := ev_maxq (n := (e.1 : Int)) (ns := [(e.2 : Int)])
      have j0 : ([(e.2 : Int)] : List Int).foldl min (e.1 : Int) = ((min e.1 e.2 : Nat) : Int) := by show min (e.1 : Int) (e.2 : Int) = _; omega
      have j1 : ([(e.2 : Int)] : List Int).foldl max (e.1 : Int) = ((max e.1 e.2 : Nat) : Int) := by show max (e.1 : Int) (e.2 : Int) = _; omega
      rw [j0] at i0
      rw [j1] at i1
      simp only [wipD, List.set_cons_succ, List.set_cons_zero, ev_oA, ev_ac, ev_vrS, ev_vr0, ev_an, bd_ok, i0, i1]
      exact ev_mkT (by simp)
  have fl : ((PL7.filter fun e => decide (e.1 ≠ e.2)).map pk2).length ≤ 200 := by
    rw [List.length_map]
    have := List.length_filter_le (fun e : Ed => decide (e.1 ≠ e.2)) PL7
    omega
  have ss : sortsetD false (.lst (((PL7.filter fun e => decide (e.1 ≠ e.2)).map pk2).map zT)) h7 = .ok (.lst ((edges PL7).map eD)) h7 := by
    rw [ev_sortset rfl fl (fun k hk => by obtain ⟨e, _, rfl⟩ := List.mem_map.mp hk; simp [pk2]), ev_mkF (by
      have := len_sset (ks := (PL7.filter fun e => decide (e.1 ≠ e.2)).map pk2)
      rw [List.length_map]; omega), edges_d]
  have el : (edges PL7).length ≤ 200 := by
    unfold edges
    rw [List.length_map]
    exact Nat.le_trans len_sset fl
  have tt : tupleD [.lst ((edges PL7).map eD)] h7 = .ok (.tup ((edges PL7).map eD)) h7 := ev_mkT (by rw [List.length_map]; omega)
  have fin : mkT [.int (n : Int), .tup ((edges PL7).map eD)] h7 = .ok (netD n (edges PL7)) h7 := ev_mkT (by simp)
  have l3 := g3.1
  refine ⟨n, edges PL7, h7, raw_of ?_, edges_net n1 n16 pm mem7 tr7, by omega, el, b7.le (by omega), ?_⟩
  · rw [show startD N_law_net [.ref b, .int most] = [some (.ref b), some (.int most), none, none, none, none, none, none, none] from rfl]
    unfold pairBody at e5
    unfold b_law_net
    simp -implicitDefEqProofs only [ev_seq, ev_asg, ev_cll, ev_ac, ev_vrS, ev_vr0, ev_ct, ev_an, bd_ok, List.length_cons, List.length_nil, if_true, e1, ev_bs_ok, List.set_cons_succ, List.set_cons_zero, ev_sq_nx, ev_o2, e2, ev_add, ea, rg, e3, ev_oA, mk2]
    rw [e5]
    simp -implicitDefEqProofs only [ev_sq_nx]
    rw [ev_seq, e6]
    simp -implicitDefEqProofs only [ev_sq_nx]
    rw [ev_seq, e7]
    simp -implicitDefEqProofs only [ev_sq_nx, ev_ret, ev_oA, ev_ac, ev_vrS, ev_vr0, ev_o1, lc, bd_ok, ss, ev_an, tt, fin, ev_bs_ok]
  · have g12 : Grow b h h3 := (s1.grow.trans s2.grow).trans g3
    refine g12.trans ⟨by rw [l7, l6, l5]; simp, fun j hj hjb => ?_⟩
    rw [k7 j hjb (by omega), k6 j hjb (by omega), k5 j hjb (by omega), List.getElem?_append_left hj]
end B
namespace A
open PySem PySem.Spec PyProof.Rows L2 Dt
abbrev N_is_whole : List Str := ["thing"]
noncomputable def b_is_whole (K : PySem.W.Frag) : SF :=
  (ret (eandT (oA isiD (ac (vr 0) (ac (ct (.con (.ty "int"))) an))) (enot (oA isiD (ac (vr 0) (ac (ct (.con (.ty "bool"))) an))))))
noncomputable def G_is_whole (K : PySem.W.Frag) : FD := raw N_is_whole (b_is_whole K)
abbrev N_are_rising : List Str := ["some", "one", "other"]
noncomputable def b_are_rising (K : PySem.W.Frag) : SF :=
  (ret (oA allD (ac (lcE (zipX (ac (vr 0) (ac (esl false (vr 0) (ps (ct (.int 1))) pn) an))) (.tp [(.nm 1), (.nm 2)]) tyes (o2 ltD (vr 1) (vr 2)) [1, 2]) an)))
noncomputable def G_are_rising (K : PySem.W.Frag) : FD := raw N_are_rising (b_are_rising K)
abbrev N_is_hand : List Str := ["hands", "thing"]
noncomputable def b_is_hand (K : PySem.W.Frag) : SF :=
  (ret (eandT (cll 1 (G_is_whole K) (ac (vr 1) an)) (och leD ltD (ct (.int 0)) (vr 1) (vr 0))))
noncomputable def G_is_hand (K : PySem.W.Frag) : FD := raw N_is_hand (b_is_hand K)
abbrev N_is_edge : List Str := ["hands", "thing"]
noncomputable def b_is_edge (K : PySem.W.Frag) : SF :=
  (seq (ife (tor (tnot (tv (oA isiD (ac (vr 1) (ac (ct (.con (.ty "tuple"))) an))))) (tv (o2 neD (oA lenD (ac (vr 1) an)) (ct (.int 2))))) (ret (ct (.bl false))) skp)
    (ret (eandT (cll 2 (G_is_hand K) (ac (vr 0) (ac (o2 ixD (vr 1) (ct (.int 0))) an))) (eandT (cll 2 (G_is_hand K) (ac (vr 0) (ac (o2 ixD (vr 1) (ct (.int 1))) an))) (o2 ltD (o2 ixD (vr 1) (ct (.int 0))) (o2 ixD (vr 1) (ct (.int 1))))))))
noncomputable def G_is_edge (K : PySem.W.Frag) : FD := raw N_is_edge (b_is_edge K)
abbrev N_beside : List Str := ["net", "hands", "edges", "found", "hand", "one", "other"]
noncomputable def b_beside (K : PySem.W.Frag) : SF :=
  (seq (asg (vr 0) (.tp [(.nm 1), (.nm 2)]))
    (seq (asg (lcE (rng1 (ac (vr 1) an)) (.nm 4) tyes (oA (mkL true) an) [4]) (.nm 3))
    (seq (forE (isq (vr 2)) (.tp [(.nm 5), (.nm 6)]) (seq (drp (mth lstK appendD (o2 ixD (vr 3) (vr 5)) (ac (vr 6) an)))
    (drp (mth lstK appendD (o2 ixD (vr 3) (vr 6)) (ac (vr 5) an)))))
    (ret (vr 3)))))
noncomputable def G_beside (K : PySem.W.Frag) : FD := raw N_beside (b_beside K)
abbrev N_reached : List Str := ["lists", "hand", "within", "found", "row", "at", "other"]
noncomputable def b_reached (K : PySem.W.Frag) : SF :=
  (seq (asg (dspE true [((vr 1), (ct (.int 0)))]) (.nm 3))
    (seq (asg (oA (mkL true) (ac (vr 1) an)) (.nm 4))
    (seq (asg (ct (.int 0)) (.nm 5))
    (seq (whF (tv (o2 ltD (vr 5) (oA lenD (ac (vr 4) an)))) (seq (forE (isq (o2 ixD (vr 0) (o2 ixD (vr 4) (vr 5)))) (.nm 6) (ife (tand (tv (o2 inD (vr 6) (vr 2))) (tv (o2 ninD (vr 6) (vr 3)))) (seq (setD (vr 3) (vr 6) (o2 (addD false) (o2 ixD (vr 3) (o2 ixD (vr 4) (vr 5))) (ct (.int 1))))
    (drp (mth lstK appendD (vr 4) (ac (vr 6) an)))) skp))
    (augN 5 (ct (.int 1)) addI)) many)
    (ret (vr 3))))))
noncomputable def G_reached (K : PySem.W.Frag) : FD := raw N_reached (b_reached K)
abbrev N_is_net : List Str := ["thing", "hands", "edges", "edge"]
noncomputable def b_is_net (K : PySem.W.Frag) : SF :=
  (seq (ife (tor (tnot (tv (oA isiD (ac (vr 0) (ac (ct (.con (.ty "tuple"))) an))))) (tv (o2 neD (oA lenD (ac (vr 0) an)) (ct (.int 2))))) (ret (ct (.bl false))) skp)
    (seq (asg (vr 0) (.tp [(.nm 1), (.nm 2)]))
    (seq (ife (tor (tnot (tv (cll 1 (G_is_whole K) (ac (vr 1) an)))) (tor (tnot (tv (och leD leD (ct (.int 1)) (vr 1) (ct (.int 16))))) (tnot (tv (oA isiD (ac (vr 2) (ac (ct (.con (.ty "tuple"))) an))))))) (ret (ct (.bl false))) skp)
    (seq (ife (tor (tnot (tv (oA allD (ac (lcE (isq (vr 2)) (.nm 3) tyes (cll 2 (G_is_edge K) (ac (vr 1) (ac (vr 3) an))) [3]) an)))) (tnot (tv (cll 1 (G_are_rising K) (ac (vr 2) an))))) (ret (ct (.bl false))) skp)
    (ret (o2 eqD (oA lenD (ac (cll 3 (G_reached K) (ac (cll 1 (G_beside K) (ac (vr 0) an)) (ac (ct (.int 0)) (ac (lrg false (vr 1)) an)))) an)) (vr 1)))))))
noncomputable def G_is_net (K : PySem.W.Frag) : FD := raw N_is_net (b_is_net K)
end A
namespace A
open PySem PySem.Spec PyProof.Rows L2 Dt
variable {K : PySem.W.Frag} {h : DH} {fa fb : EF} {env : Env'}
theorem ev_eandT : eandT fa fb env h = bd (fa env h) fun a h1 => match truD h1 a with
  | some b => if b = true then fb env h1 else .ok a h1
  | none => .bad := rfl
theorem tru_bl {b : Bool} : truD h (.bl b) = some b := rfl
theorem ev_isiI {n : Int} : isiD [.int n, .con (.ty "int")] h = .ok (.bl true) h := rfl
theorem ev_isiB {n : Int} : isiD [.int n, .con (.ty "bool")] h = .ok (.bl false) h := rfl
theorem ev_isiT {ds : List D} : isiD [.tup ds, .con (.ty "tuple")] h = .ok (.bl true) h := rfl
theorem whole_ok {n : Int} : G_is_whole K [.int n] h = .ok (.bl true) h := by
  refine raw_of ?_
  rw [show startD N_is_whole [.int n] = [some (.int n)] from rfl]
  unfold b_is_whole
  simp -implicitDefEqProofs only [ev_ret, ev_eandT, ev_oA, ev_ac, ev_vr0, ev_ct, ev_an, bd_ok, ev_isiI, tru_bl, if_true, ev_enot, ev_isiB, ev_tst, Bool.not_false, ev_bs_ok]
theorem hand_ok {n k : Nat} (hk : k < n) : G_is_hand K [.int n, .int k] h = .ok (.bl true) h := by
  refine raw_of ?_
  rw [show startD N_is_hand [.int n, .int k] = [some (.int n), some (.int k)] from rfl]
  unfold b_is_hand
  have d1 : decide ((0 : Int) ≤ (k : Int)) = true := decide_eq_true (by omega)
  have d2 : decide ((k : Int) < (n : Int)) = true := decide_eq_true (by omega)
  simp -implicitDefEqProofs only [ev_ret, ev_eandT, ev_cll, ev_ac, ev_vr0, ev_vrS, ev_ct, ev_an, bd_ok, List.length_cons, List.length_nil, if_true, whole_ok, tru_bl, ev_och, ev_le, ev_lt, d1, d2, ev_tst, ev_bs_ok]
theorem edge_ok {n : Nat} {e : Ed} (he : e.1 < e.2 ∧ e.2 < n) : G_is_edge K [.int n, eD e] h = .ok (.bl true) h := by
  refine raw_of ?_
  rw [show startD N_is_edge [.int n, eD e] = [some (.int n), some (eD e)] from rfl]
  unfold b_is_edge
  have i0 : ixD (eD e) (.int 0) h = .ok (.int e.1) h := ev_ixT (i := 0) rfl
  have i1 : ixD (eD e) (.int 1) h = .ok (.int e.2) h := ev_ixT (i := 1) rfl
  have l0 : lenD [eD e] h = .ok (.int 2) h := rfl
  have t0 : isiD [eD e, .con (.ty "tuple")] h = .ok (.bl true) h := rfl
  have n0 : neD (.int 2) (.int 2) h = .ok (.bl false) h := by rw [ev_neI]; rfl
  have d2 : decide ((e.1 : Int) < (e.2 : Int)) = true := decide_eq_true (by omega)
  have a1 := hand_ok (K := K) (h := h) (n := n) (k := e.1) (by omega)
  have a2 := hand_ok (K := K) (h := h) (n := n) (k := e.2) (by omega)
  simp -implicitDefEqProofs only [ev_seq, ev_ife, ev_tor, ev_tnot, ev_tv, ev_ret, ev_eandT, ev_cll, ev_oA, ev_o2, ev_ac, ev_vr0, ev_vrS, ev_ct, ev_an, bd_ok, t0, l0, n0, ev_tst, Bool.not_true, Bool.false_eq_true, if_false, ev_bs_ok, ev_skp, ev_sq_nx, i0, i1, List.length_cons, List.length_nil, if_true, a1, a2, tru_bl, ev_lt, d2]
theorem ltE {a b : Ed} (l : eLt a b) : ltD (eD a) (eD b) h = .ok (.bl true) h := by
  have : HT.lexLt [(a.1 : Int), (a.2 : Int)] [(b.1 : Int), (b.2 : Int)] = true := by
    rcases l with l | ⟨l1, l2⟩
    · have : (a.1 : Int) < b.1 := by omega
      simp [HT.lexLt, this]
      omega
    · have h1 : (a.1 : Int) = b.1 := by omega
      have h2 : (a.2 : Int) < b.2 := by omega
      simp [HT.lexLt, h1, h2]
      omega
  show Rs.ok (D.bl (HT.lexLt [(a.1 : Int), (a.2 : Int)] [(b.1 : Int), (b.2 : Int)])) h = _
  rw [this]
theorem all_t {α : Type} {xs : List α} : allD [.lst (xs.map fun _ => D.bl true)] h = .ok (.bl true) h := by
  have e : (lsq h (.lst (xs.map fun _ => D.bl true))).bind toB = some (xs.map fun _ => true) := by
    show toB (xs.map fun _ => D.bl true) = _
    induction xs with
    | nil => rfl
    | cons x xs ih => simp only [List.map_cons, toB, ih]; rfl
  have e2 : (xs.map fun _ => true).all id = true := by simp
  simp only [allD, e, e2]
theorem pairs_asc : ∀ {E : List Ed}, E.Pairwise eLt → ∀ p ∈ E.zip (E.drop 1), eLt p.1 p.2
  | [], _ => by simp
  | [_], _ => by simp
  | a :: b :: E, pw => fun p hp => by
    have hp : p ∈ (a, b) :: (b :: E).zip ((b :: E).drop 1) := hp
    rcases List.mem_cons.mp hp with rfl | hp
    · exact (List.pairwise_cons.mp pw).1 b List.mem_cons_self
    · exact pairs_asc (List.pairwise_cons.mp pw).2 p hp
theorem rising_ok {E : List Ed} (pw : E.Pairwise eLt) (hl : E.length ≤ 1000) : G_are_rising K [.tup (E.map eD)] h = .ok (.bl true) h := by
  have c : cutD (E.map eD) (some 1) none = (E.drop 1).map eD := by
    cases E with
    | nil => rfl
    | cons e E => rw [List.map_cons, cut1]; rfl
  have sl : slD false (.tup (E.map eD)) (some 1) none h = .ok (.tup ((E.drop 1).map eD)) h := by
    show Rs.ok (D.tup (cutD (E.map eD) (some 1) none)) h = _
    rw [c]
  have zi : zipX (ac (vr 0) (ac (esl false (vr 0) (ps (ct (.int 1))) pn) an)) [some (.tup (E.map eD)), none, none] h = .ok ⟨[], (E.zip (E.drop 1)).map fun p => D.tup [eD p.1, eD p.2]⟩ h := by
    unfold zipX
    have sp : ∀ g, ps (ct (.int 1)) [some (.tup (E.map eD)), none, none] g = .ok (some 1) g := fun _ => rfl
    have sn : ∀ g, pn [some (.tup (E.map eD)), none, none] g = .ok none g := fun _ => rfl
    simp only [ev_ac, ev_vr0, bd_ok, ev_esl, sp, sn, sl, ev_an, zsrc]
    rw [List.zip_map, List.map_map]
    rfl
  have lc : lcE (zipX (ac (vr 0) (ac (esl false (vr 0) (ps (ct (.int 1))) pn) an))) (.tp [(.nm 1), (.nm 2)]) tyes (o2 ltD (vr 1) (vr 2)) [1, 2] [some (.tup (E.map eD)), none, none] h = .ok (.lst ((E.zip (E.drop 1)).map fun _ => D.bl true)) h := by
    refine ev_lcg (t := .tp [(.nm 1), (.nm 2)]) (fun p : Ed × Ed => D.tup [eD p.1, eD p.2]) _ (E.zip (E.drop 1)) zi so_nil rfl (fun p hp => ⟨_, rfl, ?_⟩) (by rw [List.length_zip]; omega)
    simp only [wipD, List.set_cons_succ, List.set_cons_zero, ev_o2, ev_vrS, ev_vr0, bd_ok]
    exact ltE (pairs_asc pw p hp)
  refine raw_of ?_
  rw [show startD N_are_rising [.tup (E.map eD)] = [some (.tup (E.map eD)), none, none] from rfl]
  unfold b_are_rising
  simp -implicitDefEqProofs only [ev_ret, ev_oA, ev_ac, lc, ev_an, bd_ok, all_t, ev_bs_ok]
end A
namespace A
open PySem PySem.Spec PyProof.Rows L2 Dt
variable {K : PySem.W.Frag} {h : DH} {env : Env'}
/-- the neighbours, as beside finds them -/
def adj : List Ed → Nat → List Nat
  | [], _ => []
  | e :: E, i => (if e.1 = i then [e.2] else []) ++ (if e.2 = i then [e.1] else []) ++ adj E i
theorem adj_app {E F : List Ed} {i : Nat} : adj (E ++ F) i = adj E i ++ adj F i := by
  induction E with
  | nil => rfl
  | cons e E ih => simp [adj, ih]
theorem adj_len {E : List Ed} {i : Nat} : (adj E i).length ≤ 2 * E.length := by
  induction E with
  | nil => simp [adj]
  | cons e E ih =>
    simp only [adj, List.length_append, List.length_cons]
    split <;> split <;> simp <;> omega
theorem mem_adj {E : List Ed} {i x : Nat} : x ∈ adj E i ↔ (i, x) ∈ E ∨ (x, i) ∈ E := by
  induction E with
  | nil => simp [adj]
  | cons e E ih =>
    obtain ⟨a, b⟩ := e
    simp only [adj, List.mem_append, ih, List.mem_cons, Prod.mk.injEq]
    constructor
    · rintro ((q | q) | q | q)
      · split at q
        · simp at q; subst q; rename_i z; exact .inl (.inl ⟨z.symm, rfl⟩)
        · simp at q
      · split at q
        · simp at q; subst q; rename_i z; exact .inr (.inl ⟨rfl, z.symm⟩)
        · simp at q
      · exact .inl (.inr q)
      · exact .inr (.inr q)
    · rintro ((⟨q, p⟩ | q) | (⟨q, p⟩ | q))
      · exact .inl (.inl (by subst q p; simp))
      · exact .inr (.inl q)
      · exact .inl (.inr (by subst q p; simp))
      · exact .inr (.inr q)
/-- the lists of neighbours, on the heap -/
structure Ls (h0 g : DH) (L n : Nat) (E : List Ed) : Prop where
  ls : ∀ i, i < n → g[L + i]? = some (.lst ((adj E i).map iD))
  kp : ∀ j, j < L → g[j]? = h0[j]?
abbrev refs (L n : Nat) : D := .lst ((List.range n).map fun i => D.ref (L + i))
theorem refs_of {L n : Nat} {ys : List D} (l : ys.length = n) (p : ∀ (j : Nat) y, ys[j]? = some y → y = D.ref (L + j)) : ys = (List.range n).map fun i => D.ref (L + i) := by
  refine List.ext_getElem? fun i => ?_
  by_cases hi : i < n
  · rw [List.getElem?_map, List.getElem?_range hi, List.getElem?_eq_getElem (by omega), p i _ (List.getElem?_eq_getElem (by omega))]
    rfl
  · rw [List.getElem?_eq_none (by omega), List.getElem?_eq_none (by simp; omega)]
theorem refs_ix {L n i : Nat} (hi : i < n) : ixD (refs L n) (.int i) h = .ok (.ref (L + i)) h := ev_ixL (by rw [List.getElem?_map, List.getElem?_range hi]; rfl)
theorem app_at {L i x : Nat} {g : DH} {ds : List Nat} (e : g[L + i]? = some (.lst (ds.map iD))) (hl : ds.length ≤ 1000) : appendD (.ref (L + i)) [.int x] g = .ok .non (g.set (L + i) (.lst ((ds ++ [x]).map iD))) := by
  rw [ev_app e (by rw [List.length_map]; omega)]
  simp
theorem beside_ok {n : Nat} {E : List Ed} (hn : n ≤ 16) (lt : ∀ e ∈ E, e.1 < e.2 ∧ e.2 < n) (hl : E.length ≤ 300) : ∃ h', G_beside K [netD n E] h = .ok (refs h.length n) h' ∧ Ls h h' h.length n E ∧ h'.length = h.length + n := by
  have it : rng1 (ac (vr 1) an) [some (netD n E), some (.int n), some (.tup (E.map eD)), none, none, none, none] h = .ok (rgI 0 n) h := ev_rng1 (by simp only [ev_ac, ev_vrS, ev_vr0, ev_an, bd_ok]) (by unfold smR; omega)
  have il : (rgI 0 (n : Int)).items.length = n := by unfold rgI; simp
  obtain ⟨ys, h1, e1, ly, py, l1, n1, k1⟩ := ev_lch (t := .nm 4) (vs := [4]) (fe := oA (mkL true) an) (fun j y => y = D.ref (h.length + j))
    (fun j g => g.length = h.length + j ∧ (∀ i, i < j → g[h.length + i]? = some (.lst [])) ∧ ∀ i, i < h.length → g[i]? = h[i]?) it ⟨rfl, by simp, fun _ _ => rfl⟩ (fun _ _ _ => so_nil) (fun j g d hI hd => by
      obtain ⟨a, b, c⟩ := hI
      have mk : mkL true [] g = .ok (.ref g.length) (g ++ [.lst []]) := ev_mkO (by simp)
      refine ⟨_, .ref (h.length + j), g ++ [.lst []], rfl, ?_, rfl, by simp [a]; omega, fun i hi => ?_, fun i hi => by rw [List.getElem?_append_left (by omega)]; exact c i hi⟩
      · rw [← a]
        simp only [ev_oA, ev_an, bd_ok, mk]
      · by_cases hij : i = j
        · rw [hij, ← a]; exact get_new
        · rw [List.getElem?_append_left (by omega)]; exact b i (by omega)) (by omega)
  rw [il] at ly l1 n1
  obtain rfl := refs_of ly py
  obtain ⟨e2, h2, lp, x5, x6, rfl, l2, n2, k2⟩ := for_g (t := .tp [(.nm 5), (.nm 6)]) (fi := isq (vr 2)) (h := h1) (env := [some (netD n E), some (.int n), some (.tup (E.map eD)), some (refs h.length n), none, none, none]) (it := ⟨[], E.map eD⟩)
    (body := (seq (drp (mth lstK appendD (o2 ixD (vr 3) (vr 5)) (ac (vr 6) an)))
    (drp (mth lstK appendD (o2 ixD (vr 3) (vr 6)) (ac (vr 5) an)))))
    (fun j e g => ∃ x5 x6, e = [some (netD n E), some (.int n), some (.tup (E.map eD)), some (refs h.length n), none, x5, x6] ∧ g.length = h.length + n ∧ (∀ i, i < n → g[h.length + i]? = some (.lst ((adj (E.take j) i).map iD))) ∧ ∀ i, i < h.length → g[i]? = h[i]?)
    rfl ⟨_, _, rfl, l1, fun i hi => by rw [n1 i hi]; rfl, k1⟩ (fun _ _ _ _ => so_nil) (fun j e g d hI hd => by
      obtain ⟨x5, x6, rfl, a, b, c⟩ := hI
      dsimp only at hd
      rw [List.getElem?_map] at hd
      obtain ⟨e, he, rfl⟩ := Option.map_eq_some_iff.mp hd
      have jl := (List.getElem?_eq_some_iff.mp he).1
      have tk : E.take (j + 1) = E.take j ++ [e] := by rw [List.take_add_one, he]; rfl
      obtain ⟨f1, f2⟩ := lt e (List.mem_of_getElem? he)
      have al : ∀ i, (adj (E.take j) i).length ≤ 600 := fun i => by
        have := adj_len (E := E.take j) (i := i)
        rw [List.length_take] at this
        omega
      have ap1 := app_at (x := e.2) (b e.1 (by omega)) (Nat.le_trans (al e.1) (by omega))
      obtain ⟨g1, eg1⟩ : ∃ g1, g1 = g.set (h.length + e.1) (.lst ((adj (E.take j) e.1 ++ [e.2]).map iD)) := ⟨_, rfl⟩
      rw [← eg1] at ap1
      have b2 : g1[h.length + e.2]? = some (.lst ((adj (E.take j) e.2).map iD)) := by rw [eg1, List.getElem?_set_ne (by omega)]; exact b e.2 f2
      have ap2 := app_at (x := e.1) b2 (Nat.le_trans (al e.2) (by omega))
      have k1 : lstK g (.ref (h.length + e.1)) = true := ev_lstK (b e.1 (by omega))
      have k2 : lstK g1 (.ref (h.length + e.2)) = true := ev_lstK b2
      refine ⟨[some (netD n E), some (.int n), some (.tup (E.map eD)), some (refs h.length n), none, some (iD e.1), some (iD e.2)], [some (netD n E), some (.int n), some (.tup (E.map eD)), some (refs h.length n), none, some (iD e.1), some (iD e.2)], g1.set (h.length + e.2) (.lst ((adj (E.take j) e.2 ++ [e.1]).map iD)), rfl, .inl ?_, _, _, rfl, by rw [List.length_set, eg1, List.length_set]; exact a, fun i hi => ?_, fun i hi => ?_⟩
      · have ix1 := refs_ix (h := g) (L := h.length) (n := n) (i := e.1) (by omega)
        have ix2 := refs_ix (h := g1) (L := h.length) (n := n) (i := e.2) f2
        simp only [ev_seq, ev_drp, ev_mth, ev_o2, ev_vrS, ev_vr0, bd_ok, ix1, k1, if_true, ev_ac, ev_an, ap1, ev_bs_ok, ev_sq_nx, ix2, k2, ap2]
      · rw [tk, adj_app]
        by_cases h2 : i = e.2
        · subst h2
          rw [List.getElem?_set_self (by rw [eg1, List.length_set]; omega)]
          simp [adj, show e.1 ≠ e.2 from by omega]
        · rw [List.getElem?_set_ne (by omega), eg1]
          by_cases h1 : i = e.1
          · subst h1
            rw [List.getElem?_set_self (by omega)]
            simp [adj, show e.2 ≠ e.1 from by omega]
          · rw [List.getElem?_set_ne (by omega), b i hi]
            simp [adj, show e.1 ≠ i from fun z => h1 z.symm, show e.2 ≠ i from fun z => h2 z.symm]
      · rw [List.getElem?_set_ne (by omega), eg1, List.getElem?_set_ne (by omega)]
        exact c i hi)
  rw [show (⟨[], E.map eD⟩ : ItD).items.length = E.length from List.length_map .., List.take_length] at n2
  refine ⟨h2, raw_of ?_, ⟨n2, k2⟩, l2⟩
  rw [show startD N_beside [netD n E] = [some (netD n E), none, none, none, none, none, none] from rfl]
  unfold b_beside
  have un : asg (vr 0) (.tp [(.nm 1), (.nm 2)]) [some (netD n E), none, none, none, none, none, none] h = .nx [some (netD n E), some (.int n), some (.tup (E.map eD)), none, none, none, none] h := rfl
  rw [ev_seq, un, ev_sq_nx, ev_seq, ev_asg, e1]
  simp only [ev_bs_ok, List.set_cons_succ, List.set_cons_zero, ev_sq_nx, ev_seq, lp, ev_ret, ev_vrS, ev_vr0]
end A
namespace A
open PySem PySem.Spec PyProof.Rows L2 Dt
variable {K : PySem.W.Frag} {h : DH}
/-- numbered, from k on -/
def en {α : Type} : Nat → List α → List (Nat × α)
  | _, [] => []
  | k, c :: cs => (k, c) :: en (k + 1) cs
theorem lk_miss {ks : List Key} {ds : List D} {x : Key} (n : x ∉ ks) : lk ks ds x = none := by
  induction ks generalizing ds with
  | nil => cases ds <;> rfl
  | cons k ks ih =>
    cases ds with
    | nil => rfl
    | cons d ds =>
      unfold lk
      rw [if_neg (fun (e : k = x) => n (e ▸ List.mem_cons_self))]
      exact ih fun m => n (List.mem_cons_of_mem _ m)
end A
namespace A
open PySem PySem.Spec PyProof.Rows L2 Dt
variable {K : PySem.W.Frag} {h : DH} {env : Env'}
abbrev nk (i : Nat) : Key := .inl (i : Int)
theorem mem_nk {row : List Nat} {x : Nat} : nk x ∈ row.map nk ↔ x ∈ row := by
  constructor
  · intro q
    obtain ⟨y, hy, e⟩ := List.mem_map.mp q
    injection e with e
    rw [show x = y from by omega]
    exact hy
  · exact fun q => List.mem_map_of_mem q
theorem lk_in : ∀ {row : List Nat} {vals : List Int} {x : Nat}, vals.length = row.length → x ∈ row → ∃ z, z ∈ vals ∧ lk (row.map nk) (vals.map D.int) (nk x) = some (.int z)
  | [], _, _, _, hx => by cases hx
  | r :: row, [], _, l, _ => by cases l
  | r :: row, v :: vals, x, l, hx => by
    by_cases e : r = x
    · subst e
      exact ⟨v, List.mem_cons_self, by simp [lk]⟩
    · rcases List.mem_cons.mp hx with q | q
      · exact absurd q.symm e
      · obtain ⟨z, hz, ez⟩ := lk_in (by simpa using l) q
        have : nk r ≠ nk x := fun z => by injection z with z; omega
        exact ⟨z, List.mem_cons_of_mem _ hz, by simp [lk, this]; exact ez⟩
theorem lk_out {row : List Nat} {ds : List D} {x : Nat} (hx : x ∉ row) : lk (row.map nk) ds (nk x) = none := lk_miss fun q => hx (mem_nk.mp q)
/-- where the search stands -/
structure Bf (h0 : DH) (L n : Nat) (E : List Ed) (F R : Nat) (g : DH) (row : List Nat) (vals : List Int) : Prop where
  f : g[F]? = some (.dk (row.map nk) (vals.map D.int))
  r : g[R]? = some (.lst (row.map iD))
  len : vals.length = row.length
  nd : row.Nodup
  lt : ∀ x ∈ row, x < n
  ls : ∀ i, i < n → g[L + i]? = some (.lst ((adj E i).map iD))
  ap : F ≠ R ∧ L + n ≤ F ∧ L + n ≤ R
  kp : ∀ j, j < L → g[j]? = h0[j]?
theorem nodup_len {row : List Nat} {n : Nat} (nd : row.Nodup) (lt : ∀ x ∈ row, x < n) : row.length ≤ n := by
  have := nd.length_le_of_subset (l₂ := List.range n) fun x hx => List.mem_range.mpr (lt x hx)
  simpa using this
theorem Bf.few {h0 g : DH} {L n F R : Nat} {E : List Ed} {row : List Nat} {vals : List Int} (b : Bf h0 L n E F R g row vals) : row.length ≤ n := nodup_len b.nd b.lt
theorem in_range {n x : Nat} (hx : x < n) : inD (.int x) (.lst ((List.range n).map iD)) h = .ok (.bl true) h := by
  have e : inB (.int x) (.lst ((List.range n).map iD)) h = some true := by
    have m : mapO fl ((List.range n).map iD) = some ((List.range n).map fun i : Nat => V.int (i : Int)) := mapO_map fun _ _ => rfl
    show (match fl (.int x), (sq h (.lst ((List.range n).map iD))).bind (mapO fl) with
      | some v, some vs => some (inV v vs)
      | _, _ => _) = _
    have s : (sq h (.lst ((List.range n).map iD))).bind (mapO fl) = some ((List.range n).map fun i : Nat => V.int (i : Int)) := m
    rw [s]
    show some (inV (V.int (x : Int)) ((List.range n).map fun i : Nat => V.int (i : Int))) = some true
    congr 1
    unfold inV
    rw [List.any_eq_true]
    exact ⟨V.int (x : Int), List.mem_map.mpr ⟨x, List.mem_range.mpr hx, rfl⟩, by simp [eqV]⟩
  unfold inD
  rw [e]
theorem lkD_dk {F : Nat} {ks : List Key} {ds : List D} {i : Int} (e : h[F]? = some (.dk ks ds)) : lkD h (.ref F) (.int i) = some (lk ks ds (.inl i)) := by
  unfold lkD
  simp only [dkq, e, Dt.keyOf]
theorem nin_dk {F : Nat} {row : List Nat} {vals : List Int} {x : Nat} (l : vals.length = row.length) (e : h[F]? = some (.dk (row.map nk) (vals.map D.int))) : ninD (.int x) (.ref F) h = .ok (.bl (!decide (x ∈ row))) h := by
  have e2 : inB (.int x) (.ref F) h = some (decide (x ∈ row)) := by
    show (match lkD h (.ref F) (.int x) with
      | some o => some o.isSome
      | none => _) = _
    rw [lkD_dk e]
    by_cases hx : x ∈ row
    · obtain ⟨z, _, ez⟩ := lk_in l hx
      simp only [ez, hx, decide_true]
      rfl
    · simp only [lk_out hx, hx, decide_false]
      rfl
  unfold ninD
  rw [e2]
theorem ix_dk {F : Nat} {row : List Nat} {vals : List Int} {x : Nat} (l : vals.length = row.length) (e : h[F]? = some (.dk (row.map nk) (vals.map D.int))) (hx : x ∈ row) : ∃ z, ixD (.ref F) (.int x) h = .ok (.int z) h := by
  obtain ⟨z, _, ez⟩ := lk_in l hx
  refine ⟨z, ?_⟩
  show (match lkD h (.ref F) (.int x) with
    | some (some d) => Rs.ok d h
    | some none => .bad
    | none => _) = _
  rw [lkD_dk e, ez]
noncomputable def seeBody : SF := (ife (tand (tv (o2 inD (vr 6) (vr 2))) (tv (o2 ninD (vr 6) (vr 3)))) (seq (setD (vr 3) (vr 6) (o2 (addD false) (o2 ixD (vr 3) (o2 ixD (vr 4) (vr 5))) (ct (.int 1))))
    (drp (mth lstK appendD (vr 4) (ac (vr 6) an)))) skp)
theorem see_turn {h0 g : DH} {L n F R k v x : Nat} {E : List Ed} {row : List Nat} {vals : List Int} {x0 x1 : Option D} (hn : n ≤ 16) (b : Bf h0 L n E F R g row vals) (hx : x < n) (hv : row[k]? = some v) :
    ∃ vals' g', seeBody [x0, x1, some (.lst ((List.range n).map iD)), some (.ref F), some (.ref R), some (.int k), some (.int x)] g
      = .nx [x0, x1, some (.lst ((List.range n).map iD)), some (.ref F), some (.ref R), some (.int k), some (.int x)] g' ∧ Bf h0 L n E F R g' (if x ∈ row then row else row ++ [x]) vals' ∧ g'.length = g.length := by
  have ir := in_range (h := g) hx
  have nr := nin_dk (h := g) (x := x) b.len b.f
  have few := b.few
  by_cases hm : x ∈ row
  · refine ⟨vals, g, ?_, by rw [if_pos hm]; exact b, rfl⟩
    rw [decide_eq_true hm] at nr
    unfold seeBody
    simp only [ev_ife, ev_tand, ev_tv, ev_o2, ev_vrS, ev_vr0, bd_ok, ir, ev_tst, if_true, nr, Bool.not_true, ev_bs_ok, Bool.false_eq_true, if_false, ev_skp]
  · rw [decide_eq_false hm] at nr
    have ix1 : ixD (.ref R) (.int k) g = .ok (.int v) g := ev_ixR b.r (by rw [List.getElem?_map, hv]; rfl)
    obtain ⟨z, ix2⟩ := ix_dk (h := g) b.len b.f (List.mem_of_getElem? hv)
    have pg : putG (row.map nk) (vals.map D.int) (nk x) (.int (z + 1)) = ((row ++ [x]).map nk, (vals ++ [z + 1]).map D.int) := by
      unfold putG
      rw [if_neg (fun q => hm (mem_nk.mp q))]
      simp
    have pd : putD (.ref F) (.int x) (.int (z + 1)) g = some (g.set F (.dk ((row ++ [x]).map nk) ((vals ++ [z + 1]).map D.int))) := by
      unfold putD
      simp only [b.f, Dt.keyOf]
      rw [if_pos (by rw [List.length_map]; omega), pg]
    obtain ⟨g1, eg1⟩ : ∃ g1, g1 = g.set F (.dk ((row ++ [x]).map nk) ((vals ++ [z + 1]).map D.int)) := ⟨_, rfl⟩
    rw [← eg1] at pd
    obtain ⟨fr, f1, f2⟩ := b.ap
    have r1 : g1[R]? = some (.lst (row.map iD)) := by rw [eg1, List.getElem?_set_ne fr]; exact b.r
    have ap : appendD (.ref R) [.int x] g1 = .ok .non (g1.set R (.lst ((row ++ [x]).map iD))) := by
      rw [ev_app r1 (by rw [List.length_map]; omega)]
      simp
    have k1 : lstK g1 (.ref R) = true := ev_lstK r1
    have fl := lt_of b.f
    have rl := lt_of b.r
    refine ⟨vals ++ [z + 1], g1.set R (.lst ((row ++ [x]).map iD)), ?_, ?_, by rw [List.length_set, eg1, List.length_set]⟩
    · unfold seeBody
      have sd : setD (vr 3) (vr 6) (o2 (addD false) (o2 ixD (vr 3) (o2 ixD (vr 4) (vr 5))) (ct (.int 1))) [x0, x1, some (.lst ((List.range n).map iD)), some (.ref F), some (.ref R), some (.int k), some (.int x)] g
          = .nx [x0, x1, some (.lst ((List.range n).map iD)), some (.ref F), some (.ref R), some (.int k), some (.int x)] g1 := by
        unfold setD
        simp only [ev_o2, ev_vrS, ev_vr0, ev_ct, bd_ok, ix1, ix2, ev_add, ev_bs_ok, pd]
      simp only [ev_ife, ev_tand, ev_tv, ev_o2, ev_vrS, ev_vr0, bd_ok, ir, ev_tst, if_true, nr, Bool.not_false, ev_bs_ok, ev_seq, sd, ev_sq_nx, ev_drp, ev_mth, k1, ev_ac, ev_an, ap]
    · rw [if_neg hm]
      refine ⟨?_, ?_, by simp [b.len], ?_, ?_, fun i hi => ?_, b.ap, fun j hj => ?_⟩
      · rw [List.getElem?_set_ne (Ne.symm fr), eg1]
        exact get_set fl
      · exact get_set (by rw [eg1, List.length_set]; exact rl)
      · exact List.nodup_append.mpr ⟨b.nd, by simp, fun a ha c hc e => by
          rw [List.mem_singleton.mp hc] at e
          exact hm (e ▸ ha)⟩
      · intro y hy
        rcases List.mem_append.mp hy with hy | hy
        · exact b.lt y hy
        · rw [List.mem_singleton.mp hy]; exact hx
      · rw [List.getElem?_set_ne (by omega), eg1, List.getElem?_set_ne (by omega)]
        exact b.ls i hi
      · rw [List.getElem?_set_ne (by omega), eg1, List.getElem?_set_ne (by omega)]
        exact b.kp j hj
/-- one hand's neighbours seen -/
theorem near_ok {h0 g : DH} {L n F R k v : Nat} {E : List Ed} {row : List Nat} {vals : List Int} {x1 x6 : Option D} (hn : n ≤ 16) (lt : ∀ e ∈ E, e.1 < e.2 ∧ e.2 < n) (b : Bf h0 L n E F R g row vals) (hv : row[k]? = some v) :
    ∃ row' vals' x6' g', forE (isq (o2 ixD (vr 0) (o2 ixD (vr 4) (vr 5)))) (.nm 6) seeBody [some (refs L n), x1, some (.lst ((List.range n).map iD)), some (.ref F), some (.ref R), some (.int k), x6] g
      = .nx [some (refs L n), x1, some (.lst ((List.range n).map iD)), some (.ref F), some (.ref R), some (.int k), x6'] g' ∧ Bf h0 L n E F R g' row' vals' ∧ (∀ x ∈ adj E v, x ∈ row') ∧ row <+: row' ∧ g'.length = g.length := by
  have vn := b.lt v (List.mem_of_getElem? hv)
  have ix1 : ixD (.ref R) (.int k) g = .ok (.int v) g := ev_ixR b.r (by rw [List.getElem?_map, hv]; rfl)
  have ix2 := refs_ix (h := g) (L := L) vn
  have it : isq (o2 ixD (vr 0) (o2 ixD (vr 4) (vr 5))) [some (refs L n), x1, some (.lst ((List.range n).map iD)), some (.ref F), some (.ref R), some (.int k), x6] g = .ok ⟨[(L + v, (adj E v).map iD)], (adj E v).map iD⟩ g := by
    rw [ev_isq]
    simp only [ev_o2, ev_vrS, ev_vr0, bd_ok, ix1, ix2]
    exact ev_sqR (b.ls v vn)
  obtain ⟨e2, h2, lp, row', vals', x6', rfl, b', cl, pre, l2⟩ := for_g (t := .nm 6) (body := seeBody)
    (fun j e g' => ∃ row' vals' x6', e = [some (refs L n), x1, some (.lst ((List.range n).map iD)), some (.ref F), some (.ref R), some (.int k), x6'] ∧ Bf h0 L n E F R g' row' vals' ∧ (∀ x ∈ (adj E v).take j, x ∈ row') ∧ row <+: row' ∧ g'.length = g.length)
    it ⟨row, vals, x6, rfl, b, by simp, List.prefix_refl _, rfl⟩ (fun j e g' hI => by
      obtain ⟨row', vals', x6', _, b', _⟩ := hI
      exact so_one (b'.ls v vn)) (fun j e g' d hI hd => by
      obtain ⟨row', vals', x6', rfl, b', cl, pre, l'⟩ := hI
      dsimp only at hd
      rw [List.getElem?_map] at hd
      obtain ⟨x, hx, rfl⟩ := Option.map_eq_some_iff.mp hd
      have xn : x < n := by
        rcases mem_adj.mp (List.mem_of_getElem? hx) with q | q
        · exact (lt _ q).2
        · have := lt _ q; exact Nat.lt_trans this.1 this.2
      have hv' : row'[k]? = some v := by
        obtain ⟨t, rfl⟩ := pre
        rw [List.getElem?_append_left (List.getElem?_eq_some_iff.mp hv).1]; exact hv
      obtain ⟨vals2, g2, t, b2, l2⟩ := see_turn (x0 := some (refs L n)) (x1 := x1) hn b' xn hv'
      have sub : ∀ y ∈ row', y ∈ (if x ∈ row' then row' else row' ++ [x]) := fun y hy => by
        split
        · exact hy
        · exact List.mem_append_left _ hy
      refine ⟨_, _, g2, rfl, .inl t, _, vals2, some (.int x), rfl, b2, fun y hy => ?_, pre.trans ?_, l2.trans l'⟩
      · rw [List.take_add_one, hx] at hy
        rcases List.mem_append.mp hy with hy | hy
        · exact sub y (cl y hy)
        · simp at hy
          subst hy
          split
          · assumption
          · simp
      · split
        · exact List.prefix_refl _
        · exact List.prefix_append _ _)
  rw [show (⟨[(L + v, (adj E v).map iD)], (adj E v).map iD⟩ : ItD).items.length = (adj E v).length from List.length_map .., List.take_length] at cl
  exact ⟨row', vals', x6', h2, lp, b', cl, pre, l2⟩
noncomputable def bfsBody : SF := (seq (forE (isq (o2 ixD (vr 0) (o2 ixD (vr 4) (vr 5)))) (.nm 6) seeBody) (augN 5 (ct (.int 1)) addI))
theorem bfs_loop {h0 : DH} {L n F R : Nat} {E : List Ed} {x1 : Option D} (hn : n ≤ 16) (lt : ∀ e ∈ E, e.1 < e.2 ∧ e.2 < n) : ∀ (fuel k : Nat) (g : DH) (row : List Nat) (vals : List Int) (x6 : Option D), Bf h0 L n E F R g row vals → k ≤ row.length → n - k < fuel →
    (∀ i v, i < k → row[i]? = some v → ∀ x ∈ adj E v, x ∈ row) →
    ∃ row' vals' x5' x6' g', whF (tv (o2 ltD (vr 5) (oA lenD (ac (vr 4) an)))) bfsBody fuel [some (refs L n), x1, some (.lst ((List.range n).map iD)), some (.ref F), some (.ref R), some (.int k), x6] g
      = .nx [some (refs L n), x1, some (.lst ((List.range n).map iD)), some (.ref F), some (.ref R), x5', x6'] g' ∧ Bf h0 L n E F R g' row' vals' ∧ row <+: row' ∧ (∀ v ∈ row', ∀ x ∈ adj E v, x ∈ row') ∧ g'.length = g.length
  | 0, _, _, _, _, _, _, _, hf, _ => by omega
  | fuel + 1, k, g, row, vals, x6, b, hk, hf, cl => by
    have ln : lenD [.ref R] g = .ok (.int row.length) g := by rw [ev_lenR b.r, List.length_map]
    have few := b.few
    by_cases h1 : k < row.length
    · obtain ⟨v, hv⟩ : ∃ v, row[k]? = some v := ⟨_, List.getElem?_eq_getElem h1⟩
      obtain ⟨row1, vals1, y6, g1, lp, b1, c1, pre1, l1⟩ := near_ok (x1 := x1) (x6 := x6) hn lt b hv
      have sub : ∀ x ∈ row, x ∈ row1 := fun x hx => pre1.subset hx
      obtain ⟨row2, vals2, z5, z6, g2, lp2, b2, pre2, c2, l2⟩ := bfs_loop (x1 := x1) hn lt fuel (k + 1) g1 row1 vals1 y6 b1 (by have := pre1.length_le; omega) (by omega) (fun i u hi hu x hx => by
        have hu' : row[i]? = some u := by
          obtain ⟨t, rfl⟩ := pre1
          rw [List.getElem?_append_left (by omega)] at hu
          exact hu
        by_cases hik : i = k
        · subst hik
          rw [hv] at hu'
          cases hu'
          exact c1 x hx
        · exact sub x (cl i u (by omega) hu' x hx))
      have d1 : decide ((k : Int) < (row.length : Int)) = true := decide_eq_true (by omega)
      refine ⟨row2, vals2, z5, z6, g2, ?_, b2, pre1.trans pre2, c2, l2.trans l1⟩
      have bd : bfsBody [some (refs L n), x1, some (.lst ((List.range n).map iD)), some (.ref F), some (.ref R), some (.int k), x6] g = .nx [some (refs L n), x1, some (.lst ((List.range n).map iD)), some (.ref F), some (.ref R), some (.int ((k + 1 : Nat) : Int)), y6] g1 := by
        unfold bfsBody
        rw [ev_seq, lp, ev_sq_nx]
        rfl
      unfold whF
      simp only [ev_tv, ev_o2, ev_oA, ev_ac, ev_vrS, ev_vr0, ev_an, bd_ok, ln, ev_lt, d1, ev_tst, ev_bs_ok, if_true, bd, lp2]
    · have d1 : decide ((k : Int) < (row.length : Int)) = false := decide_eq_false (by omega)
      refine ⟨row, vals, some (.int k), x6, g, ?_, b, List.prefix_refl _, fun v hv => ?_, rfl⟩
      · unfold whF
        simp only [ev_tv, ev_o2, ev_oA, ev_ac, ev_vrS, ev_vr0, ev_an, bd_ok, ln, ev_lt, d1, ev_tst, ev_bs_ok, Bool.false_eq_true, if_false]
      · obtain ⟨i, hi⟩ := List.mem_iff_getElem?.mp hv
        exact cl i v (by have := (List.getElem?_eq_some_iff.mp hi).1; omega) hi
end A
namespace A
open PySem PySem.Spec PyProof.Rows L2 Dt
variable {K : PySem.W.Frag} {h : DH} {env : Env'}
theorem rc_closed {E : List Ed} {row : List Nat} (cl : ∀ v ∈ row, ∀ x ∈ adj E v, x ∈ row) {a b : Nat} (r : Rc E a b) (ha : a ∈ row) : b ∈ row := by
  induction r with
  | refl => exact ha
  | fwd _ e ih => exact cl _ ih _ (mem_adj.mpr (.inl e))
  | bwd _ e ih => exact cl _ ih _ (mem_adj.mpr (.inr e))
theorem reached_ok {h0 g : DH} {L n s : Nat} {E : List Ed} (N : Net n E) (ls : Ls h0 g L n E) (hg : g.length = L + n) (hs : s < n) :
    ∃ row vals g', G_reached K [refs L n, .int s, .lst ((List.range n).map iD)] g = .ok (.ref g.length) g' ∧ Bf h0 L n E g.length (g.length + 1) g' row vals ∧ row.length = n ∧ g'.length = g.length + 2 := by
  obtain ⟨F, eF⟩ : ∃ F, F = g.length := ⟨_, rfl⟩
  have ds : dspE true [((vr 1), (ct (.int 0)))] [some (refs L n), some (.int s), some (.lst ((List.range n).map iD)), none, none, none, none] g = .ok (.ref F) (g ++ [.dk [nk s] [.int 0]]) := by
    rw [eF]
    unfold dspE
    have e : dprs [((vr 1), (ct (.int 0)))] [some (refs L n), some (.int s), some (.lst ((List.range n).map iD)), none, none, none, none] g = some ([nk s], [.int 0], g) := rfl
    rw [e]
    simp
  obtain ⟨g1, eg1⟩ : ∃ g1, g1 = g ++ [Dt.O.dk [nk s] [D.int 0]] := ⟨_, rfl⟩
  rw [← eg1] at ds
  have l1 : g1.length = F + 1 := by rw [eg1, eF]; simp
  have mk : mkL true [.int s] g1 = .ok (.ref (F + 1)) (g1 ++ [.lst [.int s]]) := by rw [← l1]; exact ev_mkO (by simp)
  have b : Bf h0 L n E F (F + 1) (g1 ++ [Dt.O.lst [D.int s]]) [s] [0] := by
    refine ⟨?_, ?_, rfl, by simp, by simp; exact hs, fun i hi => ?_, ⟨by omega, by omega, by omega⟩, fun j hj => ?_⟩
    · rw [List.getElem?_append_left (by omega), eg1, eF]
      exact get_new
    · rw [← l1]; exact get_new
    · rw [List.getElem?_append_left (by omega), eg1, List.getElem?_append_left (by omega)]
      exact ls.ls i hi
    · rw [List.getElem?_append_left (by omega), eg1, List.getElem?_append_left (by omega)]
      exact ls.kp j hj
  obtain ⟨row, vals, x5, x6, g2, lp, b2, pre, cl, l2⟩ := bfs_loop (x1 := some (.int s)) N.le N.lt many 0 _ [s] [0] none b (Nat.zero_le _) (by have := N.le; unfold many; omega) (fun i v hi => by omega)
  have s0 : s ∈ row := pre.subset List.mem_cons_self
  have all : ∀ i, i < n → i ∈ row := fun i hi => rc_closed cl ((N.con s hs).symm.trans (N.con i hi)) s0
  have len : row.length = n := by
    have a := b2.few
    have c := (List.nodup_range (n := n)).length_le_of_subset (l₂ := row) fun x hx => all x (List.mem_range.mp hx)
    rw [List.length_range] at c
    omega
  rw [← eF]
  refine ⟨row, vals, g2, raw_of ?_, b2, len, by rw [l2]; simp [l1]⟩
  rw [show startD N_reached [refs L n, .int s, .lst ((List.range n).map iD)] = [some (refs L n), some (.int s), some (.lst ((List.range n).map iD)), none, none, none, none] from rfl]
  unfold bfsBody seeBody at lp
  rw [Int.natCast_zero] at lp
  unfold b_reached
  simp -implicitDefEqProofs only [ev_seq, ev_asg, ds, ev_bs_ok, List.set_cons_succ, List.set_cons_zero, ev_sq_nx, ev_oA, ev_ac, ev_vrS, ev_vr0, ev_an, bd_ok, mk, ev_ct]
  rw [lp]
  simp only [ev_sq_nx, ev_ret, ev_vrS, ev_vr0, ev_bs_ok]
theorem lrg_ok {fa : EF} {n : Nat} (hn : n ≤ 1000) (e : fa env h = .ok (.int n) h) : lrg false fa env h = .ok (.lst ((List.range n).map iD)) h := by
  unfold lrg
  rw [e]
  simp only [bd_ok]
  rw [if_pos ⟨by omega, by omega⟩, show rgsD (n : Int) = (List.range n).map iD from by unfold rgsD; simp]
  exact ev_mkF (by simp; omega)
/-- a drawn net is one -/
theorem net_is {n : Nat} {E : List Ed} (N : Net n E) (hl : E.length ≤ 300) : ∃ h', G_is_net K [netD n E] h = .ok (.bl true) h' ∧ h.length ≤ h'.length ∧ ∀ j, j < h.length → h'[j]? = h[j]? := by
  have n16 := N.le
  have n1 := N.pos
  obtain ⟨h1, e1, ls, l1⟩ := beside_ok (K := K) (h := h) n16 N.lt hl
  obtain ⟨row, vals, h2, e2, b2, rl, l2⟩ := reached_ok (K := K) N ls l1 (s := 0) (by omega)
  refine ⟨h2, raw_of ?_, by omega, fun j hj => b2.kp j hj⟩
  rw [show startD N_is_net [netD n E] = [some (netD n E), none, none, none] from rfl]
  unfold b_is_net
  have t0 : isiD [netD n E, .con (.ty "tuple")] h = .ok (.bl true) h := rfl
  have l0 : lenD [netD n E] h = .ok (.int 2) h := rfl
  have n0 : neD (.int 2) (.int 2) h = .ok (.bl false) h := by rw [ev_neI]; rfl
  have un : ∀ g, asg (vr 0) (.tp [(.nm 1), (.nm 2)]) [some (netD n E), none, none, none] g = .nx [some (netD n E), some (.int n), some (.tup (E.map eD)), none] g := fun g => rfl
  have d1 : decide ((1 : Int) ≤ (n : Int)) = true := decide_eq_true (by omega)
  have d2 : decide ((n : Int) ≤ 16) = true := decide_eq_true (by omega)
  have lc : lcE (isq (vr 2)) (.nm 3) tyes (cll 2 (G_is_edge K) (ac (vr 1) (ac (vr 3) an))) [3] [some (netD n E), some (.int n), some (.tup (E.map eD)), none] h = .ok (.lst (E.map fun _ => D.bl true)) h := by
    refine ev_lcg (t := .nm 3) eD (fun _ => D.bl true) E (it := ⟨[], E.map eD⟩) rfl so_nil rfl (fun e he => ⟨_, rfl, ?_⟩) (by omega)
    simp only [wipD, List.set_cons_succ, List.set_cons_zero, ev_cll, ev_ac, ev_vrS, ev_vr0, ev_an, bd_ok, List.length_cons, List.length_nil, if_true]
    exact edge_ok (N.lt e he)
  have al := all_t (h := h) (xs := E)
  have ri := rising_ok (K := K) (h := h) N.asc (by omega)
  have rg := lrg_ok (h := h1) (env := [some (netD n E), some (.int n), some (.tup (E.map eD)), none]) (fa := vr 1) (n := n) (by omega) rfl
  have ln : lenD [.ref h1.length] h2 = .ok (.int n) h2 := by
    unfold lenD
    simp only [sq, lsq, dkq, b2.f]
    rw [if_pos (by rw [List.length_map]; omega), List.length_map, rl]
  have eq : eqD (.int n) (.int n) h2 = .ok (.bl true) h2 := by rw [ev_eqI, decide_eq_true rfl]
  have rc : oA lenD (ac (cll 3 (G_reached K) (ac (cll 1 (G_beside K) (ac (vr 0) an)) (ac (ct (.int 0)) (ac (lrg false (vr 1)) an)))) an) [some (netD n E), some (.int n), some (.tup (E.map eD)), none] h = .ok (.int n) h2 := by
    simp only [ev_oA, ev_ac, ev_cll, ev_vr0, ev_an, bd_ok, List.length_cons, List.length_nil, if_true, e1, ev_ct, rg]
    have := e2
    simp only [Int.natCast_zero] at this
    rw [this]
    simp only [bd_ok, ln]
  have S4 : ret (o2 eqD (oA lenD (ac (cll 3 (G_reached K) (ac (cll 1 (G_beside K) (ac (vr 0) an)) (ac (ct (.int 0)) (ac (lrg false (vr 1)) an)))) an)) (vr 1)) [some (netD n E), some (.int n), some (.tup (E.map eD)), none] h = .rt (.bl true) h2 := by
    rw [ev_ret, ev_o2, rc]
    simp only [bd_ok, ev_vrS, ev_vr0, eq, ev_bs_ok]
  have S1 : ∀ x, ife (tor (tnot (tv (oA isiD (ac (vr 0) (ac (ct (.con (.ty "tuple"))) an))))) (tv (o2 neD (oA lenD (ac (vr 0) an)) (ct (.int 2))))) (ret (ct (.bl false))) skp (some (netD n E) :: x) h = .nx (some (netD n E) :: x) h := fun x => by
    simp -implicitDefEqProofs only [ev_ife, ev_tor, ev_tnot, ev_tv, ev_oA, ev_o2, ev_ac, ev_vr0, ev_ct, ev_an, bd_ok, t0, l0, n0, ev_tst, Bool.not_true, Bool.false_eq_true, if_false, ev_bs_ok, ev_skp]
  rw [ev_seq, S1, ev_sq_nx, ev_seq, un, ev_sq_nx, ev_seq, ev_ife]
  simp -implicitDefEqProofs only [ev_tor, ev_tnot, ev_tv, ev_oA, ev_ac, ev_vr0, ev_vrS, ev_ct, ev_an, bd_ok, ev_tst, Bool.not_true, Bool.false_eq_true, if_false, ev_bs_ok, ev_skp, ev_cll, List.length_cons, List.length_nil, if_true, whole_ok, ev_och, ev_le, d1, d2, ev_isiT]
  rw [ev_sq_nx, ev_seq, ev_ife]
  have S3 : tor (tnot (tv (oA allD (ac (lcE (isq (vr 2)) (.nm 3) tyes (cll 2 (G_is_edge K) (ac (vr 1) (ac (vr 3) an))) [3]) an)))) (tnot (tv (cll 1 (G_are_rising K) (ac (vr 2) an)))) [some (netD n E), some (.int n), some (.tup (E.map eD)), none] h = .ok false h := by
    simp -implicitDefEqProofs only [ev_tor, ev_tnot, ev_tv, ev_oA, ev_ac, lc, ev_an, bd_ok, al, ev_tst, Bool.not_true, Bool.false_eq_true, if_false, ev_cll, ev_vrS, ev_vr0, List.length_cons, List.length_nil, if_true, ri]
  rw [S3]
  simp only [ev_bs_ok, Bool.false_eq_true, if_false, ev_skp]
  rw [ev_sq_nx, S4]
end A
namespace A
open PySem PySem.Spec PyProof.Rows L2 Dt
abbrev N_Source_is_over : List Str := ["self"]
noncomputable def b_Source_is_over (K : PySem.W.Frag) : SF :=
  (ret (o2 eqD (fld (He.ga K "Source") "at" (vr 0)) (oA lenD (ac (fld (He.ga K "Source") "whole" (vr 0)) an))))
noncomputable def G_Source_is_over (K : PySem.W.Frag) : FD := raw N_Source_is_over (b_Source_is_over K)
abbrev N_Source_now : List Str := ["self"]
noncomputable def b_Source_now (K : PySem.W.Frag) : SF :=
  (ret (esl false (fld (He.ga K "Source") "whole" (vr 0)) (ps (fld (He.ga K "Source") "at" (vr 0))) (ps (o2 (addD false) (fld (He.ga K "Source") "at" (vr 0)) (ct (.int 1))))))
noncomputable def G_Source_now (K : PySem.W.Frag) : FD := raw N_Source_now (b_Source_now K)
abbrev N_Source_run : List Str := ["self", "signs", "begun"]
noncomputable def b_Source_run (K : PySem.W.Frag) : SF :=
  (seq (asg (fld (He.ga K "Source") "at" (vr 0)) (.nm 2))
    (seq (whF (tand (tnot (tv (mcl (He.ga K "Source") "is_over" 1 (G_Source_is_over K) (vr 0) an))) (tv (o2 inD (mcl (He.ga K "Source") "now" 1 (G_Source_now K) (vr 0) an) (vr 1)))) (augF (He.ga K "Source") "at" (vr 0) (ct (.int 1))) many)
    (ret (esl false (fld (He.ga K "Source") "whole" (vr 0)) (ps (vr 2)) (ps (fld (He.ga K "Source") "at" (vr 0)))))))
noncomputable def G_Source_run (K : PySem.W.Frag) : FD := raw N_Source_run (b_Source_run K)
abbrev N_Source_count : List Str := ["self", "figures"]
noncomputable def b_Source_count (K : PySem.W.Frag) : SF :=
  (seq (asg (mcl (He.ga K "Source") "run" 2 (G_Source_run K) (vr 0) (ac (ct (.str "0123456789")) an)) (.nm 1))
    (seq (ife (tor (tnot (tv (och leD leD (ct (.int 1)) (oA lenD (ac (vr 1) an)) (ct (.int 20))))) (tand (tv (o2 eqD (o2 ixD (vr 1) (ct (.int 0))) (ct (.str "0")))) (tv (o2 neD (vr 1) (ct (.str "0")))))) nev skp)
    (ret (oA intD (ac (vr 1) an)))))
noncomputable def G_Source_count (K : PySem.W.Frag) : FD := raw N_Source_count (b_Source_count K)
end A
namespace A
open PySem PySem.Spec PyProof.Rows L2 Dt
variable {K : PySem.W.Frag} {h : DH} {env : Env'}
abbrev ed (e : Ed) : List Nat := dg e.1 ++ 45 :: dg e.2
abbrev Sc (K : PySem.W.Frag) : Addr := He.ga K "Source"
theorem count_is : G_Source_count K = countF (Sc K) := rfl
end A
namespace A
open PySem PySem.Spec PyProof.Rows L2 Dt
variable {K : PySem.W.Frag} {h : DH} {env : Env'}
abbrev tl (r : List Ed) : List Nat := r.flatMap fun e => 44 :: ed e
end A
namespace A
open PySem PySem.Spec PyProof.Rows L2 Dt
end A
namespace A
open PySem PySem.Spec PyProof.Rows L2 Dt
variable {K : PySem.W.Frag} {h : DH} {env : Env'}
def Nb (z : Int) : Prop := -100000000000000000000 < z ∧ z < 100000000000000000000
def Nm (x : Str) : Prop := ∃ l : List Nat, x = tx l ∧ 1 ≤ l.length ∧ l.length ≤ 8 ∧ ∀ c ∈ l, 97 ≤ c ∧ c ≤ 122
theorem Nm.ok {x : Str} (n : Nm x) : PyData.strOk x = true := by
  obtain ⟨l, rfl, _, _, p⟩ := n
  exact tx_ok fun c hc => by have := p c hc; omega
end A
namespace A
open PySem PySem.Spec PyProof.Rows L2 Dt
variable {K : PySem.W.Frag} {h : DH} {env : Env'}
def NAt (b : Nat) (h : DH) (d : D) (ns : List Str) : Prop := LsAt h d (ns.map D.str) ∧ (∀ n, d = .ref n → n ≠ b) ∧ (∀ n ∈ ns, Nm n) ∧ ns.length ≤ 1000
theorem NAt.keep {b : Nat} {d : D} {ns : List Str} {h' : DH} (x : NAt b h d ns) (s : Beside b h h') : NAt b h' d ns := ⟨x.1.keep fun n e => s.2 n (x.2.1 n e), x.2⟩
/-- its numbers are of at most twenty figures -/
def Ex.nbd : Ex → Prop
  | .num n => Nb n
  | .most a => a.nbd
  | .least a => a.nbd
  | .frm a b => a.nbd ∧ b.nbd
  | .op _ a b => a.nbd ∧ b.nbd
  | .mx a b => a.nbd ∧ b.nbd
  | .mn a b => a.nbd ∧ b.nbd
  | .ite a b c => a.nbd ∧ b.nbd ∧ c.nbd
  | _ => True
/-- how many expressions it is made of -/
def Ex.sz : Ex → Nat
  | .most a => 1 + a.sz
  | .least a => 1 + a.sz
  | .frm a b => 1 + (a.sz + b.sz)
  | .op _ a b => 1 + (a.sz + b.sz)
  | .mx a b => 1 + (a.sz + b.sz)
  | .mn a b => 1 + (a.sz + b.sz)
  | .ite a b c => 1 + (a.sz + b.sz + c.sz)
  | _ => 1
def t3 : Nat → Nat
  | 0 => 0
  | d + 1 => 3 * t3 d + 1
/-- an expression drawn, over names, of at most so many within one another -/
structure Gx (ns : List Str) (may : Bool) (d : Nat) (e : Ex) : Prop where
  ok : e.ok ns may
  nb : e.nbd
  deep : e.deep ≤ d
  thin : e.sz ≤ 364
abbrev may (r : Nat) : Bool := decide (r = 1)
theorem Gx.le {ns : List Str} {m : Bool} {d d' : Nat} {e : Ex} (g : Gx ns m d e) (l : d ≤ d') : Gx ns m d' e := ⟨g.ok, g.nb, Nat.le_trans g.deep l, g.thin⟩
end A
namespace A
open PySem PySem.Spec PyProof.Rows L2 Dt
variable {K : PySem.W.Frag} {h : DH} {env : Env'}
end A
namespace A
open PySem PySem.Spec PyProof.Rows L2 Dt
variable {K : PySem.W.Frag} {h : DH} {env : Env'}
end A
namespace A
open PySem PySem.Spec PyProof.Rows L2 Dt
variable {K : PySem.W.Frag} {h : DH} {env : Env'}
/-- all but two places kept -/
def But (b N : Nat) (h g : DH) : Prop := g.length = h.length ∧ ∀ k, k ≠ b → k ≠ N → g[k]? = h[k]?
theorem But.refl {b N : Nat} : But b N h h := ⟨rfl, fun _ _ _ => rfl⟩
theorem But.trans {b N : Nat} {x y z : DH} (p : But b N x y) (q : But b N y z) : But b N x z := ⟨q.1.trans p.1, fun k a c => (q.2 k a c).trans (p.2 k a c)⟩
theorem Beside.but {b N : Nat} {g : DH} (s : Beside b h g) : But b N h g := ⟨s.1, fun k a _ => s.2 k a⟩
theorem But.set {b N : Nat} {o : O} : But b N h (h.set N o) := ⟨List.length_set, fun k _ a => List.getElem?_set_ne (Ne.symm a)⟩
/-- a row of send, drawn -/
structure Gs (ns : List Str) (d : Nat) (r : Option Ex × Ex × Ex) : Prop where
  to : ∀ e, r.1 = some e → Gx ns true d e
  cond : Gx ns true d r.2.1
  num : Gx ns true d r.2.2
theorem Gs.le {ns : List Str} {d d' : Nat} {r : Option Ex × Ex × Ex} (g : Gs ns d r) (l : d ≤ d') : Gs ns d' r := ⟨fun e he => (g.to e he).le l, g.cond.le l, g.num.le l⟩
end A
namespace A
open PySem PySem.Spec PyProof.Rows L2 Dt
variable {K : PySem.W.Frag} {h : DH} {env : Env'}
/-- a program drawn: expressions of at most so many within one another -/
structure Gp (p : Pg) (most d : Nat) : Prop where
  nd : p.names.Nodup
  nm : ∀ n ∈ p.names, Nm n
  same : p.later.map Prod.fst = p.names
  few : p.first.length ≤ most
  fews : p.send.length ≤ most
  efirst : ∀ q ∈ p.first, Gx p.names false d q.2
  elater : ∀ q ∈ p.later, Gx p.names true d q.2
  esend : ∀ r ∈ p.send, Gs p.names d r
theorem Ex.ok_nil {ns ms : List Str} : ∀ e : Ex, e.ok ns false → e.ok ms true
  | .num _, _ => trivial
  | .reg _, o => absurd o.1 (by decide)
  | .hand, _ => trivial
  | .beat, _ => trivial
  | .ties, _ => trivial
  | .sum, o => absurd o (by decide : ¬ (false = true))
  | .many, o => absurd o (by decide : ¬ (false = true))
  | .most _, o => absurd o.1 (by decide)
  | .least _, o => absurd o.1 (by decide)
  | .frm _ _, o => absurd o.1 (by decide)
  | .op _ a b, o => ⟨o.1, a.ok_nil o.2.1, b.ok_nil o.2.2⟩
  | .mx a b, o => ⟨a.ok_nil o.1, b.ok_nil o.2⟩
  | .mn a b, o => ⟨a.ok_nil o.1, b.ok_nil o.2⟩
  | .ite a b c, o => ⟨a.ok_nil o.1, b.ok_nil o.2.1, c.ok_nil o.2.2⟩
theorem Gp.ok {p : Pg} {most d : Nat} (g : Gp p most d) (hm : most ≤ 1000) (hd : d ≤ 16) : p.ok :=
  ⟨g.nd, fun n hn => (g.nm n hn).ok, g.same, Nat.le_trans g.few hm, Nat.le_trans g.fews hm, fun q hq => ⟨Ex.ok_nil _ (g.efirst q hq).ok, Nat.le_trans (g.efirst q hq).deep hd⟩,
    fun q hq => ⟨(g.elater q hq).ok, Nat.le_trans (g.elater q hq).deep hd⟩, fun r hr e he => ⟨((g.esend r hr).to e he).ok, Nat.le_trans ((g.esend r hr).to e he).deep hd⟩,
    fun r hr => ⟨(g.esend r hr).cond.ok, Nat.le_trans (g.esend r hr).cond.deep hd⟩, fun r hr => ⟨(g.esend r hr).num.ok, Nat.le_trans (g.esend r hr).num.deep hd⟩⟩
def rowP (q : Str × Ex) : PyData := .tuple [.str q.1, q.2.p]
def toPd : Option Ex → PyData
  | none => .str "all"
  | some e => e.p
def sndP (r : Option Ex × Ex × Ex) : PyData := .tuple [toPd r.1, r.2.1.p, r.2.2.p]
end A
namespace A
open PySem PySem.Spec PyProof.Rows L2 Dt
variable {K : PySem.W.Frag} {h : DH} {env : Env'}
end A
namespace A
open PySem PySem.Spec PyProof.Rows L2 Dt
end A
namespace A
open PySem PySem.Spec PyProof.Rows L2 Dt
variable {K : PySem.W.Frag} {h : DH} {env : Env'} {s : Nat} {σ : Si}
abbrev ltKs : List Key := [.inr "hand", .inr "beat", .inr "came", .inr "worths"]
/-- the law's sight stands at s -/
def Lt (h : DH) (s : Nat) (σ : Si) : Prop := h[s]? = some (.dk ltKs [.int σ.hand, .int σ.beat, .lst (σ.came.map optD), regD σ.regs])
section
variable {a b c d : D}
end
end A
namespace A
open PySem PySem.Spec PyProof.Rows L2 Dt
variable {K : PySem.W.Frag} {h : DH} {env : Env'} {s : Nat} {σ : Si}
section
variable {x0 x4 x5 x7 x8 x9 : Option D}
end
theorem lx (j : Nat) (w : Str) (e : idxV (V.str w) [V.str "hand", V.str "beat", V.str "ties", V.str "many"] = some j) : lindexD (.lst [.str "hand", .str "beat", .str "ties", .str "many"]) [.str w] h = .ok (.int (j : Int)) h := by
  have q : lindexD (.lst [.str "hand", .str "beat", .str "ties", .str "many"]) [.str w] h = (match idxV (V.str w) [V.str "hand", V.str "beat", V.str "ties", V.str "many"] with
      | some j => Rs.ok (D.int j) h
      | none => .bad) := rfl
  rw [q, e]
end A
namespace A
open PySem PySem.Spec PyProof.Rows L2 Dt
variable {K : PySem.W.Frag} {h : DH} {env : Env'} {p : Pg} {hand beat : Nat} {regs : List Int} {came : List (Option Int)}
/-- what a place was told, row by row -/
def told (σ : Si) (i : Nat) (t : Option Int) (r : Option Ex × Ex × Ex) : Option Int := if r.2.1.val σ ≠ 0 ∧ (∀ e, r.1 = some e → e.val σ = (i : Int)) then some (r.2.2.val σ) else t
end A
namespace A
open PySem PySem.Spec PyProof.Rows L2 Dt
end A
namespace A
open PySem PySem.Spec PyProof.Rows L2 Dt
variable {K : PySem.W.Frag} {h : DH} {env : Env'}
abbrev reads : List Str := ["reg", "sum", "many", "most", "least", "from"]
end A
namespace A
open PySem PySem.Spec PyProof.Rows L2 Dt
variable {K : PySem.W.Frag} {h : DH} {env : Env'} {nD : D} {m : Bool} {x0 : Option D}
end A
namespace A
open PySem PySem.Spec PyProof.Rows L2 Dt
variable {K : PySem.W.Frag} {h : DH} {env : Env'} {fi : IF} {it : ItD} {t : Tg} {fk : EF} {vs : List Nat} {α : Type}
end A
namespace A
open PySem PySem.Spec PyProof.Rows L2 Dt
variable {K : PySem.W.Frag} {h : DH} {env : Env'}
end A
namespace A
open PySem PySem.Spec PyProof.Rows L2 Dt
open PySem.Builtin PySem.Builtin.Str in
abbrev Pl (c : Nat) : Prop := 35 ≤ c ∧ c ≤ 126 ∧ c ≠ 39 ∧ c ≠ 92
theorem sh_tup (ps : List PyData) : (PyData.shown (.tuple ps)).length ≤ ((PyData.shownAll ps).map (·.length)).sum + 2 * (PyData.shownAll ps).length + 3 := by
  show (tupleText (PyData.shownAll ps)).length ≤ _
  exact tupleText_len_le _
theorem sh_lst (ps : List PyData) : (PyData.shown (.list ps)).length ≤ ((PyData.shownAll ps).map (·.length)).sum + 2 * (PyData.shownAll ps).length + 3 := by
  show (listText (PyData.shownAll ps)).length ≤ _
  exact listText_len_le _
end A
namespace A
open PySem PySem.Spec PyProof.Rows L2 Dt
variable {K : PySem.W.Frag} {h : DH} {env : Env'}
end A
namespace A
open PySem PySem.Spec PyProof.Rows L2 Dt
variable {K : PySem.W.Frag} {h : DH} {env : Env'}
end A
namespace A
open PySem PySem.Spec PyProof.Rows L2 Dt
variable {K : PySem.W.Frag} {h : DH} {env : Env'}
def Pg.p (p : Pg) : PyData := .tuple [.list (p.first.map rowP), .list (p.later.map rowP), .list (p.send.map sndP)]
end A
namespace A
open PySem PySem.Spec PyProof.Rows L2 Dt
variable {K : PySem.W.Frag} {h : DH}
abbrev OkT (x : Str) : Prop := ∀ c ∈ x.cps.toList, c < 0x110000
theorem okT_iff {x : Str} : PyData.strOk x = true ↔ OkT x := by
  show x.cps.all (· < 0x110000) = true ↔ _
  rw [Array.all_eq_true_iff_forall_mem]
  constructor
  · intro h c hc
    have := h c (Array.mem_toList_iff.mp hc)
    simpa using this
  · intro h c hc
    have := h c (Array.mem_toList_iff.mpr hc)
    simpa using this
theorem okT_app {x y : Str} (a : OkT x) (b : OkT y) : OkT (x ++ y) := by
  intro c hc
  have e : (x ++ y).cps.toList = x.cps.toList ++ y.cps.toList := by
    show (x.cps ++ y.cps).toList = _
    simp
  rw [e] at hc
  rcases List.mem_append.mp hc with h | h
  · exact a c h
  · exact b c h
theorem char_lt (c : Char) : c.toNat < 0x110000 := by
  have := c.valid
  unfold UInt32.isValidChar Nat.isValidChar at this
  show c.val.toNat < _
  omega
theorem okT_str (s : String) : OkT (Str.ofString s) := by
  intro c hc
  rw [Str.ofString_eq_toList] at hc
  simp only [List.mem_map] at hc
  obtain ⟨d, _, rfl⟩ := hc
  exact char_lt d
theorem okT_from : ∀ (ts : List Str) (k : Nat) (acc : Str), OkT acc → (∀ t ∈ ts, OkT t) → OkT (textFrom k acc ts)
  | [], _, _, h, _ => h
  | t :: ts, k, acc, h, g => by
    refine okT_from ts (k + 1) _ (okT_app (okT_app h ?_) (g t List.mem_cons_self)) fun u hu => g u (List.mem_cons_of_mem _ hu)
    exact okT_str _
theorem okT_join {sep : Str} (hs : OkT sep) : ∀ ts : List Str, (∀ t ∈ ts, OkT t) → OkT (Str.join sep ts)
  | [], _ => okT_str ""
  | [x], g => g x List.mem_cons_self
  | x :: y :: ts, g => okT_app (okT_app (g x List.mem_cons_self) hs) (okT_join hs (y :: ts) fun u hu => g u (List.mem_cons_of_mem _ hu))
open PySem.Builtin PySem.Builtin.Str in
theorem repr_lt {q c : Nat} (hc : c < 0x110000) : ∀ x ∈ reprChar q c, x < 0x110000 := by
  intro x hx
  unfold reprChar at hx
  have hex : ∀ w, ∀ x ∈ List.replicate (w - ((Nat.toDigits 16 c).map Char.toNat).length) 48 ++ (Nat.toDigits 16 c).map Char.toNat, x < 0x110000 := by
    intro w x hx
    rcases List.mem_append.mp hx with h | h
    · have := (List.mem_replicate.mp h).2
      omega
    · obtain ⟨d, _, rfl⟩ := List.mem_map.mp h
      exact char_lt d
  dsimp only at hx
  split at hx
  · simp at hx; omega
  split at hx
  · simp at hx; omega
  split at hx
  · simp at hx; omega
  split at hx
  · simp at hx; omega
  split at hx
  · simp at hx; omega
  split at hx
  · rcases List.mem_append.mp hx with h | h
    · simp at h; omega
    · exact hex 2 x h
  split at hx
  · rcases List.mem_append.mp hx with h | h
    · simp at h; omega
    · exact hex 4 x h
  · rcases List.mem_append.mp hx with h | h
    · simp at h; omega
    · exact hex 8 x h
open PySem.Builtin PySem.Builtin.Str in
theorem okT_repr {x : Str} (h : OkT x) : OkT (reprText x) := by
  have q : reprQuote x < 0x110000 := by unfold reprQuote; split <;> decide
  have key : ∀ (l : List Nat) (acc : Array Nat), (∀ c ∈ l, c < 0x110000) → (∀ c ∈ acc.toList, c < 0x110000) → ∀ c ∈ (l.foldl (fun out c => out ++ (reprChar (reprQuote x) c).toArray) acc).toList, c < 0x110000 := by
    intro l
    induction l with
    | nil => intro acc _ h; exact h
    | cons a l ih =>
      intro acc hl ha
      refine ih _ (fun c hc => hl c (List.mem_cons_of_mem _ hc)) fun c hc => ?_
      rw [Array.toList_append] at hc
      rcases List.mem_append.mp hc with h | h
      · exact ha c h
      · exact repr_lt (hl a List.mem_cons_self) c (by simpa using h)
  intro c hc
  unfold reprText at hc
  have e : ((x.cps.foldl (fun out c => out ++ (reprChar (reprQuote x) c).toArray) #[reprQuote x]).push (reprQuote x)).toList = (x.cps.foldl (fun out c => out ++ (reprChar (reprQuote x) c).toArray) #[reprQuote x]).toList ++ [reprQuote x] := by simp
  dsimp only at hc
  rw [e, ← Array.foldl_toList] at hc
  rcases List.mem_append.mp hc with h1 | h1
  · exact key _ _ h (fun c hc => by simp at hc; omega) c h1
  · simp at h1; omega
mutual
theorem okT_shown : ∀ d : PyData, d.canLay0 = true → OkT d.shown
  | .none, _ => okT_str _
  | .bool true, _ => okT_str _
  | .bool false, _ => okT_str _
  | .int i, _ => okT_str _
  | .str x, h => okT_repr (okT_iff.mp (by simpa only [PyData.canLay0] using h))
  | .list xs, h => by
    have := okT_shownAll xs (by simpa only [PyData.canLay0] using h)
    exact okT_app (okT_from _ _ _ (okT_str _) this) (okT_str _)
  | .tuple xs, h => by
    have := okT_shownAll xs (by simpa only [PyData.canLay0] using h)
    exact okT_app (okT_app (okT_str _) (okT_join (okT_str _) _ this)) (by split <;> exact okT_str _)
  | .dict _, h => by simp only [PyData.canLay0] at h; exact nomatch h
theorem okT_shownAll : ∀ xs : List PyData, PyData.canLayAll0 xs = true → ∀ t ∈ PyData.shownAll xs, OkT t
  | [], _ => fun t ht => by simp only [PyData.shownAll] at ht; cases ht
  | x :: xs, h => by
    have h' : x.canLay0 = true ∧ PyData.canLayAll0 xs = true := by simpa only [PyData.canLayAll0, Bool.and_eq_true] using h
    intro t ht
    simp only [PyData.shownAll] at ht
    rcases List.mem_cons.mp ht with rfl | ht
    · exact okT_shown x h'.1
    · exact okT_shownAll xs h'.2 t ht
end
end A
namespace A
open PySem PySem.Spec PyProof.Rows L2 Dt
abbrev N_need_net : List Str := ["net"]
noncomputable def b_need_net (K : PySem.W.Frag) : SF :=
  (ife (tnot (tv (cll 1 (G_is_net K) (ac (vr 0) an)))) nev skp)
noncomputable def G_need_net (K : PySem.W.Frag) : FD := raw N_need_net (b_need_net K)
end A
namespace A
open PySem PySem.Spec PyProof.Rows L2 Dt
variable {K : PySem.W.Frag} {h : DH} {env : Env'}
theorem asc_eq : ∀ {a b : List Nat}, a.Pairwise (· < ·) → b.Pairwise (· < ·) → (∀ x, x ∈ a ↔ x ∈ b) → a = b
  | [], [], _, _, _ => rfl
  | [], y :: b, _, _, m => absurd ((m y).mpr List.mem_cons_self) (by simp)
  | x :: a, [], _, _, m => absurd ((m x).mp List.mem_cons_self) (by simp)
  | x :: a, y :: b, p, q, m => by
    obtain ⟨p1, p2⟩ := List.pairwise_cons.mp p
    obtain ⟨q1, q2⟩ := List.pairwise_cons.mp q
    have e : x = y := by
      rcases List.mem_cons.mp ((m x).mp List.mem_cons_self) with h1 | h1
      · exact h1
      · rcases List.mem_cons.mp ((m y).mpr List.mem_cons_self) with h2 | h2
        · exact h2.symm
        · have := p1 y h2; have := q1 x h1; omega
    subst e
    rw [asc_eq p2 q2 fun z => ?_]
    constructor
    · intro hz
      rcases List.mem_cons.mp ((m z).mp (List.mem_cons_of_mem _ hz)) with h1 | h1
      · have := p1 z hz; omega
      · exact h1
    · intro hz
      rcases List.mem_cons.mp ((m z).mpr (List.mem_cons_of_mem _ hz)) with h1 | h1
      · have := q1 z hz; omega
      · exact h1
theorem adj_asc {w : Nat} : ∀ {E : List Ed}, (∀ e ∈ E, e.1 < e.2) → E.Pairwise eLt → (adj E w).Pairwise (· < ·)
  | [], _, _ => by simp [adj]
  | e :: E, lt, p => by
    obtain ⟨p1, p2⟩ := List.pairwise_cons.mp p
    have ih := adj_asc (w := w) (fun f hf => lt f (List.mem_cons_of_mem _ hf)) p2
    obtain ⟨a, b⟩ := e
    have ab : a < b := lt (a, b) List.mem_cons_self
    have key : ∀ x, (a = w ∧ x = b) ∨ (b = w ∧ x = a) → ∀ y ∈ adj E w, x < y := by
      intro x hx y hy
      rcases mem_adj.mp hy with hf | hf
      · have l1 := p1 _ hf
        have l2 := lt _ (List.mem_cons_of_mem _ hf)
        unfold eLt at l1
        dsimp only at l1 l2
        omega
      · have l1 := p1 _ hf
        have l2 := lt _ (List.mem_cons_of_mem _ hf)
        unfold eLt at l1
        dsimp only at l1 l2
        omega
    simp only [adj]
    refine List.pairwise_append.mpr ⟨?_, ih, fun x hx y hy => ?_⟩
    · by_cases h1 : a = w
      · have h2 : ¬ b = w := by omega
        simp [h1, h2]
      · by_cases h2 : b = w <;> simp [h1, h2]
    · refine key x ?_ y hy
      rcases List.mem_append.mp hx with hx | hx
      · by_cases h1 : a = w
        · simp [h1] at hx; exact .inl ⟨h1, hx⟩
        · simp [h1] at hx
      · by_cases h1 : b = w
        · simp [h1] at hx; exact .inr ⟨h1, hx⟩
        · simp [h1] at hx
theorem adj_nb {n w : Nat} {E : List Ed} (N : Net n E) : adj E w = nb n E w := by
  refine asc_eq (adj_asc (fun e he => (N.lt e he).1) N.asc) ?_ fun x => ?_
  · unfold nb
    exact List.Pairwise.filter _ List.pairwise_lt_range
  · rw [mem_adj]
    unfold nb
    rw [List.mem_filter, List.mem_range, decide_eq_true_eq]
    constructor
    · intro hx
      refine ⟨?_, hx.symm⟩
      rcases hx with hx | hx
      · exact (N.lt _ hx).2
      · have := N.lt _ hx; dsimp only at this; omega
    · exact fun hx => hx.2.symm
theorem nb_le {n w : Nat} {E : List Ed} : (nb n E w).length ≤ n := by
  unfold nb
  have := List.length_filter_le (fun k => decide ((k, w) ∈ E ∨ (w, k) ∈ E)) (List.range n)
  rwa [List.length_range] at this
theorem nb_lt {n w x : Nat} {E : List Ed} (hx : x ∈ nb n E w) : x < n := by
  unfold nb at hx
  exact List.mem_range.mp (List.mem_filter.mp hx).1
/-- what stays -/
def Kept (h h' : DH) : Prop := h.length ≤ h'.length ∧ ∀ k, k < h.length → h'[k]? = h[k]?
theorem Kept.refl : Kept h h := ⟨Nat.le_refl _, fun _ _ => rfl⟩
theorem Kept.trans {a b c : DH} (x : Kept a b) (y : Kept b c) : Kept a c := ⟨Nat.le_trans x.1 y.1, fun k hk => (y.2 k (Nat.lt_of_lt_of_le hk x.1)).trans (x.2 k hk)⟩
theorem Kept.get {h' : DH} {n : Nat} {o : O} (x : Kept h h') (e : h[n]? = some o) : h'[n]? = some o := (x.2 n (lt_of e)).trans e
theorem Kept.app {g : DH} : Kept h (h ++ g) := ⟨by simp, fun k hk => List.getElem?_append_left hk⟩
theorem Kept.grow {h' : DH} {b : Nat} (x : Kept h h') : Grow b h h' := ⟨x.1, fun k hk _ => x.2 k hk⟩
theorem Kept.ls {h' : DH} {d : D} {ds : List D} (x : Kept h h') (l : LsAt h d ds) : LsAt h' d ds := by
  rcases l with rfl | ⟨n, rfl, e⟩
  · exact .frz
  · exact .ref (x.get e)
theorem Kept.bag {h' : DH} {b c : Nat} (x : Kept h h') (y : Bag h b c) : Bag h' b c := by
  obtain ⟨b0, b1, b2, e, r⟩ := y
  exact ⟨b0, b1, b2, x.get e, r⟩
theorem need_net_ok {n : Nat} {E : List Ed} (N : Net n E) (hl : E.length ≤ 300) : ∃ h', G_need_net K [netD n E] h = .ok .non h' ∧ Kept h h' := by
  obtain ⟨h1, e1, l1, k1⟩ := net_is (K := K) (h := h) N hl
  refine ⟨h1, ?_, l1, k1⟩
  unfold G_need_net raw
  rw [show startD N_need_net [netD n E] = [some (netD n E)] from rfl]
  unfold b_need_net
  simp -implicitDefEqProofs only [ev_ife, ev_tnot, ev_tv, ev_cll, ev_ac, ev_vr0, ev_an, bd_ok, List.length_cons, List.length_nil, if_true, e1, ev_tst, Bool.not_true, ev_bs_ok, Bool.false_eq_true, if_false, ev_skp]
structure Bt where
  rows : List (List Int)
  wds : List (List (Option Int))
abbrev Pr := (Nat × Nat) × Option Int
def prw (w : Nat) (os : List Nat) (ws : List (Option Int)) : List Pr := (os.zip ws).map fun q => ((w, q.1), q.2)
def prs (n : Nat) (E : List Ed) (wds : List (List (Option Int))) (k : Nat) : List Pr := (List.range k).flatMap fun w => prw w (nb n E w) (wds.getD w [])
def got : List Pr → Nat × Nat → Option Int
  | [], _ => none
  | q :: r, k => if q.1 = k then q.2 else got r k
def cameOf (n : Nat) (E : List Ed) (wds : List (List (Option Int))) (w : Nat) : List (Option Int) := (nb n E w).map fun o => got (prs n E wds n) (o, w)
def beat1 (n : Nat) (E : List Ed) (p : Pg) (t : Nat) (B : Bt) : Bt :=
  ⟨(List.range n).map fun w => p.fresh w t (B.rows.getD w []) (cameOf n E B.wds w), (List.range n).map fun w => p.words w t (B.rows.getD w []) (cameOf n E B.wds w)⟩
def runB (n : Nat) (E : List Ed) (p : Pg) : Nat → Bt
  | 0 => beat1 n E p 0 ⟨[], []⟩
  | t + 1 => beat1 n E p (t + 1) (runB n E p t)
def prevB (n : Nat) (E : List Ed) (p : Pg) : Nat → Bt
  | 0 => ⟨[], []⟩
  | t + 1 => runB n E p t
theorem runB_eq {n : Nat} {E : List Ed} {p : Pg} (t : Nat) : runB n E p t = beat1 n E p t (prevB n E p t) := by cases t <;> rfl
theorem run_rows {n t w : Nat} {E : List Ed} {p : Pg} (hw : w < n) : (runB n E p t).rows[w]? = some (p.fresh w t ((prevB n E p t).rows.getD w []) (cameOf n E (prevB n E p t).wds w)) := by
  rw [runB_eq]
  unfold beat1
  simp [List.getElem?_range hw]
theorem run_wds {n t w : Nat} {E : List Ed} {p : Pg} (hw : w < n) : (runB n E p t).wds[w]? = some (p.words w t ((prevB n E p t).rows.getD w []) (cameOf n E (prevB n E p t).wds w)) := by
  rw [runB_eq]
  unfold beat1
  simp [List.getElem?_range hw]
def kk (k : Nat × Nat) : List Key := [.inl (k.1 : Int), .inl (k.2 : Int)]
theorem prs_succ {n k : Nat} {E : List Ed} {wds : List (List (Option Int))} : prs n E wds (k + 1) = prs n E wds k ++ prw k (nb n E k) (wds.getD k []) := by
  unfold prs
  rw [List.range_succ, List.flatMap_append]
  simp
theorem prs_lt {n k : Nat} {E : List Ed} {wds : List (List (Option Int))} : ∀ q ∈ prs n E wds k, q.1.1 < k := by
  intro q hq
  unfold prs at hq
  obtain ⟨w, hw, m⟩ := List.mem_flatMap.mp hq
  unfold prw at m
  obtain ⟨r, _, rfl⟩ := List.mem_map.mp m
  exact List.mem_range.mp hw
end A
namespace A
open PySem PySem.Spec PyProof.Rows L2 Dt
variable {K : PySem.W.Frag} {h : DH} {env : Env'}
/-- the neighbours' lists, of either making -/
def Tie (h : DH) (n : Nat) (E : List Ed) (ys : List D) : Prop := ys.length = n ∧ ∀ j d, ys[j]? = some d → LsAt h d ((nb n E j).map iD)
theorem Tie.kept {h' : DH} {n : Nat} {E : List Ed} {ys : List D} (t : Tie h n E ys) (k : ∀ (m : Nat) (o : O), h[m]? = some o → h'[m]? = some o) : Tie h' n E ys := ⟨t.1, fun j d e => by
  rcases t.2 j d e with rfl | ⟨m, rfl, e1⟩
  · exact .frz
  · exact .ref (k m _ e1)⟩
end A
namespace A
open PySem PySem.Spec PyProof.Rows L2 Dt
variable {K : PySem.W.Frag} {h : DH} {env : Env'}
section
variable {n last t f s d : Nat} {E : List Ed} {p : Pg} {a b c : D} {ys : List D} {x4 x8 x9 x10 x11 x12 x13 x14 : Option D}
end
end A
namespace A
open PySem PySem.Spec PyProof.Rows L2 Dt
variable {K : PySem.W.Frag} {h : DH} {env : Env'}
section
variable {n last : Nat} {E : List Ed} {p : Pg} {a b c : D}
end
end A
namespace A
open PySem PySem.Spec PyProof.Rows L2 Dt
variable {K : PySem.W.Frag} {h : DH} {env : Env'}
section
variable {n last most t f s d : Nat} {E : List Ed} {p : Pg} {a b c : D} {ys : List D} {x4 x8 x9 x10 x11 x12 x13 : Option D}
end
end A
namespace A
open PySem PySem.Spec PyProof.Rows L2 Dt
end A
namespace A
open PySem PySem.Spec PyProof.Rows L2 Dt
variable {K : PySem.W.Frag} {h : DH}
theorem ls_isi_int {n : Int} : isiD [.int n, .tup [.con (.ty "list"), .con (.ty "tuple")]] h = .ok (.bl false) h := rfl
theorem ls_isi_lst {ds : List D} : isiD [.lst ds, .tup [.con (.ty "list"), .con (.ty "tuple")]] h = .ok (.bl true) h := rfl
theorem ls_isi_lst1 {ds : List D} : isiD [.lst ds, .con (.ty "list")] h = .ok (.bl true) h := rfl
theorem ls_isi_i {n : Int} : isiD [.int n, .con (.ty "int")] h = .ok (.bl true) h := rfl
theorem ls_isi_b {n : Int} : isiD [.int n, .con (.ty "bool")] h = .ok (.bl false) h := rfl
theorem ls_mk2 {a b : D} : mkT [a, b] h = .ok (.tup [a, b]) h := ev_mkT (by simp)
section
variable {n last : Nat} {E : List Ed} {p : Pg} {a b c : D}
end
end A
namespace A
open PySem PySem.Spec PyProof.Rows L2 Dt
end A
namespace A
open PySem PySem.Spec PyProof.Rows L2 Dt
variable {K : PySem.W.Frag} {h : DH} {env : Env'}
def ltr (q : Pr) : List Int := [q.1.1, q.1.2, q.2.getD 0]
def ltrs (ps : List Pr) : List (List Int) := (ps.filter fun q => q.2.isSome).map ltr
end A
namespace A
open PySem PySem.Spec PyProof.Rows L2 Dt
variable {K : PySem.W.Frag} {h : DH} {env : Env'}
section
variable {n last most : Nat} {E : List Ed} {p : Pg} {a b c : D}
abbrev psAt (n : Nat) (E : List Ed) (p : Pg) (t : Nat) : List Pr := prs n E (runB n E p t).wds n
def Pg.more (p : Pg) (r : Option Ex × Ex × Ex) : Pg := ⟨p.first, p.later, p.send ++ [r]⟩
theorem Gp.more {d : Nat} {r : Option Ex × Ex × Ex} (g : Gp p most d) (gr : Gs p.names d r) : Gp (p.more r) (most + 1) d :=
  ⟨g.nd, g.nm, g.same, Nat.le_succ_of_le g.few, by show (p.send ++ [r]).length ≤ _; rw [List.length_append]; have := g.fews; simp; omega, g.efirst, g.elater, fun x hx => by
    rcases List.mem_append.mp hx with hx | hx
    · exact g.esend x hx
    · rw [List.mem_singleton.mp hx]; exact gr⟩
end
end A
namespace A
open PySem PySem.Spec PyProof.Rows L2 Dt
variable {K : PySem.W.Frag} {h : DH} {env : Env'}
structure Bx (E : List Ed) (s k : Nat) (row : List Nat) (vals : List Int) : Prop where
  z0 : row[0]? = some s ∧ vals[0]? = some 0
  mono : ∀ (i j : Nat) (a b : Int), i ≤ j → vals[i]? = some a → vals[j]? = some b → a ≤ b
  win : ∀ z : Int, vals[k]? = some z → ∀ (j : Nat) (b : Int), vals[j]? = some b → b ≤ z + 1
  cl : ∀ (i v : Nat) (z : Int), i < k → row[i]? = some v → vals[i]? = some z → ∀ x ∈ adj E v, ∃ (j : Nat) (b : Int), row[j]? = some x ∧ vals[j]? = some b ∧ b ≤ z + 1
  par : ∀ (j x : Nat) (b : Int), row[j]? = some x → vals[j]? = some b → j ≠ 0 → ∃ (i v : Nat) (z : Int), row[i]? = some v ∧ vals[i]? = some z ∧ x ∈ adj E v ∧ b = z + 1
theorem Bx.first {E : List Ed} {s : Nat} : Bx E s 0 [s] [0] := by
  refine ⟨⟨rfl, rfl⟩, fun i j a b _ ha hb => ?_, fun z hz j b hb => ?_, fun i v z hi => by omega, fun j x b hj _ h0 => ?_⟩
  · have : i = 0 := by have := (List.getElem?_eq_some_iff.mp ha).1; simp at this; exact this
    have : j = 0 := by have := (List.getElem?_eq_some_iff.mp hb).1; simp at this; exact this
    subst_vars
    simp at ha hb
    omega
  · have : j = 0 := by have := (List.getElem?_eq_some_iff.mp hb).1; simp at this; exact this
    subst this
    simp at hz hb
    omega
  · have := (List.getElem?_eq_some_iff.mp hj).1
    simp at this
    omega
theorem get_snoc {α : Type} {l : List α} {x y : α} {j : Nat} (e : (l ++ [x])[j]? = some y) : l[j]? = some y ∨ (j = l.length ∧ y = x) := by
  by_cases hj : j < l.length
  · rw [List.getElem?_append_left hj] at e; exact .inl e
  · rw [List.getElem?_append_right (by omega)] at e
    have : j - l.length = 0 := by have := (List.getElem?_eq_some_iff.mp e).1; simp at this; omega
    rw [this] at e
    simp at e
    exact .inr ⟨by omega, e.symm⟩
theorem get_left {α : Type} {l : List α} {x y : α} {j : Nat} (e : l[j]? = some y) : (l ++ [x])[j]? = some y := by
  rw [List.getElem?_append_left (List.getElem?_eq_some_iff.mp e).1]; exact e
theorem Bx.push {E : List Ed} {s k v x : Nat} {z : Int} {row : List Nat} {vals : List Int} (b : Bx E s k row vals) (l : vals.length = row.length) (hv : row[k]? = some v) (hz : vals[k]? = some z) (hm : x ∉ row) (xa : x ∈ adj E v) : Bx E s k (row ++ [x]) (vals ++ [z + 1]) := by
  have kl := (List.getElem?_eq_some_iff.mp hz).1
  refine ⟨⟨get_left b.z0.1, get_left b.z0.2⟩, fun i j p q hij hp hq => ?_, fun w hw j q hq => ?_, fun i u w hi hu hw y hy => ?_, fun j y q hj hq h0 => ?_⟩
  · rcases get_snoc hp with hp | ⟨hi, rfl⟩
    · rcases get_snoc hq with hq | ⟨hj, rfl⟩
      · exact b.mono i j p q hij hp hq
      · exact b.win z hz i p hp
    · rcases get_snoc hq with hq | ⟨hj, rfl⟩
      · have := (List.getElem?_eq_some_iff.mp hq).1; omega
      · exact Int.le_refl _
  · have hw' : w = z := by
      rcases get_snoc hw with hw | ⟨e, _⟩
      · rw [hz] at hw; exact (Option.some.inj hw).symm
      · omega
    subst hw'
    rcases get_snoc hq with hq | ⟨hj, rfl⟩
    · exact b.win w hz j q hq
    · exact Int.le_refl _
  · have il : i < row.length := by omega
    have hu' : row[i]? = some u := by rw [List.getElem?_append_left il] at hu; exact hu
    have hw' : vals[i]? = some w := by rw [List.getElem?_append_left (by omega)] at hw; exact hw
    obtain ⟨j, q, h1, h2, h3⟩ := b.cl i u w hi hu' hw' y hy
    exact ⟨j, q, get_left h1, get_left h2, h3⟩
  · rcases get_snoc hj with hj | ⟨e, rfl⟩
    · have hq' : vals[j]? = some q := by rw [List.getElem?_append_left (by have := (List.getElem?_eq_some_iff.mp hj).1; omega)] at hq; exact hq
      obtain ⟨i, u, w, h1, h2, h3, h4⟩ := b.par j y q hj hq' h0
      exact ⟨i, u, w, get_left h1, get_left h2, h3, h4⟩
    · rcases get_snoc hq with hq | ⟨_, rfl⟩
      · have := (List.getElem?_eq_some_iff.mp hq).1; omega
      · exact ⟨k, v, z, get_left hv, get_left hz, xa, rfl⟩
theorem Bx.next {E : List Ed} {s k v : Nat} {row : List Nat} {vals : List Int} (b : Bx E s k row vals) (l : vals.length = row.length) (hv : row[k]? = some v) (c : ∀ x ∈ adj E v, x ∈ row) : Bx E s (k + 1) row vals := by
  have kl : k < vals.length := by rw [l]; exact (List.getElem?_eq_some_iff.mp hv).1
  obtain ⟨z, hz⟩ : ∃ z, vals[k]? = some z := ⟨_, List.getElem?_eq_getElem kl⟩
  refine ⟨b.z0, b.mono, fun w hw j q hq => ?_, fun i u w hi hu hw y hy => ?_, b.par⟩
  · have h1 := b.win z hz j q hq
    have h2 := b.mono k (k + 1) z w (by omega) hz hw
    omega
  · by_cases hik : i = k
    · subst hik
      rw [hv] at hu; cases hu
      rw [hz] at hw; cases hw
      obtain ⟨j, hj⟩ := List.getElem?_of_mem (c y hy)
      obtain ⟨q, hq⟩ : ∃ q, vals[j]? = some q := ⟨_, List.getElem?_eq_getElem (by rw [l]; exact (List.getElem?_eq_some_iff.mp hj).1)⟩
      exact ⟨j, q, hj, hq, b.win z hz j q hq⟩
    · exact b.cl i u w (by omega) hu hw y hy
theorem lk_at : ∀ {row : List Nat} {vals : List Int} {k v : Nat} {z : Int}, row.Nodup → row[k]? = some v → vals[k]? = some z → lk (row.map nk) (vals.map D.int) (nk v) = some (.int z)
  | [], _, k, v, z, _, hv, _ => by simp at hv
  | r :: row, [], k, v, z, _, _, hz => by simp at hz
  | r :: row, w :: vals, 0, v, z, _, hv, hz => by
    simp at hv hz
    subst hv hz
    simp [lk]
  | r :: row, w :: vals, k + 1, v, z, nd, hv, hz => by
    obtain ⟨n1, n2⟩ := List.nodup_cons.mp nd
    have hv' : row[k]? = some v := by simpa using hv
    have ne : r ≠ v := fun e => n1 (e ▸ List.mem_of_getElem? hv')
    have : nk r ≠ nk v := fun z => by injection z with z; omega
    have ih := lk_at n2 hv' (by simpa using hz)
    simp only [List.map_cons, lk]
    rw [if_neg this]
    exact ih
theorem ix_dk2 {F : Nat} {row : List Nat} {vals : List Int} {k x : Nat} (l : vals.length = row.length) (nd : row.Nodup) (e : h[F]? = some (.dk (row.map nk) (vals.map D.int))) (hx : row[k]? = some x) : ∃ z, vals[k]? = some z ∧ ixD (.ref F) (.int x) h = .ok (.int z) h := by
  obtain ⟨z, hz⟩ : ∃ z, vals[k]? = some z := ⟨_, List.getElem?_eq_getElem (by rw [l]; exact (List.getElem?_eq_some_iff.mp hx).1)⟩
  refine ⟨z, hz, ?_⟩
  show (match lkD h (.ref F) (.int x) with
    | some (some d) => Rs.ok d h
    | some none => .bad
    | none => _) = _
  rw [lkD_dk e, lk_at nd hx hz]
/-- distances from a hand -/
structure Far (n : Nat) (E : List Ed) (s : Nat) (δ : Nat → Nat) : Prop where
  z : δ s = 0
  st : ∀ u v, u < n → v ∈ adj E u → δ v ≤ δ u + 1
  pr : ∀ x, x < n → x ≠ s → ∃ v, v < n ∧ x ∈ adj E v ∧ δ x = δ v + 1
end A
namespace A
open PySem PySem.Spec PyProof.Rows L2 Dt
end A
namespace A
open PySem PySem.Spec PyProof.Rows L2 Dt
variable {K : PySem.W.Frag} {h : DH} {env : Env'}
theorem got_app1 {a b : List Pr} {k : Nat × Nat} (ha : ∀ q ∈ a, q.1 ≠ k) : got (a ++ b) k = got b k := by
  induction a with
  | nil => rfl
  | cons q a ih =>
    show (if q.1 = k then q.2 else got (a ++ b) k) = _
    rw [if_neg (ha q List.mem_cons_self)]
    exact ih fun r hr => ha r (List.mem_cons_of_mem _ hr)
theorem got_none {a : List Pr} {k : Nat × Nat} (ha : ∀ q ∈ a, q.1 ≠ k) : got a k = none := by
  have := got_app1 (b := []) ha
  rwa [List.append_nil] at this
theorem got_app2 {a b : List Pr} {k : Nat × Nat} (hb : ∀ q ∈ b, q.1 ≠ k) : got (a ++ b) k = got a k := by
  induction a with
  | nil => exact got_none hb
  | cons q a ih =>
    show (if q.1 = k then q.2 else got (a ++ b) k) = (if q.1 = k then q.2 else got a k)
    rw [ih]
theorem prw_fst {w : Nat} {os : List Nat} {ws : List (Option Int)} : ∀ q ∈ prw w os ws, q.1.1 = w := fun q hq => by
  unfold prw at hq
  obtain ⟨z, _, rfl⟩ := List.mem_map.mp hq
  rfl
theorem got_prs {n o w : Nat} {E : List Ed} {wds : List (List (Option Int))} : ∀ k, o < k → got (prs n E wds k) (o, w) = got (prw o (nb n E o) (wds.getD o [])) (o, w)
  | 0, h => by omega
  | k + 1, h => by
    rw [prs_succ]
    by_cases e : o = k
    · subst e
      exact got_app1 fun q hq z => by have := prs_lt q hq; rw [z] at this; exact Nat.lt_irrefl _ this
    · rw [got_app2 fun q hq z => by have := prw_fst q hq; rw [z] at this; exact e this]
      exact got_prs k (by omega)
theorem came_eq {n w : Nat} {E : List Ed} {a b : List (List (Option Int))} (e : ∀ o ∈ nb n E w, a.getD o [] = b.getD o []) : cameOf n E a w = cameOf n E b w := by
  unfold cameOf
  refine List.map_congr_left fun o ho => ?_
  rw [got_prs n (nb_lt ho), got_prs n (nb_lt ho), e o ho]
/-- two programs that differ in what one hand begins with -/
structure Alk (one : Nat) (p q : Pg) : Prop where
  names : p.names = q.names
  later : p.later = q.later
  send : p.send = q.send
  first : ∀ (w : Nat) (came : List (Option Int)), w ≠ one → p.fresh w 0 [] came = q.fresh w 0 [] came
theorem run_getr {n t w : Nat} {E : List Ed} {p : Pg} (hw : w < n) : (runB n E p t).rows.getD w [] = p.fresh w t ((prevB n E p t).rows.getD w []) (cameOf n E (prevB n E p t).wds w) := by
  simp only [List.getD, run_rows hw, Option.getD_some]
theorem run_getw {n t w : Nat} {E : List Ed} {p : Pg} (hw : w < n) : (runB n E p t).wds.getD w [] = p.words w t ((prevB n E p t).rows.getD w []) (cameOf n E (prevB n E p t).wds w) := by
  simp only [List.getD, run_wds hw, Option.getD_some]
theorem words_alk {one w t : Nat} {p q : Pg} {ra rb : List Int} {came : List (Option Int)} (A : Alk one p q) (e : p.fresh w t ra came = q.fresh w t rb came) : p.words w t ra came = q.words w t rb came := by
  unfold Pg.words Pg.si2
  rw [e, A.names, A.send]
theorem late {n one : Nat} {E : List Ed} {p q : Pg} {δ : Nat → Nat} (N : Net n E) (A : Alk one p q) (F : Far n E one δ) : ∀ t w, w < n → t < δ w → (runB n E p t).rows.getD w [] = (runB n E q t).rows.getD w [] ∧ (runB n E p t).wds.getD w [] = (runB n E q t).wds.getD w []
  | 0, w, hw, hd => by
    have hne : w ≠ one := fun z => by rw [z, F.z] at hd; omega
    rw [run_getr hw, run_getr hw, run_getw hw, run_getw hw]
    have e := A.first w (cameOf n E [] w) hne
    exact ⟨e, words_alk A e⟩
  | t + 1, w, hw, hd => by
    have ih := late N A F t
    rw [run_getr hw, run_getr hw, run_getw hw, run_getw hw]
    show p.fresh w (t + 1) ((runB n E p t).rows.getD w []) (cameOf n E (runB n E p t).wds w) = q.fresh w (t + 1) ((runB n E q t).rows.getD w []) (cameOf n E (runB n E q t).wds w) ∧
      p.words w (t + 1) ((runB n E p t).rows.getD w []) (cameOf n E (runB n E p t).wds w) = q.words w (t + 1) ((runB n E q t).rows.getD w []) (cameOf n E (runB n E q t).wds w)
    have er := (ih w hw (by omega)).1
    have ec : cameOf n E (runB n E p t).wds w = cameOf n E (runB n E q t).wds w := came_eq fun o ho => by
      have ao : o ∈ adj E w := by rw [adj_nb N]; exact ho
      have aw : w ∈ adj E o := mem_adj.mpr (mem_adj.mp ao).symm
      have on := nb_lt ho
      have := F.st o w on aw
      exact (ih o on (by omega)).2
    have e : p.fresh w (t + 1) ((runB n E q t).rows.getD w []) (cameOf n E (runB n E q t).wds w) = q.fresh w (t + 1) ((runB n E q t).rows.getD w []) (cameOf n E (runB n E q t).wds w) := by
      unfold Pg.fresh Pg.rows Pg.si Pg.ahead
      simp only [Nat.succ_ne_zero, if_false]
      rw [A.names, A.later]
    rw [er, ec]
    exact ⟨e, words_alk A e⟩
theorem ltrs_app {a b : List Pr} : ltrs (a ++ b) = ltrs a ++ ltrs b := by
  unfold ltrs
  rw [List.filter_append, List.map_append]
theorem calm {n one t : Nat} {E : List Ed} {p q : Pg} {δ : Nat → Nat} (N : Net n E) (A : Alk one p q) (F : Far n E one δ) : (ltrs (psAt n E p t)).filter (fun r => decide (t < δ (r.headD 0).toNat)) = (ltrs (psAt n E q t)).filter (fun r => decide (t < δ (r.headD 0).toNat)) := by
  have key : ∀ k, k ≤ n → (ltrs (prs n E (runB n E p t).wds k)).filter (fun r => decide (t < δ (r.headD 0).toNat)) = (ltrs (prs n E (runB n E q t).wds k)).filter (fun r => decide (t < δ (r.headD 0).toNat)) := by
    intro k
    induction k with
    | zero => intro _; rfl
    | succ k ih =>
      intro hk
      rw [prs_succ, prs_succ, ltrs_app, ltrs_app, List.filter_append, List.filter_append, ih (by omega)]
      congr 1
      by_cases hd : t < δ k
      · rw [(late N A F t k (by omega) hd).2]
      · have no : ∀ ws, (ltrs (prw k (nb n E k) ws)).filter (fun r => decide (t < δ (r.headD 0).toNat)) = [] := fun ws => by
          rw [List.filter_eq_nil_iff]
          intro r hr
          unfold ltrs at hr
          obtain ⟨z, hz, rfl⟩ := List.mem_map.mp hr
          have := prw_fst z (List.mem_filter.mp hz).1
          simp [ltr, this]
          omega
        rw [no, no]
  exact key n (Nat.le_refl _)
end A
namespace B
open PySem PySem.Spec PyProof.Rows L2 Dt
abbrev N_law_steps : List Str := ["net", "hand", "within", "found", "ways", "pair", "going", "one", "other"]
noncomputable def b_law_steps (K : PySem.W.Frag) : SF :=
  (seq (asg (o2 (mulD true) (oA (mkL false) (ac (ct .non) an)) (o2 ixD (vr 0) (ct (.int 0)))) (.nm 3))
    (seq (setI (vr 3) (vr 1) (ct (.int 0)))
    (seq (asg (o2 (addD false) (o2 ixD (vr 0) (ct (.int 1))) (oA tupleD (ac (lcE (isq (o2 ixD (vr 0) (ct (.int 1)))) (.nm 5) tyes (o2 revTD (vr 5) (o1 negD (ct (.int 1)))) [5]) an))) (.nm 4))
    (seq (asg (ct (.bl true)) (.nm 6))
    (seq (whF (tv (vr 6)) (seq (asg (ct (.bl false)) (.nm 6))
    (forE (isq (vr 4)) (.tp [(.nm 7), (.nm 8)]) (ife (tand (tv (o2 inD (vr 8) (vr 2))) (tand (tv (o2 isntD (o2 ixD (vr 3) (vr 7)) (ct .non))) (tor (tv (o2 isD (o2 ixD (vr 3) (vr 8)) (ct .non))) (tv (o2 gtD (o2 ixD (vr 3) (vr 8)) (o2 (addD false) (o2 ixD (vr 3) (vr 7)) (ct (.int 1)))))))) (seq (setI (vr 3) (vr 8) (o2 (addD false) (o2 ixD (vr 3) (vr 7)) (ct (.int 1))))
    (asg (ct (.bl true)) (.nm 6))) skp))) many)
    (ret (vr 3)))))))
noncomputable def G_law_steps (K : PySem.W.Frag) : FD := raw N_law_steps (b_law_steps K)
end B
namespace B
open PySem PySem.Spec PyProof.Rows L2 Dt
open A (Beside raw_of Grow Ed eD netD Net Far adj mem_adj)
variable {K : PySem.W.Frag} {h : DH}
theorem sum_le {f g : Nat → Nat} : ∀ {xs : List Nat}, (∀ x ∈ xs, f x ≤ g x) → (xs.map f).sum ≤ (xs.map g).sum
  | [], _ => Nat.le_refl _
  | x :: xs, h => by
    have := sum_le (xs := xs) fun y hy => h y (List.mem_cons_of_mem _ hy)
    have := h x List.mem_cons_self
    simp only [List.map_cons, List.sum_cons]
    omega
theorem sum_lt {f g : Nat → Nat} : ∀ {xs : List Nat} {b : Nat}, (∀ x ∈ xs, f x ≤ g x) → b ∈ xs → f b < g b → (xs.map f).sum < (xs.map g).sum
  | x :: xs, b, h, hb, hlt => by
    have h0 := h x List.mem_cons_self
    have hr : ∀ y ∈ xs, f y ≤ g y := fun y hy => h y (List.mem_cons_of_mem _ hy)
    simp only [List.map_cons, List.sum_cons]
    rcases List.mem_cons.mp hb with rfl | hb
    · have := sum_le hr; omega
    · have := sum_lt hr hb hlt; omega
abbrev Fd := Nat → Option Nat
def oN : Option Nat → D
  | none => .non
  | some v => iD v
def rlx (ws : List Nat) (s : Fd × Bool) (e : Ed) : Fd × Bool := match s.1 e.1 with
  | some v => if e.2 ∈ ws ∧ (s.1 e.2 = none ∨ ∃ w, s.1 e.2 = some w ∧ v + 1 < w) then (fun x => if x = e.2 then some (v + 1) else s.1 x, true) else s
  | none => s
def Imp (ws : List Nat) (φ : Fd) (e : Ed) : Prop := ∃ v, φ e.1 = some v ∧ e.2 ∈ ws ∧ (φ e.2 = none ∨ ∃ w, φ e.2 = some w ∧ v + 1 < w)
def cnt (n : Nat) (φ : Fd) : Nat := ((List.range n).map fun x => if (φ x).isSome then 1 else 0).sum
def msr (n : Nat) (φ : Fd) : Nat := ((List.range n).map fun x => (φ x).getD 17).sum
structure Good (n s : Nat) (φ : Fd) : Prop where
  z : φ s = some 0
  c : ∀ x v, φ x = some v → v + 1 ≤ cnt n φ
theorem cnt_le {n : Nat} {φ : Fd} : cnt n φ ≤ n := by
  have : ∀ xs : List Nat, (xs.map fun x => if (φ x).isSome then 1 else 0).sum ≤ xs.length := fun xs => by
    induction xs with
    | nil => simp
    | cons x xs ih =>
      simp only [List.map_cons, List.sum_cons, List.length_cons]
      split <;> omega
  have := this (List.range n)
  rwa [List.length_range] at this
theorem rlx_step {n s : Nat} {ws : List Nat} {φ : Fd} {g : Bool} {e : Ed} (hn : n ≤ 16) (G : Good n s φ) (h2 : e.2 < n) :
    (rlx ws (φ, g) e = (φ, g) ∧ ¬ Imp ws φ e) ∨ (∃ v, φ e.1 = some v ∧ e.2 ∈ ws ∧ rlx ws (φ, g) e = (fun x => if x = e.2 then some (v + 1) else φ x, true) ∧ Good n s (fun x => if x = e.2 then some (v + 1) else φ x) ∧ msr n (fun x => if x = e.2 then some (v + 1) else φ x) < msr n φ) := by
  unfold rlx
  cases hv : φ e.1 with
  | none => exact .inl ⟨by simp [hv], fun ⟨v, q, _⟩ => by rw [hv] at q; cases q⟩
  | some v =>
    by_cases hc : e.2 ∈ ws ∧ (φ e.2 = none ∨ ∃ w, φ e.2 = some w ∧ v + 1 < w)
    · refine .inr ⟨v, rfl, hc.1, ?_, ?_, ?_⟩
      · show (match φ e.1 with | some v => _ | none => _) = _
        rw [hv]
        exact if_pos hc
      · have cm : cnt n φ ≤ cnt n (fun x => if x = e.2 then some (v + 1) else φ x) := sum_le fun x _ => by
          by_cases hx : x = e.2 <;> simp [hx]
          split <;> omega
        refine ⟨?_, fun x w hw => ?_⟩
        · show (if s = e.2 then some (v + 1) else φ s) = _
          by_cases hs : s = e.2
          · exfalso
            rcases hc.2 with q | ⟨w, q, lw⟩
            · rw [← hs, G.z] at q; cases q
            · rw [← hs, G.z] at q; cases q; omega
          · rw [if_neg hs]; exact G.z
        · have vc := G.c e.1 v hv
          by_cases hx : x = e.2
          · rw [if_pos hx] at hw
            cases hw
            rcases hc.2 with q | ⟨w, q, lw⟩
            · have : cnt n φ < cnt n (fun x => if x = e.2 then some (v + 1) else φ x) := sum_lt (b := e.2) (fun x _ => by
                by_cases hx : x = e.2 <;> simp [hx]
                split <;> omega) (List.mem_range.mpr h2) (by simp [q])
              omega
            · have := G.c e.2 w q
              omega
          · rw [if_neg hx] at hw
            have := G.c x w hw
            omega
      · have vc := G.c e.1 v hv
        have cl := cnt_le (n := n) (φ := φ)
        refine sum_lt (b := e.2) (fun x _ => ?_) (List.mem_range.mpr h2) ?_
        · by_cases hx : x = e.2
          · subst hx
            rcases hc.2 with q | ⟨w, q, lw⟩
            · simp [q]; omega
            · simp [q]; omega
          · simp [hx]
        · rcases hc.2 with q | ⟨w, q, lw⟩
          · simp [q]; omega
          · simp [q]; omega
    · refine .inl ⟨?_, fun ⟨v', q, r⟩ => ?_⟩
      · show (match φ e.1 with | some v => _ | none => _) = _
        rw [hv]
        exact if_neg hc
      · rw [hv] at q
        cases q
        exact hc r
/-- a pass over the edges -/
theorem pass {n s : Nat} {ws : List Nat} (hn : n ≤ 16) : ∀ (W : List Ed) (φ : Fd) (g : Bool), (∀ e ∈ W, e.2 < n) → Good n s φ →
    (W.foldl (rlx ws) (φ, g) = (φ, g) ∧ ∀ e ∈ W, ¬ Imp ws φ e) ∨ ((W.foldl (rlx ws) (φ, g)).2 = true ∧ Good n s (W.foldl (rlx ws) (φ, g)).1 ∧ msr n (W.foldl (rlx ws) (φ, g)).1 < msr n φ)
  | [], φ, g, _, _ => .inl ⟨rfl, by simp⟩
  | e :: W, φ, g, hW, G => by
    rw [List.foldl_cons]
    have hr : ∀ e ∈ W, e.2 < n := fun x hx => hW x (List.mem_cons_of_mem _ hx)
    rcases rlx_step (ws := ws) (g := g) hn G (hW e List.mem_cons_self) with ⟨q, ni⟩ | ⟨v, hv, hm, q, G', lt⟩
    · rw [q]
      rcases pass hn W φ g hr G with ⟨a, b⟩ | c
      · exact .inl ⟨a, fun x hx => (List.mem_cons.mp hx).elim (fun z => z ▸ ni) (b x)⟩
      · exact .inr c
    · rw [q]
      rcases pass hn W _ true hr G' with ⟨a, b⟩ | ⟨a, b, c⟩
      · rw [a]; exact .inr ⟨rfl, G', lt⟩
      · exact .inr ⟨a, b, Nat.lt_trans c lt⟩
/-- what is kept at each step -/
theorem fold_keep {ws : List Nat} (P : Fd → Prop) : ∀ (W : List Ed) (φ : Fd) (g : Bool), P φ → (∀ φ e v, e ∈ W → P φ → φ e.1 = some v → e.2 ∈ ws → P (fun x => if x = e.2 then some (v + 1) else φ x)) → P (W.foldl (rlx ws) (φ, g)).1
  | [], φ, g, h0, _ => h0
  | e :: W, φ, g, h0, hs => by
    rw [List.foldl_cons]
    have key : P (rlx ws (φ, g) e).1 := by
      unfold rlx
      cases hv : φ e.1 with
      | none => simp only [hv]; exact h0
      | some v =>
        simp only [hv]
        split
        · rename_i hc
          exact hs φ e v List.mem_cons_self h0 hv hc.1
        · exact h0
    exact fold_keep P W _ _ key fun φ e v he => hs φ e v (List.mem_cons_of_mem _ he)
end B
namespace B
open PySem PySem.Spec PyProof.Rows L2 Dt
open A (Beside raw_of Grow Ed eD netD Net Far adj mem_adj Kept)
variable {K : PySem.W.Frag} {h : DH}
/-- a loop that lessens a measure -/
theorem whF_m {t : TF} {body : SF} (P : Nat → Env' → DH → Prop) (J : Env' → DH → Prop) (st : ∀ m env h, P m env h → (t env h = .ok false h ∧ J env h) ∨ (t env h = .ok true h ∧ ∃ e2 h2 m', body env h = .nx e2 h2 ∧ m' < m ∧ P m' e2 h2)) :
    ∀ (m fuel : Nat) (env : Env') (h : DH), m < fuel → P m env h → ∃ e2 h2, whF t body fuel env h = .nx e2 h2 ∧ J e2 h2
  | m, 0, env, h, hm, _ => by omega
  | m, fuel + 1, env, h, hm, hP => by
    rcases st m env h hP with ⟨a, b⟩ | ⟨a, e2, h2, m', b, c, d⟩
    · exact ⟨env, h, by unfold whF; rw [a]; simp, b⟩
    · obtain ⟨e3, h3, er, j⟩ := whF_m P J st m' fuel e2 h2 (by omega) d
      refine ⟨e3, h3, ?_, j⟩
      unfold whF
      rw [a]
      simp only [ev_bs_ok, if_true, b]
      exact er
def Fo (n : Nat) (φ : Fd) : O := .lst ((List.range n).map fun x => oN (φ x))
theorem fo_ix {n F x : Nat} {φ : Fd} (e : h[F]? = some (Fo n φ)) (hx : x < n) : ixD (.ref F) (iD x) h = .ok (oN (φ x)) h := ev_ixR e (by rw [List.getElem?_map, List.getElem?_range hx]; rfl)
theorem fo_set {n F x : Nat} {φ : Fd} {o : Option Nat} (e : h[F]? = some (Fo n φ)) (hx : x < n) : setItD (.ref F) (iD x) (oN o) h = some (h.set F (Fo n (fun y => if y = x then o else φ y))) := by
  rw [ev_setIt e (by simpa using hx)]
  congr 2
  unfold Fo
  congr 1
  refine List.ext_getElem (by simp) fun i h1 h2 => ?_
  rw [List.getElem_set]
  by_cases hi : x = i
  · subst hi; simp
  · have : ¬ i = x := fun z => hi z.symm
    simp [hi, this]
noncomputable def relB : SF := (ife (tand (tv (o2 inD (vr 8) (vr 2))) (tand (tv (o2 isntD (o2 ixD (vr 3) (vr 7)) (ct .non))) (tor (tv (o2 isD (o2 ixD (vr 3) (vr 8)) (ct .non))) (tv (o2 gtD (o2 ixD (vr 3) (vr 8)) (o2 (addD false) (o2 ixD (vr 3) (vr 7)) (ct (.int 1)))))))) (seq (setI (vr 3) (vr 8) (o2 (addD false) (o2 ixD (vr 3) (vr 7)) (ct (.int 1))))
    (asg (ct (.bl true)) (.nm 6))) skp)
theorem rlx_none {ws : List Nat} {φ : Fd} {g : Bool} {e : Ed} (hv : φ e.1 = none) : rlx ws (φ, g) e = (φ, g) := by
  show (match φ e.1 with | some v => _ | none => _) = _
  rw [hv]
theorem rlx_yes {ws : List Nat} {φ : Fd} {g : Bool} {e : Ed} {v : Nat} (hv : φ e.1 = some v) (hw : e.2 ∈ ws) (hc : φ e.2 = none ∨ ∃ w, φ e.2 = some w ∧ v + 1 < w) : rlx ws (φ, g) e = (fun x => if x = e.2 then some (v + 1) else φ x, true) := by
  show (match φ e.1 with | some v => _ | none => _) = _
  rw [hv]
  exact if_pos ⟨hw, hc⟩
theorem rlx_no {ws : List Nat} {φ : Fd} {g : Bool} {e : Ed} (hi : ¬ Imp ws φ e) : rlx ws (φ, g) e = (φ, g) := by
  show (match φ e.1 with | some v => _ | none => _) = _
  cases hv : φ e.1 with
  | none => rfl
  | some v => exact if_neg fun q => hi ⟨v, hv, q⟩
/-- what tells whether a hand is within -/
def In (wd : D) (ws : List Nat) (n : Nat) : Prop := ∀ (g : DH) (x : Nat), x < n → inD (iD x) wd g = .ok (.bl (decide (x ∈ ws))) g
theorem rel_turn {n F : Nat} {ws : List Nat} {wd : D} {φ : Fd} {g : Bool} {e : Ed} {x0 x1 x4 : D} {y5 : Option D} (iw0 : In wd ws n) (ef : h[F]? = some (Fo n φ)) (l1 : e.1 < n) (l2 : e.2 < n) :
    relB [some x0, some x1, some wd, some (.ref F), some x4, y5, some (.bl g), some (iD e.1), some (iD e.2)] h
      = .nx [some x0, some x1, some wd, some (.ref F), some x4, y5, some (.bl (rlx ws (φ, g) e).2), some (iD e.1), some (iD e.2)] (h.set F (Fo n (rlx ws (φ, g) e).1)) := by
  have i1 := fo_ix (h := h) ef l1
  have i2 := fo_ix (h := h) ef l2
  have same : h.set F (Fo n φ) = h := by
    refine List.ext_getElem? fun j => ?_
    by_cases hj : F = j
    · subst hj
      rw [List.getElem?_set_self (lt_of ef), ef]
    · rw [List.getElem?_set_ne hj]
  have iw := iw0 h e.2 l2
  have nn : isntD .non .non h = .ok (.bl false) h := rfl
  have ni : ∀ v : Nat, isntD (iD v) .non h = .ok (.bl true) h := fun _ => rfl
  have sn : isD .non .non h = .ok (.bl true) h := rfl
  have si : ∀ v : Nat, isD (iD v) .non h = .ok (.bl false) h := fun _ => rfl
  have gt : ∀ v w : Nat, gtD (iD w) (.int ((v : Int) + 1)) h = .ok (.bl (decide (v + 1 < w))) h := fun v w => by
    show Rs.ok (D.bl (decide ((w : Int) > (v : Int) + 1))) h = _
    congr 2
    exact decide_eq_decide.mpr (by omega)
  have ad : ∀ v : Nat, addD false (iD v) (.int 1) h = .ok (iD (v + 1)) h := fun v => by
    show Rs.ok (D.int ((v : Int) + 1)) h = Rs.ok (D.int ((v + 1 : Nat) : Int)) h
    rfl
  have ad' : ∀ v : Nat, (iD (v + 1)) = D.int ((v : Int) + 1) := fun v => rfl
  have stp : ∀ v : Nat, setItD (.ref F) (iD e.2) (iD (v + 1)) h = some (h.set F (Fo n (fun y => if y = e.2 then some (v + 1) else φ y))) := fun v => fo_set (o := some (v + 1)) ef l2
  unfold relB
  by_cases hw : e.2 ∈ ws
  · have dw : decide (e.2 ∈ ws) = true := decide_eq_true hw
    cases h1 : φ e.1 with
    | none =>
      rw [h1] at i1
      simp -implicitDefEqProofs only [oN] at i1
      rw [rlx_none h1]
      simp -implicitDefEqProofs only [ev_ife, ev_tand, ev_tv, ev_o2, ev_vrS, ev_vr0, bd_ok, iw, dw, ev_tst, if_true, i1, ev_ct, nn, Bool.false_eq_true, if_false, ev_bs_ok, ev_skp, same]
    | some v =>
      rw [h1] at i1
      simp -implicitDefEqProofs only [oN] at i1
      have stp := stp v
      cases h2 : φ e.2 with
      | none =>
        rw [h2] at i2
        simp -implicitDefEqProofs only [oN] at i2
        rw [rlx_yes h1 hw (.inl h2)]
        simp -implicitDefEqProofs only [ev_ife, ev_tand, ev_tor, ev_tv, ev_o2, ev_vrS, ev_vr0, bd_ok, iw, dw, ev_tst, if_true, i1, i2, ev_ct, ni, sn, ev_bs_ok, ev_seq, ev_setI, ad, stp, ev_sq_nx, ev_asg, List.set_cons_succ, List.set_cons_zero]
      | some w =>
        rw [h2] at i2
        simp -implicitDefEqProofs only [oN] at i2
        have gt := gt v w
        rw [← ad'] at gt
        by_cases hlt : v + 1 < w
        · have dl : decide (v + 1 < w) = true := decide_eq_true hlt
          rw [rlx_yes h1 hw (.inr ⟨w, h2, hlt⟩)]
          simp -implicitDefEqProofs only [ev_ife, ev_tand, ev_tor, ev_tv, ev_o2, ev_vrS, ev_vr0, bd_ok, iw, dw, ev_tst, if_true, i1, i2, ev_ct, ni, si, ad, gt, dl, Bool.false_eq_true, if_false, ev_bs_ok, ev_seq, ev_setI, stp, ev_sq_nx, ev_asg, List.set_cons_succ, List.set_cons_zero]
        · have dl : decide (v + 1 < w) = false := decide_eq_false hlt
          rw [rlx_no (fun ⟨v', q1, _, q2⟩ => by
            rw [h1] at q1
            cases q1
            rcases q2 with q | ⟨w', q, r⟩
            · rw [h2] at q; cases q
            · rw [h2] at q; cases q; exact hlt r)]
          simp -implicitDefEqProofs only [ev_ife, ev_tand, ev_tor, ev_tv, ev_o2, ev_vrS, ev_vr0, bd_ok, iw, dw, ev_tst, if_true, i1, i2, ev_ct, ni, si, ad, gt, dl, Bool.false_eq_true, if_false, ev_bs_ok, ev_skp, same]
  · have dw : decide (e.2 ∈ ws) = false := decide_eq_false hw
    rw [rlx_no (fun ⟨v', q1, q2, _⟩ => hw q2)]
    simp -implicitDefEqProofs only [ev_ife, ev_tand, ev_tv, ev_o2, ev_vrS, ev_vr0, bd_ok, iw, dw, ev_tst, Bool.false_eq_true, if_false, ev_bs_ok, ev_skp, same]
end B
namespace B
open PySem PySem.Spec PyProof.Rows L2 Dt
open A (Beside raw_of Grow Ed eD netD Net Far adj mem_adj Kept)
variable {K : PySem.W.Frag} {h : DH}
noncomputable def passB : SF := (seq (asg (ct (.bl false)) (.nm 6)) (forE (isq (vr 4)) (.tp [(.nm 7), (.nm 8)]) relB))
theorem pass_turn {n F : Nat} {ws : List Nat} {wd : D} {W : List Ed} {φ : Fd} {x0 x1 : D} {y5 y6 y7 y8 : Option D} (iw : In wd ws n) (ef : h[F]? = some (Fo n φ)) (hW : ∀ e ∈ W, e.1 < n ∧ e.2 < n) :
    ∃ z7 z8 h', passB [some x0, some x1, some wd, some (.ref F), some (.tup (W.map eD)), y5, y6, y7, y8] h
      = .nx [some x0, some x1, some wd, some (.ref F), some (.tup (W.map eD)), y5, some (.bl (W.foldl (rlx ws) (φ, false)).2), z7, z8] h' ∧ h'[F]? = some (Fo n (W.foldl (rlx ws) (φ, false)).1) ∧ h'.length = h.length ∧ ∀ k, k ≠ F → h'[k]? = h[k]? := by
  obtain ⟨e2, h2, lp, ⟨z7, z8, rfl⟩, ef2, l2, k2⟩ := for_g (t := .tp [(.nm 7), (.nm 8)]) (fi := isq (vr 4)) (h := h) (h1 := h) (it := ⟨[], W.map eD⟩) (body := relB)
    (env := [some x0, some x1, some wd, some (.ref F), some (.tup (W.map eD)), y5, some (.bl false), y7, y8])
    (fun j e g => (∃ z7 z8, e = [some x0, some x1, some wd, some (.ref F), some (.tup (W.map eD)), y5, some (.bl ((W.take j).foldl (rlx ws) (φ, false)).2), z7, z8]) ∧ g[F]? = some (Fo n ((W.take j).foldl (rlx ws) (φ, false)).1) ∧ g.length = h.length ∧ ∀ k, k ≠ F → g[k]? = h[k]?)
    (by rw [ev_isq]; simp only [ev_vrS, ev_vr0, bd_ok, ev_sqT]) ⟨⟨_, _, rfl⟩, ef, rfl, fun _ _ => rfl⟩ (fun _ _ _ _ => so_nil) (fun j e g d hI hd => by
      obtain ⟨⟨z7, z8, rfl⟩, efg, lg, kg⟩ := hI
      dsimp only at hd
      rw [List.getElem?_map] at hd
      obtain ⟨ed, hed, rfl⟩ := Option.map_eq_some_iff.mp hd
      have hl := hW ed (List.mem_of_getElem? hed)
      have tk : W.take (j + 1) = W.take j ++ [ed] := by rw [List.take_add_one, hed]; rfl
      rw [tk, List.foldl_append, List.foldl_cons, List.foldl_nil]
      generalize (W.take j).foldl (rlx ws) (φ, false) = st at efg
      obtain ⟨ψ, gb⟩ := st
      have t := rel_turn (h := g) (ws := ws) (g := gb) (x0 := x0) (x1 := x1) (x4 := .tup (W.map eD)) (y5 := y5) iw efg hl.1 hl.2
      refine ⟨_, _, _, rfl, .inl t, ⟨_, _, rfl⟩, get_set (lt_of efg), by rw [List.length_set, lg], fun k hk => by rw [List.getElem?_set_ne (Ne.symm hk)]; exact kg k hk⟩)
  rw [List.length_map, List.take_length] at ef2
  refine ⟨z7, z8, h2, ?_, ef2, l2, k2⟩
  unfold passB
  simp -implicitDefEqProofs only [ev_seq, ev_asg, ev_ct, ev_bs_ok, List.set_cons_succ, List.set_cons_zero, ev_sq_nx]
  rw [lp, List.length_map, List.take_length]
theorem ev_repO {n : Nat} (hn : n ≤ 1000) : mulD true (.lst [.non]) (.int (n : Int)) h = .ok (.ref h.length) (h ++ [Fo n fun _ => none]) := by
  have e : (List.replicate (n : Int).toNat [D.non]).flatten = (List.range n).map fun x => oN ((fun _ => none : Fd) x) := by
    rw [Int.toNat_natCast]
    have q : ∀ k : Nat, (List.replicate k [D.non]).flatten = List.replicate k D.non := fun k => by
      induction k with
      | zero => rfl
      | succ k ih => rw [List.replicate_succ, List.flatten_cons, ih]; rfl
    rw [q]
    refine List.ext_getElem (by simp) fun i h1 h2 => ?_
    rw [List.getElem_replicate, List.getElem_map]
    rfl
  show (if -4611686018427387904 ≤ (n : Int) ∧ (n : Int) < 4611686018427387904 ∧ [D.non].length * (n : Int).toNat ≤ 1000000 then mkL true (List.replicate (n : Int).toNat [D.non]).flatten h else .bad) = _
  have c : -4611686018427387904 ≤ (n : Int) ∧ (n : Int) < 4611686018427387904 ∧ [D.non].length * (n : Int).toNat ≤ 1000000 := ⟨by omega, by omega, by rw [Int.toNat_natCast]; show 1 * n ≤ _; omega⟩
  rw [if_pos c, e]
  exact ev_mkO (by rw [List.length_map, List.length_range]; omega)
def swp (e : Ed) : Ed := (e.2, e.1)
def waysOf (E : List Ed) : List Ed := E ++ E.map swp
theorem steps_okW {n s : Nat} {ws : List Nat} {wd : D} {E : List Ed} (iw : In wd ws n) (N : Net n E) (hE : E.length ≤ 300) (hs : s < n) (hw : ws.length ≤ 16) (Q : Fd → Prop) (q0 : Q fun x => if x = s then some 0 else none)
    (qs : ∀ φ e v, e ∈ waysOf E → Q φ → φ e.1 = some v → e.2 ∈ ws → Q (fun x => if x = e.2 then some (v + 1) else φ x)) :
    ∃ (φ : Fd) (F : Nat) (h' : DH), G_law_steps K [netD n E, iD s, wd] h = .ok (.ref F) h' ∧ h'[F]? = some (Fo n φ) ∧ h.length ≤ F ∧ Kept h h' ∧ Good n s φ ∧ Q φ ∧ ∀ e ∈ waysOf E, ¬ Imp ws φ e := by
  have n16 := N.le
  have i0 : ∀ g, ixD (netD n E) (.int 0) g = .ok (.int n) g := fun _ => ev_ixT (i := 0) rfl
  have i1 : ∀ g, ixD (netD n E) (.int 1) g = .ok (.tup (E.map eD)) g := fun _ => ev_ixT (i := 1) rfl
  have mk : mkL false [.non] h = .ok (.lst [.non]) h := ev_mkF (by simp)
  obtain ⟨F, eF⟩ : ∃ F, F = h.length := ⟨_, rfl⟩
  obtain ⟨h1, eh1⟩ : ∃ h1, h1 = h ++ [Fo n fun _ => none] := ⟨_, rfl⟩
  have rp : mulD true (.lst [.non]) (.int (n : Int)) h = .ok (.ref F) h1 := by rw [eF, eh1]; exact ev_repO (by omega)
  have ef1 : h1[F]? = some (Fo n fun _ => none) := by rw [eF, eh1]; exact get_new
  obtain ⟨φ0, eφ0⟩ : ∃ φ0 : Fd, φ0 = fun x => if x = s then some 0 else none := ⟨_, rfl⟩
  rw [← eφ0] at q0
  obtain ⟨h2, eh2⟩ : ∃ h2, h2 = h1.set F (Fo n φ0) := ⟨_, rfl⟩
  have st : setItD (.ref F) (iD s) (.int 0) h1 = some h2 := by rw [eh2, eφ0]; exact fo_set (o := some 0) ef1 hs
  have ef2 : h2[F]? = some (Fo n φ0) := by rw [eh2]; exact get_set (lt_of ef1)
  have l2 : h2.length = h.length + 1 := by rw [eh2, List.length_set, eh1]; simp
  have k2 : ∀ k, k < h.length → h2[k]? = h[k]? := fun k hk => by rw [eh2, List.getElem?_set_ne (by omega), eh1, List.getElem?_append_left hk]
  have lc := ev_lcg (h := h2) (t := .nm 5) (vs := [5]) (fe := o2 revTD (vr 5) (o1 negD (ct (.int 1)))) (fi := isq (o2 ixD (vr 0) (ct (.int 1)))) (env := [some (netD n E), some (iD s), some wd, some (.ref F), none, none, none, none, none])
    eD (fun e => eD (swp e)) E (it := ⟨[], E.map eD⟩) (by rw [ev_isq]; simp only [ev_o2, ev_vr0, ev_ct, bd_ok, i1, ev_sqT]) so_nil rfl (fun e _ => ⟨_, rfl, by
      simp -implicitDefEqProofs only [wipD, List.set_cons_succ, List.set_cons_zero, ev_o2, ev_o1, ev_vrS, ev_vr0, ev_ct, bd_ok, ev_neg]
      rfl⟩) (by omega)
  have tp : tupleD [.lst (E.map fun e => eD (swp e))] h2 = .ok (.tup (E.map fun e => eD (swp e))) h2 := ev_mkT (by simp; omega)
  have ad : addD false (.tup (E.map eD)) (.tup (E.map fun e => eD (swp e))) h2 = .ok (.tup ((waysOf E).map eD)) h2 := by
    have : (waysOf E).map eD = E.map eD ++ E.map fun e => eD (swp e) := by unfold waysOf; rw [List.map_append, List.map_map]; rfl
    rw [this]
    exact if_pos (by rw [List.length_map, List.length_map]; omega)
  have hW : ∀ e ∈ waysOf E, e.1 < n ∧ e.2 < n := fun e he => by
    rcases List.mem_append.mp he with he | he
    · have := N.lt e he; omega
    · obtain ⟨z, hz, rfl⟩ := List.mem_map.mp he
      have := N.lt z hz
      show z.2 < n ∧ z.1 < n
      omega
  have G0 : Good n s φ0 := ⟨by rw [eφ0]; simp, fun x v hv => by
    rw [eφ0] at hv
    dsimp only at hv
    split at hv
    · cases hv
      have : ∀ xs : List Nat, s ∈ xs → 1 ≤ (xs.map fun x => if (φ0 x).isSome then 1 else 0).sum := fun xs => by
        induction xs with
        | nil => intro h; cases h
        | cons x xs ih =>
          intro hm
          simp only [List.map_cons, List.sum_cons]
          rcases List.mem_cons.mp hm with rfl | hm
          · have : (φ0 s).isSome = true := by rw [eφ0]; simp
            simp [this]
          · have := ih hm
            omega
      have := this (List.range n) (List.mem_range.mpr hs)
      show 0 + 1 ≤ cnt n φ0
      unfold cnt
      omega
    · cases hv⟩
  have m0 : msr n φ0 + 1 < many := by
    have : ∀ xs : List Nat, (xs.map fun x => (φ0 x).getD 17).sum ≤ 17 * xs.length := fun xs => by
      induction xs with
      | nil => simp
      | cons x xs ih =>
        simp only [List.map_cons, List.sum_cons, List.length_cons]
        have : (φ0 x).getD 17 ≤ 17 := by
          rw [eφ0]
          dsimp only
          split <;> simp
        omega
    have := this (List.range n)
    rw [List.length_range] at this
    unfold msr many
    omega
  obtain ⟨e3, h3, lp, φ, z7, z8, rfl, ef3, G3, Q3, fx, l3, k3⟩ := whF_m (t := tv (vr 6)) (body := passB)
    (fun m e g => ∃ (φ : Fd) (gb : Bool) (z7 z8 : Option D), e = [some (netD n E), some (iD s), some wd, some (.ref F), some (.tup ((waysOf E).map eD)), none, some (.bl gb), z7, z8] ∧ g[F]? = some (Fo n φ) ∧ Good n s φ ∧ Q φ ∧ (gb = true → msr n φ + 1 ≤ m) ∧ (gb = false → ∀ e ∈ waysOf E, ¬ Imp ws φ e) ∧ g.length = h2.length ∧ ∀ k, k ≠ F → g[k]? = h2[k]?)
    (fun e g => ∃ (φ : Fd) (z7 z8 : Option D), e = [some (netD n E), some (iD s), some wd, some (.ref F), some (.tup ((waysOf E).map eD)), none, some (.bl false), z7, z8] ∧ g[F]? = some (Fo n φ) ∧ Good n s φ ∧ Q φ ∧ (∀ e ∈ waysOf E, ¬ Imp ws φ e) ∧ g.length = h2.length ∧ ∀ k, k ≠ F → g[k]? = h2[k]?)
    (fun m e g ⟨φ, gb, z7, z8, he, ef, G, q, a, b, l, k⟩ => by
      subst he
      cases gb with
      | false => exact .inl ⟨rfl, φ, z7, z8, rfl, ef, G, q, b rfl, l, k⟩
      | true =>
        have a := a rfl
        obtain ⟨w7, w8, g', t, efg, lg, kg⟩ := pass_turn (h := g) (ws := ws) (W := waysOf E) (x0 := netD n E) (x1 := iD s) (y5 := none) (y6 := some (.bl true)) (y7 := z7) (y8 := z8) iw ef hW
        have qf := fold_keep (ws := ws) Q (waysOf E) φ false q qs
        refine .inr ⟨rfl, _, g', m - 1, t, by omega, _, _, w7, w8, rfl, efg, ?_, qf, ?_, ?_, lg.trans l, fun i hi => (kg i hi).trans (k i hi)⟩
        all_goals rcases pass (ws := ws) n16 (waysOf E) φ false (fun e he => (hW e he).2) G with ⟨u, v⟩ | ⟨u, v, w⟩
        · rw [u]; exact G
        · exact v
        · rw [u]; intro z; cases z
        · intro _; omega
        · rw [u]; exact fun _ => v
        · rw [u]; intro z; cases z) (msr n φ0 + 1) many
    [some (netD n E), some (iD s), some wd, some (.ref F), some (.tup ((waysOf E).map eD)), none, some (.bl true), none, none] h2 m0 ⟨φ0, true, none, none, rfl, ef2, G0, q0, fun _ => Nat.le_refl _, (fun z => by cases z), rfl, fun _ _ => rfl⟩
  refine ⟨φ, F, h3, raw_of ?_, ef3, by omega, ⟨by omega, fun k hk => (k3 k (by omega)).trans (k2 k hk)⟩, G3, Q3, fx⟩
  rw [show startD N_law_steps [netD n E, iD s, wd] = [some (netD n E), some (iD s), some wd, none, none, none, none, none, none] from rfl]
  unfold b_law_steps
  unfold passB relB at lp
  simp -implicitDefEqProofs only [ev_seq, ev_asg, ev_o2, ev_oA, ev_ac, ev_ct, ev_an, ev_vr0, ev_vrS, bd_ok, mk, i0, rp, ev_bs_ok, List.set_cons_succ, List.set_cons_zero, ev_sq_nx, ev_setI, st, i1]
  rw [lc]
  simp -implicitDefEqProofs only [bd_ok, ev_an, tp, ad, ev_bs_ok, List.set_cons_succ, List.set_cons_zero, ev_sq_nx, ev_seq, ev_asg, ev_ct]
  rw [lp]
  simp -implicitDefEqProofs only [ev_sq_nx, ev_ret, ev_vrS, ev_vr0, ev_bs_ok]
end B
namespace B
open PySem PySem.Spec PyProof.Rows L2 Dt
open A (Beside raw_of Grow Ed eD netD Net Far adj mem_adj Kept nb adj_nb ls_isi_int ls_isi_i ls_isi_b ls_mk2 ls_isi_lst ls_isi_lst1 nb_le)
variable {K : PySem.W.Frag} {h : DH}
end B
namespace B
open PySem PySem.Spec PyProof.Rows L2 Dt
open A (G_need_net G_is_whole G_beside)
abbrev N_whole : List Str := ["net"]
noncomputable def b_whole (K : PySem.W.Frag) : SF :=
  (seq (drp (cll 1 (G_need_net K) (ac (vr 0) an)))
    (ret (oA mkT (ac (trg (o2 ixD (vr 0) (ct (.int 0)))) an))))
noncomputable def G_whole (K : PySem.W.Frag) : FD := raw N_whole (b_whole K)
end B
namespace B
open PySem PySem.Spec PyProof.Rows L2 Dt
open A (Beside raw_of Grow Ed eD netD Net adj mem_adj Kept nb adj_nb nb_lt nb_le refs refs_ix Ls)
variable {K : PySem.W.Frag} {h : DH}
def lay (n : Nat) (E : List Ed) (part left : List Nat) : List Nat := left.filter fun x => !decide (x ∈ part) && (nb n E x).any fun o => decide (o ∈ part)
/-- when a layer is put on -/
def Go (n : Nat) (E : List Ed) (k : Int) (part left : List Nat) : Prop := lay n E part left ≠ [] ∧ (k - 1) * (part.length : Int) ≤ ((lay n E part left).length : Int)
instance {n : Nat} {E : List Ed} {k : Int} {part left : List Nat} : Decidable (Go n E k part left) := by unfold Go; exact inferInstance
inductive Gr (n : Nat) (E : List Ed) (k : Int) (left : List Nat) : List Nat → List Nat → Prop where
  | stop {part : List Nat} : ¬ Go n E k part left → Gr n E k left part part
  | go {part r : List Nat} : Go n E k part left → Gr n E k left (part ++ lay n E part left) r → Gr n E k left part r
def srt (n : Nat) (r : List Nat) : List Nat := (List.range n).filter fun x => decide (x ∈ r)
inductive Gs (n : Nat) (E : List Ed) (k : Int) : List Nat → List (List Nat) → Prop where
  | nil : Gs n E k [] []
  | cons {x : Nat} {xs r : List Nat} {ps : List (List Nat)} : Gr n E k (x :: xs) [x] r → Gs n E k ((x :: xs).filter fun y => !decide (y ∈ r)) ps → Gs n E k (x :: xs) (srt n r :: ps)
/-- a part under growth -/
structure Pt (n : Nat) (left part : List Nat) : Prop where
  nd : part.Nodup
  sub : ∀ x ∈ part, x ∈ left
  ne : part ≠ []
theorem Pt.more {n : Nat} {E : List Ed} {left part : List Nat} (p : Pt n left part) (nl : left.Nodup) : Pt n left (part ++ lay n E part left) := by
  refine ⟨List.nodup_append.mpr ⟨p.nd, nl.filter _, fun a ha b hb e => ?_⟩, fun x hx => ?_, by simp [p.ne]⟩
  · subst e
    have := (List.mem_filter.mp hb).2
    simp [ha] at this
  · rcases List.mem_append.mp hx with hx | hx
    · exact p.sub x hx
    · exact (List.mem_filter.mp hx).1
theorem Pt.len {n : Nat} {left part : List Nat} (p : Pt n left part) (hl : ∀ x ∈ left, x < n) : part.length ≤ n := by
  have := p.nd.length_le_of_subset (l₂ := List.range n) fun x hx => List.mem_range.mpr (hl x (p.sub x hx))
  rwa [List.length_range] at this
end B
namespace B
open PySem PySem.Spec PyProof.Rows L2 Dt
open A (Beside raw_of Grow Ed eD netD Net adj mem_adj Kept nb adj_nb nb_lt nb_le refs refs_ix Ls)
variable {K : PySem.W.Frag} {h : DH}
noncomputable def inB : SF := (seq (drp (mth lstK extendD (vr 5) (ac (vr 6) an))) skp)
def prT (q : List Nat) : D := .tup (q.map iD)
end B
namespace B
open PySem PySem.Spec PyProof.Rows L2 Dt
open A (Beside raw_of Grow Ed eD netD Net adj mem_adj Kept nb adj_nb nb_lt nb_le refs refs_ix Ls)
variable {K : PySem.W.Frag} {h : DH}
end B
namespace B
open PySem PySem.Spec PyProof.Rows L2 Dt
open A (Beside raw_of Grow Ed eD netD Net adj mem_adj Kept nb adj_nb nb_lt nb_le refs refs_ix Ls asc_eq)
variable {K : PySem.W.Frag} {h : DH}
def uq (n : Nat) (es : List Nat) : List Nat := (List.range n).filter fun x => decide (x ∈ es)
theorem uq_iset {n : Nat} {es : List Nat} (hl : ∀ x ∈ es, x < n) : iset (es.map fun x : Nat => (x : Int)) = (uq n es).map fun x : Nat => (x : Int) := by
  refine ris_eqI ris_iset ?_ fun z => ?_
  · unfold uq
    rw [List.pairwise_map]
    exact List.Pairwise.imp (fun h => by omega) (List.Pairwise.filter _ List.pairwise_lt_range)
  · rw [mem_iset, List.mem_map, List.mem_map]
    constructor
    · rintro ⟨x, hx, rfl⟩
      exact ⟨x, List.mem_filter.mpr ⟨List.mem_range.mpr (hl x hx), decide_eq_true hx⟩, rfl⟩
    · rintro ⟨x, hx, rfl⟩
      exact ⟨x, of_decide_eq_true (List.mem_filter.mp hx).2, rfl⟩
end B
namespace B
open PySem PySem.Spec PyProof.Rows L2 Dt
open A (Beside raw_of Grow Ed eD netD Net adj mem_adj Kept nb adj_nb nb_lt nb_le refs refs_ix Ls asc_eq)
variable {K : PySem.W.Frag} {h : DH}
end B
namespace B
open PySem PySem.Spec PyProof.Rows L2 Dt
open A (Beside raw_of Grow Ed eD netD Net adj mem_adj Kept nb adj_nb nb_lt nb_le refs refs_ix Ls asc_eq)
variable {K : PySem.W.Frag} {h : DH}
end B
namespace B
open PySem PySem.Spec PyProof.Rows L2 Dt
open A (Beside raw_of Grow Ed eD netD Net Tree cap cap_le edges edges_d edges_net pk2 Tree.mono)
variable {K : PySem.W.Frag} {h : DH}
end B
namespace B
open PySem PySem.Spec PyProof.Rows L2 Dt
open A (Beside raw_of Grow Ed eD netD Net Tree cap cap_le edges edges_d edges_net pk2 Tree.mono Kept)
variable {K : PySem.W.Frag} {h : DH}
theorem trg_ok {env : Env'} {fa : EF} {n : Nat} (hn : n ≤ 1000) (e : fa env h = .ok (.int n) h) : trg fa env h = .ok (.tup ((List.range n).map iD)) h := by
  unfold trg
  rw [e]
  simp only [bd_ok]
  rw [if_pos ⟨by omega, by omega⟩, show rgsD (n : Int) = (List.range n).map iD from by unfold rgsD; simp]
  exact ev_mkT (by simp; omega)
theorem whole_ok {n : Nat} {E : List Ed} (N : Net n E) (hE : E.length ≤ 300) : ∃ h', G_whole K [netD n E] h = .ok (.tup [.tup ((List.range n).map iD)]) h' ∧ Kept h h' := by
  obtain ⟨h1, e1, k1⟩ := A.need_net_ok (K := K) (h := h) N hE
  have n16 := N.le
  have i0 : ∀ g, ixD (netD n E) (.int 0) g = .ok (.int n) g := fun _ => ev_ixT (i := 0) rfl
  have tr := trg_ok (h := h1) (env := [some (netD n E)]) (fa := o2 ixD (vr 0) (ct (.int 0))) (n := n) (by omega) (by simp only [ev_o2, ev_vr0, ev_ct, bd_ok, i0])
  have mt : mkT [.tup ((List.range n).map iD)] h1 = .ok (.tup [.tup ((List.range n).map iD)]) h1 := ev_mkT (by simp)
  refine ⟨h1, raw_of ?_, k1⟩
  rw [show startD N_whole [netD n E] = [some (netD n E)] from rfl]
  unfold b_whole
  simp -implicitDefEqProofs only [ev_seq, ev_drp, ev_cll, ev_ac, ev_vr0, ev_an, bd_ok, List.length_cons, List.length_nil, if_true, e1, ev_bs_ok, ev_sq_nx, ev_ret, ev_oA, tr, mt]
end B
namespace B
open PySem PySem.Spec PyProof.Rows L2 Dt
open A (Beside raw_of Grow Ed eD netD Net adj mem_adj Kept nb adj_nb nb_lt nb_le refs refs_ix Ls Rc nk mem_nk lk_in lk_out nin_dk ix_dk2 lkD_dk nodup_len Bx seeBody bfsBody)
variable {K : PySem.W.Frag} {h : DH}
/-- the edges within some hands -/
def sub (E : List Ed) (ws : List Nat) : List Ed := E.filter fun e => decide (e.1 ∈ ws ∧ e.2 ∈ ws)
theorem mem_sub {E : List Ed} {ws : List Nat} {e : Ed} : e ∈ sub E ws ↔ e ∈ E ∧ e.1 ∈ ws ∧ e.2 ∈ ws := by
  unfold sub
  rw [List.mem_filter, decide_eq_true_eq]
theorem adj_sub {E : List Ed} {ws : List Nat} {v x : Nat} : x ∈ adj (sub E ws) v ↔ x ∈ adj E v ∧ v ∈ ws ∧ x ∈ ws := by
  rw [mem_adj, mem_adj, mem_sub, mem_sub]
  constructor
  · rintro (⟨a, b, c⟩ | ⟨a, b, c⟩)
    · exact ⟨.inl a, b, c⟩
    · exact ⟨.inr a, c, b⟩
  · rintro ⟨a | a, b, c⟩
    · exact .inl ⟨a, b, c⟩
    · exact .inr ⟨a, c, b⟩
structure Wf (h0 : DH) (L n : Nat) (E : List Ed) (ws : List Nat) (F R : Nat) (g : DH) (row : List Nat) (vals : List Int) : Prop where
  f : g[F]? = some (.dk (row.map nk) (vals.map D.int))
  r : g[R]? = some (.lst (row.map iD))
  len : vals.length = row.length
  nd : row.Nodup
  lt : ∀ x ∈ row, x < n
  ws : ∀ x ∈ row, x ∈ ws
  ap : F ≠ R ∧ L + n ≤ F ∧ L + n ≤ R
  kp : ∀ j, j < h0.length → g[j]? = h0[j]?
  ls : ∀ i, i < n → h0[L + i]? = some (.lst ((adj E i).map iD))
  at_ : h0.length ≤ F ∧ h0.length ≤ R
theorem Wf.few {h0 g : DH} {L n F R : Nat} {E : List Ed} {ws row : List Nat} {vals : List Int} (b : Wf h0 L n E ws F R g row vals) : row.length ≤ n := nodup_len b.nd b.lt
theorem Wf.nb {h0 g : DH} {L n F R : Nat} {E : List Ed} {ws row : List Nat} {vals : List Int} (b : Wf h0 L n E ws F R g row vals) {i : Nat} (hi : i < n) : g[L + i]? = some (.lst ((adj E i).map iD)) := by
  rw [b.kp _ (lt_of (b.ls i hi))]
  exact b.ls i hi
theorem see_w {h0 g : DH} {L n F R k v x s : Nat} {E : List Ed} {ws row : List Nat} {vals : List Int} {wd : D} {x0 x1 : Option D} (hn : n ≤ 16) (iw : In wd ws n) (b : Wf h0 L n E ws F R g row vals) (hx : x < n) (hv : row[k]? = some v) (xs : Bx (sub E ws) s k row vals) (xa : x ∈ adj E v) (vw : v ∈ ws) :
    ∃ row' vals' g', seeBody [x0, x1, some wd, some (.ref F), some (.ref R), some (.int k), some (.int x)] g
      = .nx [x0, x1, some wd, some (.ref F), some (.ref R), some (.int k), some (.int x)] g' ∧ Wf h0 L n E ws F R g' row' vals' ∧ Bx (sub E ws) s k row' vals' ∧ row <+: row' ∧ (x ∈ ws → x ∈ row') := by
  have ir := iw g x hx
  have nr := nin_dk (h := g) (x := x) b.len b.f
  have few := b.few
  by_cases hw : x ∈ ws
  · rw [decide_eq_true hw] at ir
    by_cases hm : x ∈ row
    · refine ⟨row, vals, g, ?_, b, xs, List.prefix_refl _, fun _ => hm⟩
      rw [decide_eq_true hm] at nr
      unfold seeBody
      simp only [ev_ife, ev_tand, ev_tv, ev_o2, ev_vrS, ev_vr0, bd_ok, ir, ev_tst, if_true, nr, Bool.not_true, ev_bs_ok, Bool.false_eq_true, if_false, ev_skp]
    · rw [decide_eq_false hm] at nr
      have ix1 : ixD (.ref R) (.int k) g = .ok (.int v) g := ev_ixR b.r (by rw [List.getElem?_map, hv]; rfl)
      obtain ⟨z, hz, ix2⟩ := ix_dk2 (h := g) b.len b.nd b.f hv
      have pg : putG (row.map nk) (vals.map D.int) (nk x) (.int (z + 1)) = ((row ++ [x]).map nk, (vals ++ [z + 1]).map D.int) := by
        unfold putG
        rw [if_neg (fun q => hm (mem_nk.mp q))]
        simp
      have pd : putD (.ref F) (.int x) (.int (z + 1)) g = some (g.set F (.dk ((row ++ [x]).map nk) ((vals ++ [z + 1]).map D.int))) := by
        unfold putD
        simp only [b.f, Dt.keyOf]
        rw [if_pos (by rw [List.length_map]; omega), pg]
      obtain ⟨g1, eg1⟩ : ∃ g1, g1 = g.set F (.dk ((row ++ [x]).map nk) ((vals ++ [z + 1]).map D.int)) := ⟨_, rfl⟩
      rw [← eg1] at pd
      obtain ⟨fr, f1, f2⟩ := b.ap
      obtain ⟨a1, a2⟩ := b.at_
      have r1 : g1[R]? = some (.lst (row.map iD)) := by rw [eg1, List.getElem?_set_ne fr]; exact b.r
      have ap : appendD (.ref R) [.int x] g1 = .ok .non (g1.set R (.lst ((row ++ [x]).map iD))) := by
        rw [ev_app r1 (by rw [List.length_map]; omega)]
        simp
      have k1 : lstK g1 (.ref R) = true := ev_lstK r1
      have fl := lt_of b.f
      have rl := lt_of b.r
      refine ⟨row ++ [x], vals ++ [z + 1], g1.set R (.lst ((row ++ [x]).map iD)), ?_, ?_, xs.push b.len hv hz hm (adj_sub.mpr ⟨xa, vw, hw⟩), List.prefix_append _ _, fun _ => by simp⟩
      · unfold seeBody
        have sd : setD (vr 3) (vr 6) (o2 (addD false) (o2 ixD (vr 3) (o2 ixD (vr 4) (vr 5))) (ct (.int 1))) [x0, x1, some wd, some (.ref F), some (.ref R), some (.int k), some (.int x)] g
            = .nx [x0, x1, some wd, some (.ref F), some (.ref R), some (.int k), some (.int x)] g1 := by
          unfold setD
          simp only [ev_o2, ev_vrS, ev_vr0, ev_ct, bd_ok, ix1, ix2, ev_add, ev_bs_ok, pd]
        simp only [ev_ife, ev_tand, ev_tv, ev_o2, ev_vrS, ev_vr0, bd_ok, ir, ev_tst, if_true, nr, Bool.not_false, ev_bs_ok, ev_seq, sd, ev_sq_nx, ev_drp, ev_mth, k1, ev_ac, ev_an, ap]
      · refine ⟨?_, ?_, by simp [b.len], ?_, fun y hy => ?_, fun y hy => ?_, b.ap, fun j hj => ?_, b.ls, b.at_⟩
        · rw [List.getElem?_set_ne (Ne.symm fr), eg1]
          exact get_set fl
        · exact get_set (by rw [eg1, List.length_set]; exact rl)
        · exact List.nodup_append.mpr ⟨b.nd, by simp, fun a ha c hc e => by
            rw [List.mem_singleton.mp hc] at e
            exact hm (e ▸ ha)⟩
        · rcases List.mem_append.mp hy with hy | hy
          · exact b.lt y hy
          · rw [List.mem_singleton.mp hy]; exact hx
        · rcases List.mem_append.mp hy with hy | hy
          · exact b.ws y hy
          · rw [List.mem_singleton.mp hy]; exact hw
        · rw [List.getElem?_set_ne (by omega), eg1, List.getElem?_set_ne (by omega)]
          exact b.kp j hj
  · rw [decide_eq_false hw] at ir
    refine ⟨row, vals, g, ?_, b, xs, List.prefix_refl _, fun z => absurd z hw⟩
    unfold seeBody
    simp only [ev_ife, ev_tand, ev_tv, ev_o2, ev_vrS, ev_vr0, bd_ok, ir, ev_tst, Bool.false_eq_true, if_false, ev_bs_ok, ev_skp]
theorem near_w {h0 g : DH} {L n F R k v s : Nat} {E : List Ed} {ws row : List Nat} {vals : List Int} {wd : D} {x1 x6 : Option D} (N : Net n E) (iw : In wd ws n) (b : Wf h0 L n E ws F R g row vals) (hv : row[k]? = some v) (xs : Bx (sub E ws) s k row vals) :
    ∃ row' vals' x6' g', forE (isq (o2 ixD (vr 0) (o2 ixD (vr 4) (vr 5)))) (.nm 6) seeBody [some (refs L n), x1, some wd, some (.ref F), some (.ref R), some (.int k), x6] g
      = .nx [some (refs L n), x1, some wd, some (.ref F), some (.ref R), some (.int k), x6'] g' ∧ Wf h0 L n E ws F R g' row' vals' ∧ Bx (sub E ws) s k row' vals' ∧ (∀ x ∈ adj (sub E ws) v, x ∈ row') ∧ row <+: row' := by
  have vn := b.lt v (List.mem_of_getElem? hv)
  have vw := b.ws v (List.mem_of_getElem? hv)
  have ix1 : ixD (.ref R) (.int k) g = .ok (.int v) g := ev_ixR b.r (by rw [List.getElem?_map, hv]; rfl)
  have ix2 := refs_ix (h := g) (L := L) vn
  have it : isq (o2 ixD (vr 0) (o2 ixD (vr 4) (vr 5))) [some (refs L n), x1, some wd, some (.ref F), some (.ref R), some (.int k), x6] g = .ok ⟨[(L + v, (adj E v).map iD)], (adj E v).map iD⟩ g := by
    rw [ev_isq]
    simp only [ev_o2, ev_vrS, ev_vr0, bd_ok, ix1, ix2]
    exact ev_sqR (b.nb vn)
  obtain ⟨e2, h2, lp, row', vals', x6', rfl, b', xs', cl, pre⟩ := for_g (t := .nm 6) (body := seeBody)
    (fun j e g' => ∃ row' vals' x6', e = [some (refs L n), x1, some wd, some (.ref F), some (.ref R), some (.int k), x6'] ∧ Wf h0 L n E ws F R g' row' vals' ∧ Bx (sub E ws) s k row' vals' ∧ (∀ x ∈ (adj E v).take j, x ∈ ws → x ∈ row') ∧ row <+: row')
    it ⟨row, vals, x6, rfl, b, xs, by simp, List.prefix_refl _⟩ (fun j e g' hI => by
      obtain ⟨row', vals', x6', _, b', _⟩ := hI
      exact so_one (b'.nb vn)) (fun j e g' d hI hd => by
      obtain ⟨row', vals', x6', rfl, b', xs', cl, pre⟩ := hI
      dsimp only at hd
      rw [List.getElem?_map] at hd
      obtain ⟨x, hx, rfl⟩ := Option.map_eq_some_iff.mp hd
      have xn : x < n := by
        rcases mem_adj.mp (List.mem_of_getElem? hx) with q | q
        · exact (N.lt _ q).2
        · have := N.lt _ q; exact Nat.lt_trans this.1 this.2
      have hv' : row'[k]? = some v := by
        obtain ⟨t, rfl⟩ := pre
        rw [List.getElem?_append_left (List.getElem?_eq_some_iff.mp hv).1]; exact hv
      obtain ⟨row2, vals2, g2, t, b2, xs2, p2, c2⟩ := see_w (x0 := some (refs L n)) (x1 := x1) N.le iw b' xn hv' xs' (List.mem_of_getElem? hx) vw
      refine ⟨_, _, g2, rfl, .inl t, row2, vals2, some (.int x), rfl, b2, xs2, fun y hy yw => ?_, pre.trans p2⟩
      rw [List.take_add_one, hx] at hy
      rcases List.mem_append.mp hy with hy | hy
      · exact p2.subset (cl y hy yw)
      · simp at hy
        subst hy
        exact c2 yw)
  rw [show (⟨[(L + v, (adj E v).map iD)], (adj E v).map iD⟩ : ItD).items.length = (adj E v).length from List.length_map .., List.take_length] at cl
  exact ⟨row', vals', x6', h2, lp, b', xs', fun x hx => cl x (adj_sub.mp hx).1 (adj_sub.mp hx).2.2, pre⟩
theorem bfs_w {h0 : DH} {L n F R s : Nat} {E : List Ed} {ws : List Nat} {wd : D} {x1 : Option D} (N : Net n E) (iw : In wd ws n) : ∀ (fuel k : Nat) (g : DH) (row : List Nat) (vals : List Int) (x6 : Option D), Wf h0 L n E ws F R g row vals → k ≤ row.length → n - k < fuel → Bx (sub E ws) s k row vals →
    ∃ row' vals' x5' x6' g', whF (tv (o2 ltD (vr 5) (oA lenD (ac (vr 4) an)))) bfsBody fuel [some (refs L n), x1, some wd, some (.ref F), some (.ref R), some (.int k), x6] g
      = .nx [some (refs L n), x1, some wd, some (.ref F), some (.ref R), x5', x6'] g' ∧ Wf h0 L n E ws F R g' row' vals' ∧ row <+: row' ∧ Bx (sub E ws) s row'.length row' vals'
  | 0, _, _, _, _, _, _, _, hf, _ => by omega
  | fuel + 1, k, g, row, vals, x6, b, hk, hf, xs => by
    have ln : lenD [.ref R] g = .ok (.int row.length) g := by rw [ev_lenR b.r, List.length_map]
    have few := b.few
    by_cases h1 : k < row.length
    · obtain ⟨v, hv⟩ : ∃ v, row[k]? = some v := ⟨_, List.getElem?_eq_getElem h1⟩
      obtain ⟨row1, vals1, y6, g1, lp, b1, xs1, c1, pre1⟩ := near_w (x1 := x1) (x6 := x6) N iw b hv xs
      have hv1 : row1[k]? = some v := by
        obtain ⟨t, rfl⟩ := pre1
        rw [List.getElem?_append_left (by omega)]; exact hv
      obtain ⟨row2, vals2, z5, z6, g2, lp2, b2, pre2, xs2⟩ := bfs_w (x1 := x1) N iw fuel (k + 1) g1 row1 vals1 y6 b1 (by have := pre1.length_le; omega) (by omega) (xs1.next b1.len hv1 c1)
      refine ⟨row2, vals2, z5, z6, g2, ?_, b2, pre1.trans pre2, xs2⟩
      have d1 : decide ((k : Int) < (row.length : Int)) = true := decide_eq_true (by omega)
      have e1 : ((k : Int) + 1) = ((k + 1 : Nat) : Int) := by omega
      unfold whF
      simp only [ev_tv, ev_o2, ev_vrS, ev_vr0, ev_oA, ev_ac, ev_an, bd_ok, ln, ev_lt, d1, ev_tst, ev_bs_ok, if_true]
      have bt : bfsBody [some (refs L n), x1, some wd, some (.ref F), some (.ref R), some (.int k), x6] g = .nx [some (refs L n), x1, some wd, some (.ref F), some (.ref R), some (.int ((k + 1 : Nat) : Int)), y6] g1 := by
        unfold bfsBody
        rw [ev_seq, lp, ev_sq_nx, ← e1]
        rfl
      rw [bt]
      exact lp2
    · have hk2 : k = row.length := by omega
      have d1 : decide ((k : Int) < (row.length : Int)) = false := decide_eq_false (by omega)
      refine ⟨row, vals, some (.int k), x6, g, ?_, b, List.prefix_refl _, by rw [← hk2]; exact xs⟩
      unfold whF
      simp only [ev_tv, ev_o2, ev_vrS, ev_vr0, ev_oA, ev_ac, ev_an, bd_ok, ln, ev_lt, d1, ev_tst, ev_bs_ok, Bool.false_eq_true, if_false]
/-- what a search within some hands tells -/
structure Rch (E : List Ed) (ws : List Nat) (s : Nat) (row : List Nat) (vals : List Int) : Prop where
  len : vals.length = row.length
  nd : row.Nodup
  inn : ∀ x ∈ row, x ∈ ws
  bx : Bx (sub E ws) s row.length row vals
theorem Rch.s0 {E : List Ed} {ws row : List Nat} {s : Nat} {vals : List Int} (r : Rch E ws s row vals) : s ∈ row := List.mem_of_getElem? r.bx.z0.1
theorem Rch.cl {E : List Ed} {ws row : List Nat} {s : Nat} {vals : List Int} (r : Rch E ws s row vals) : ∀ v ∈ row, ∀ x ∈ adj (sub E ws) v, x ∈ row := fun v hv x hx => by
  obtain ⟨i, hi⟩ := List.getElem?_of_mem hv
  have il := (List.getElem?_eq_some_iff.mp hi).1
  obtain ⟨j, b, h1, _, _⟩ := r.bx.cl i v _ il hi (List.getElem?_eq_getElem (by rw [r.len]; exact il)) x hx
  exact List.mem_of_getElem? h1
theorem Rch.all {E : List Ed} {ws row : List Nat} {s : Nat} {vals : List Int} (r : Rch E ws s row vals) (con : ∀ x ∈ ws, Rc (sub E ws) s x) : ∀ x, x ∈ row ↔ x ∈ ws := fun x => ⟨r.inn x, fun hx => A.rc_closed r.cl (con x hx) r.s0⟩
theorem reached_w {g : DH} {L n s : Nat} {E : List Ed} {ws : List Nat} {wd : D} (N : Net n E) (iw : In wd ws n) (hg : L + n ≤ g.length) (ls : ∀ i, i < n → g[L + i]? = some (.lst ((adj E i).map iD))) (hs : s < n) (sw : s ∈ ws) :
    ∃ row vals g', A.G_reached K [refs L n, .int s, wd] g = .ok (.ref g.length) g' ∧ g'[g.length]? = some (.dk (row.map nk) (vals.map D.int)) ∧ Rch E ws s row vals ∧ (∀ x ∈ row, x < n) ∧ Kept g g' := by
  obtain ⟨F, eF⟩ : ∃ F, F = g.length := ⟨_, rfl⟩
  have ds : dspE true [((vr 1), (ct (.int 0)))] [some (refs L n), some (.int s), some wd, none, none, none, none] g = .ok (.ref F) (g ++ [.dk [nk s] [.int 0]]) := by
    rw [eF]
    unfold dspE
    have e : dprs [((vr 1), (ct (.int 0)))] [some (refs L n), some (.int s), some wd, none, none, none, none] g = some ([nk s], [.int 0], g) := rfl
    rw [e]
    simp
  obtain ⟨g1, eg1⟩ : ∃ g1, g1 = g ++ [Dt.O.dk [nk s] [D.int 0]] := ⟨_, rfl⟩
  rw [← eg1] at ds
  have l1 : g1.length = F + 1 := by rw [eg1, eF]; simp
  have mk : mkL true [.int s] g1 = .ok (.ref (F + 1)) (g1 ++ [.lst [.int s]]) := by rw [← l1]; exact ev_mkO (by simp)
  have b : Wf g L n E ws F (F + 1) (g1 ++ [Dt.O.lst [D.int s]]) [s] [0] := by
    refine ⟨?_, ?_, rfl, by simp, by simp; exact hs, by simp; exact sw, ⟨by omega, by omega, by omega⟩, fun j hj => ?_, ls, by omega, by omega⟩
    · rw [List.getElem?_append_left (by omega), eg1, eF]
      exact get_new
    · rw [← l1]; exact get_new
    · rw [List.getElem?_append_left (by omega), eg1, List.getElem?_append_left (by omega)]
  obtain ⟨row, vals, x5, x6, g2, lp, b2, pre, xs⟩ := bfs_w (x1 := some (.int s)) N iw many 0 _ [s] [0] none b (Nat.zero_le _) (by have := N.le; unfold many; omega) Bx.first
  rw [← eF]
  refine ⟨row, vals, g2, raw_of ?_, b2.f, ⟨b2.len, b2.nd, b2.ws, xs⟩, b2.lt, ?_, fun k hk => b2.kp k hk⟩
  · rw [show startD A.N_reached [refs L n, .int s, wd] = [some (refs L n), some (.int s), some wd, none, none, none, none] from rfl]
    unfold bfsBody seeBody at lp
    rw [Int.natCast_zero] at lp
    unfold A.b_reached
    simp -implicitDefEqProofs only [ev_seq, ev_asg, ds, ev_bs_ok, List.set_cons_succ, List.set_cons_zero, ev_sq_nx, ev_oA, ev_ac, ev_vrS, ev_vr0, ev_an, bd_ok, mk, ev_ct]
    rw [lp]
    simp only [ev_sq_nx, ev_ret, ev_vrS, ev_vr0, ev_bs_ok]
  · have := lt_of b2.f
    omega
end B
namespace B
open PySem PySem.Spec PyProof.Rows L2 Dt
open A (G_need_net G_is_whole G_beside G_is_hand G_are_rising G_reached)
abbrev N_is_part : List Str := ["net", "lists", "thing", "hand"]
noncomputable def b_is_part (K : PySem.W.Frag) : SF :=
  (seq (ife (tor (tnot (tv (oA isiD (ac (vr 2) (ac (ct (.con (.ty "tuple"))) an))))) (tor (tv (o2 eqD (oA lenD (ac (vr 2) an)) (ct (.int 0)))) (tnot (tv (oA allD (ac (lcE (isq (vr 2)) (.nm 3) tyes (cll 2 (G_is_hand K) (ac (o2 ixD (vr 0) (ct (.int 0))) (ac (vr 3) an))) [3]) an)))))) (ret (ct (.bl false))) skp)
    (ret (eandT (cll 1 (G_are_rising K) (ac (vr 2) an)) (o2 eqD (oA lenD (ac (cll 3 (G_reached K) (ac (vr 1) (ac (o2 ixD (vr 2) (ct (.int 0))) (ac (vr 2) an)))) an)) (oA lenD (ac (vr 2) an))))))
noncomputable def G_is_part (K : PySem.W.Frag) : FD := raw N_is_part (b_is_part K)
abbrev N_is_parting : List Str := ["net", "thing", "lists", "part", "hand"]
noncomputable def b_is_parting (K : PySem.W.Frag) : SF :=
  (seq (drp (cll 1 (G_need_net K) (ac (vr 0) an)))
    (seq (asg (cll 1 (G_beside K) (ac (vr 0) an)) (.nm 2))
    (seq (ife (tor (tnot (tv (oA isiD (ac (vr 1) (ac (ct (.con (.ty "tuple"))) an))))) (tnot (tv (oA allD (ac (lcE (isq (vr 1)) (.nm 3) tyes (cll 3 (G_is_part K) (ac (vr 0) (ac (vr 2) (ac (vr 3) an)))) [3]) an))))) (ret (ct (.bl false))) skp)
    (seq (ife (tv (o2 neD (oA (sortD false) (ac (lc2E (isq (vr 1)) (.nm 3) tyes (isq (vr 3)) (.nm 4) tyes (vr 4) [3, 4] [4]) an)) (lrg false (o2 ixD (vr 0) (ct (.int 0)))))) (ret (ct (.bl false))) skp)
    (ret (cll 1 (G_are_rising K) (ac (lcE (isq (vr 1)) (.nm 3) tyes (o2 ixD (vr 3) (ct (.int 0))) [3]) an)))))))
noncomputable def G_is_parting (K : PySem.W.Frag) : FD := raw N_is_parting (b_is_parting K)
abbrev N_law_parting : List Str := ["bag", "net", "hands", "edges", "joined", "many", "turn", "one", "other", "at", "groups", "hand"]
noncomputable def b_law_parting (K : PySem.W.Frag) : SF :=
  (seq (asg (vr 1) (.tp [(.nm 2), (.nm 3)]))
    (seq (asg (lrg false (vr 2)) (.nm 4))
    (seq (asg (o2 ixD (oA (mkL false) (ac (ct (.int 0)) (ac (o2 (mulD false) (ct (.int 3)) (vr 2)) (ac (o2 (addD false) (ct (.int 1)) (cll 2 (G_law_take K) (ac (vr 0) (ac (vr 2) an)))) (ac (o2 (addD false) (ct (.int 1)) (cll 2 (G_law_take K) (ac (vr 0) (ac (o2 (mulD false) (ct (.int 2)) (vr 2)) an)))) an))))) (cll 2 (G_law_take K) (ac (vr 0) (ac (ct (.int 4)) an)))) (.nm 5))
    (seq (forE (rng1 (ac (vr 5) an)) (.nm 6) (ife (tv (o2 neD (vr 3) (oA mkT an))) (seq (asg (o2 ixD (vr 3) (cll 2 (G_law_take K) (ac (vr 0) (ac (oA lenD (ac (vr 3) an)) an)))) (.tp [(.nm 7), (.nm 8)]))
    (asg (lcE (isq (vr 4)) (.nm 9) tyes (o2 ixD (oA (mkL false) (ac (vr 9) (ac (o2 ixD (vr 4) (vr 8)) an))) (oA intD (ac (o2 eqD (vr 9) (o2 ixD (vr 4) (vr 7))) an))) [9]) (.nm 4))) skp))
    (seq (asg (oA (mkL true) an) (.nm 10))
    (seq (forE (isq (o1 (sortsetI false) (vr 4))) (.nm 9) (drp (mth lstK appendD (vr 10) (ac (oA tupleD (ac (lcE (rng1 (ac (vr 2) an)) (.nm 11) (tv (o2 eqD (o2 ixD (vr 4) (vr 11)) (vr 9))) (vr 11) [11]) an)) an))))
    (ret (oA tupleD (ac (oA (sortD false) (ac (vr 10) an)) an)))))))))
noncomputable def G_law_parting (K : PySem.W.Frag) : FD := raw N_law_parting (b_law_parting K)
end B
namespace B
open PySem PySem.Spec PyProof.Rows L2 Dt
open A (Beside raw_of Grow Ed eD netD Net adj mem_adj Kept nb adj_nb nb_lt nb_le refs refs_ix Ls Rc nk Bx)
variable {K : PySem.W.Frag} {h : DH}
structure Prt (n : Nat) (E : List Ed) (ps : List (List Nat)) : Prop where
  ne : ∀ q ∈ ps, q ≠ []
  asc : ∀ q ∈ ps, q.Pairwise (· < ·)
  all : ps.flatten.Perm (List.range n)
  hd : (ps.map fun q => q.headD 0).Pairwise (· < ·)
  con : ∀ q ∈ ps, ∀ x ∈ q, Rc (sub E q) (q.headD 0) x
theorem Prt.lt {n : Nat} {E : List Ed} {ps : List (List Nat)} (p : Prt n E ps) {q : List Nat} (hq : q ∈ ps) {x : Nat} (hx : x ∈ q) : x < n :=
  List.mem_range.mp (p.all.mem_iff.mp (List.mem_flatten.mpr ⟨q, hq, hx⟩))
theorem Prt.nd {n : Nat} {E : List Ed} {ps : List (List Nat)} (p : Prt n E ps) {q : List Nat} (hq : q ∈ ps) : q.Nodup := (p.asc q hq).imp fun h => Nat.ne_of_lt h
theorem Prt.len {n : Nat} {E : List Ed} {ps : List (List Nat)} (p : Prt n E ps) {q : List Nat} (hq : q ∈ ps) : q.length ≤ n := A.nodup_len (p.nd hq) fun x hx => p.lt hq hx
theorem Prt.flat {n : Nat} {E : List Ed} {ps : List (List Nat)} (p : Prt n E ps) : ps.flatten.length = n := by rw [p.all.length_eq, List.length_range]
theorem Prt.few {n : Nat} {E : List Ed} {ps : List (List Nat)} (p : Prt n E ps) : ps.length ≤ n := by
  have key : ∀ ps : List (List Nat), (∀ q ∈ ps, q ≠ []) → ps.length ≤ ps.flatten.length := fun ps => by
    induction ps with
    | nil => intro _; simp
    | cons q ps ih =>
      intro ne
      have h1 := List.length_pos_iff.mpr (ne q List.mem_cons_self)
      have h2 := ih fun r hr => ne r (List.mem_cons_of_mem _ hr)
      simp only [List.flatten_cons, List.length_append, List.length_cons]
      omega
  have := key ps p.ne
  rw [p.flat] at this
  exact this
theorem Prt.h0 {n : Nat} {E : List Ed} {ps : List (List Nat)} (p : Prt n E ps) {q : List Nat} (hq : q ∈ ps) : q.headD 0 ∈ q := by
  cases q with
  | nil => exact absurd rfl (p.ne _ hq)
  | cons a q => simp
theorem in_tup {ws : List Nat} {n : Nat} : In (prT ws) ws n := fun g x _ => by
  have e : Dt.inB (iD x) (prT ws) g = some (decide (x ∈ ws)) := by
    have m : mapO fl (ws.map iD) = some (ws.map fun i : Nat => V.int (i : Int)) := mapO_map fun _ _ => rfl
    have key : Dt.inB (iD x) (prT ws) g = (match fl (iD x), mapO fl (ws.map iD) with
      | some v, some vs => some (inV v vs)
      | _, _ => none) := by
      have s0 : sq g (prT ws) = some (ws.map iD) := rfl
      have k0 : dkq g (prT ws) = none := rfl
      have t0 : dtq g (prT ws) = none := rfl
      unfold Dt.inB
      simp only [lkD, k0, t0, s0, Option.bind_some, m]
      rfl
    rw [key, m]
    show some (inV (V.int (x : Int)) (ws.map fun i : Nat => V.int (i : Int))) = some _
    congr 1
    unfold inV
    rw [Bool.eq_iff_iff, List.any_eq_true, decide_eq_true_eq]
    constructor
    · rintro ⟨v, hv, q⟩
      obtain ⟨i, hi, rfl⟩ := List.mem_map.mp hv
      have : i = x := by
        simp [eqV] at q
        omega
      exact this ▸ hi
    · intro hx
      exact ⟨V.int (x : Int), List.mem_map.mpr ⟨x, hx, rfl⟩, by simp [eqV]⟩
  unfold inD
  rw [e]
theorem ev_lenDk {F : Nat} {row : List Nat} {vals : List Int} (e : h[F]? = some (.dk (row.map nk) (vals.map D.int))) (hl : row.length ≤ 1000) : lenD [.ref F] h = .ok (.int (row.length : Nat)) h := by
  unfold lenD
  simp only [sq, lsq, dkq, e]
  rw [if_pos (by rw [List.length_map]; omega), List.length_map]
/-- the lists of neighbours -/
def Nbs (n : Nat) (E : List Ed) (L : Nat) (g : DH) : Prop := L + n ≤ g.length ∧ ∀ i, i < n → g[L + i]? = some (.lst ((adj E i).map iD))
theorem Nbs.kept {n L : Nat} {E : List Ed} {g g' : DH} (x : Nbs n E L g) (k : Kept g g') : Nbs n E L g' := ⟨Nat.le_trans x.1 k.1, fun i hi => k.get (x.2 i hi)⟩
theorem len_same {a b : List Nat} (h1 : a.Nodup) (h2 : b.Nodup) (h : ∀ x, x ∈ a ↔ x ∈ b) : a.length = b.length := ((List.perm_ext_iff_of_nodup h1 h2).mpr h).length_eq
end B
namespace B
open PySem PySem.Spec PyProof.Rows L2 Dt
open A (Beside raw_of Grow Ed eD netD Net adj mem_adj Kept nb adj_nb nb_lt nb_le refs refs_ix Ls Rc nk Bx)
variable {K : PySem.W.Frag} {h : DH}
abbrev prsT (ps : List (List Nat)) : D := .tup (ps.map prT)
theorem beside_nbs {n : Nat} {E : List Ed} (N : Net n E) (hE : E.length ≤ 300) : ∃ h', A.G_beside K [netD n E] h = .ok (refs h.length n) h' ∧ Nbs n E h.length h' ∧ Kept h h' := by
  obtain ⟨h1, e1, ls, l1⟩ := A.beside_ok (K := K) (h := h) N.le N.lt hE
  exact ⟨h1, e1, ⟨by omega, ls.ls⟩, by omega, ls.kp⟩
end B
namespace B
open PySem PySem.Spec PyProof.Rows L2 Dt
open A (Beside raw_of Grow Ed eD netD Net adj mem_adj Kept nb adj_nb nb_lt nb_le refs refs_ix Ls Rc nk Bx)
variable {K : PySem.W.Frag} {h : DH}
/-- the place of a hand's part -/
def pidx (ps : List (List Nat)) (x : Nat) : Nat := ps.findIdx fun q => decide (x ∈ q)
theorem pidx_of : ∀ {ps : List (List Nat)} {i x : Nat} {q : List Nat}, ps.flatten.Nodup → ps[i]? = some q → x ∈ q → pidx ps x = i
  | [], i, x, q, _, h, _ => by simp at h
  | r :: ps, 0, x, q, nd, h, hx => by
    simp at h
    subst h
    unfold pidx
    rw [List.findIdx_cons, decide_eq_true hx]
    rfl
  | r :: ps, i + 1, x, q, nd, h, hx => by
    have h' : ps[i]? = some q := by simpa using h
    rw [List.flatten_cons, List.nodup_append] at nd
    have nx : x ∉ r := fun z => nd.2.2 x z x (List.mem_flatten.mpr ⟨q, List.mem_of_getElem? h', hx⟩) rfl
    have ih := pidx_of nd.2.1 h' hx
    unfold pidx at ih ⊢
    rw [List.findIdx_cons, decide_eq_false nx, ih]
    rfl
theorem Prt.fnd {n : Nat} {E : List Ed} {ps : List (List Nat)} (p : Prt n E ps) : ps.flatten.Nodup := (p.all.nodup_iff).mpr List.nodup_range
theorem Prt.at_ {n : Nat} {E : List Ed} {ps : List (List Nat)} (p : Prt n E ps) {x : Nat} (hx : x < n) : ∃ (i : Nat) (q : List Nat), ps[i]? = some q ∧ x ∈ q ∧ pidx ps x = i := by
  obtain ⟨q, hq, hxq⟩ := List.mem_flatten.mp (p.all.mem_iff.mpr (List.mem_range.mpr hx))
  obtain ⟨i, hi⟩ := List.getElem?_of_mem hq
  exact ⟨i, q, hi, hxq, pidx_of p.fnd hi hxq⟩
/-- distances within some hands -/
structure FarW (E : List Ed) (ws : List Nat) (s : Nat) (δ : Nat → Nat) : Prop where
  z : δ s = 0
  st : ∀ u v, u ∈ ws → v ∈ adj (sub E ws) u → δ v ≤ δ u + 1
  pr : ∀ x, x ∈ ws → x ≠ s → ∃ v, v ∈ ws ∧ x ∈ adj (sub E ws) v ∧ δ x = δ v + 1
theorem FarW.same {E : List Ed} {ws : List Nat} {s : Nat} {δ ε : Nat → Nat} (f : FarW E ws s δ) (hs : s ∈ ws) (e : ∀ x ∈ ws, ε x = δ x) : FarW E ws s ε where
  z := (e s hs).trans f.z
  st := fun u v hu hv => by rw [e u hu, e v (adj_sub.mp hv).2.2]; exact f.st u v hu hv
  pr := fun x hx hn => let ⟨v, a, b, c⟩ := f.pr x hx hn; ⟨v, a, b, by rw [e x hx, e v a]; exact c⟩
theorem FarW.pos {E : List Ed} {ws : List Nat} {s : Nat} {δ : Nat → Nat} (f : FarW E ws s δ) {x : Nat} (hx : x ∈ ws) : δ x = 0 ↔ x = s := by
  constructor
  · intro q
    by_cases hs : x = s
    · exact hs
    · obtain ⟨v, _, _, e⟩ := f.pr x hx hs
      omega
  · rintro rfl
    exact f.z
theorem FarW.le {E : List Ed} {ws : List Nat} {s : Nat} {δ δ' : Nat → Nat} (a : FarW E ws s δ) (b : FarW E ws s δ') : ∀ m x, x ∈ ws → δ x = m → δ' x ≤ m := by
  intro m
  induction m with
  | zero =>
    intro x hx e
    rw [(a.pos hx).mp e, b.z]
    exact Nat.le_refl _
  | succ m ih =>
    intro x hx e
    have ne : x ≠ s := fun z => by rw [z, a.z] at e; cases e
    obtain ⟨v, hv, xa, e2⟩ := a.pr x hx ne
    have h1 := ih v hv (by omega)
    have h2 := b.st v x hv xa
    omega
/-- heights in all parts -/
structure Hgt (E : List Ed) (ps : List (List Nat)) (η : Nat → Nat) : Prop where
  f : ∀ q ∈ ps, FarW E q (q.headD 0) η
end B
namespace B
open PySem PySem.Spec PyProof.Rows L2 Dt
open A (Beside raw_of Grow Ed eD netD Net adj mem_adj Kept nb adj_nb nb_lt nb_le refs refs_ix Ls Rc nk Bx lkD_dk)
variable {K : PySem.W.Frag} {h : DH}
/-- the dicts of all parts' heights, as they are told -/
structure Rows (n : Nat) (E : List Ed) (ps : List (List Nat)) (η : Nat → Nat) (rs : List (List Nat)) : Prop where
  g : Hgt E ps η
  len : rs.length = ps.length
  row : ∀ (i : Nat) (q r : List Nat), ps[i]? = some q → rs[i]? = some r → r.Nodup ∧ ∀ x, x ∈ r ↔ x ∈ q
def hD (η : Nat → Nat) (r : List Nat) : D := .dk (r.map nk) (r.map fun x => iD (η x))
theorem Rows.flat {n : Nat} {E : List Ed} {ps rs : List (List Nat)} {η : Nat → Nat} (P : Prt n E ps) (R : Rows n E ps η rs) : rs.flatten.Nodup ∧ ∀ x, x ∈ rs.flatten ↔ x < n := by
  have mem : ∀ x, x ∈ rs.flatten ↔ x < n := fun x => by
    rw [List.mem_flatten]
    constructor
    · rintro ⟨r, hr, hx⟩
      obtain ⟨i, hi⟩ := List.getElem?_of_mem hr
      have il : i < ps.length := by rw [← R.len]; exact (List.getElem?_eq_some_iff.mp hi).1
      have hq := List.getElem?_eq_getElem il
      exact P.lt (List.mem_of_getElem? hq) (((R.row i _ r hq hi).2 x).mp hx)
    · intro hx
      obtain ⟨i, q, hq, hxq, _⟩ := P.at_ hx
      have il : i < rs.length := by rw [R.len]; exact (List.getElem?_eq_some_iff.mp hq).1
      have hr := List.getElem?_eq_getElem il
      exact ⟨_, List.mem_of_getElem? hr, ((R.row i q _ hq hr).2 x).mpr hxq⟩
  refine ⟨?_, mem⟩
  unfold List.Nodup
  rw [List.pairwise_flatten]
  refine ⟨fun r hr => ?_, ?_⟩
  · obtain ⟨i, hi⟩ := List.getElem?_of_mem hr
    have il : i < ps.length := by rw [← R.len]; exact (List.getElem?_eq_some_iff.mp hi).1
    exact (R.row i _ r (List.getElem?_eq_getElem il) hi).1
  · rw [List.pairwise_iff_getElem]
    intro i j hi hj hij x hx y hy e
    subst e
    have h1 := R.row i _ _ (List.getElem?_eq_getElem (by rw [← R.len]; exact hi)) (List.getElem?_eq_getElem hi)
    have h2 := R.row j _ _ (List.getElem?_eq_getElem (by rw [← R.len]; exact hj)) (List.getElem?_eq_getElem hj)
    have a := pidx_of P.fnd (List.getElem?_eq_getElem (by rw [← R.len]; exact hi)) ((h1.2 x).mp hx)
    have b := pidx_of P.fnd (List.getElem?_eq_getElem (by rw [← R.len]; exact hj)) ((h2.2 x).mp hy)
    omega
end B
namespace B
open PySem PySem.Spec PyProof.Rows L2 Dt
open A (Beside raw_of Grow Ed eD netD Net adj mem_adj Kept nb adj_nb nb_lt nb_le refs refs_ix Ls Rc nk Bx lkD_dk)
variable {K : PySem.W.Frag} {h : DH}
end B
namespace B
open PySem PySem.Spec PyProof.Rows L2 Dt
open A (Beside raw_of Grow Ed eD netD Net adj mem_adj Kept nb adj_nb nb_lt nb_le refs refs_ix Ls Rc nk Bx lkD_dk)
variable {K : PySem.W.Frag} {h : DH}
end B
namespace B
open PySem PySem.Spec PyProof.Rows L2 Dt
open A (Beside raw_of Grow Ed eD netD Net adj mem_adj Kept nb adj_nb nb_lt nb_le refs refs_ix Ls Rc nk Bx lkD_dk)
variable {K : PySem.W.Frag} {h : DH}
def cls (n : Nat) (l : Nat → Nat) (c : Nat) : List Nat := (List.range n).filter fun x => decide (l x = c)
theorem mem_cls {n c x : Nat} {l : Nat → Nat} : x ∈ cls n l c ↔ x < n ∧ l x = c := by
  unfold cls
  rw [List.mem_filter, List.mem_range, decide_eq_true_eq]
structure Lab (n : Nat) (E : List Ed) (l : Nat → Nat) : Prop where
  lt : ∀ x, x < n → l x < n
  con : ∀ c x y, x ∈ cls n l c → y ∈ cls n l c → Rc (sub E (cls n l c)) x y
theorem Lab.id {n : Nat} {E : List Ed} : Lab n E (fun x => x) := ⟨fun _ h => h, fun c x y hx hy => by
  have a := (mem_cls.mp hx).2
  have b := (mem_cls.mp hy).2
  subst a b
  exact .refl _⟩
theorem rc_sub {E : List Ed} {ws vs : List Nat} (h : ∀ x ∈ ws, x ∈ vs) {a b : Nat} (r : Rc (sub E ws) a b) : Rc (sub E vs) a b :=
  r.mono fun x y m => by
    have := mem_sub.mp m
    exact .fwd (.refl _) (mem_sub.mpr ⟨this.1, h _ this.2.1, h _ this.2.2⟩)
def mrg (l : Nat → Nat) (a b : Nat) (x : Nat) : Nat := if l x = l a then l b else l x
theorem Lab.mrg {n a b : Nat} {E : List Ed} {l : Nat → Nat} (L : Lab n E l) (he : (a, b) ∈ E) (ha : a < n) (hb : b < n) : Lab n E (mrg l a b) := by
  refine ⟨fun x hx => ?_, fun c x y hx hy => ?_⟩
  · unfold B.mrg
    split
    · exact L.lt b hb
    · exact L.lt x hx
  · obtain ⟨x1, x2⟩ := mem_cls.mp hx
    obtain ⟨y1, y2⟩ := mem_cls.mp hy
    by_cases hab : l a = l b
    · have e : B.mrg l a b = l := funext fun z => by
        unfold B.mrg
        split
        · rename_i q; rw [q, hab]
        · rfl
      rw [e] at hx hy ⊢
      exact L.con c x y hx hy
    · by_cases hc : c = l b
      · subst hc
        have ca : ∀ z ∈ cls n l (l a), z ∈ cls n (B.mrg l a b) (l b) := fun z hz => by
          have := mem_cls.mp hz
          exact mem_cls.mpr ⟨this.1, by unfold B.mrg; rw [if_pos this.2]⟩
        have cb : ∀ z ∈ cls n l (l b), z ∈ cls n (B.mrg l a b) (l b) := fun z hz => by
          have := mem_cls.mp hz
          exact mem_cls.mpr ⟨this.1, by unfold B.mrg; rw [if_neg (by rw [this.2]; exact fun z => hab z.symm)]; exact this.2⟩
        have ed : Rc (sub E (cls n (B.mrg l a b) (l b))) a b := .fwd (.refl _) (mem_sub.mpr ⟨he, ca a (mem_cls.mpr ⟨ha, rfl⟩), cb b (mem_cls.mpr ⟨hb, rfl⟩)⟩)
        have to_b : ∀ z, z < n → B.mrg l a b z = l b → Rc (sub E (cls n (B.mrg l a b) (l b))) z b := fun z hz e => by
          unfold B.mrg at e
          split at e
          · rename_i q
            exact (rc_sub ca (L.con (l a) z a (mem_cls.mpr ⟨hz, q⟩) (mem_cls.mpr ⟨ha, rfl⟩))).trans ed
          · exact rc_sub cb (L.con (l b) z b (mem_cls.mpr ⟨hz, e⟩) (mem_cls.mpr ⟨hb, rfl⟩))
        exact (to_b x x1 x2).trans (to_b y y1 y2).symm
      · have on : ∀ z, B.mrg l a b z = c → l z = c := fun z e => by
          unfold B.mrg at e
          split at e
          · exact absurd e.symm hc
          · exact e
        have ca : c ≠ l a := fun q => by
          have := x2
          unfold B.mrg at this
          split at this
          · exact hc this.symm
          · rename_i r; exact r (this.trans q)
        have up : ∀ z ∈ cls n l c, z ∈ cls n (B.mrg l a b) c := fun z hz => by
          have := mem_cls.mp hz
          exact mem_cls.mpr ⟨this.1, by unfold B.mrg; rw [if_neg (by rw [this.2]; exact ca)]; exact this.2⟩
        exact rc_sub up (L.con c x y (mem_cls.mpr ⟨x1, on x x2⟩) (mem_cls.mpr ⟨y1, on y y2⟩))
/-- the parts, by their labels -/
def grps (n : Nat) (l : Nat → Nat) : List (List Nat) := (uq n ((List.range n).map l)).map (cls n l)
theorem mem_grps {n : Nat} {l : Nat → Nat} {q : List Nat} : q ∈ grps n l ↔ ∃ x, x < n ∧ l x < n ∧ q = cls n l (l x) := by
  unfold grps uq
  rw [List.mem_map]
  constructor
  · rintro ⟨c, hc, rfl⟩
    obtain ⟨h1, h2⟩ := List.mem_filter.mp hc
    obtain ⟨x, hx, rfl⟩ := List.mem_map.mp (of_decide_eq_true h2)
    exact ⟨x, List.mem_range.mp hx, List.mem_range.mp h1, rfl⟩
  · rintro ⟨x, hx, hl, rfl⟩
    exact ⟨l x, List.mem_filter.mpr ⟨List.mem_range.mpr hl, decide_eq_true (List.mem_map.mpr ⟨x, List.mem_range.mpr hx, rfl⟩)⟩, rfl⟩
def srtP (n : Nat) (l : Nat → Nat) : List (List Nat) := (grps n l).mergeSort fun a b => decide (a.headD 0 ≤ b.headD 0)
theorem srtP_perm {n : Nat} {l : Nat → Nat} : (srtP n l).Perm (grps n l) := List.mergeSort_perm _ _
theorem cls_ne {n x : Nat} {l : Nat → Nat} (hx : x < n) : cls n l (l x) ≠ [] := fun e => by
  have : x ∈ cls n l (l x) := mem_cls.mpr ⟨hx, rfl⟩
  rw [e] at this
  cases this
theorem head_mem {q : List Nat} (h : q ≠ []) : q.headD 0 ∈ q := by
  cases q with
  | nil => exact absurd rfl h
  | cons a q => simp
theorem parts_of {n : Nat} {E : List Ed} {l : Nat → Nat} (L : Lab n E l) : Prt n E (srtP n l) := by
  have mem : ∀ q, q ∈ srtP n l ↔ ∃ x, x < n ∧ l x < n ∧ q = cls n l (l x) := fun q => srtP_perm.mem_iff.trans mem_grps
  have ne : ∀ q ∈ srtP n l, q ≠ [] := fun q hq => by
    obtain ⟨x, hx, _, rfl⟩ := (mem q).mp hq
    exact cls_ne hx
  have asc : ∀ q ∈ srtP n l, q.Pairwise (· < ·) := fun q hq => by
    obtain ⟨x, hx, _, rfl⟩ := (mem q).mp hq
    exact List.Pairwise.filter _ List.pairwise_lt_range
  have apart : (grps n l).Pairwise fun a b => ∀ x ∈ a, x ∉ b := by
    unfold grps
    rw [List.pairwise_map]
    refine List.Pairwise.imp (fun {a b} hab x hx hy => ?_) (List.Pairwise.filter _ List.pairwise_lt_range)
    have h1 := (mem_cls.mp hx).2
    have h2 := (mem_cls.mp hy).2
    omega
  have apart2 : (srtP n l).Pairwise fun a b => ∀ x ∈ a, x ∉ b := (srtP_perm.symm.pairwise_iff (fun {a b} h x hx hy => h x hy hx)).mp apart
  have nd : (srtP n l).flatten.Nodup := by
    unfold List.Nodup
    rw [List.pairwise_flatten]
    exact ⟨fun q hq => (asc q hq).imp fun h => Nat.ne_of_lt h, apart2.imp fun {a b} h x hx y hy (e : x = y) => h x hx (e ▸ hy)⟩
  refine ⟨ne, asc, ?_, ?_, fun q hq x hx => ?_⟩
  · refine (List.perm_ext_iff_of_nodup nd List.nodup_range).mpr fun x => ?_
    rw [List.mem_flatten, List.mem_range]
    constructor
    · rintro ⟨q, hq, hx⟩
      obtain ⟨y, hy, _, rfl⟩ := (mem q).mp hq
      exact (mem_cls.mp hx).1
    · intro hx
      exact ⟨cls n l (l x), (mem _).mpr ⟨x, hx, L.lt x hx, rfl⟩, mem_cls.mpr ⟨hx, rfl⟩⟩
  · rw [List.pairwise_map]
    have h1 : (srtP n l).Pairwise fun a b => a.headD 0 ≤ b.headD 0 := by
      have := List.pairwise_mergeSort (le := fun a b : List Nat => decide (a.headD 0 ≤ b.headD 0)) (fun a b c x y => by simp only [decide_eq_true_eq] at x y ⊢; omega) (fun a b => by
        simp only [Bool.or_eq_true, decide_eq_true_eq]; omega) (grps n l)
      exact this.imp fun {a b} h => of_decide_eq_true h
    refine List.Pairwise.imp_of_mem (fun {a b} ha hb hab => ?_) (h1.and apart2)
    have h2 := head_mem (ne a ha)
    have h3 := hab.2 _ h2
    have h4 := head_mem (ne b hb)
    have : a.headD 0 ≠ b.headD 0 := fun e => h3 (e ▸ h4)
    have := hab.1
    omega
  · obtain ⟨y, hy, _, rfl⟩ := (mem q).mp hq
    exact L.con _ _ _ (head_mem (cls_ne hy)) hx
end B
namespace B
open PySem PySem.Spec PyProof.Rows L2 Dt
open A (Beside raw_of Grow Ed eD netD Net adj mem_adj Kept nb adj_nb nb_lt nb_le refs refs_ix Ls Rc nk Bx lkD_dk)
variable {K : PySem.W.Frag} {h : DH}
theorem ne_es {E : List Ed} : neD (.tup (E.map eD)) (.tup []) h = .ok (.bl (!E.isEmpty)) h := by
  have e1 : toP h 60 (.tup (E.map eD)) = some (.tuple (E.map A.eP)) := A.toP_es E
  have e2 : toP h 60 (.tup []) = some (.tuple []) := rfl
  have q : eqB (.tup (E.map eD)) (.tup []) h = some (PyData.eqv (.tuple (E.map A.eP)) (.tuple [])) := by
    unfold eqB
    rw [e1, e2]
    simp only [A.shp_es, show SeqAt.shaped (.tuple []) = true from A.shp_es [], and_self, if_true]
  unfold neD
  rw [q]
  cases E <;> simp [PyData.eqv, PyData.eqvAll]
def labD (n : Nat) (l : Nat → Nat) : D := .lst ((List.range n).map fun x => iD (l x))
theorem lab_ix {n x : Nat} {l : Nat → Nat} (hx : x < n) : ixD (labD n l) (iD x) h = .ok (iD (l x)) h := ev_ixL (by rw [List.getElem?_map, List.getElem?_range hx]; rfl)
noncomputable def mrgB (K : PySem.W.Frag) : SF := (ife (tv (o2 neD (vr 3) (oA mkT an))) (seq (asg (o2 ixD (vr 3) (cll 2 (G_law_take K) (ac (vr 0) (ac (oA lenD (ac (vr 3) an)) an)))) (.tp [(.nm 7), (.nm 8)]))
    (asg (lcE (isq (vr 4)) (.nm 9) tyes (o2 ixD (oA (mkL false) (ac (vr 9) (ac (o2 ixD (vr 4) (vr 8)) an))) (oA intD (ac (o2 eqD (vr 9) (o2 ixD (vr 4) (vr 7))) an))) [9]) (.nm 4))) skp)
theorem mrg_turn {b c n : Nat} {E : List Ed} {l : Nat → Nat} {x1 x2 x5 x6 x7 x8 x9 x10 x11 : Option D} (hb : Bg h b c) (hc : c < 900000) (N : Net n E) (hE : E.length ≤ 300) (L : Lab n E l) :
    ∃ (l' : Nat → Nat) (y7 y8 : Option D) (h' : DH), mrgB K [some (.ref b), x1, x2, some (.tup (E.map eD)), some (labD n l), x5, x6, x7, x8, x9, x10, x11] h = .nx [some (.ref b), x1, x2, some (.tup (E.map eD)), some (labD n l'), x5, x6, y7, y8, x9, x10, x11] h' ∧
      Lab n E l' ∧ Bg h' b (c + 1) ∧ Beside b h h' := by
  have n16 := N.le
  have mk : mkT [] h = .ok (.tup []) h := ev_mkT (by simp)
  by_cases h0 : E = []
  · subst h0
    refine ⟨l, x7, x8, h, ?_, L, hb.le (by omega), rfl, fun _ _ => rfl⟩
    have ne := ne_es (h := h) (E := [])
    unfold mrgB
    simp -implicitDefEqProofs only [ev_ife, ev_tv, ev_o2, ev_vrS, ev_vr0, ev_oA, ev_an, bd_ok, mk, ne, ev_tst, List.isEmpty_nil, Bool.not_true, ev_bs_ok, Bool.false_eq_true, if_false, ev_skp]
  · have e0 : (!E.isEmpty) = true := by cases E with | nil => exact absurd rfl h0 | cons _ _ => rfl
    have el := List.length_pos_iff.mpr h0
    have ne := ne_es (h := h) (E := E)
    rw [e0] at ne
    have ln : lenD [.tup (E.map eD)] h = .ok (.int (E.length : Nat)) h := by
      show Rs.ok (D.int ((E.map eD).length : Nat)) h = _
      rw [List.length_map]
    obtain ⟨r, h1, t1, lr, b1, s1⟩ := take (K := K) (m := ((E.length : Nat) : Int)) hb (by omega) (by omega) (by omega)
    have rl : r < E.length := by omega
    obtain ⟨e, ee⟩ : ∃ e, E[r]? = some e := ⟨_, List.getElem?_eq_getElem rl⟩
    have em := List.mem_of_getElem? ee
    have lt := N.lt e em
    have ix : ixD (.tup (E.map eD)) (.int (r : Int)) h1 = .ok (eD e) h1 := ev_ixT (by rw [List.getElem?_map, ee]; rfl)
    have ia : ixD (labD n l) (iD e.1) h1 = .ok (iD (l e.1)) h1 := lab_ix (by omega)
    have ib : ixD (labD n l) (iD e.2) h1 = .ok (iD (l e.2)) h1 := lab_ix (by omega)
    have lc := ev_lcg (h := h1) (t := .nm 9) (vs := [9]) (fe := o2 ixD (oA (mkL false) (ac (vr 9) (ac (o2 ixD (vr 4) (vr 8)) an))) (oA intD (ac (o2 eqD (vr 9) (o2 ixD (vr 4) (vr 7))) an))) (fi := isq (vr 4))
      (env := [some (.ref b), x1, x2, some (.tup (E.map eD)), some (labD n l), x5, x6, some (iD e.1), some (iD e.2), x9, x10, x11]) (fun x => iD (l x)) (fun x => iD (mrg l e.1 e.2 x)) (List.range n) (it := ⟨[], (List.range n).map fun x => iD (l x)⟩)
      (by rw [ev_isq]; simp only [ev_vrS, ev_vr0, bd_ok]; rfl) so_nil rfl (fun x hx => ⟨_, rfl, by
        have eq : eqD (iD (l x)) (iD (l e.1)) h1 = .ok (.bl (decide (l x = l e.1))) h1 := by
          rw [ev_eqI]
          congr 2
          exact decide_eq_decide.mpr (by omega)
        have mk2 : mkL false [iD (l x), iD (l e.2)] h1 = .ok (.lst [iD (l x), iD (l e.2)]) h1 := ev_mkF (by simp)
        simp -implicitDefEqProofs only [wipD, List.set_cons_succ, List.set_cons_zero, ev_o2, ev_oA, ev_ac, ev_vrS, ev_vr0, ev_an, bd_ok, ib, ia, mk2, eq, ev_intB]
        unfold mrg
        by_cases q : l x = l e.1
        · rw [decide_eq_true q, if_pos rfl, if_pos q]
          exact ev_ixL (i := 1) rfl
        · rw [decide_eq_false q, if_neg Bool.false_ne_true, if_neg q]
          exact ev_ixL (i := 0) rfl⟩) (by simp; omega)
    refine ⟨mrg l e.1 e.2, some (iD e.1), some (iD e.2), h1, ?_, L.mrg (a := e.1) (b := e.2) em (by omega) (by omega), b1, s1⟩
    have a1 : asg (o2 ixD (vr 3) (cll 2 (G_law_take K) (ac (vr 0) (ac (oA lenD (ac (vr 3) an)) an)))) (.tp [(.nm 7), (.nm 8)]) [some (.ref b), x1, x2, some (.tup (E.map eD)), some (labD n l), x5, x6, x7, x8, x9, x10, x11] h
        = .nx [some (.ref b), x1, x2, some (.tup (E.map eD)), some (labD n l), x5, x6, some (iD e.1), some (iD e.2), x9, x10, x11] h1 := by
      unfold asg
      simp -implicitDefEqProofs only [ev_o2, bd_ok, ev_cll, ev_ac, ev_vrS, ev_vr0, ev_oA, ev_an, ln, List.length_cons, List.length_nil, if_true, t1, ix, ev_bs_ok]
      rfl
    unfold mrgB
    simp -implicitDefEqProofs only [ev_ife, ev_tv, ev_o2, ev_vrS, ev_vr0, ev_oA, ev_an, bd_ok, mk, ne, ev_tst, ev_bs_ok, if_true, ev_seq]
    rw [a1]
    simp -implicitDefEqProofs only [ev_sq_nx, ev_asg]
    rw [lc]
    rfl
theorem lt_head {a b : List Nat} (ha : a ≠ []) (hb : b ≠ []) (h : a.headD 0 < b.headD 0) : (a.map fun x : Nat => (x : Int)) < (b.map fun x : Nat => (x : Int)) := by
  cases a with
  | nil => exact absurd rfl ha
  | cons x a =>
    cases b with
    | nil => exact absurd rfl hb
    | cons y b =>
      simp only [List.headD_cons] at h
      rw [List.map_cons, List.map_cons]
      exact List.Lex.rel (by omega)
theorem prT_z (q : List Nat) : prT q = zT (q.map fun x : Nat => (x : Int)) := by
  unfold prT zT
  rw [List.map_map]
  rfl
theorem law_parting_ok {b c n : Nat} {E : List Ed} (hb : Bg h b c) (hc : c ≤ 600000) (N : Net n E) (hE : E.length ≤ 300) :
    ∃ (ps : List (List Nat)) (h' : DH), G_law_parting K [.ref b, netD n E] h = .ok (prsT ps) h' ∧ Prt n E ps ∧ Bg h' b (c + 100) ∧ Grow b h h' := by
  have n16 := N.le
  have n1 := N.pos
  obtain ⟨r1, h1, t1, l1, b1, s1⟩ := take (K := K) (m := (n : Int)) hb (by omega) (by omega) (by omega)
  obtain ⟨r2, h2, t2, l2, b2, s2⟩ := take (K := K) (m := 2 * (n : Int)) b1 (by omega) (by omega) (by omega)
  obtain ⟨r3, h3, t3, l3, b3, s3⟩ := take (K := K) (m := 4) b2 (by omega) (by decide) (by decide)
  have m3 : ∀ g, mulD false (.int 3) (.int (n : Int)) g = .ok (.int (3 * (n : Int))) g := fun _ => ev_mul ⟨by unfold smal; omega, by unfold smal; omega⟩
  have m2 : ∀ g, mulD false (.int 2) (.int (n : Int)) g = .ok (.int (2 * (n : Int))) g := fun _ => ev_mul ⟨by unfold smal; omega, by unfold smal; omega⟩
  obtain ⟨m, em, ml⟩ : ∃ m : Nat, ([D.int 0, .int (3 * (n : Int)), .int (1 + (r1 : Int)), .int (1 + (r2 : Int))])[r3]? = some (.int (m : Int)) ∧ m ≤ 60 := by
    have : r3 = 0 ∨ r3 = 1 ∨ r3 = 2 ∨ r3 = 3 := by omega
    rcases this with rfl | rfl | rfl | rfl
    · exact ⟨0, rfl, by decide⟩
    · exact ⟨3 * n, by simp, by omega⟩
    · exact ⟨1 + r1, by simp, by omega⟩
    · exact ⟨1 + r2, by simp, by omega⟩
  have mk : mkL false [.int 0, .int (3 * (n : Int)), .int (1 + (r1 : Int)), .int (1 + (r2 : Int))] h2 = .ok (.lst [.int 0, .int (3 * (n : Int)), .int (1 + (r1 : Int)), .int (1 + (r2 : Int))]) h2 := ev_mkF (by simp)
  have ix : ixD (.lst [.int 0, .int (3 * (n : Int)), .int (1 + (r1 : Int)), .int (1 + (r2 : Int))]) (.int (r3 : Int)) h3 = .ok (.int (m : Int)) h3 := ev_ixL em
  have rg := lrg_ok (h := h) (env := [some (.ref b), some (netD n E), some (.int n), some (.tup (E.map eD)), none, none, none, none, none, none, none, none]) (fa := vr 2) (n := n) (by omega) rfl
  have un : asg (vr 1) (.tp [(.nm 2), (.nm 3)]) [some (.ref b), some (netD n E), none, none, none, none, none, none, none, none, none, none] h = .nx [some (.ref b), some (netD n E), some (.int n), some (.tup (E.map eD)), none, none, none, none, none, none, none, none] h := rfl
  have er : ∀ e, rng1 (ac (vr 5) an) (some (.ref b) :: some (netD n E) :: some (.int n) :: some (.tup (E.map eD)) :: some (labD n fun x => x) :: some (.int (m : Int)) :: e) h3 = .ok (rgI 0 (m : Int)) h3 := fun e => ev_rng1 rfl (by unfold smR; omega)
  obtain ⟨e4, h4, lp, l, y6, y7, y8, rfl, L, b4, s4⟩ := for_g (t := .nm 6) (body := mrgB K) (er [none, none, none, none, none, none])
    (I := fun j e g => ∃ (l : Nat → Nat) (y6 y7 y8 : Option D), e = [some (.ref b), some (netD n E), some (.int n), some (.tup (E.map eD)), some (labD n l), some (.int (m : Int)), y6, y7, y8, none, none, none] ∧ Lab n E l ∧ Bg g b (c + 3 + j) ∧ Beside b h3 g)
    ⟨fun x => x, none, none, none, rfl, Lab.id, b3, rfl, fun _ _ => rfl⟩ (fun _ _ _ _ => so_nil) (fun j e g d hI hd => by
      obtain ⟨l, y6, y7, y8, rfl, L, bg, sg⟩ := hI
      have jl := (List.getElem?_eq_some_iff.mp hd).1
      rw [range_items, List.length_map, List.length_range] at jl
      obtain ⟨l', z7, z8, g', t, L', b', s'⟩ := mrg_turn (K := K) (x1 := some (netD n E)) (x2 := some (.int n)) (x5 := some (.int (m : Int))) (x6 := some d) (x7 := y7) (x8 := y8) (x9 := none) (x10 := none) (x11 := none) bg (by omega) N hE L
      exact ⟨_, _, g', rfl, .inl t, l', some d, z7, z8, rfl, L', b', s'.1.trans sg.1, fun k hk => (s'.2 k hk).trans (sg.2 k hk)⟩)
  rw [range_items, List.length_map, List.length_range] at b4
  obtain ⟨R, eR⟩ : ∃ R, R = h4.length := ⟨_, rfl⟩
  obtain ⟨h5, eh5⟩ : ∃ h5, h5 = h4 ++ [Dt.O.lst []] := ⟨_, rfl⟩
  have mkO : mkL true [] h4 = .ok (.ref R) h5 := by rw [eR, eh5]; exact ev_mkO (by simp)
  have bR : b ≠ R := by have := b4.lt; omega
  obtain ⟨us, eus⟩ : ∃ us, us = uq n ((List.range n).map l) := ⟨_, rfl⟩
  have usn : us.length ≤ n := by
    rw [eus]
    have := List.length_filter_le (fun x => decide (x ∈ (List.range n).map l)) (List.range n)
    rw [List.length_range] at this
    exact this
  have iu : iset (((List.range n).map l).map fun x : Nat => (x : Int)) = us.map fun x : Nat => (x : Int) := by
    rw [eus]
    exact uq_iset fun x hx => by
      obtain ⟨y, hy, rfl⟩ := List.mem_map.mp hx
      exact L.lt y (List.mem_range.mp hy)
  have ss : sortsetI false (labD n l) h5 = .ok (.lst (us.map iD)) h5 := by
    have q : lsq h5 (labD n l) = some ((((List.range n).map l).map fun x : Nat => (x : Int)).map D.int) := by
      show some ((List.range n).map fun x => iD (l x)) = _
      rw [List.map_map, List.map_map]
      rfl
    rw [ev_sortsetI q (by simp; omega) (by rw [iu, List.length_map]; omega), iu, List.map_map]
    exact ev_mkF (by simp; omega)
  have hi : ∀ y9, isq (o1 (sortsetI false) (vr 4)) [some (.ref b), some (netD n E), some (.int n), some (.tup (E.map eD)), some (labD n l), some (.int (m : Int)), y6, y7, y8, y9, some (.ref R), none] h5 = .ok ⟨[], us.map iD⟩ h5 := fun y9 => by
    rw [ev_isq]
    simp only [ev_o1, ev_vrS, ev_vr0, bd_ok, ss, ev_sqL]
  obtain ⟨e6, h6, lp2, ⟨y9, rfl⟩, r6, k6⟩ := for_g (t := .nm 9) (body := drp (mth lstK appendD (vr 10) (ac (oA tupleD (ac (lcE (rng1 (ac (vr 2) an)) (.nm 11) (tv (o2 eqD (o2 ixD (vr 4) (vr 11)) (vr 9))) (vr 11) [11]) an)) an))) (hi none)
    (I := fun j e g => (∃ y9, e = [some (.ref b), some (netD n E), some (.int n), some (.tup (E.map eD)), some (labD n l), some (.int (m : Int)), y6, y7, y8, y9, some (.ref R), none]) ∧ g[R]? = some (.lst (((us.take j).map (cls n l)).map prT)) ∧ g.length = h5.length ∧ ∀ k, k ≠ R → g[k]? = h5[k]?)
    ⟨⟨_, rfl⟩, by rw [eh5, eR]; exact get_new, rfl, fun _ _ => rfl⟩ (fun _ _ _ _ => so_nil) (fun j e g d hI hd => by
      obtain ⟨⟨y9, rfl⟩, rg', lg, kg⟩ := hI
      dsimp only at hd
      rw [List.getElem?_map] at hd
      obtain ⟨c0, hc0, rfl⟩ := Option.map_eq_some_iff.mp hd
      have jl := (List.getElem?_eq_some_iff.mp hc0).1
      have tk : us.take (j + 1) = us.take j ++ [c0] := by rw [List.take_add_one, hc0]; rfl
      have lc := ev_lcp (h := g) (t := .nm 11) (vs := [11]) (fe := vr 11) (tt := tv (o2 eqD (o2 ixD (vr 4) (vr 11)) (vr 9))) (fi := rng1 (ac (vr 2) an))
        (env := [some (.ref b), some (netD n E), some (.int n), some (.tup (E.map eD)), some (labD n l), some (.int (m : Int)), y6, y7, y8, some (iD c0), some (.ref R), none]) iD iD (fun x => decide (l x = c0)) (List.range n) (it := rgI 0 (n : Int))
        (ev_rng1 rfl (by unfold smR; omega)) so_nil range_items (fun x hx => ⟨_, rfl, by
          have li : ixD (labD n l) (iD x) g = .ok (iD (l x)) g := lab_ix (List.mem_range.mp hx)
          have eq : eqD (iD (l x)) (iD c0) g = .ok (.bl (decide (l x = c0))) g := by
            rw [ev_eqI]
            congr 2
            exact decide_eq_decide.mpr (by omega)
          simp -implicitDefEqProofs only [wipD, List.set_cons_succ, List.set_cons_zero, ev_tv, ev_o2, ev_vrS, ev_vr0, bd_ok, li, eq, ev_tst], fun _ => rfl⟩) (by simp; omega)
      have cl : (cls n l c0).length ≤ n := by
        have := List.length_filter_le (fun x => decide (l x = c0)) (List.range n)
        rw [List.length_range] at this
        exact this
      have tp : tupleD [.lst ((cls n l c0).map iD)] g = .ok (prT (cls n l c0)) g := ev_mkT (by rw [List.length_map]; omega)
      have ap := ev_app (d := prT (cls n l c0)) rg' (by simp; omega)
      refine ⟨_, _, g.set R (.lst (((us.take j).map (cls n l)).map prT ++ [prT (cls n l c0)])), rfl, .inl ?_, ⟨some (iD c0), rfl⟩, ?_, by rw [List.length_set, lg], fun k hk => by rw [List.getElem?_set_ne (Ne.symm hk)]; exact kg k hk⟩
      · simp -implicitDefEqProofs only [List.set_cons_succ, List.set_cons_zero, ev_drp, ev_mth, ev_vrS, ev_vr0, bd_ok, ev_lstK rg', if_true, ev_ac, ev_oA]
        rw [lc]
        simp -implicitDefEqProofs only [bd_ok, ev_an]
        rw [show ((List.range n).filter fun x => decide (l x = c0)) = cls n l c0 from rfl, tp]
        simp -implicitDefEqProofs only [bd_ok, ap, ev_bs_ok]
      · rw [get_set (lt_of rg'), tk]
        simp)
  rw [show (⟨[], us.map iD⟩ : ItD).items.length = us.length from List.length_map .., List.take_length] at r6
  have P := parts_of L
  have gn : (grps n l).length ≤ n := by
    show ((uq n ((List.range n).map l)).map (cls n l)).length ≤ n
    rw [List.length_map, ← eus]
    exact usn
  have so : sortD false [.ref R] h6 = .ok (.lst ((srtP n l).map prT)) h6 := by
    have q : sq h6 (.ref R) = some (((grps n l).map fun q => q.map fun x : Nat => (x : Int)).map zT) := by
      unfold Dt.sq
      have : lsq h6 (.ref R) = some ((us.map (cls n l)).map prT) := by simp [lsq, r6]
      show lsq h6 (.ref R) = _
      rw [this]
      rw [eus]
      show some ((grps n l).map prT) = _
      rw [List.map_map]
      exact congrArg some (List.map_congr_left fun q _ => prT_z q)
    have s := sort_zT (own := false) (q := (srtP n l).map fun q => q.map fun x : Nat => (x : Int)) q (srtP_perm.map _) (fun r hr => by
      obtain ⟨q, hq, rfl⟩ := List.mem_map.mp hr
      have := P.ne q (srtP_perm.mem_iff.mpr hq)
      simpa using this) (by
      have hd := P.hd
      rw [List.pairwise_map] at hd ⊢
      exact hd.imp_of_mem fun {a b} ha hb hab => lt_head (P.ne a ha) (P.ne b hb) hab)
    rw [s, List.map_map, show ((srtP n l).map (zT ∘ fun q : List Nat => q.map fun x : Nat => (x : Int))) = (srtP n l).map prT from List.map_congr_left fun q _ => (prT_z q).symm]
    exact ev_mkF (by rw [List.length_map]; have := P.few; omega)
  have tp : tupleD [.lst ((srtP n l).map prT)] h6 = .ok (prsT (srtP n l)) h6 := ev_mkT (by rw [List.length_map]; have := P.few; omega)
  have g15 : Grow b h h5 := by
    refine ((((s1.grow.trans s2.grow).trans s3.grow).trans (Beside.grow s4))).trans ?_
    rw [eh5]
    exact Grow.app
  have l5 : h5.length = h4.length + 1 := by rw [eh5]; simp
  refine ⟨srtP n l, h6, raw_of ?_, P, ?_, ⟨by rw [k6.1]; exact g15.1, fun k hk hb' => ?_⟩⟩
  · rw [show startD N_law_parting [.ref b, netD n E] = [some (.ref b), some (netD n E), none, none, none, none, none, none, none, none, none, none] from rfl]
    unfold b_law_parting
    unfold mrgB at lp
    rw [ev_seq, un, ev_sq_nx]
    simp -implicitDefEqProofs only [ev_seq, ev_asg]
    rw [rg]
    rw [show ((List.range n).map iD) = (List.range n).map fun x => iD x from rfl]
    simp -implicitDefEqProofs only [ev_seq, ev_asg, ev_bs_ok, List.set_cons_succ, List.set_cons_zero, ev_sq_nx, ev_o2, ev_oA, ev_ac, ev_ct, ev_vrS, ev_vr0, bd_ok, m3, ev_cll, ev_an, List.length_cons, List.length_nil, if_true, t1, ev_add, m2, t2, mk, t3, ix]
    have lp' := lp
    unfold labD at lp'
    rw [lp']
    simp -implicitDefEqProofs only [ev_sq_nx, ev_seq, ev_asg, ev_oA, ev_an, bd_ok, mkO, ev_bs_ok, List.set_cons_succ, List.set_cons_zero]
    have lp2' := lp2
    unfold labD at lp2'
    rw [lp2']
    simp -implicitDefEqProofs only [ev_sq_nx, ev_ret, ev_oA, ev_ac, ev_vrS, ev_vr0, ev_an, bd_ok, so, tp, ev_bs_ok]
  · have b5 : Bg h5 b (c + 3 + m) := by rw [eh5]; exact b4.app
    exact (b5.kept (k6.2 b bR)).le (by omega)
  · have := (((s1.grow.trans s2.grow).trans s3.grow).trans (Beside.grow s4)).1
    rw [k6.2 k (by omega)]
    exact g15.2 k hk hb'
end B
namespace B
open PySem PySem.Spec PyProof.Rows L2 Dt
open A (Beside raw_of Grow Ed eD netD Net adj mem_adj Kept nb adj_nb nb_lt nb_le refs refs_ix Ls Rc nk Bx lkD_dk)
variable {K : PySem.W.Frag} {h : DH}
theorem mem_ways {E : List Ed} {u v : Nat} : (u, v) ∈ waysOf E ↔ v ∈ adj E u := by
  rw [mem_adj]
  unfold waysOf
  rw [List.mem_append, List.mem_map]
  constructor
  · rintro (q | ⟨⟨a, b⟩, hz, q⟩)
    · exact .inl q
    · unfold swp at q
      cases q
      exact .inr hz
  · rintro (q | q)
    · exact .inl q
    · exact .inr ⟨(v, u), q, rfl⟩
end B
namespace B
open PySem PySem.Spec PyProof.Rows L2 Dt
open A (G_need_net)
end B
namespace B
open PySem PySem.Spec PyProof.Rows L2 Dt
open A (Beside raw_of Grow Ed eD netD Net adj mem_adj Kept nb adj_nb nb_lt nb_le refs refs_ix Ls Rc nk Bx lkD_dk eLt)
variable {K : PySem.W.Frag} {h : DH}
end B
namespace B
open PySem PySem.Spec PyProof.Rows L2 Dt
open A (Beside raw_of Grow Ed eD netD Net adj mem_adj Kept nb adj_nb nb_lt nb_le refs refs_ix Ls Rc nk Bx lkD_dk eLt)
variable {K : PySem.W.Frag} {h : DH}
def nD (ps : List (List Nat)) (x : Nat) : D := iD (pidx ps x)
end B
namespace B
open PySem PySem.Spec PyProof.Rows L2 Dt
open A (Ed eD Net adj mem_adj nb adj_nb nb_lt nb_le Rc eLt)
theorem nb_comm {n w x : Nat} {E : List Ed} (hw : w < n) (h : x ∈ nb n E w) : w ∈ nb n E x := by
  unfold nb at h ⊢
  rw [List.mem_filter, decide_eq_true_eq] at h ⊢
  exact ⟨List.mem_range.mpr hw, h.2.symm⟩
theorem rc_adj {E : List Ed} {a b c : Nat} (r : Rc E a b) (h : c ∈ adj E b) : Rc E a c := by
  rcases mem_adj.mp h with h | h
  · exact .fwd r h
  · exact .bwd r h
/-- heights within some hands stay low there -/
def Low (E : List Ed) (x : Nat) (part : List Nat) (m : Nat) : Prop := ∀ (ws : List Nat) (δ : Nat → Nat), (∀ y ∈ part, y ∈ ws) → δ x = 0 → (∀ u v, u ∈ ws → v ∈ adj (sub E ws) u → δ v ≤ δ u + 1) → ∀ y ∈ part, δ y ≤ m
structure Bld (n : Nat) (E : List Ed) (k : Int) (left : List Nat) (x : Nat) (part : List Nat) : Prop where
  pt : Pt n left part
  hx : x ∈ part
  con : ∀ y ∈ part, Rc (sub E part) x y
  low : ∃ m : Nat, k ^ m ≤ (part.length : Int) ∧ Low E x part m
theorem lay_mem {n y : Nat} {E : List Ed} {part left : List Nat} (h : y ∈ lay n E part left) : y ∈ left ∧ y ∉ part ∧ ∃ o ∈ part, o ∈ nb n E y := by
  unfold lay at h
  rw [List.mem_filter] at h
  obtain ⟨h1, h2⟩ := h
  simp only [Bool.and_eq_true, Bool.not_eq_true', decide_eq_false_iff_not, List.any_eq_true, decide_eq_true_eq] at h2
  obtain ⟨h2, o, h3, h4⟩ := h2
  exact ⟨h1, h2, o, h4, h3⟩
theorem Bld.more {n x : Nat} {E : List Ed} {k : Int} {left part : List Nat} (N : Net n E) (hk : 2 ≤ k) (nl : left.Nodup) (hl : ∀ y ∈ left, y < n) (b : Bld n E k left x part) (g : Go n E k part left) : Bld n E k left x (part ++ lay n E part left) where
  pt := b.pt.more nl
  hx := List.mem_append_left _ b.hx
  con := fun y hy => by
    have sb : ∀ z ∈ part, z ∈ part ++ lay n E part left := fun z hz => List.mem_append_left _ hz
    rcases List.mem_append.mp hy with hy1 | hy1
    · exact rc_sub sb (b.con y hy1)
    · obtain ⟨h1, h2, o, h3, h4⟩ := lay_mem hy1
      have r := rc_sub sb (b.con o h3)
      have yn := hl y h1
      have := nb_comm yn h4
      exact rc_adj r (adj_sub.mpr ⟨by rw [adj_nb N]; exact this, sb o h3, hy⟩)
  low := by
    obtain ⟨m, p, l⟩ := b.low
    refine ⟨m + 1, ?_, fun ws δ hw h0 st y hy => ?_⟩
    · rw [List.length_append]
      have g2 := g.2
      have e : k ^ (m + 1) = k ^ m * k := Int.pow_succ ..
      have h1 : k ^ m * k ≤ (part.length : Int) * k := Int.mul_le_mul_of_nonneg_right p (by omega)
      have h2 : (k - 1) * (part.length : Int) = (part.length : Int) * k - (part.length : Int) := by rw [Int.sub_mul, Int.one_mul, Int.mul_comm]
      rw [e]
      push_cast
      omega
    · have lp := l ws δ (fun z hz => hw z (List.mem_append_left _ hz)) h0 st
      rcases List.mem_append.mp hy with hy' | hy'
      · have := lp y hy'
        omega
      · obtain ⟨h1, h2, o, h3, h4⟩ := lay_mem hy'
        have yn := hl y h1
        have a := nb_comm yn h4
        have := st o y (hw o (List.mem_append_left _ h3)) (adj_sub.mpr ⟨by rw [adj_nb N]; exact a, hw o (List.mem_append_left _ h3), hw y hy⟩)
        have := lp o h3
        omega
theorem Bld.one {n x : Nat} {E : List Ed} {k : Int} {left : List Nat} (hx : x ∈ left) : Bld n E k left x [x] where
  pt := ⟨by simp, fun y hy => List.mem_singleton.mp hy ▸ hx, by simp⟩
  hx := by simp
  con := fun y hy => List.mem_singleton.mp hy ▸ .refl _
  low := ⟨0, by simp, fun ws δ _ h0 _ y hy => by rw [List.mem_singleton.mp hy, h0]; exact Nat.le_refl _⟩
end B
namespace B
open PySem PySem.Spec PyProof.Rows L2 Dt
open A (Ed eD Net adj mem_adj nb adj_nb nb_lt nb_le Rc eLt)
end B
namespace P03
open PySem PySem.Spec PyProof.Rows L2 Dt
open A (Beside Kept Ed eD Net netD nb Grow raw_of nb_le adj_nb adj nk)
open B (Prt prT prsT)
variable {K : PySem.W.Frag} {h : DH}
mutual
def ofP : PyData → D
  | .none => .non
  | .bool b => .bl b
  | .int z => .int z
  | .str s => .str s
  | .list xs => .lst (ofPs xs)
  | .tuple xs => .tup (ofPs xs)
  | .dict _ => .non
def ofPs : List PyData → List D
  | [] => []
  | x :: xs => ofP x :: ofPs xs
end
theorem ofPs_map : ∀ {xs : List PyData}, ofPs xs = xs.map ofP
  | [] => by simp [ofPs]
  | x :: xs => by rw [ofPs, List.map_cons, ofPs_map]
mutual
theorem toP_of : ∀ (p : PyData) (k : Nat), p.canLay0 = true → PyData.depth p < k → toP h k (ofP p) = some p
  | .none, k + 1, _, _ => rfl
  | .bool b, k + 1, _, _ => rfl
  | .int z, k + 1, _, _ => rfl
  | .str s, k + 1, _, _ => rfl
  | .list xs, k + 1, c, d => by
    have e := toPs_of xs k (by simpa only [PyData.canLay0] using c) (by simp only [PyData.depth] at d; omega)
    show (mapO (toP h k) (ofPs xs)).map PyData.list = _
    rw [e]
    rfl
  | .tuple xs, k + 1, c, d => by
    have e := toPs_of xs k (by simpa only [PyData.canLay0] using c) (by simp only [PyData.depth] at d; omega)
    show (mapO (toP h k) (ofPs xs)).map PyData.tuple = _
    rw [e]
    rfl
  | .dict _, k + 1, c, _ => by simp only [PyData.canLay0] at c; exact nomatch c
theorem toPs_of : ∀ (xs : List PyData) (k : Nat), PyData.canLayAll0 xs = true → PyData.depthAll xs < k → mapO (toP h k) (ofPs xs) = some xs
  | [], k, _, _ => rfl
  | x :: xs, k, c, d => by
    have c' : x.canLay0 = true ∧ PyData.canLayAll0 xs = true := by simpa only [PyData.canLayAll0, Bool.and_eq_true] using c
    have d' : PyData.depth x < k ∧ PyData.depthAll xs < k := by simp only [PyData.depthAll] at d; omega
    have e1 := toP_of x k c'.1 d'.1
    have e2 := toPs_of xs k c'.2 d'.2
    simp only [ofPs, mapO, e1, e2]
end
def tupQ : PyData → Option (List PyData)
  | .tuple xs => some xs
  | _ => none
def whQ : PyData → Option Int
  | .int z => some z
  | _ => none
theorem isT_of {p : PyData} : isiD [ofP p, .con (.ty "tuple")] h = .ok (.bl (tupQ p).isSome) h := by
  cases p <;> rfl
theorem whole_q {p : PyData} : A.G_is_whole K [ofP p] h = .ok (.bl (whQ p).isSome) h := by
  refine raw_of ?_
  rw [show startD A.N_is_whole [ofP p] = [some (ofP p)] from rfl]
  unfold A.b_is_whole
  cases p with
  | int z =>
    show _ = So.rt (.bl true) h
    simp -implicitDefEqProofs only [ofP, ev_ret, A.ev_eandT, ev_oA, ev_ac, ev_vr0, ev_ct, ev_an, bd_ok, A.ev_isiI, A.tru_bl, if_true, ev_enot, A.ev_isiB, ev_tst, Bool.not_false, ev_bs_ok]
  | bool b =>
    have e1 : isiD [.bl b, .con (.ty "int")] h = .ok (.bl true) h := rfl
    have e2 : isiD [.bl b, .con (.ty "bool")] h = .ok (.bl true) h := rfl
    show _ = So.rt (.bl false) h
    simp -implicitDefEqProofs only [ofP, ev_ret, A.ev_eandT, ev_oA, ev_ac, ev_vr0, ev_ct, ev_an, bd_ok, e1, A.tru_bl, if_true, ev_enot, e2, ev_tst, Bool.not_true, ev_bs_ok]
  | none =>
    have e1 : isiD [.non, .con (.ty "int")] h = .ok (.bl false) h := rfl
    show _ = So.rt (.bl false) h
    simp -implicitDefEqProofs only [ofP, ev_ret, A.ev_eandT, ev_oA, ev_ac, ev_vr0, ev_ct, ev_an, bd_ok, e1, A.tru_bl, Bool.false_eq_true, if_false, ev_bs_ok]
  | str s =>
    have e1 : isiD [.str s, .con (.ty "int")] h = .ok (.bl false) h := rfl
    show _ = So.rt (.bl false) h
    simp -implicitDefEqProofs only [ofP, ev_ret, A.ev_eandT, ev_oA, ev_ac, ev_vr0, ev_ct, ev_an, bd_ok, e1, A.tru_bl, Bool.false_eq_true, if_false, ev_bs_ok]
  | list xs =>
    have e1 : isiD [.lst (ofPs xs), .con (.ty "int")] h = .ok (.bl false) h := rfl
    show _ = So.rt (.bl false) h
    simp -implicitDefEqProofs only [ofP, ev_ret, A.ev_eandT, ev_oA, ev_ac, ev_vr0, ev_ct, ev_an, bd_ok, e1, A.tru_bl, Bool.false_eq_true, if_false, ev_bs_ok]
  | tuple xs =>
    have e1 : isiD [.tup (ofPs xs), .con (.ty "int")] h = .ok (.bl false) h := rfl
    show _ = So.rt (.bl false) h
    simp -implicitDefEqProofs only [ofP, ev_ret, A.ev_eandT, ev_oA, ev_ac, ev_vr0, ev_ct, ev_an, bd_ok, e1, A.tru_bl, Bool.false_eq_true, if_false, ev_bs_ok]
  | dict xs =>
    have e1 : isiD [.non, .con (.ty "int")] h = .ok (.bl false) h := rfl
    show _ = So.rt (.bl false) h
    simp -implicitDefEqProofs only [ofP, ev_ret, A.ev_eandT, ev_oA, ev_ac, ev_vr0, ev_ct, ev_an, bd_ok, e1, A.tru_bl, Bool.false_eq_true, if_false, ev_bs_ok]
theorem g_lwhole : G_law_is_whole K = A.G_is_whole K := rfl
/-- the number of a hand -/
def hndQ (n : Nat) (p : PyData) : Bool := match whQ p with
  | some z => decide (0 ≤ z ∧ z < (n : Int))
  | none => false
theorem hand_q {n : Nat} {p : PyData} : A.G_is_hand K [.int n, ofP p] h = .ok (.bl (hndQ n p)) h := by
  refine raw_of ?_
  rw [show startD A.N_is_hand [.int n, ofP p] = [some (.int n), some (ofP p)] from rfl]
  unfold A.b_is_hand
  have w := whole_q (K := K) (h := h) (p := p)
  simp -implicitDefEqProofs only [ev_ret, A.ev_eandT, ev_cll, ev_ac, ev_vr0, ev_vrS, ev_ct, ev_an, bd_ok, List.length_cons, List.length_nil, if_true, w, A.tru_bl]
  cases hq : whQ p with
  | none =>
    have : hndQ n p = false := by unfold hndQ; rw [hq]
    rw [this]
    rfl
  | some z =>
    have e : ofP p = .int z := by
      cases p with
      | int y => cases hq; rfl
      | _ => cases hq
    have : hndQ n p = decide (0 ≤ z ∧ z < (n : Int)) := by unfold hndQ; rw [hq]
    rw [this, e]
    simp -implicitDefEqProofs only [Option.isSome_some, if_true, ev_och, ev_ct, ev_vrS, ev_vr0, bd_ok, ev_le, ev_lt, ev_tst]
    by_cases h0 : (0 : Int) ≤ z
    · simp -implicitDefEqProofs only [decide_eq_true h0, if_true, ev_bs_ok]
      congr 2
      exact decide_eq_decide.mpr ⟨fun a => ⟨h0, a⟩, fun a => a.2⟩
    · have : ¬ (0 ≤ z ∧ z < (n : Int)) := fun a => h0 a.1
      simp -implicitDefEqProofs only [decide_eq_false h0, decide_eq_false this, Bool.false_eq_true, if_false, ev_bs_ok]
/-- a part's hands -/
def asQ (n : Nat) (p : PyData) : Option (List Nat) := match tupQ p with
  | some ys => if ys ≠ [] ∧ ys.all (hndQ n) = true then some (ys.map fun y => ((whQ y).getD 0).toNat) else none
  | none => none
theorem hnd_nat {n : Nat} {p : PyData} (q : hndQ n p = true) : ∃ x : Nat, x < n ∧ p = .int (x : Int) := by
  unfold hndQ at q
  cases p with
  | int z =>
    have q := of_decide_eq_true q
    obtain ⟨x, rfl⟩ := Int.eq_ofNat_of_zero_le q.1
    exact ⟨x, by omega, rfl⟩
  | _ => cases q
theorem as_some {n : Nat} {p : PyData} {q : List Nat} (e : asQ n p = some q) : p = .tuple (q.map iP) ∧ q ≠ [] ∧ ∀ x ∈ q, x < n := by
  unfold asQ at e
  cases ht : tupQ p with
  | none => rw [ht] at e; cases e
  | some ys =>
    rw [ht] at e
    dsimp only at e
    split at e
    · rename_i c
      have ep : p = .tuple ys := by
        cases p with
        | tuple xs => cases ht; rfl
        | _ => cases ht
      injection e with e
      subst e
      have key : ∀ y ∈ ys, ∃ x : Nat, x < n ∧ y = .int (x : Int) := fun y hy => hnd_nat (List.all_eq_true.mp c.2 y hy)
      refine ⟨?_, fun z => c.1 (List.map_eq_nil_iff.mp z), fun x hx => ?_⟩
      · rw [ep, List.map_map]
        congr 1
        conv => lhs; rw [← List.map_id ys]
        exact List.map_congr_left fun y hy => by
          obtain ⟨x, _, rfl⟩ := key y hy
          simp [whQ]
      · obtain ⟨y, hy, ex⟩ := List.mem_map.mp hx
        obtain ⟨z, hz, e⟩ := key y hy
        rw [e] at ex
        have : z = x := by rw [← ex]; simp [whQ]
        omega
    · cases e
theorem as_of {n : Nat} {q : List Nat} (ne : q ≠ []) (lt : ∀ x ∈ q, x < n) : asQ n (.tuple (q.map iP)) = some q := by
  unfold asQ
  have a : (q.map iP).all (hndQ n) = true := List.all_eq_true.mpr fun y hy => by
    obtain ⟨x, hx, rfl⟩ := List.mem_map.mp hy
    have := lt x hx
    unfold hndQ
    exact decide_eq_true ⟨by omega, by omega⟩
  have b : q.map iP ≠ [] := fun z => ne (List.map_eq_nil_iff.mp z)
  show (if q.map iP ≠ [] ∧ (q.map iP).all (hndQ n) = true then some ((q.map iP).map fun y => ((whQ y).getD 0).toNat) else none) = _
  rw [if_pos ⟨b, a⟩, List.map_map]
  congr 1
  conv => rhs; rw [← List.map_id q]
  exact List.map_congr_left fun x _ => by simp [whQ]
theorem ofP_row {q : List Nat} : ofP (.tuple (q.map iP)) = prT q := by
  rw [ofP, ofPs_map, List.map_map]
  rfl
end P03
namespace P03
open PySem PySem.Spec PyProof.Rows L2 Dt
open A (Beside Kept Ed eD Net netD nb Grow raw_of nb_le adj_nb adj nk refs Rc)
open B (Prt prT prsT Rch sub Nbs In in_tup)
variable {K : PySem.W.Frag} {h : DH}
theorem all_b {α : Type} {xs : List α} {p : α → Bool} : allD [.lst (xs.map fun o => D.bl (p o))] h = .ok (.bl (xs.all p)) h := by
  have e : (lsq h (.lst (xs.map fun o => D.bl (p o)))).bind toB = some (xs.map p) := by
    show toB (xs.map fun o => D.bl (p o)) = _
    induction xs with
    | nil => rfl
    | cons x xs ih => simp only [List.map_cons, toB, ih]; rfl
  show (match (lsq h (.lst (xs.map fun o => D.bl (p o)))).bind toB with
    | some ns => Rs.ok (D.bl (ns.all id)) h
    | none => .bad) = _
  rw [e]
  simp only [List.all_map]
  rfl
def asc (q : List Nat) : Bool := (q.zip (q.drop 1)).all fun p => decide (p.1 < p.2)
theorem asc_iff : ∀ {q : List Nat}, asc q = true ↔ q.Pairwise (· < ·)
  | [] => by simp [asc]
  | [a] => by simp [asc]
  | a :: b :: q => by
    have ih := asc_iff (q := b :: q)
    unfold asc at ih ⊢
    rw [List.drop_one, List.tail_cons] at ih ⊢
    rw [List.zip_cons_cons, List.all_cons, Bool.and_eq_true, decide_eq_true_eq, ih]
    constructor
    · rintro ⟨h1, h2⟩
      refine List.pairwise_cons.mpr ⟨fun x hx => ?_, h2⟩
      rcases List.mem_cons.mp hx with rfl | hx
      · exact h1
      · exact Nat.lt_trans h1 ((List.pairwise_cons.mp h2).1 x hx)
    · intro hh
      obtain ⟨h1, h2⟩ := List.pairwise_cons.mp hh
      exact ⟨h1 b List.mem_cons_self, h2⟩
theorem rise_q {x : D} {q : List Nat} (hx : x = .tup (q.map iD) ∨ x = .lst (q.map iD)) (hl : q.length ≤ 1000) : A.G_are_rising K [x] h = .ok (.bl (asc q)) h := by
  have c : Dt.cutD (q.map iD) (some 1) none = (q.drop 1).map iD := by
    cases q with
    | nil => rfl
    | cons e q => rw [List.map_cons, cut1]; rfl
  have zi : zipX (ac (vr 0) (ac (esl false (vr 0) (ps (ct (.int 1))) pn) an)) [some x, none, none] h = .ok ⟨[], (q.zip (q.drop 1)).map fun p => D.tup [iD p.1, iD p.2]⟩ h := by
    unfold zipX
    have sp : ∀ g, ps (ct (.int 1)) [some x, none, none] g = .ok (some 1) g := fun _ => rfl
    have sn : ∀ g, pn [some x, none, none] g = .ok none g := fun _ => rfl
    rcases hx with rfl | rfl
    · have sl : slD false (.tup (q.map iD)) (some 1) none h = .ok (.tup ((q.drop 1).map iD)) h := by
        show Rs.ok (D.tup (Dt.cutD (q.map iD) (some 1) none)) h = _
        rw [c]
      simp only [ev_ac, ev_vr0, bd_ok, ev_esl, sp, sn, sl, ev_an, zsrc]
      rw [List.zip_map, List.map_map]
      rfl
    · have sl : slD false (.lst (q.map iD)) (some 1) none h = .ok (.lst ((q.drop 1).map iD)) h := by
        have : lsq h (.lst (q.map iD)) = some (q.map iD) := rfl
        unfold slD
        simp only [this, c]
        exact ev_mkF (by simp; omega)
      simp only [ev_ac, ev_vr0, bd_ok, ev_esl, sp, sn, sl, ev_an, zsrc]
      rw [List.zip_map, List.map_map]
      rfl
  have lc : lcE (zipX (ac (vr 0) (ac (esl false (vr 0) (ps (ct (.int 1))) pn) an))) (.tp [(.nm 1), (.nm 2)]) tyes (o2 ltD (vr 1) (vr 2)) [1, 2] [some x, none, none] h = .ok (.lst ((q.zip (q.drop 1)).map fun p => D.bl (decide (p.1 < p.2)))) h := by
    refine ev_lcg (t := .tp [(.nm 1), (.nm 2)]) (fun p : Nat × Nat => D.tup [iD p.1, iD p.2]) _ (q.zip (q.drop 1)) zi so_nil rfl (fun p hp => ⟨_, rfl, ?_⟩) (by rw [List.length_zip]; omega)
    have d1 : decide ((p.1 : Int) < (p.2 : Int)) = decide (p.1 < p.2) := decide_eq_decide.mpr (by omega)
    simp only [wipD, List.set_cons_succ, List.set_cons_zero, ev_o2, ev_vrS, ev_vr0, bd_ok, ev_lt, d1]
  refine raw_of ?_
  rw [show startD A.N_are_rising [x] = [some x, none, none] from rfl]
  unfold A.b_are_rising
  simp -implicitDefEqProofs only [ev_ret, ev_oA, ev_ac, lc, ev_an, bd_ok, all_b, ev_bs_ok]
  rfl
theorem row_rc {E : List Ed} {ws row : List Nat} {s : Nat} {vals : List Int} (r : Rch E ws s row vals) {x : Nat} (hx : x ∈ row) : Rc (sub E ws) s x := by
  have b := r.bx
  have key : ∀ (m k x : Nat) (z : Int), z ≤ (m : Int) → row[k]? = some x → vals[k]? = some z → Rc (sub E ws) s x := fun m => by
    induction m with
    | zero =>
      intro k x z hm hk hz
      by_cases k0 : k = 0
      · subst k0
        rw [b.z0.1] at hk
        cases hk
        exact .refl _
      · obtain ⟨i, v, y, h1, h2, h3, h4⟩ := b.par k x _ hk hz k0
        have : 0 ≤ y := b.mono 0 i 0 y (by omega) b.z0.2 h2
        omega
    | succ m ih =>
      intro k x z hm hk hz
      by_cases k0 : k = 0
      · subst k0
        rw [b.z0.1] at hk
        cases hk
        exact .refl _
      · obtain ⟨i, v, y, h1, h2, h3, h4⟩ := b.par k x _ hk hz k0
        exact B.rc_adj (ih i v y (by omega) h1 h2) h3
  obtain ⟨k, hk⟩ := List.getElem?_of_mem hx
  obtain ⟨z, hz⟩ : ∃ z, vals[k]? = some z := ⟨_, List.getElem?_eq_getElem (by rw [r.len]; exact (List.getElem?_eq_some_iff.mp hk).1)⟩
  exact key z.toNat k x z (by omega) hk hz
def con (E : List Ed) (q : List Nat) : Prop := ∀ x ∈ q, Rc (sub E q) (q.headD 0) x
theorem row_all {E : List Ed} {q row : List Nat} {vals : List Int} (nd : q.Nodup) (r : Rch E q (q.headD 0) row vals) : row.length = q.length ↔ con E q := by
  constructor
  · intro e x hx
    have sb : ∀ y ∈ row, y ∈ q := r.inn
    have : x ∈ row := by
      by_cases hm : x ∈ row
      · exact hm
      · have nd2 : (x :: row).Nodup := List.nodup_cons.mpr ⟨hm, r.nd⟩
        have := nd2.length_le_of_subset (l₂ := q) fun y hy => by
          rcases List.mem_cons.mp hy with rfl | hy
          · exact hx
          · exact sb y hy
        simp at this
        omega
    exact row_rc r this
  · intro c
    exact B.len_same r.nd nd (r.all c)
/-- a part of a net -/
def IsP (n : Nat) (E : List Ed) (p : PyData) : Prop := ∃ q, asQ n p = some q ∧ q.Pairwise (· < ·) ∧ con E q
/-- no tuple here is long -/
def Sh1 (p : PyData) : Prop := ∀ ys, tupQ p = some ys → ys.length ≤ 400
theorem tup_of {p : PyData} {ys : List PyData} (e : tupQ p = some ys) : p = .tuple ys := by
  cases p with
  | tuple xs => cases e; rfl
  | _ => cases e
theorem part_q {n L : Nat} {E : List Ed} {p : PyData} (N : Net n E) (hs : Sh1 p) (nbs : Nbs n E L h) : ∃ (b : Bool) (h' : DH), B.G_is_part K [netD n E, refs L n, ofP p] h = .ok (.bl b) h' ∧ (b = true ↔ IsP n E p) ∧ Kept h h' := by
  have n16 := N.le
  have ty := isT_of (h := h) (p := p)
  have st : startD B.N_is_part [netD n E, refs L n, ofP p] = [some (netD n E), some (refs L n), some (ofP p), none] := rfl
  cases ht : tupQ p with
  | none =>
    rw [ht] at ty
    have ty : isiD [ofP p, .con (.ty "tuple")] h = .ok (.bl false) h := ty
    refine ⟨false, h, raw_of ?_, ⟨(fun z => by cases z), fun ⟨q, hq, _⟩ => ?_⟩, Nat.le_refl _, fun _ _ => rfl⟩
    · rw [st]
      unfold B.b_is_part
      simp -implicitDefEqProofs only [ev_seq, ev_ife, ev_tor, ev_tnot, ev_tv, ev_oA, ev_ac, ev_vrS, ev_vr0, ev_ct, ev_an, bd_ok, ty, ev_tst, Bool.not_false, if_true, ev_bs_ok, ev_ret, ev_sq_rt]
    · unfold asQ at hq
      rw [ht] at hq
      cases hq
  | some ys =>
    have yl := hs ys ht
    have ep := tup_of ht
    rw [ht] at ty
    have ty : isiD [ofP p, .con (.ty "tuple")] h = .ok (.bl true) h := ty
    have eo : ofP p = .tup (ys.map ofP) := by rw [ep, ofP, ofPs_map]
    have l0 : lenD [ofP p] h = .ok (.int (ys.length : Nat)) h := by
      rw [eo]
      show Rs.ok (D.int ((ys.map ofP).length : Nat)) h = _
      rw [List.length_map]
    have i0 : ixD (netD n E) (.int 0) h = .ok (.int n) h := ev_ixT (i := 0) rfl
    by_cases hy : ys = []
    · have z0 : eqD (.int (ys.length : Nat)) (.int 0) h = .ok (.bl true) h := by
        rw [hy]
        rfl
      refine ⟨false, h, raw_of ?_, ⟨(fun z => by cases z), fun ⟨q, hq, _⟩ => ?_⟩, Nat.le_refl _, fun _ _ => rfl⟩
      · rw [st]
        unfold B.b_is_part
        simp -implicitDefEqProofs only [ev_seq, ev_ife, ev_tor, ev_tnot, ev_tv, ev_oA, ev_ac, ev_vrS, ev_vr0, ev_ct, ev_an, bd_ok, ty, ev_tst, Bool.not_true, Bool.false_eq_true, if_false, ev_o2, l0, z0, if_true, ev_bs_ok, ev_ret, ev_sq_rt]
      · unfold asQ at hq
        rw [ht] at hq
        simp [hy] at hq
    · have y0 := List.length_pos_iff.mpr hy
      have z0 : eqD (.int (ys.length : Nat)) (.int 0) h = .ok (.bl false) h := by
        rw [ev_eqI, decide_eq_false (by omega)]
      have lc : lcE (isq (vr 2)) (.nm 3) tyes (cll 2 (A.G_is_hand K) (ac (o2 ixD (vr 0) (ct (.int 0))) (ac (vr 3) an))) [3] [some (netD n E), some (refs L n), some (ofP p), none] h = .ok (.lst (ys.map fun y => D.bl (hndQ n y))) h := by
        refine ev_lcg (t := .nm 3) ofP (fun y => D.bl (hndQ n y)) ys (it := ⟨[], ys.map ofP⟩) (by rw [ev_isq]; simp only [ev_vrS, ev_vr0, bd_ok]; rw [eo]; rfl) so_nil rfl (fun y _ => ⟨_, rfl, ?_⟩) (by omega)
        have w := hand_q (K := K) (h := h) (n := n) (p := y)
        simp only [wipD, List.set_cons_succ, List.set_cons_zero, ev_cll, ev_ac, ev_o2, ev_ct, ev_vrS, ev_vr0, ev_an, bd_ok, i0, List.length_cons, List.length_nil, if_true, w]
      cases ha : ys.all (hndQ n) with
      | false =>
        have ab := all_b (h := h) (xs := ys) (p := hndQ n)
        rw [ha] at ab
        refine ⟨false, h, raw_of ?_, ⟨(fun z => by cases z), fun ⟨q, hq, _⟩ => ?_⟩, Nat.le_refl _, fun _ _ => rfl⟩
        · rw [st]
          unfold B.b_is_part
          simp -implicitDefEqProofs only [ev_seq, ev_ife, ev_tor, ev_tnot, ev_tv, ev_oA, ev_ac, ev_vrS, ev_vr0, ev_ct, ev_an, bd_ok, ty, ev_tst, Bool.not_true, Bool.false_eq_true, if_false, ev_o2, l0, z0]
          rw [lc]
          simp -implicitDefEqProofs only [bd_ok, ev_an, ab, ev_tst, Bool.not_false, if_true, ev_bs_ok, ev_ret, ev_ct, ev_sq_rt]
        · unfold asQ at hq
          rw [ht] at hq
          simp [ha] at hq
      | true =>
        have aq : ∃ q, asQ n p = some q := by
          unfold asQ
          rw [ht]
          exact ⟨_, if_pos ⟨hy, ha⟩⟩
        obtain ⟨q, hq⟩ := aq
        obtain ⟨eq, ne, lt⟩ := as_some hq
        have er : ofP p = prT q := by rw [eq]; exact ofP_row
        have ql : q.length = ys.length := by
          rw [eq] at ht
          cases ht
          rw [List.length_map]
        have ab := all_b (h := h) (xs := ys) (p := hndQ n)
        rw [ha] at ab
        have ri := rise_q (K := K) (h := h) (x := prT q) (.inl rfl) (by omega)
        have uq : ∀ r, asQ n p = some r → r = q := fun r hr => by rw [hq] at hr; exact (Option.some.inj hr).symm
        cases hasc : asc q with
        | false =>
          rw [hasc] at ri
          refine ⟨false, h, raw_of ?_, ⟨(fun z => by cases z), fun ⟨r, hr, ar, _⟩ => ?_⟩, Nat.le_refl _, fun _ _ => rfl⟩
          · rw [st]
            unfold B.b_is_part
            simp -implicitDefEqProofs only [ev_seq, ev_ife, ev_tor, ev_tnot, ev_tv, ev_oA, ev_ac, ev_vrS, ev_vr0, ev_ct, ev_an, bd_ok, ty, ev_tst, Bool.not_true, Bool.false_eq_true, if_false, ev_o2, l0, z0]
            rw [lc]
            simp -implicitDefEqProofs only [bd_ok, ev_an, ab, ev_tst, Bool.not_true, ev_bs_ok, Bool.false_eq_true, if_false, ev_skp, ev_sq_nx, ev_ret, A.ev_eandT, ev_cll, ev_ac, ev_vrS, ev_vr0, List.length_cons, List.length_nil, if_true, er, ri, A.tru_bl]
          · rw [uq r hr] at ar
            rw [asc_iff.mpr ar] at hasc
            cases hasc
        | true =>
          rw [hasc] at ri
          have pw := asc_iff.mp hasc
          have nd : q.Nodup := pw.imp fun h => Nat.ne_of_lt h
          have hd := B.head_mem ne
          obtain ⟨row, vals, h', e1, ef, r, rl, k⟩ := B.reached_w (K := K) (s := q.headD 0) (wd := prT q) N in_tup nbs.1 nbs.2 (lt _ hd) hd
          have rlen : row.length ≤ q.length := r.nd.length_le_of_subset (l₂ := q) r.inn
          have ra := row_all nd r
          have ip : ixD (prT q) (.int 0) h = .ok (iD (q.headD 0)) h := by
            cases q with
            | nil => exact absurd rfl ne
            | cons a q => exact ev_ixT (i := 0) rfl
          have l1 : lenD [prT q] h' = .ok (.int (q.length : Nat)) h' := by
            show Rs.ok (D.int ((q.map iD).length : Nat)) h' = _
            rw [List.length_map]
          have lr := B.ev_lenDk ef (by omega)
          have e2 : eqD (.int (row.length : Nat)) (.int (q.length : Nat)) h' = .ok (.bl (decide (row.length = q.length))) h' := by
            rw [ev_eqI]
            congr 2
            exact decide_eq_decide.mpr (by omega)
          refine ⟨decide (row.length = q.length), h', raw_of ?_, ⟨fun z => ⟨q, hq, pw, ra.mp (of_decide_eq_true z)⟩, fun ⟨r', hr', _, cr⟩ => ?_⟩, k⟩
          · rw [st]
            unfold B.b_is_part
            simp -implicitDefEqProofs only [ev_seq, ev_ife, ev_tor, ev_tnot, ev_tv, ev_oA, ev_ac, ev_vrS, ev_vr0, ev_ct, ev_an, bd_ok, ty, ev_tst, Bool.not_true, Bool.false_eq_true, if_false, ev_o2, l0, z0]
            rw [lc]
            simp -implicitDefEqProofs only [bd_ok, ev_an, ab, ev_tst, Bool.not_true, ev_bs_ok, Bool.false_eq_true, if_false, ev_skp, ev_sq_nx, ev_ret, A.ev_eandT, ev_cll, ev_ac, ev_vrS, ev_vr0, List.length_cons, List.length_nil, if_true, er, ri, A.tru_bl, ev_o2, ev_oA, ev_ct, ip, e1, lr, l1, e2]
          · rw [uq r' hr'] at cr
            exact decide_eq_true (ra.mpr cr)
end P03
namespace P03
open PySem PySem.Spec PyProof.Rows L2 Dt
open A (Beside Kept Ed eD Net netD nb Grow raw_of nb_le adj_nb adj nk refs Rc)
open B (Prt prT prsT Rch sub Nbs In in_tup)
variable {K : PySem.W.Frag} {h : DH}
theorem eqv_nat : ∀ {a b : List Nat}, PyData.eqvAll (a.map iP) (b.map iP) = decide (a = b)
  | [], [] => by simp [PyData.eqvAll]
  | [], y :: b => by simp [PyData.eqvAll]
  | x :: a, [] => by simp [PyData.eqvAll]
  | x :: a, y :: b => by
    have ih := eqv_nat (a := a) (b := b)
    rw [List.map_cons, List.map_cons, PyData.eqvAll, ih]
    have : PyData.eqv (iP x) (iP y) = decide (x = y) := by
      by_cases e : x = y
      · subst e; simp [PyData.eqv]
      · have : ¬ ((x : Int) = (y : Int)) := by omega
        simp [PyData.eqv, e]
        exact this
    rw [this]
    by_cases e : x = y <;> simp [e]
theorem eq_nat {a b : List Nat} : eqD (.lst (a.map iD)) (.lst (b.map iD)) h = .ok (.bl (decide (a = b))) h := by
  have e1 : toP h 60 (.lst (a.map iD)) = some (.list (a.map iP)) := toP_lstI
  have e2 : toP h 60 (.lst (b.map iD)) = some (.list (b.map iP)) := toP_lstI
  have q : eqB (.lst (a.map iD)) (.lst (b.map iD)) h = some (PyData.eqv (.list (a.map iP)) (.list (b.map iP))) := by
    unfold eqB
    rw [e1, e2]
    simp only [shp_lstI, and_self, if_true]
  unfold eqD
  rw [q]
  have : PyData.eqv (.list (a.map iP)) (.list (b.map iP)) = PyData.eqvAll (a.map iP) (b.map iP) := by simp only [PyData.eqv]
  rw [this, eqv_nat]
theorem ne_nat {a b : List Nat} : neD (.lst (a.map iD)) (.lst (b.map iD)) h = .ok (.bl (!decide (a = b))) h := by
  have e := eq_nat (h := h) (a := a) (b := b)
  unfold eqD at e
  unfold neD
  cases hq : eqB (.lst (a.map iD)) (.lst (b.map iD)) h with
  | none => rw [hq] at e; cases e
  | some c =>
    rw [hq] at e
    injection e with e1 _
    injection e1 with e1
    rw [← e1]
/-- a list of numbers, sorted -/
def sor (l : List Nat) : List Nat := l.mergeSort fun a b => decide (a ≤ b)
theorem sor_le {l : List Nat} : (sor l).Pairwise (· ≤ ·) := by
  have := List.pairwise_mergeSort (le := fun a b : Nat => decide (a ≤ b)) (fun a b c x y => by simp only [decide_eq_true_eq] at x y ⊢; omega) (fun a b => by simp only [Bool.or_eq_true, decide_eq_true_eq]; omega) l
  exact this.imp fun {a b} q => of_decide_eq_true q
theorem sor_perm {l : List Nat} : (sor l).Perm l := List.mergeSort_perm _ _
theorem sor_eq {l m : List Nat} (hm : m.Pairwise (· ≤ ·)) : sor l = m ↔ l.Perm m := by
  constructor
  · rintro rfl
    exact sor_perm.symm
  · intro p
    exact List.Perm.eq_of_pairwise (le := (· ≤ ·)) (fun a b _ _ h1 h2 => Nat.le_antisymm h1 h2) sor_le hm (sor_perm.trans p)
/-- a parting of a net -/
def IsPt (n : Nat) (E : List Ed) (p : PyData) : Prop := ∃ qs : List (List Nat), p = .tuple (qs.map rP) ∧ Prt n E qs
def Sh2 (p : PyData) : Prop := ∀ xs, tupQ p = some xs → xs.length ≤ 400 ∧ ∀ x ∈ xs, Sh1 x
/-- all parts -/
def rows (qs : List (List Nat)) : Prop := ∀ q ∈ qs, q ≠ [] ∧ q.Pairwise (· < ·)
theorem all_isp {n : Nat} {E : List Ed} : ∀ {xs : List PyData}, (∀ x ∈ xs, IsP n E x) → ∃ qs : List (List Nat), xs = qs.map rP ∧ (∀ q ∈ qs, q ≠ [] ∧ q.Pairwise (· < ·) ∧ con E q ∧ ∀ x ∈ q, x < n)
  | [], _ => ⟨[], rfl, fun q hq => by cases hq⟩
  | x :: xs, g => by
    obtain ⟨qs, e, f⟩ := all_isp (xs := xs) fun y hy => g y (List.mem_cons_of_mem _ hy)
    obtain ⟨q, hq, a, c⟩ := g x List.mem_cons_self
    obtain ⟨e1, ne, lt⟩ := as_some hq
    refine ⟨q :: qs, by rw [List.map_cons, ← e, e1], fun r hr => ?_⟩
    rcases List.mem_cons.mp hr with rfl | hr
    · exact ⟨ne, a, c, lt⟩
    · exact f r hr
theorem isp_row {n : Nat} {E : List Ed} {q : List Nat} (P : q ≠ [] ∧ q.Pairwise (· < ·) ∧ con E q ∧ ∀ x ∈ q, x < n) : IsP n E (rP q) := ⟨q, as_of P.1 P.2.2.2, P.2.1, P.2.2.1⟩
theorem prt_parts {n : Nat} {E : List Ed} {qs : List (List Nat)} (P : Prt n E qs) : ∀ q ∈ qs, q ≠ [] ∧ q.Pairwise (· < ·) ∧ con E q ∧ ∀ x ∈ q, x < n := fun q hq => ⟨P.ne q hq, P.asc q hq, fun x hx => P.con q hq x hx, fun x hx => P.lt hq hx⟩
theorem rP_inj {a b : List (List Nat)} (e : a.map rP = b.map rP) : a = b := by
  refine (List.map_inj_right fun x y z => ?_).mp e
  injection z with z
  exact (List.map_inj_right fun x y z => by injection z with z; omega).mp z
theorem of_rows {qs : List (List Nat)} : (qs.map rP).map ofP = qs.map prT := by
  rw [List.map_map]
  exact List.map_congr_left fun q _ => ofP_row
theorem parting_q {n : Nat} {E : List Ed} {p : PyData} (N : Net n E) (hE : E.length ≤ 300) (hs : Sh2 p) : ∃ (b : Bool) (h' : DH), B.G_is_parting K [netD n E, ofP p] h = .ok (.bl b) h' ∧ (b = true ↔ IsPt n E p) ∧ Kept h h' := by
  have n16 := N.le
  obtain ⟨h1, e1, k1⟩ := A.need_net_ok (K := K) (h := h) N hE
  obtain ⟨h2, e2, nbs, k2⟩ := B.beside_nbs (K := K) (h := h1) N hE
  obtain ⟨L, eL⟩ : ∃ L, L = h1.length := ⟨_, rfl⟩
  rw [← eL] at e2 nbs
  have st : startD B.N_is_parting [netD n E, ofP p] = [some (netD n E), some (ofP p), none, none, none] := rfl
  have ty := isT_of (h := h2) (p := p)
  cases ht : tupQ p with
  | none =>
    rw [ht] at ty
    have ty : isiD [ofP p, .con (.ty "tuple")] h2 = .ok (.bl false) h2 := ty
    refine ⟨false, h2, raw_of ?_, ⟨(fun z => by cases z), fun ⟨qs, ep, _⟩ => by rw [ep] at ht; cases ht⟩, k1.trans k2⟩
    rw [st]
    unfold B.b_is_parting
    simp -implicitDefEqProofs only [ev_seq, ev_drp, ev_cll, ev_ac, ev_vrS, ev_vr0, ev_an, bd_ok, List.length_cons, List.length_nil, if_true, e1, ev_bs_ok, ev_sq_nx, ev_asg, e2, List.set_cons_succ, List.set_cons_zero, ev_ife, ev_tor, ev_tnot, ev_tv, ev_oA, ev_ct, ty, ev_tst, Bool.not_false, ev_ret, ev_sq_rt]
  | some xs =>
    obtain ⟨xl, xs1⟩ := hs xs ht
    have ep := tup_of ht
    rw [ht] at ty
    have ty : isiD [ofP p, .con (.ty "tuple")] h2 = .ok (.bl true) h2 := ty
    have eo : ofP p = .tup (xs.map ofP) := by rw [ep, ofP, ofPs_map]
    obtain ⟨ys, h3, e3, l3, p3, k3⟩ := ev_lch (h := h2) (h1 := h2) (t := .nm 3) (vs := [3]) (fe := cll 3 (B.G_is_part K) (ac (vr 0) (ac (vr 2) (ac (vr 3) an)))) (fi := isq (vr 1)) (env := [some (netD n E), some (ofP p), some (refs L n), none, none])
      (it := ⟨[], xs.map ofP⟩) (fun i y => ∃ (b : Bool) (x : PyData), y = .bl b ∧ xs[i]? = some x ∧ (b = true ↔ IsP n E x)) (fun _ g => Kept h2 g) (by rw [ev_isq]; simp only [ev_vrS, ev_vr0, bd_ok]; rw [eo]; rfl) Kept.refl (fun _ _ _ => so_nil) (fun j g d hg hd => by
        dsimp only at hd
        rw [List.getElem?_map] at hd
        obtain ⟨x, hx, rfl⟩ := Option.map_eq_some_iff.mp hd
        obtain ⟨b, g', t, ib, k⟩ := part_q (K := K) (h := g) N (xs1 x (List.mem_of_getElem? hx)) (nbs.kept hg)
        refine ⟨_, .bl b, g', rfl, ?_, ⟨b, x, rfl, hx, ib⟩, hg.trans k⟩
        simp -implicitDefEqProofs only [wipD, List.set_cons_succ, List.set_cons_zero, ev_cll, ev_ac, ev_vrS, ev_vr0, ev_an, bd_ok, List.length_cons, List.length_nil, if_true, t]) (by simp; omega)
    have l3' : ys.length = xs.length := by simpa using l3
    obtain ⟨bs, ebs⟩ : ∃ bs : List Bool, ys = bs.map fun b => D.bl b := by
      have key : ∀ (zs : List D), (∀ z ∈ zs, ∃ b : Bool, z = .bl b) → ∃ bs : List Bool, zs = bs.map fun b => D.bl b := fun zs => by
        induction zs with
        | nil => exact fun _ => ⟨[], rfl⟩
        | cons z zs ih =>
          intro g
          obtain ⟨bs, e⟩ := ih fun y hy => g y (List.mem_cons_of_mem _ hy)
          obtain ⟨b, rfl⟩ := g z List.mem_cons_self
          exact ⟨b :: bs, by rw [List.map_cons, ← e]⟩
      refine key ys fun z hz => ?_
      obtain ⟨i, hi⟩ := List.getElem?_of_mem hz
      obtain ⟨b, _, e, _⟩ := p3 i z hi
      exact ⟨b, e⟩
    have al : bs.all id = true ↔ ∀ x ∈ xs, IsP n E x := by
      constructor
      · intro ha x hx
        obtain ⟨i, hi⟩ := List.getElem?_of_mem hx
        have il := (List.getElem?_eq_some_iff.mp hi).1
        obtain ⟨y, hy⟩ : ∃ y, ys[i]? = some y := ⟨_, List.getElem?_eq_getElem (by omega)⟩
        obtain ⟨b, x', e, hx', ib⟩ := p3 i y hy
        rw [hi] at hx'; cases hx'
        have : b ∈ bs := by
          have := List.mem_of_getElem? hy
          rw [ebs, e] at this
          obtain ⟨c, hc, ec⟩ := List.mem_map.mp this
          cases ec
          exact hc
        exact ib.mp (List.all_eq_true.mp ha b this)
      · intro g
        refine List.all_eq_true.mpr fun b hb => ?_
        have : D.bl b ∈ ys := by rw [ebs]; exact List.mem_map_of_mem hb
        obtain ⟨i, hi⟩ := List.getElem?_of_mem this
        obtain ⟨b', x, e, hx, ib⟩ := p3 i _ hi
        cases e
        exact ib.mpr (g x (List.mem_of_getElem? hx))
    have ab := all_b (h := h3) (xs := bs) (p := id)
    rw [show (bs.map fun o => D.bl (id o)) = ys from ebs.symm] at ab
    cases ha : bs.all id with
    | false =>
      rw [ha] at ab
      refine ⟨false, h3, raw_of ?_, ⟨(fun z => by cases z), fun ⟨qs, e, P⟩ => ?_⟩, (k1.trans k2).trans k3⟩
      · rw [st]
        unfold B.b_is_parting
        simp -implicitDefEqProofs only [ev_seq, ev_drp, ev_cll, ev_ac, ev_vrS, ev_vr0, ev_an, bd_ok, List.length_cons, List.length_nil, if_true, e1, ev_bs_ok, ev_sq_nx, ev_asg, e2, List.set_cons_succ, List.set_cons_zero, ev_ife, ev_tor, ev_tnot, ev_tv, ev_oA, ev_ct, ty, ev_tst, Bool.not_true, Bool.false_eq_true, if_false]
        rw [e3]
        simp -implicitDefEqProofs only [bd_ok, ev_an, ab, ev_tst, Bool.not_false, ev_bs_ok, if_true, ev_ret, ev_ct, ev_sq_rt]
      · rw [ep] at e
        injection e with e
        have := al.mpr fun x hx => by
          rw [e] at hx
          obtain ⟨q, hq, rfl⟩ := List.mem_map.mp hx
          exact isp_row (prt_parts P q hq)
        rw [ha] at this
        cases this
    | true =>
      rw [ha] at ab
      obtain ⟨qs, eq, gq⟩ := all_isp (al.mp ha)
      have er : ofP p = prsT qs := by rw [eo, eq, of_rows]
      have qx : qs.length = xs.length := by rw [eq, List.length_map]
      have i0 : ∀ g, ixD (netD n E) (.int 0) g = .ok (.int n) g := fun _ => ev_ixT (i := 0) rfl
      have ql : ∀ q ∈ qs, q.length ≤ n := fun q hq => A.nodup_len ((gq q hq).2.1.imp fun h => Nat.ne_of_lt h) fun x hx => (gq q hq).2.2.2 x hx
      have flen : qs.flatten.length ≤ 400 * 16 := by
        rw [List.length_flatten]
        have key : ∀ l : List (List Nat), (∀ q ∈ l, q.length ≤ 16) → (l.map List.length).sum ≤ l.length * 16 := fun l => by
          induction l with
          | nil => simp
          | cons q l ih =>
            intro g
            have a := g q List.mem_cons_self
            have b := ih fun r hr => g r (List.mem_cons_of_mem _ hr)
            simp only [List.map_cons, List.sum_cons, List.length_cons]
            omega
        have := key qs fun q hq => by have := ql q hq; omega
        omega
      have fl : qs.flatMap id = qs.flatten := by rw [List.flatMap_id]
      have lc2 : lc2E (isq (vr 1)) (.nm 3) tyes (isq (vr 3)) (.nm 4) tyes (vr 4) [3, 4] [4] [some (netD n E), some (prsT qs), some (refs L n), none, none] h3 = .ok (.lst (qs.flatten.map iD)) h3 := by
        have := ev_lc2 (fi := isq (vr 1)) (it := ⟨[], qs.map prT⟩) (env := [some (netD n E), some (prsT qs), some (refs L n), none, none]) (h := h3) (i := 3) (j := 4) (vs := [3, 4]) (vs1 := [4]) (fe := vr 4) (fi1 := isq (vr 3)) prT id iD iD qs rfl so_nil rfl
          (fun z hz => ⟨rfl, fun y hy => rfl⟩) (by rw [fl]; omega)
        rw [fl] at this
        exact this
      have so : sortD false [.lst (qs.flatten.map iD)] h3 = .ok (.lst ((sor qs.flatten).map iD)) h3 := sort_ints rfl sor_perm sor_le (by omega)
      have rg := B.lrg_ok (h := h3) (env := [some (netD n E), some (prsT qs), some (refs L n), none, none]) (fa := o2 ixD (vr 0) (ct (.int 0))) (n := n) (by omega) (by simp only [ev_o2, ev_vr0, ev_ct, bd_ok, i0])
      have ne := ne_nat (h := h3) (a := sor qs.flatten) (b := List.range n)
      have se := sor_eq (l := qs.flatten) (m := List.range n) (List.pairwise_lt_range.imp Nat.le_of_lt)
      rw [er] at e3 ty
      by_cases hp : sor qs.flatten = List.range n
      · rw [decide_eq_true hp] at ne
        have lc3 := ev_lcg (h := h3) (t := .nm 3) (vs := [3]) (fe := o2 ixD (vr 3) (ct (.int 0))) (fi := isq (vr 1)) (env := [some (netD n E), some (prsT qs), some (refs L n), none, none]) prT (fun q => iD (q.headD 0)) qs (it := ⟨[], qs.map prT⟩) (by rw [ev_isq]; simp only [ev_vrS, ev_vr0, bd_ok]; rfl) so_nil rfl (fun q hq => ⟨_, rfl, by
          simp only [wipD, List.set_cons_succ, List.set_cons_zero, ev_o2, ev_vrS, ev_vr0, ev_ct, bd_ok]
          cases q with
          | nil => exact absurd rfl (gq _ hq).1
          | cons a q => exact ev_ixT (i := 0) rfl⟩) (by omega)
        have ri := rise_q (K := K) (h := h3) (x := .lst ((qs.map fun q => q.headD 0).map iD)) (.inr rfl) (by simp; omega)
        rw [List.map_map] at ri
        refine ⟨asc (qs.map fun q => q.headD 0), h3, raw_of ?_, ⟨fun z => ⟨qs, by rw [ep, eq], fun q hq => (gq q hq).1, fun q hq => (gq q hq).2.1, se.mp hp, asc_iff.mp z, fun q hq => (gq q hq).2.2.1⟩, fun ⟨rs, e, P⟩ => ?_⟩, (k1.trans k2).trans k3⟩
        · rw [st, er]
          unfold B.b_is_parting
          simp -implicitDefEqProofs only [ev_seq, ev_drp, ev_cll, ev_ac, ev_vrS, ev_vr0, ev_an, bd_ok, List.length_cons, List.length_nil, if_true, e1, ev_bs_ok, ev_sq_nx, ev_asg, e2, List.set_cons_succ, List.set_cons_zero, ev_ife, ev_tor, ev_tnot, ev_tv, ev_oA, ev_ct, ty, ev_tst, Bool.not_true, Bool.false_eq_true, if_false]
          rw [e3]
          simp -implicitDefEqProofs only [bd_ok, ev_an, ab, ev_tst, Bool.not_true, ev_bs_ok, Bool.false_eq_true, if_false, ev_skp, ev_sq_nx, ev_seq, ev_ife, ev_tv, ev_o2, ev_oA, ev_ac]
          rw [lc2]
          simp -implicitDefEqProofs only [bd_ok, ev_an, so]
          rw [rg]
          simp -implicitDefEqProofs only [bd_ok, ne, Bool.not_true, ev_tst, ev_bs_ok, Bool.false_eq_true, if_false, ev_skp, ev_sq_nx, ev_ret, ev_cll, ev_ac]
          rw [lc3]
          simp -implicitDefEqProofs only [bd_ok, ev_an, List.length_cons, List.length_nil, if_true]
          rw [show (qs.map fun q => iD (q.headD 0)) = qs.map (iD ∘ fun q => q.headD 0) from rfl, ri]
          rfl
        · rw [ep, eq] at e
          injection e with e
          rw [rP_inj e]
          exact asc_iff.mpr P.hd
      · rw [decide_eq_false hp] at ne
        refine ⟨false, h3, raw_of ?_, ⟨(fun z => by cases z), fun ⟨rs, e, P⟩ => ?_⟩, (k1.trans k2).trans k3⟩
        · rw [st, er]
          unfold B.b_is_parting
          simp -implicitDefEqProofs only [ev_seq, ev_drp, ev_cll, ev_ac, ev_vrS, ev_vr0, ev_an, bd_ok, List.length_cons, List.length_nil, if_true, e1, ev_bs_ok, ev_sq_nx, ev_asg, e2, List.set_cons_succ, List.set_cons_zero, ev_ife, ev_tor, ev_tnot, ev_tv, ev_oA, ev_ct, ty, ev_tst, Bool.not_true, Bool.false_eq_true, if_false]
          rw [e3]
          simp -implicitDefEqProofs only [bd_ok, ev_an, ab, ev_tst, Bool.not_true, ev_bs_ok, Bool.false_eq_true, if_false, ev_skp, ev_sq_nx, ev_seq, ev_ife, ev_tv, ev_o2, ev_oA, ev_ac]
          rw [lc2]
          simp -implicitDefEqProofs only [bd_ok, ev_an, so]
          rw [rg]
          simp -implicitDefEqProofs only [bd_ok, ne, Bool.not_false, ev_tst, ev_bs_ok, if_true, ev_ret, ev_ct, ev_sq_rt]
        · rw [ep, eq] at e
          injection e with e
          rw [rP_inj e] at hp
          exact absurd (se.mpr (rP_inj e ▸ P.all)) (rP_inj e ▸ hp)
end P03
namespace P03
open PySem PySem.Spec PyProof.Rows L2 Dt
open A (Beside Kept Ed eD Net netD nb Grow raw_of nb_le adj_nb adj nk refs Rc)
open B (Prt prT prsT Rch sub Nbs In in_tup Fo oN Fd Imp waysOf mem_ways uq)
variable {K : PySem.W.Frag} {h : DH}
theorem g_lsteps : G_law_steps K = B.G_law_steps K := rfl
/-- data that lies flat -/
structure Fl (p : PyData) : Prop where
  cl : p.canLay0 = true
  dep : PyData.depth p ≤ 20
theorem Fl.to {p : PyData} (f : Fl p) : toP h 60 (ofP p) = some p := toP_of p 60 f.cl (by have := f.dep; omega)
theorem Fl.shp {p : PyData} (f : Fl p) : SeqAt.shaped p = true := by
  have := f.dep
  simp [SeqAt.shaped, f.cl]
  omega
theorem Fl.items {ys : List PyData} (f : Fl (.tuple ys)) : ∀ y ∈ ys, Fl y := by
  have c : PyData.canLayAll0 ys = true := by simpa only [PyData.canLay0] using f.cl
  have d : PyData.depthAll ys ≤ 19 := by have := f.dep; simp only [PyData.depth] at this; omega
  have key : ∀ l : List PyData, PyData.canLayAll0 l = true → PyData.depthAll l ≤ 19 → ∀ y ∈ l, Fl y := fun l => by
    induction l with
    | nil => intro _ _ y hy; cases hy
    | cons x l ih =>
      intro c d y hy
      have c' : x.canLay0 = true ∧ PyData.canLayAll0 l = true := by simpa only [PyData.canLayAll0, Bool.and_eq_true] using c
      have d' : PyData.depth x ≤ 19 ∧ PyData.depthAll l ≤ 19 := by simp only [PyData.depthAll] at d; omega
      rcases List.mem_cons.mp hy with rfl | hy
      · exact ⟨c'.1, by omega⟩
      · exact ih c'.2 d'.2 y hy
  exact key ys c d
theorem fl_list {zs : List PyData} (g : ∀ z ∈ zs, Fl z) : (PyData.list zs).canLay0 = true ∧ PyData.depth (.list zs) ≤ 21 := by
  have key : ∀ l : List PyData, (∀ z ∈ l, Fl z) → PyData.canLayAll0 l = true ∧ PyData.depthAll l ≤ 20 := fun l => by
    induction l with
    | nil => intro _; simp [PyData.canLayAll0, PyData.depthAll]
    | cons x l ih =>
      intro g
      obtain ⟨a, b⟩ := ih fun y hy => g y (List.mem_cons_of_mem _ hy)
      have c := g x List.mem_cons_self
      have d := c.dep
      simp only [PyData.canLayAll0, PyData.depthAll, a, c.cl]
      refine ⟨rfl, ?_⟩
      omega
  obtain ⟨a, b⟩ := key zs g
  refine ⟨by simpa only [PyData.canLay0] using a, ?_⟩
  simp only [PyData.depth]
  omega
theorem ne_any {zs : List PyData} (g : ∀ z ∈ zs, Fl z) : neD (.lst (zs.map ofP)) (.lst []) h = .ok (.bl (!zs.isEmpty)) h := by
  obtain ⟨c, d⟩ := fl_list g
  have e1 : toP h 60 (.lst (zs.map ofP)) = some (.list zs) := by
    have := toP_of (h := h) (.list zs) 60 c (by omega)
    rw [ofP, ofPs_map] at this
    exact this
  have e2 : toP h 60 (.lst []) = some (.list []) := rfl
  have s1 : SeqAt.shaped (.list zs) = true := by simp [SeqAt.shaped, c]; omega
  have q : eqB (.lst (zs.map ofP)) (.lst []) h = some (PyData.eqv (.list zs) (.list [])) := by
    unfold eqB
    rw [e1, e2]
    simp only [s1, show SeqAt.shaped (.list []) = true from shp_lstI (ns := []), and_self, if_true]
  unfold neD
  rw [q]
  cases zs <;> simp [PyData.eqv, PyData.eqvAll]
theorem eq_empty {ys : List PyData} (f : Fl (.tuple ys)) : eqD (ofP (.tuple ys)) (.tup []) h = .ok (.bl ys.isEmpty) h := by
  have e1 := f.to (h := h)
  have e2 : toP h 60 (.tup []) = some (.tuple []) := rfl
  have q : eqB (ofP (.tuple ys)) (.tup []) h = some (PyData.eqv (.tuple ys) (.tuple [])) := by
    unfold eqB
    rw [e1, e2]
    simp only [f.shp, show SeqAt.shaped (.tuple []) = true from shp_row (ns := []), and_self, if_true]
  unfold eqD
  rw [q]
  cases ys <;> simp [PyData.eqv, PyData.eqvAll]
theorem uq_asc {n : Nat} {q : List Nat} : (uq n q).Pairwise (· < ·) := List.Pairwise.filter _ List.pairwise_lt_range
theorem uq_iff {n : Nat} {q : List Nat} (lt : ∀ x ∈ q, x < n) : q = uq n q ↔ q.Pairwise (· < ·) := by
  constructor
  · intro e
    rw [e]
    exact uq_asc
  · intro pw
    refine List.Perm.eq_of_pairwise (le := (· < ·)) (fun a b _ _ h1 h2 => by omega) pw uq_asc ((List.perm_ext_iff_of_nodup (pw.imp fun h => Nat.ne_of_lt h) (uq_asc.imp fun h => Nat.ne_of_lt h)).mpr fun x => ?_)
    unfold uq
    rw [List.mem_filter, List.mem_range, decide_eq_true_eq]
    exact ⟨fun hx => ⟨lt x hx, hx⟩, fun hx => hx.2⟩
/-- the law's steps over a part tell which of its hands are reached -/
theorem steps_q {n : Nat} {E : List Ed} {q : List Nat} (N : Net n E) (hE : E.length ≤ 300) (ne : q ≠ []) (lt : ∀ x ∈ q, x < n) (hl : q.length ≤ 16) :
    ∃ (φ : Fd) (F : Nat) (h' : DH), B.G_law_steps K [netD n E, iD (q.headD 0), prT q] h = .ok (.ref F) h' ∧ h'[F]? = some (Fo n φ) ∧ Kept h h' ∧ ((∀ x ∈ q, φ x ≠ none) ↔ con E q) := by
  have hd := B.head_mem ne
  obtain ⟨φ, F, h', e, ef, lF, kp, G, Qφ, fx⟩ := B.steps_okW (K := K) (h := h) (wd := prT q) in_tup N hE (lt _ hd) hl (fun φ => ∀ x v, φ x = some v → Rc (sub E q) (q.headD 0) x ∧ x ∈ q) (fun x v hv => by
      dsimp only at hv
      split at hv
      · rename_i hx
        subst hx
        exact ⟨.refl _, hd⟩
      · cases hv) (fun φ e v he hq hv hm x w hw => by
      dsimp only at hw
      split at hw
      · rename_i hx
        subst hx
        obtain ⟨r, m⟩ := hq _ _ hv
        have a : e.2 ∈ adj E e.1 := mem_ways.mp he
        exact ⟨B.rc_adj r (B.adj_sub.mpr ⟨a, m, hm⟩), hm⟩
      · exact hq x w hw)
  refine ⟨φ, F, h', e, ef, kp, ⟨fun g x hx => ?_, fun c x hx => ?_⟩⟩
  · cases hv : φ x with
    | none => exact absurd hv (g x hx)
    | some v => exact (Qφ x v hv).1
  · have key : ∀ {y : Nat}, Rc (sub E q) (q.headD 0) y → φ y ≠ none := fun {y} r => by
      have stp : ∀ {u v : Nat}, φ u ≠ none → v ∈ adj (sub E q) u → φ v ≠ none := fun {u v} hu ha hn => by
        obtain ⟨a, b, c⟩ := B.adj_sub.mp ha
        cases hv : φ u with
        | none => exact hu hv
        | some z => exact fx (u, v) (mem_ways.mpr a) ⟨z, hv, c, .inl hn⟩
      have gen : ∀ {a b : Nat}, Rc (sub E q) a b → φ a ≠ none → φ b ≠ none := fun {a b} r => by
        induction r with
        | refl => exact id
        | fwd _ hm ih => exact fun ha => stp (ih ha) (A.mem_adj.mpr (by first | exact .inl hm | exact .inr hm))
        | bwd _ hm ih => exact fun ha => stp (ih ha) (A.mem_adj.mpr (by first | exact .inr hm | exact .inl hm))
      exact gen r (by rw [G.z]; exact fun z => by cases z)
    exact key (c x hx)
theorem lpart_q {n : Nat} {E : List Ed} {p : PyData} (N : Net n E) (hE : E.length ≤ 300) (hs : Sh1 p) (f : Fl p) (hl16 : ∀ q, asQ n p = some q → q.Pairwise (· < ·) → q.length ≤ 16) : ∃ (b : Bool) (h' : DH), G_law_is_part K [netD n E, ofP p] h = .ok (.bl b) h' ∧ (b = true ↔ IsP n E p) ∧ Kept h h' := by
  have n16 := N.le
  have ty := isT_of (h := h) (p := p)
  have st : startD N_law_is_part [netD n E, ofP p] = [some (netD n E), some (ofP p), none, none] := rfl
  have i0 : ∀ g, ixD (netD n E) (.int 0) g = .ok (.int n) g := fun _ => ev_ixT (i := 0) rfl
  have mkt : mkT [] h = .ok (.tup []) h := ev_mkT (by simp)
  have mkl : ∀ g, mkL false [] g = .ok (.lst []) g := fun _ => ev_mkF (by simp)
  cases ht : tupQ p with
  | none =>
    rw [ht] at ty
    have ty : isiD [ofP p, .con (.ty "tuple")] h = .ok (.bl false) h := ty
    refine ⟨false, h, raw_of ?_, ⟨(fun z => by cases z), fun ⟨q, hq, _⟩ => ?_⟩, Nat.le_refl _, fun _ _ => rfl⟩
    · rw [st]
      unfold b_law_is_part
      simp -implicitDefEqProofs only [ev_seq, ev_ife, ev_tor, ev_tnot, ev_tv, ev_oA, ev_ac, ev_vrS, ev_vr0, ev_ct, ev_an, bd_ok, ty, ev_tst, Bool.not_false, if_true, ev_bs_ok, ev_ret, ev_sq_rt]
    · unfold asQ at hq
      rw [ht] at hq
      cases hq
  | some ys =>
    have yl := hs ys ht
    have ep := tup_of ht
    have fy : ∀ y ∈ ys, Fl y := Fl.items (ep ▸ f)
    rw [ht] at ty
    have ty : isiD [ofP p, .con (.ty "tuple")] h = .ok (.bl true) h := ty
    have eo : ofP p = .tup (ys.map ofP) := by rw [ep, ofP, ofPs_map]
    have e0 : eqD (ofP p) (.tup []) h = .ok (.bl ys.isEmpty) h := by rw [ep]; exact eq_empty (ep ▸ f)
    by_cases hy : ys = []
    · have z1 : ys.isEmpty = true := by rw [hy]; rfl
      rw [z1] at e0
      refine ⟨false, h, raw_of ?_, ⟨(fun z => by cases z), fun ⟨q, hq, _⟩ => ?_⟩, Nat.le_refl _, fun _ _ => rfl⟩
      · rw [st]
        unfold b_law_is_part
        simp -implicitDefEqProofs only [ev_seq, ev_ife, ev_tor, ev_tnot, ev_tv, ev_oA, ev_ac, ev_vrS, ev_vr0, ev_ct, ev_an, bd_ok, ty, ev_tst, Bool.not_true, Bool.false_eq_true, if_false, ev_o2, mkt, e0, if_true, ev_bs_ok, ev_ret, ev_sq_rt]
      · unfold asQ at hq
        rw [ht] at hq
        simp [hy] at hq
    · have z1 : ys.isEmpty = false := by cases ys with | nil => exact absurd rfl hy | cons _ _ => rfl
      rw [z1] at e0
      have lc1 := ev_lcp (h := h) (t := .nm 2) (vs := [2]) (fe := vr 2) (tt := tnot (tv (cll 1 (G_law_is_whole K) (ac (vr 2) an)))) (fi := isq (vr 1)) (env := [some (netD n E), some (ofP p), none, none]) ofP ofP (fun y => !(whQ y).isSome) ys (it := ⟨[], ys.map ofP⟩)
        (by rw [ev_isq]; simp only [ev_vrS, ev_vr0, bd_ok]; rw [eo]; rfl) so_nil rfl (fun y hy => ⟨_, rfl, by
          have w := whole_q (K := K) (h := h) (p := y)
          simp -implicitDefEqProofs only [wipD, List.foldl, List.set_cons_succ, List.set_cons_zero, ev_tnot, ev_tv, ev_cll, ev_ac, ev_vrS, ev_vr0, ev_an, bd_ok, List.length_cons, List.length_nil, if_true, g_lwhole, w, ev_tst], fun _ => rfl⟩) (by omega)
      have n1 := ne_any (h := h) (zs := ys.filter fun y => !(whQ y).isSome) fun z hz => fy z (List.mem_filter.mp hz).1
      by_cases h1 : (ys.filter fun y => !(whQ y).isSome) = []
      · rw [h1] at n1
        have n1 : neD (.lst (([] : List PyData).map ofP)) (.lst []) h = .ok (.bl false) h := n1
        have wi : ∀ y ∈ ys, ∃ z : Int, y = .int z := fun y hy => by
          have := List.filter_eq_nil_iff.mp h1 y hy
          cases y with
          | int z => exact ⟨z, rfl⟩
          | _ => simp [whQ] at this
        rw [h1] at lc1
        have lc2 := ev_lcp (h := h) (t := .nm 2) (vs := [2]) (fe := vr 2) (tt := tnot (tv (och leD ltD (ct (.int 0)) (vr 2) (o2 ixD (vr 0) (ct (.int 0)))))) (fi := isq (vr 1)) (env := [some (netD n E), some (ofP p), none, none]) ofP ofP (fun y => !hndQ n y) ys (it := ⟨[], ys.map ofP⟩)
          (by rw [ev_isq]; simp only [ev_vrS, ev_vr0, bd_ok]; rw [eo]; rfl) so_nil rfl (fun y hy => ⟨_, rfl, by
            obtain ⟨z, rfl⟩ := wi y hy
            have hq : hndQ n (.int z) = decide (0 ≤ z ∧ z < (n : Int)) := rfl
            simp -implicitDefEqProofs only [wipD, List.foldl, List.set_cons_succ, List.set_cons_zero, ofP, ev_tnot, ev_tv, ev_och, ev_o2, ev_ct, ev_vrS, ev_vr0, bd_ok, i0, ev_le, ev_lt, ev_tst, hq]
            by_cases c0 : (0 : Int) ≤ z
            · simp -implicitDefEqProofs only [decide_eq_true c0, if_true, bd_ok, ev_tst]
              have : decide (z < (n : Int)) = decide (0 ≤ z ∧ z < (n : Int)) := decide_eq_decide.mpr ⟨fun a => ⟨c0, a⟩, fun a => a.2⟩
              rw [this]
            · have : ¬ (0 ≤ z ∧ z < (n : Int)) := fun a => c0 a.1
              simp -implicitDefEqProofs only [decide_eq_false c0, decide_eq_false this, Bool.false_eq_true, if_false, bd_ok, ev_tst], fun _ => rfl⟩) (by omega)
        have n2 := ne_any (h := h) (zs := ys.filter fun y => !hndQ n y) fun z hz => fy z (List.mem_filter.mp hz).1
        by_cases h2 : (ys.filter fun y => !hndQ n y) = []
        · rw [h2] at n2 lc2
          have n2 : neD (.lst (([] : List PyData).map ofP)) (.lst []) h = .ok (.bl false) h := n2
          have ha : ys.all (hndQ n) = true := List.all_eq_true.mpr fun y hy => by
            have := List.filter_eq_nil_iff.mp h2 y hy
            simpa using this
          have aq : ∃ q, asQ n p = some q := by
            unfold asQ
            rw [ht]
            exact ⟨_, if_pos ⟨hy, ha⟩⟩
          obtain ⟨q, hq⟩ := aq
          obtain ⟨eq, ne, lt⟩ := as_some hq
          have er : ofP p = prT q := by rw [eq]; exact ofP_row
          have ql : q.length = ys.length := by
            rw [eq] at ht
            cases ht
            rw [List.length_map]
          have uqq : ∀ r, asQ n p = some r → r = q := fun r hr => by rw [hq] at hr; exact (Option.some.inj hr).symm
          have ul : (uq n q).length ≤ n := by
            unfold uq
            refine Nat.le_trans (List.length_filter_le _ _) ?_
            rw [List.length_range]
            exact Nat.le_refl _
          have iq := B.uq_iset (n := n) (es := q) lt
          have em : q.map iD = (q.map fun x : Nat => (x : Int)).map D.int := by rw [List.map_map]; rfl
          have ls : listD false [prT q] h = .ok (.lst (q.map iD)) h := ev_mkF (by rw [List.length_map]; omega)
          have ss : sortsetT false (prT q) h = .ok (.lst ((uq n q).map iD)) h := by
            have := ev_sortsetT (own := false) (h := h) (ns := q.map fun x : Nat => (x : Int)) (by rw [List.length_map]; omega) (by rw [iq, List.length_map]; omega)
            rw [iq, ← em, List.map_map] at this
            rw [show prT q = .tup (q.map iD) from rfl, this]
            exact ev_mkF (by rw [List.length_map]; omega)
          have n3 := ne_nat (h := h) (a := q) (b := uq n q)
          have ui := uq_iff lt
          rw [er] at lc1 lc2 ty e0
          by_cases h3 : q = uq n q
          · rw [decide_eq_true h3] at n3
            have pw := ui.mp h3
            obtain ⟨φ, F, h', es, ef, kp, ic⟩ := steps_q (K := K) (h := h) N hE ne lt (hl16 q hq pw)
            have ip : ixD (prT q) (.int 0) h = .ok (iD (q.headD 0)) h := by
              cases q with
              | nil => exact absurd rfl ne
              | cons a q => exact ev_ixT (i := 0) rfl
            have lc3 := ev_lcp (h := h') (t := .nm 2) (vs := [2]) (fe := vr 2) (tt := tv (o2 isD (o2 ixD (vr 3) (vr 2)) (ct .non))) (fi := isq (vr 1)) (env := [some (netD n E), some (prT q), none, some (.ref F)]) iD iD (fun x => decide (φ x = none)) q (it := ⟨[], q.map iD⟩)
              (by rw [ev_isq]; simp only [ev_vrS, ev_vr0, bd_ok]; rfl) so_nil rfl (fun x hx => ⟨_, rfl, by
                have ix := B.fo_ix ef (lt x hx)
                have isn : isD (oN (φ x)) .non h' = .ok (.bl (decide (φ x = none))) h' := by cases φ x <;> rfl
                simp -implicitDefEqProofs only [wipD, List.foldl, List.set_cons_succ, List.set_cons_zero, ev_tv, ev_o2, ev_vrS, ev_vr0, ev_ct, bd_ok, ix, isn, ev_tst], fun _ => rfl⟩) (by omega)
            have e3 := eq_nat (h := h') (a := q.filter fun x => decide (φ x = none)) (b := [])
            refine ⟨decide ((q.filter fun x => decide (φ x = none)) = []), h', raw_of ?_, ⟨fun z => ⟨q, hq, pw, ic.mp fun x hx hn => ?_⟩, fun ⟨r, hr, _, cr⟩ => ?_⟩, kp⟩
            · rw [st, er]
              unfold b_law_is_part
              simp -implicitDefEqProofs only [ev_seq, ev_ife, ev_tor, ev_tnot, ev_tv, ev_oA, ev_ac, ev_vrS, ev_vr0, ev_ct, ev_an, bd_ok, ty, ev_tst, Bool.not_true, Bool.false_eq_true, if_false, ev_o2, mkt, e0]
              rw [lc1]
              simp -implicitDefEqProofs only [bd_ok, mkl, n1, ev_tst, ev_bs_ok, Bool.false_eq_true, if_false, ev_skp, ev_sq_nx, ev_seq, ev_ife, ev_tor, ev_tv, ev_o2, ev_oA, ev_an]
              rw [lc2]
              simp -implicitDefEqProofs only [bd_ok, mkl, n2, ev_tst, Bool.false_eq_true, if_false, ev_ac, ev_an, ev_vrS, ev_vr0, ls, ev_o1, ss, n3, Bool.not_true, ev_bs_ok, ev_skp, ev_sq_nx, ev_seq, ev_asg, ev_cll, ev_o2, ev_ct, ip, List.length_cons, List.length_nil, if_true, g_lsteps, es, List.set_cons_succ, List.set_cons_zero, ev_ret, ev_oA]
              rw [lc3]
              simp -implicitDefEqProofs only [bd_ok, mkl]
              rw [show D.lst [] = D.lst (([] : List Nat).map iD) from rfl, e3]
              rfl
            · have := List.filter_eq_nil_iff.mp (of_decide_eq_true z) x hx
              exact this (decide_eq_true hn)
            · rw [uqq r hr] at cr
              exact decide_eq_true (List.filter_eq_nil_iff.mpr fun x hx hn => ic.mpr cr x hx (of_decide_eq_true hn))
          · rw [decide_eq_false h3] at n3
            refine ⟨false, h, raw_of ?_, ⟨(fun z => by cases z), fun ⟨r, hr, pr, _⟩ => ?_⟩, Nat.le_refl _, fun _ _ => rfl⟩
            · rw [st, er]
              unfold b_law_is_part
              simp -implicitDefEqProofs only [ev_seq, ev_ife, ev_tor, ev_tnot, ev_tv, ev_oA, ev_ac, ev_vrS, ev_vr0, ev_ct, ev_an, bd_ok, ty, ev_tst, Bool.not_true, Bool.false_eq_true, if_false, ev_o2, mkt, e0]
              rw [lc1]
              simp -implicitDefEqProofs only [bd_ok, mkl, n1, ev_tst, ev_bs_ok, Bool.false_eq_true, if_false, ev_skp, ev_sq_nx, ev_seq, ev_ife, ev_tor, ev_tv, ev_o2, ev_oA, ev_an]
              rw [lc2]
              simp -implicitDefEqProofs only [bd_ok, mkl, n2, ev_tst, Bool.false_eq_true, if_false, ev_ac, ev_an, ev_vrS, ev_vr0, ls, ev_o1, ss, n3, Bool.not_false, if_true, ev_bs_ok, ev_ret, ev_ct, ev_sq_rt]
            · rw [uqq r hr] at pr
              exact absurd (ui.mpr pr) h3
        · have z2 : (ys.filter fun y => !hndQ n y).isEmpty = false := by
            cases hf : ys.filter fun y => !hndQ n y with
            | nil => exact absurd hf h2
            | cons _ _ => rfl
          rw [z2] at n2
          refine ⟨false, h, raw_of ?_, ⟨(fun z => by cases z), fun ⟨r, hr, _⟩ => ?_⟩, Nat.le_refl _, fun _ _ => rfl⟩
          · rw [st]
            unfold b_law_is_part
            simp -implicitDefEqProofs only [ev_seq, ev_ife, ev_tor, ev_tnot, ev_tv, ev_oA, ev_ac, ev_vrS, ev_vr0, ev_ct, ev_an, bd_ok, ty, ev_tst, Bool.not_true, Bool.false_eq_true, if_false, ev_o2, mkt, e0]
            rw [lc1]
            simp -implicitDefEqProofs only [bd_ok, mkl, n1, ev_tst, ev_bs_ok, Bool.false_eq_true, if_false, ev_skp, ev_sq_nx, ev_seq, ev_ife, ev_tor, ev_tv, ev_o2, ev_oA, ev_an]
            rw [lc2]
            simp -implicitDefEqProofs only [bd_ok, mkl, n2, ev_tst, Bool.not_false, if_true, ev_bs_ok, ev_ret, ev_ct, ev_sq_rt]
          · unfold asQ at hr
            rw [ht] at hr
            dsimp only at hr
            split at hr
            · rename_i c
              refine absurd (List.filter_eq_nil_iff.mpr fun y hy => ?_) h2
              have := List.all_eq_true.mp c.2 y hy
              simp [this]
            · cases hr
      · have z2 : (ys.filter fun y => !(whQ y).isSome).isEmpty = false := by
          cases hf : ys.filter fun y => !(whQ y).isSome with
          | nil => exact absurd hf h1
          | cons _ _ => rfl
        rw [z2] at n1
        refine ⟨false, h, raw_of ?_, ⟨(fun z => by cases z), fun ⟨r, hr, _⟩ => ?_⟩, Nat.le_refl _, fun _ _ => rfl⟩
        · rw [st]
          unfold b_law_is_part
          simp -implicitDefEqProofs only [ev_seq, ev_ife, ev_tor, ev_tnot, ev_tv, ev_oA, ev_ac, ev_vrS, ev_vr0, ev_ct, ev_an, bd_ok, ty, ev_tst, Bool.not_true, Bool.false_eq_true, if_false, ev_o2, mkt, e0]
          rw [lc1]
          simp -implicitDefEqProofs only [bd_ok, mkl, n1, ev_tst, Bool.not_false, if_true, ev_bs_ok, ev_ret, ev_ct, ev_sq_rt]
        · unfold asQ at hr
          rw [ht] at hr
          dsimp only at hr
          split at hr
          · rename_i c
            refine absurd (List.filter_eq_nil_iff.mpr fun y hy => ?_) h1
            obtain ⟨x, _, rfl⟩ := hnd_nat (List.all_eq_true.mp c.2 y hy)
            simp [whQ]
          · cases hr
end P03
namespace Dt
open PySem PySem.Spec PyProof.Rows L2
section
variable {h : DH} {it : ItD} {t : Tg} {tt : TF} {fe : EF} {fi : IF} {env : Env'} {vs : List Nat}
/-- a comprehension that keeps some of its items, the test changing the heap -/
theorem lcS_f (P : Nat → Bool → Prop) (I : Nat → DH → Prop) : ∀ (ds : List D) (k : Nat) (acc : List D) (h : DH), I k h →
    (∀ j h, I j h → srcOk it h) → (∀ j h d, I j h → ds[j - k]? = some d → k ≤ j → ∃ e1 b h2, tgF t d env = some e1 ∧ tt e1 h = .ok b h2 ∧ P j b ∧ I (j + 1) h2 ∧ fe e1 h2 = .ok d h2) → acc.length + ds.length ≤ 1000000 →
    ∃ bs h2, lcS it t tt fe env ds acc h = .ok (acc ++ ((ds.zip bs).filter (·.2)).map (·.1)) h2 ∧ bs.length = ds.length ∧ (∀ j b, bs[j]? = some b → P (k + j) b) ∧ I (k + ds.length) h2
  | [], k, acc, h, hI, so, _, _ => ⟨[], h, by simp [lcS, so k h hI], rfl, by simp, hI⟩
  | d :: ds, k, acc, h, hI, so, st, hl => by
    obtain ⟨e1, b, h2, a, tb, c, d', fb⟩ := st k h d hI (by simp) (Nat.le_refl _)
    have l1 : acc.length < 1000000 := by simp at hl; omega
    obtain ⟨bs, h3, e, l, p, i⟩ := lcS_f P I ds (k + 1) (if b = true then acc ++ [d] else acc) h2 d' so (fun j h z hj hz hk => st j h z hj (by
      have : j - k = (j - (k + 1)) + 1 := by omega
      rw [this, List.getElem?_cons_succ]; exact hz) (by omega)) (by split <;> (simp at hl ⊢; omega))
    refine ⟨b :: bs, h3, ?_, by simp [l], fun j z hz => ?_, by simpa [Nat.add_assoc, Nat.add_comm 1] using i⟩
    · unfold lcS
      cases b with
      | true =>
        rw [if_pos rfl] at e
        simp [so k h hI, a, tb, l1, fb, e]
      | false =>
        rw [if_neg Bool.false_ne_true] at e
        simp [so k h hI, a, tb, e]
    · cases j with
      | zero => simp at hz; subst hz; exact c
      | succ j =>
        have := p j z (by simpa using hz)
        rwa [show k + (j + 1) = k + 1 + j by omega]
theorem ev_lcf (P : Nat → Bool → Prop) (I : Nat → DH → Prop) {h1 : DH} (hi : fi env h = .ok it h1) (h0 : I 0 h1) (so : ∀ j h, I j h → srcOk it h)
    (st : ∀ j h d, I j h → it.items[j]? = some d → ∃ e1 b h2, tgF t d (wipD env vs) = some e1 ∧ tt e1 h = .ok b h2 ∧ P j b ∧ I (j + 1) h2 ∧ fe e1 h2 = .ok d h2) (hl : it.items.length ≤ 1000000) :
    ∃ bs h2, lcE fi t tt fe vs env h = .ok (.lst (((it.items.zip bs).filter (·.2)).map (·.1))) h2 ∧ bs.length = it.items.length ∧ (∀ j b, bs[j]? = some b → P j b) ∧ I it.items.length h2 := by
  obtain ⟨bs, h2, e, l, p, i⟩ := lcS_f (t := t) (tt := tt) (fe := fe) (env := wipD env vs) (it := it) P I it.items 0 [] h1 h0 so (fun j h d a b _ => st j h d a (by simpa using b)) (by simpa using hl)
  refine ⟨bs, h2, ?_, l, fun j y hy => by simpa using p j y hy, by simpa using i⟩
  unfold lcE
  rw [hi]
  simp only [bd_ok, e, List.nil_append]
end
end Dt
namespace P03
open PySem PySem.Spec PyProof.Rows L2 Dt
open A (Beside Kept Ed eD Net netD nb Grow raw_of nb_le adj_nb adj nk refs Rc)
open B (Prt prT prsT)
variable {K : PySem.W.Frag} {h : DH}
theorem zip_of {xs : List PyData} {bs : List Bool} : (((xs.map ofP).zip bs).filter (·.2)).map (·.1) = (((xs.zip bs).filter (·.2)).map (·.1)).map ofP := by
  induction xs generalizing bs with
  | nil => simp
  | cons x xs ih =>
    cases bs with
    | nil => simp
    | cons b bs =>
      rw [List.map_cons, List.zip_cons_cons, List.zip_cons_cons]
      cases b <;> simp [ih]
theorem part_len {n : Nat} {p : PyData} {q : List Nat} (N : n ≤ 16) (e : asQ n p = some q) (pw : q.Pairwise (· < ·)) : q.length ≤ 16 := by
  have := A.nodup_len (pw.imp fun h => Nat.ne_of_lt h) (as_some e).2.2
  omega
noncomputable def extB : SF := drp (mth lstK extendTD (vr 3) (ac (vr 2) an))
theorem lparting_q {n : Nat} {E : List Ed} {p : PyData} (N : Net n E) (hE : E.length ≤ 300) (hs : Sh2 p) (f : Fl p) : ∃ (b : Bool) (h' : DH), G_law_is_parting K [netD n E, ofP p] h = .ok (.bl b) h' ∧ (b = true ↔ IsPt n E p) ∧ Kept h h' := by
  have n16 := N.le
  have ty := isT_of (h := h) (p := p)
  have st : startD N_law_is_parting [netD n E, ofP p] = [some (netD n E), some (ofP p), none, none, none] := rfl
  have mkl : ∀ g, mkL false [] g = .ok (.lst []) g := fun _ => ev_mkF (by simp)
  cases ht : tupQ p with
  | none =>
    rw [ht] at ty
    have ty : isiD [ofP p, .con (.ty "tuple")] h = .ok (.bl false) h := ty
    refine ⟨false, h, raw_of ?_, ⟨(fun z => by cases z), fun ⟨qs, ep, _⟩ => by rw [ep] at ht; cases ht⟩, Nat.le_refl _, fun _ _ => rfl⟩
    rw [st]
    unfold b_law_is_parting
    simp -implicitDefEqProofs only [ev_seq, ev_ife, ev_tor, ev_tnot, ev_tv, ev_oA, ev_ac, ev_vrS, ev_vr0, ev_ct, ev_an, bd_ok, ty, ev_tst, Bool.not_false, if_true, ev_bs_ok, ev_ret, ev_sq_rt]
  | some xs =>
    obtain ⟨xl, xs1⟩ := hs xs ht
    have ep := tup_of ht
    have fx : ∀ x ∈ xs, Fl x := Fl.items (ep ▸ f)
    rw [ht] at ty
    have ty : isiD [ofP p, .con (.ty "tuple")] h = .ok (.bl true) h := ty
    have eo : ofP p = .tup (xs.map ofP) := by rw [ep, ofP, ofPs_map]
    obtain ⟨bs, h1, e1, l1, p1, k1⟩ := ev_lcf (h := h) (h1 := h) (t := .nm 2) (vs := [2]) (tt := tnot (tv (cll 2 (G_law_is_part K) (ac (vr 0) (ac (vr 2) an))))) (fe := vr 2) (fi := isq (vr 1)) (env := [some (netD n E), some (ofP p), none, none, none])
      (it := ⟨[], xs.map ofP⟩) (fun i b => ∃ x, xs[i]? = some x ∧ (b = false ↔ IsP n E x)) (fun _ g => Kept h g) (by rw [ev_isq]; simp only [ev_vrS, ev_vr0, bd_ok]; rw [eo]; rfl) Kept.refl (fun _ _ _ => so_nil) (fun j g d hg hd => by
        dsimp only at hd
        rw [List.getElem?_map] at hd
        obtain ⟨x, hx, rfl⟩ := Option.map_eq_some_iff.mp hd
        have xm := List.mem_of_getElem? hx
        obtain ⟨b, g', t, ib, k⟩ := lpart_q (K := K) (h := g) N hE (xs1 x xm) (fx x xm) fun q hq pw => part_len n16 hq pw
        refine ⟨_, !b, g', rfl, ?_, ⟨x, hx, ?_⟩, hg.trans k, rfl⟩
        · simp -implicitDefEqProofs only [wipD, List.foldl, List.set_cons_succ, List.set_cons_zero, ev_tnot, ev_tv, ev_cll, ev_ac, ev_vrS, ev_vr0, ev_an, bd_ok, List.length_cons, List.length_nil, if_true, t, ev_tst]
        · rw [← ib]
          cases b <;> simp) (by simp; omega)
    rw [show (⟨[], xs.map ofP⟩ : ItD).items = xs.map ofP from rfl, zip_of] at e1
    have l1 : bs.length = xs.length := by simpa using l1
    obtain ⟨zs, ez⟩ : ∃ zs, zs = ((xs.zip bs).filter (·.2)).map (·.1) := ⟨_, rfl⟩
    rw [← ez] at e1
    have zf : ∀ z ∈ zs, Fl z := fun z hz => by
      rw [ez] at hz
      obtain ⟨y, hy, rfl⟩ := List.mem_map.mp hz
      exact fx _ (List.of_mem_zip (List.mem_filter.mp hy).1).1
    have n1 := ne_any (h := h1) zf
    have al : zs = [] ↔ ∀ x ∈ xs, IsP n E x := by
      constructor
      · intro e x hx
        obtain ⟨i, hi⟩ := List.getElem?_of_mem hx
        have il := (List.getElem?_eq_some_iff.mp hi).1
        obtain ⟨b, hb⟩ : ∃ b, bs[i]? = some b := ⟨_, List.getElem?_eq_getElem (by omega)⟩
        obtain ⟨x', hx', ib⟩ := p1 i b hb
        rw [hi] at hx'; cases hx'
        refine ib.mp ?_
        cases b with
        | false => rfl
        | true =>
          have : x ∈ zs := by
            rw [ez]
            refine List.mem_map.mpr ⟨(x, true), List.mem_filter.mpr ⟨?_, rfl⟩, rfl⟩
            refine List.mem_of_getElem? (i := i) ?_
            rw [List.getElem?_zip_eq_some]
            exact ⟨hi, hb⟩
          rw [e] at this
          cases this
      · intro g
        cases hz : zs with
        | nil => rfl
        | cons z r =>
          have zm : z ∈ zs := by rw [hz]; exact List.mem_cons_self
          rw [ez] at zm
          obtain ⟨⟨x, b⟩, hy, rfl⟩ := List.mem_map.mp zm
          obtain ⟨hm, hb⟩ := List.mem_filter.mp hy
          obtain ⟨i, hi⟩ := List.getElem?_of_mem hm
          obtain ⟨h1', h2'⟩ := List.getElem?_zip_eq_some.mp hi
          obtain ⟨x', hx', ib⟩ := p1 i b h2'
          rw [h1'] at hx'; cases hx'
          have := ib.mpr (g x (List.mem_of_getElem? h1'))
          rw [this] at hb
          cases hb
    by_cases hz : zs = []
    · obtain ⟨qs, eq, gq⟩ := all_isp (al.mp hz)
      rw [hz] at n1 e1
      have n1 : neD (.lst (([] : List PyData).map ofP)) (.lst []) h1 = .ok (.bl false) h1 := n1
      have er : ofP p = prsT qs := by rw [eo, eq, of_rows]
      have qx : qs.length = xs.length := by rw [eq, List.length_map]
      have ql : ∀ q ∈ qs, q.length ≤ 16 := fun q hq => by
        have := A.nodup_len ((gq q hq).2.1.imp fun h => Nat.ne_of_lt h) fun x hx => (gq q hq).2.2.2 x hx
        omega
      have fl0 : ∀ l : List (List Nat), (∀ q ∈ l, q.length ≤ 16) → l.flatten.length ≤ l.length * 16 := fun l => by
        induction l with
        | nil => simp
        | cons q l ih =>
          intro g
          have a := g q List.mem_cons_self
          have b := ih fun r hr => g r (List.mem_cons_of_mem _ hr)
          simp only [List.flatten_cons, List.length_append, List.length_cons]
          omega
      have flen := fl0 qs ql
      obtain ⟨F, eF⟩ : ∃ F, F = h1.length := ⟨_, rfl⟩
      obtain ⟨h2, eh2⟩ : ∃ h2, h2 = h1 ++ [Dt.O.lst []] := ⟨_, rfl⟩
      have m2 : mkL true [] h1 = .ok (.ref F) h2 := by rw [eF, eh2]; exact ev_mkO (by simp)
      have f2 : h2[F]? = some (.lst []) := by rw [eF, eh2]; exact get_new
      have k2 : Kept h1 h2 := by rw [eh2]; exact Kept.app
      have l2 : h2.length = h1.length + 1 := by rw [eh2]; simp
      rw [er] at e1 ty
      obtain ⟨e3, h3, lp, ⟨y2, rfl⟩, f3, l3, k3⟩ := for_g (t := .nm 2) (fi := isq (vr 1)) (h := h2) (h1 := h2) (it := ⟨[], qs.map prT⟩) (body := extB)
        (env := [some (netD n E), some (prsT qs), none, some (.ref F), none])
        (fun j e g => (∃ y2, e = [some (netD n E), some (prsT qs), y2, some (.ref F), none]) ∧ g[F]? = some (.lst (((qs.take j).flatten).map iD)) ∧ g.length = h2.length ∧ ∀ k, k ≠ F → g[k]? = h2[k]?)
        (by rw [ev_isq]; simp only [ev_vrS, ev_vr0, bd_ok]; rfl) ⟨⟨_, rfl⟩, f2, rfl, fun _ _ => rfl⟩ (fun _ _ _ _ => so_nil) (fun j e g d hI hd => by
          obtain ⟨⟨y2, rfl⟩, fg, lg, kg⟩ := hI
          dsimp only at hd
          rw [List.getElem?_map] at hd
          obtain ⟨q, hq, rfl⟩ := Option.map_eq_some_iff.mp hd
          have tk : qs.take (j + 1) = qs.take j ++ [q] := by rw [List.take_add_one, hq]; rfl
          have a := fl0 (qs.take j) fun r hr => ql r (List.mem_of_mem_take hr)
          have b := List.length_take_le' j qs
          have c := ql q (List.mem_of_getElem? hq)
          have ex := ev_extT (es := q.map iD) fg (by rw [List.length_map, List.length_map]; omega)
          have ls := ev_lstK fg
          refine ⟨_, _, g.set F (.lst (((qs.take j).flatten).map iD ++ q.map iD)), rfl, .inl ?_, ⟨some (prT q), rfl⟩, ?_, by rw [List.length_set, lg], fun k hk => by rw [List.getElem?_set_ne (Ne.symm hk)]; exact kg k hk⟩
          · unfold extB
            have ex' : extendTD (.ref F) [prT q] g = .ok .non (g.set F (.lst (((qs.take j).flatten).map iD ++ q.map iD))) := ex
            simp -implicitDefEqProofs only [List.set_cons_succ, List.set_cons_zero, ev_drp, ev_mth, ev_vrS, ev_vr0, bd_ok, ls, if_true, ev_ac, ev_an, ex', ev_bs_ok]
          · rw [get_set (lt_of fg), tk]
            simp)
      rw [show (⟨[], qs.map prT⟩ : ItD).items.length = qs.length from List.length_map .., List.take_length] at f3
      have i0 : ∀ g, ixD (netD n E) (.int 0) g = .ok (.int n) g := fun _ => ev_ixT (i := 0) rfl
      have lc3 := ev_lcg (h := h3) (t := .nm 2) (vs := [2]) (fe := o2 ixD (vr 2) (ct (.int 0))) (fi := isq (vr 1)) (env := [some (netD n E), some (prsT qs), y2, some (.ref F), none]) prT (fun q => iD (q.headD 0)) qs (it := ⟨[], qs.map prT⟩) (by rw [ev_isq]; simp only [ev_vrS, ev_vr0, bd_ok]; rfl) so_nil rfl (fun q hq => ⟨_, rfl, by
        simp only [wipD, List.foldl, List.set_cons_succ, List.set_cons_zero, ev_o2, ev_vrS, ev_vr0, ev_ct, bd_ok]
        cases q with
        | nil => exact absurd rfl (gq _ hq).1
        | cons a q => exact ev_ixT (i := 0) rfl⟩) (by omega)
      obtain ⟨hds, ehd⟩ : ∃ hds, hds = qs.map fun q => q.headD 0 := ⟨_, rfl⟩
      have lc3 : lcE (isq (vr 1)) (.nm 2) tyes (o2 ixD (vr 2) (ct (.int 0))) [2] [some (netD n E), some (prsT qs), y2, some (.ref F), none] h3 = .ok (.lst (hds.map iD)) h3 := by
        rw [lc3, ehd, List.map_map]
        rfl
      have hl : hds.length = qs.length := by rw [ehd, List.length_map]
      have sq3 : sq h3 (.ref F) = some (qs.flatten.map iD) := by
        unfold sq lsq
        simp only [f3]
      have so1 : sortD false [.ref F] h3 = .ok (.lst ((sor qs.flatten).map iD)) h3 := sort_ints sq3 sor_perm sor_le (by omega)
      have so2 : sortD false [.lst (hds.map iD)] h3 = .ok (.lst ((sor hds).map iD)) h3 := sort_ints rfl sor_perm sor_le (by omega)
      have q1 := eq_nat (h := h3) (a := sor qs.flatten) (b := List.range n)
      have q2 := eq_nat (h := h3) (a := hds) (b := sor hds)
      have se := sor_eq (l := qs.flatten) (m := List.range n) (List.pairwise_lt_range.imp Nat.le_of_lt)
      have kk : Kept h h3 := k1.trans ⟨by omega, fun k hk => (k3 k (by omega)).trans (k2.2 k hk)⟩
      have rg : ∀ e5 : Env', lrg false (o2 ixD (vr 0) (ct (.int 0))) (some (netD n E) :: e5) h3 = .ok (.lst ((List.range n).map iD)) h3 := fun e5 => B.lrg_ok (h := h3) (fa := o2 ixD (vr 0) (ct (.int 0))) (n := n) (by omega) (by simp only [ev_o2, ev_vr0, ev_ct, bd_ok, i0])
      by_cases hp : sor qs.flatten = List.range n
      · rw [decide_eq_true hp] at q1
        have pm := se.mp hp
        have fnd : qs.flatten.Nodup := (pm.nodup_iff).mpr List.nodup_range
        have hsub : ∀ l : List (List Nat), (∀ q ∈ l, q ≠ []) → (l.map fun q => q.headD 0).Sublist l.flatten := fun l => by
          induction l with
          | nil => intro _; simp
          | cons q l ih =>
            intro g
            have a := ih fun r hr => g r (List.mem_cons_of_mem _ hr)
            cases q with
            | nil => exact absurd rfl (g [] List.mem_cons_self)
            | cons x q =>
              simp only [List.map_cons, List.headD_cons, List.flatten_cons, List.cons_append]
              exact (a.trans (List.sublist_append_right _ _)).cons₂ x
        have hnd : hds.Nodup := by
          rw [ehd]
          exact (hsub qs fun q hq => (gq q hq).1).nodup fnd
        have hasc : hds = sor hds ↔ hds.Pairwise (· < ·) := by
          constructor
          · intro e
            have le : hds.Pairwise (· ≤ ·) := by rw [e]; exact sor_le
            exact (le.and hnd).imp fun {a b} hab => Nat.lt_of_le_of_ne hab.1 hab.2
          · intro pw
            exact ((sor_eq (pw.imp Nat.le_of_lt)).mpr (.refl _)).symm
        refine ⟨decide (hds = sor hds), h3, raw_of ?_, ⟨fun z => ⟨qs, by rw [ep, eq], fun q hq => (gq q hq).1, fun q hq => (gq q hq).2.1, pm, ehd ▸ hasc.mp (of_decide_eq_true z), fun q hq => (gq q hq).2.2.1⟩, fun ⟨rs, e, P⟩ => ?_⟩, kk⟩
        · rw [st, er]
          unfold b_law_is_parting
          unfold extB at lp
          simp -implicitDefEqProofs only [ev_seq, ev_ife, ev_tor, ev_tnot, ev_tv, ev_oA, ev_ac, ev_vrS, ev_vr0, ev_ct, ev_an, bd_ok, ty, ev_tst, Bool.not_true, Bool.false_eq_true, if_false, ev_o2]
          rw [e1]
          simp -implicitDefEqProofs only [bd_ok, mkl, n1, ev_tst, ev_bs_ok, Bool.false_eq_true, if_false, ev_skp, ev_sq_nx, ev_seq, ev_asg, ev_oA, ev_an, m2, List.set_cons_succ, List.set_cons_zero]
          rw [lp]
          simp -implicitDefEqProofs only [ev_sq_nx, ev_seq, ev_asg]
          rw [lc3]
          simp -implicitDefEqProofs only [ev_bs_ok, List.set_cons_succ, List.set_cons_zero, ev_sq_nx, ev_ret, ev_eand, ev_o2, ev_oA, ev_ac, ev_vrS, ev_vr0, ev_an, bd_ok, so1, rg, q1, ev_tst, if_true, so2, q2]
        · rw [ep, eq] at e
          injection e with e
          have er' := rP_inj e
          subst er'
          exact decide_eq_true (hasc.mpr (ehd ▸ P.hd))
      · rw [decide_eq_false hp] at q1
        refine ⟨false, h3, raw_of ?_, ⟨(fun z => by cases z), fun ⟨rs, e, P⟩ => ?_⟩, kk⟩
        · rw [st, er]
          unfold b_law_is_parting
          unfold extB at lp
          simp -implicitDefEqProofs only [ev_seq, ev_ife, ev_tor, ev_tnot, ev_tv, ev_oA, ev_ac, ev_vrS, ev_vr0, ev_ct, ev_an, bd_ok, ty, ev_tst, Bool.not_true, Bool.false_eq_true, if_false, ev_o2]
          rw [e1]
          simp -implicitDefEqProofs only [bd_ok, mkl, n1, ev_tst, ev_bs_ok, Bool.false_eq_true, if_false, ev_skp, ev_sq_nx, ev_seq, ev_asg, ev_oA, ev_an, m2, List.set_cons_succ, List.set_cons_zero]
          rw [lp]
          simp -implicitDefEqProofs only [ev_sq_nx, ev_seq, ev_asg]
          rw [lc3]
          simp -implicitDefEqProofs only [ev_bs_ok, List.set_cons_succ, List.set_cons_zero, ev_sq_nx, ev_ret, ev_eand, ev_o2, ev_oA, ev_ac, ev_vrS, ev_vr0, ev_an, bd_ok, so1, rg, q1, ev_tst, Bool.false_eq_true, if_false]
        · rw [ep, eq] at e
          injection e with e
          have er' := rP_inj e
          subst er'
          exact absurd (se.mpr P.all) hp
    · have z2 : zs.isEmpty = false := by cases zs with | nil => exact absurd rfl hz | cons _ _ => rfl
      rw [z2] at n1
      refine ⟨false, h1, raw_of ?_, ⟨(fun z => by cases z), fun ⟨qs, e, P⟩ => ?_⟩, k1⟩
      · rw [st]
        unfold b_law_is_parting
        simp -implicitDefEqProofs only [ev_seq, ev_ife, ev_tor, ev_tnot, ev_tv, ev_oA, ev_ac, ev_vrS, ev_vr0, ev_ct, ev_an, bd_ok, ty, ev_tst, Bool.not_true, Bool.false_eq_true, if_false, ev_o2]
        rw [e1]
        simp -implicitDefEqProofs only [bd_ok, mkl, n1, Bool.not_false, ev_tst, if_true, ev_bs_ok, ev_ret, ev_ct, ev_sq_rt]
      · rw [ep] at e
        injection e with e
        exact absurd (al.mpr fun x hx => by
          rw [e] at hx
          obtain ⟨q, hq, rfl⟩ := List.mem_map.mp hx
          exact isp_row (prt_parts P q hq)) hz
end P03
namespace P03
open PySem PySem.Spec PyProof.Rows L2 Dt
open A (Beside Kept Ed eD eP Net netD nb Grow raw_of nb_le adj_nb adj nk)
open B (Prt prT prsT Bg uq)
variable {K : PySem.W.Frag} {h : DH}
theorem g_take : G_law_take K = B.G_law_take K := rfl
structure Pl (p : PyData) (d c : Nat) : Prop where
  dep : PyData.depth p ≤ d
  sw : p.showable = true
  nd : p.hasDict = false
  sh : p.shown.length ≤ c
  cl : p.canLay0 = true
theorem Pl.le {p : PyData} {d c d' c' : Nat} (a : Pl p d c) (h1 : d ≤ d') (h2 : c ≤ c') : Pl p d' c' := ⟨Nat.le_trans a.dep h1, a.sw, a.nd, Nat.le_trans a.sh h2, a.cl⟩
theorem pl_all {d c : Nat} : ∀ {xs : List PyData}, (∀ p ∈ xs, Pl p d c) → PyData.depthAll xs ≤ d ∧ PyData.showableAll xs = true ∧ PyData.hasDictAll xs = false ∧ ((PyData.shownAll xs).map (·.length)).sum ≤ c * xs.length ∧ (PyData.shownAll xs).length = xs.length ∧ PyData.canLayAll0 xs = true
  | [], _ => by simp [PyData.depthAll, PyData.showableAll, PyData.hasDictAll, PyData.shownAll, PyData.canLayAll0]
  | x :: xs, g => by
    obtain ⟨a1, a2, a3, a4, a5, a6⟩ := pl_all (xs := xs) fun y hy => g y (List.mem_cons_of_mem _ hy)
    have b := g x List.mem_cons_self
    have b1 := b.dep
    have b4 := b.sh
    refine ⟨?_, ?_, ?_, ?_, ?_, ?_⟩
    · simp only [PyData.depthAll]; omega
    · simp only [PyData.showableAll, b.sw, a2, Bool.and_self]
    · simp only [PyData.hasDictAll, b.nd, a3, Bool.or_self]
    · simp only [PyData.shownAll, List.map_cons, List.sum_cons, List.length_cons, Nat.mul_add, Nat.mul_one]; omega
    · simp only [PyData.shownAll, List.length_cons, a5]
    · simp only [PyData.canLayAll0, b.cl, a6, Bool.and_self]
theorem pl_lst {xs : List PyData} {d c m : Nat} (g : ∀ p ∈ xs, Pl p d c) (hl : xs.length ≤ m) : Pl (.list xs) (d + 1) (c * m + 2 * m + 3) := by
  obtain ⟨a1, a2, a3, a4, a5, a6⟩ := pl_all g
  have s := A.sh_lst xs
  have : c * xs.length ≤ c * m := Nat.mul_le_mul_left c hl
  refine ⟨?_, ?_, ?_, by omega, by simpa [PyData.canLay0] using a6⟩
  · simp only [PyData.depth]; omega
  · simpa [PyData.showable] using a2
  · simpa [PyData.hasDict] using a3
theorem pl_tup {xs : List PyData} {d c m : Nat} (g : ∀ p ∈ xs, Pl p d c) (hl : xs.length ≤ m) : Pl (.tuple xs) (d + 1) (c * m + 2 * m + 3) := by
  obtain ⟨a1, a2, a3, a4, a5, a6⟩ := pl_all g
  have s := A.sh_tup xs
  have : c * xs.length ≤ c * m := Nat.mul_le_mul_left c hl
  refine ⟨?_, ?_, ?_, by omega, by simpa [PyData.canLay0] using a6⟩
  · simp only [PyData.depth]; omega
  · simpa [PyData.showable] using a2
  · simpa [PyData.hasDict] using a3
theorem sml : ∀ n : Nat, n < 20 → (PyData.shown (.int (n : Int))).length ≤ 2 ∧ PyData.showable (.int (n : Int)) = true := by decide +kernel
theorem pl_int {n : Nat} (hn : n < 20) : Pl (.int (n : Int)) 0 30 := ⟨by simp [PyData.depth], (sml n hn).2, by simp [PyData.hasDict], by have := (sml n hn).1; omega, by simp [PyData.canLay0]⟩
/-- a thing that is handed in -/
structure Th (p : PyData) : Prop where
  pl : Pl p 10 100000
  s2 : Sh2 p
theorem Th.fl {p : PyData} (t : Th p) : Fl p := ⟨t.pl.cl, by have := t.pl.dep; omega⟩
/-- a thing in a part's place -/
structure Pt (p : PyData) : Prop where
  pl : Pl p 5 2500
  s1 : Sh1 p
theorem pl_row {q : List Nat} (hl : q.length ≤ 40) (lt : ∀ x ∈ q, x < 20) : Pl (rP q) 1 1300 := by
  refine (pl_tup (d := 0) (c := 30) (m := 40) (fun p hp => ?_) (by rw [List.length_map]; omega)).le (by omega) (by omega)
  obtain ⟨y, hy, rfl⟩ := List.mem_map.mp hp
  exact pl_int (lt y hy)
theorem pt_row {q : List Nat} (hl : q.length ≤ 40) (lt : ∀ x ∈ q, x < 20) : Pt (rP q) := ⟨(pl_row hl lt).le (by omega) (by omega), fun ys e => by cases e; rw [List.length_map]; omega⟩
def odds (n : Nat) : List PyData := [.none, .bool true, .str "0", .int (-1), .int n, .int (10 ^ 19), .tuple [], .list [], .tuple [.tuple []], .tuple [.int 0], .list [.int 0], .tuple [.bool true], .tuple [.str "a"]]
theorem odd_pl {n : Nat} (hn : n < 20) : ∀ p ∈ odds n, Pl p 3 40 := fun p hp => by
  unfold odds at hp
  simp only [List.mem_cons, List.not_mem_nil, or_false] at hp
  rcases hp with rfl | rfl | rfl | rfl | rfl | rfl | rfl | rfl | rfl | rfl | rfl | rfl | rfl
  · exact ⟨by simp [PyData.depth], by simp [PyData.showable], by simp [PyData.hasDict], by decide +kernel, by simp [PyData.canLay0]⟩
  · exact ⟨by simp [PyData.depth], by simp [PyData.showable], by simp [PyData.hasDict], by decide +kernel, by simp [PyData.canLay0]⟩
  · exact ⟨by decide +kernel, by decide +kernel, by decide +kernel, by decide +kernel, by decide +kernel⟩
  · exact ⟨by decide +kernel, by decide +kernel, by decide +kernel, by decide +kernel, by decide +kernel⟩
  · exact (pl_int hn).le (by omega) (by omega)
  · exact ⟨by decide +kernel, by decide +kernel, by decide +kernel, by decide +kernel, by decide +kernel⟩
  · exact ⟨by decide +kernel, by decide +kernel, by decide +kernel, by decide +kernel, by decide +kernel⟩
  · exact ⟨by decide +kernel, by decide +kernel, by decide +kernel, by decide +kernel, by decide +kernel⟩
  · exact ⟨by decide +kernel, by decide +kernel, by decide +kernel, by decide +kernel, by decide +kernel⟩
  · exact ⟨by decide +kernel, by decide +kernel, by decide +kernel, by decide +kernel, by decide +kernel⟩
  · exact ⟨by decide +kernel, by decide +kernel, by decide +kernel, by decide +kernel, by decide +kernel⟩
  · exact ⟨by decide +kernel, by decide +kernel, by decide +kernel, by decide +kernel, by decide +kernel⟩
  · exact ⟨by decide +kernel, by decide +kernel, by decide +kernel, by decide +kernel, by decide +kernel⟩
theorem odd_s2 {n : Nat} : ∀ p ∈ odds n, Sh2 p ∧ Sh1 p := fun p hp => by
  unfold odds at hp
  simp only [List.mem_cons, List.not_mem_nil, or_false] at hp
  rcases hp with rfl | rfl | rfl | rfl | rfl | rfl | rfl | rfl | rfl | rfl | rfl | rfl | rfl
  all_goals
    refine ⟨fun xs e => ?_, fun xs e => ?_⟩
    all_goals
      first
        | (cases e; done)
        | (cases e
           refine ⟨by simp, fun x hx ys e => ?_⟩
           simp only [List.mem_cons, List.not_mem_nil, or_false] at hx
           first
             | (subst hx; cases e; done)
             | (subst hx; cases e; simp)
             | cases hx)
        | (cases e; simp)
theorem odd_th {n : Nat} (hn : n < 20) {p : PyData} (hp : p ∈ odds n) : Th p := ⟨(odd_pl hn p hp).le (by omega) (by omega), (odd_s2 p hp).1⟩
theorem odd_ok {b c n : Nat} {E : List Ed} (hb : Bg h b c) (hc : c < 600000) (hn : n ≤ 16) : ∃ (p : PyData) (h' : DH), G_law_odd K [.ref b, netD n E] h = .ok (ofP p) h' ∧ p ∈ odds n ∧ Bg h' b (c + 1) ∧ Grow b h h' := by
  obtain ⟨r, h1, e1, lr, b1, s1⟩ := B.take (K := K) (m := 13) hb (by omega) (by decide) (by decide)
  rw [← g_take] at e1
  have ol : (odds n).length = 13 := rfl
  have rl : r < (odds n).length := by omega
  obtain ⟨p, ep⟩ : ∃ p, (odds n)[r]? = some p := ⟨_, List.getElem?_eq_getElem rl⟩
  refine ⟨p, h1, raw_of ?_, List.mem_of_getElem? ep, b1, s1.grow⟩
  have i0 : ∀ g, ixD (netD n E) (.int 0) g = .ok (.int n) g := fun _ => ev_ixT (i := 0) rfl
  have ng : negD (.int 1) h = .ok (.int (-1)) h := rfl
  have pw : powD (.int 10) (.int 19) h = .ok (.int (10 ^ 19)) h := ev_pow ⟨B.big (by decide) (by decide), by decide, by decide⟩
  have mt : ∀ ds : List D, ds.length ≤ 1000 → mkT ds h = .ok (.tup ds) h := fun ds hl => ev_mkT (by omega)
  have ml : ∀ ds : List D, ds.length ≤ 1000 → mkL false ds h = .ok (.lst ds) h := fun ds hl => ev_mkF (by omega)
  have m0 := mt [] (by simp)
  have m1 := ml [] (by simp)
  have m2 := mt [.tup []] (by simp)
  have m3 := mt [.int 0] (by simp)
  have m4 := ml [.int 0] (by simp)
  have m5 := mt [.bl true] (by simp)
  have m6 := mt [.str "a"] (by simp)
  have m7 := ml [.non, .bl true, .str "0", .int (-1), .int n, .int (10 ^ 19), .tup [], .lst [], .tup [.tup []], .tup [.int 0], .lst [.int 0], .tup [.bl true], .tup [.str "a"]] (by simp)
  have ix : ixD (.lst [.non, .bl true, .str "0", .int (-1), .int n, .int (10 ^ 19), .tup [], .lst [], .tup [.tup []], .tup [.int 0], .lst [.int 0], .tup [.bl true], .tup [.str "a"]]) (.int (r : Int)) h1 = .ok (ofP p) h1 := by
    refine ev_ixL ?_
    have : [D.non, .bl true, .str "0", .int (-1), .int n, .int (10 ^ 19), .tup [], .lst [], .tup [.tup []], .tup [.int 0], .lst [.int 0], .tup [.bl true], .tup [.str "a"]] = (odds n).map ofP := rfl
    rw [this, List.getElem?_map, ep]
    rfl
  rw [show startD N_law_odd [.ref b, netD n E] = [some (.ref b), some (netD n E)] from rfl]
  unfold b_law_odd
  simp -implicitDefEqProofs only [ev_ret, ev_o2, ev_oA, ev_ac, ev_ct, ev_o1, ev_an, ev_vrS, ev_vr0, bd_ok, ng, i0, pw, m0, m1, m2, m3, m4, m5, m6, m7, ev_cll, List.length_cons, List.length_nil, if_true, e1, ix, ev_bs_ok]
theorem cut_at {α : Type} (ds : List α) (k : Nat) : Dt.cutD ds (some (k : Int)) none = ds.drop k := by
  unfold Dt.cutD
  rw [HT.sIx_nat, HT.sIx_none]
  by_cases hk : k ≤ ds.length
  · rw [Nat.min_eq_left hk]
    exact List.take_of_length_le (by rw [List.length_drop]; exact Nat.le_refl _)
  · rw [Nat.min_eq_right (by omega), List.drop_of_length_le (by omega), List.drop_of_length_le (by omega)]
    simp
theorem cut_to {α : Type} (ds : List α) (k : Nat) : Dt.cutD ds none (some (k : Int)) = ds.take k := by
  unfold Dt.cutD
  rw [HT.sIx_nat, HT.sIx_none]
  by_cases hk : k ≤ ds.length
  · rw [Nat.min_eq_left hk]
    simp
  · rw [Nat.min_eq_right (by omega)]
    simp [List.take_of_length_le (show ds.length ≤ k by omega)]
theorem sl_to {ds : List D} {k : Nat} : slD false (.tup ds) none (some (k : Int)) h = .ok (.tup (ds.take k)) h := by
  show Rs.ok (D.tup (Dt.cutD ds none (some (k : Int)))) h = _
  rw [cut_to]
theorem sl_at {ds : List D} {k : Nat} : slD false (.tup ds) (some (k : Int)) none h = .ok (.tup (ds.drop k)) h := by
  show Rs.ok (D.tup (Dt.cutD ds (some (k : Int)) none)) h = _
  rw [cut_at]
theorem sl_at1 {ds : List D} {k : Nat} : slD false (.tup ds) (some ((k : Int) + 1)) none h = .ok (.tup (ds.drop (k + 1))) h := by
  rw [show ((k : Int) + 1) = ((k + 1 : Nat) : Int) by omega, sl_at]
theorem add_tup {as bs : List D} (hl : as.length + bs.length ≤ 1000) : addD false (.tup as) (.tup bs) h = .ok (.tup (as ++ bs)) h := by
  show (if as.length + bs.length ≤ 1000000 then Rs.ok (D.tup (as ++ bs)) h else .bad) = _
  rw [if_pos (by omega)]
section
variable {x0 x1 x3 : Option D} {rest : Env'} {ds : List D} {k : Nat}
theorem cutL : esl false (vr 2) pn (ps (vr 4)) (x0 :: x1 :: some (.tup ds) :: x3 :: some (.int (k : Nat)) :: rest) h = .ok (.tup (ds.take k)) h := by
  simp -implicitDefEqProofs only [ev_esl, ev_pn, ev_ps, ev_vrS, ev_vr0, bd_ok, sl_to]
theorem cutR : esl false (vr 2) (ps (vr 4)) pn (x0 :: x1 :: some (.tup ds) :: x3 :: some (.int (k : Nat)) :: rest) h = .ok (.tup (ds.drop k)) h := by
  simp -implicitDefEqProofs only [ev_esl, ev_pn, ev_ps, ev_vrS, ev_vr0, bd_ok, sl_at]
theorem cutR1 : esl false (vr 2) (ps (o2 (addD false) (vr 4) (ct (.int 1)))) pn (x0 :: x1 :: some (.tup ds) :: x3 :: some (.int (k : Nat)) :: rest) h = .ok (.tup (ds.drop (k + 1))) h := by
  simp -implicitDefEqProofs only [ev_esl, ev_pn, ev_ps, ev_o2, ev_ct, ev_vrS, ev_vr0, bd_ok, ev_add, sl_at1]
end
theorem eqI {a : Nat} {z : Nat} : eqD (.int (a : Nat)) (.int (z : Nat)) h = .ok (.bl (decide (a = z))) h := by
  rw [ev_eqI]
  congr 2
  exact decide_eq_decide.mpr (by omega)
end P03
namespace P03
open PySem PySem.Spec PyProof.Rows L2 Dt
open A (Beside Kept Ed eD eP Net netD nb Grow raw_of nb_le adj_nb adj nk)
open B (Prt prT prsT Bg uq)
variable {K : PySem.W.Frag} {h : DH}
theorem ofP_tup {xs : List PyData} : ofP (.tuple xs) = .tup (xs.map ofP) := by rw [ofP, ofPs_map]
theorem ofP_lst {xs : List PyData} : ofP (.list xs) = .lst (xs.map ofP) := by rw [ofP, ofPs_map]
theorem mapI {q : List Nat} : (q.map iP).map ofP = q.map iD := by rw [List.map_map]; rfl
theorem bent_part {b c n : Nat} {E : List Ed} {q : List Nat} (hb : Bg h b c) (hc : c ≤ 500000) (hn : 1 ≤ n ∧ n ≤ 16) (ne : q ≠ []) (hl : q.length ≤ 16) (lt : ∀ x ∈ q, x < n) :
    ∃ (p : PyData) (h' : DH), G_law_part_bent K [.ref b, netD n E, prT q] h = .ok (ofP p) h' ∧ Pt p ∧ Bg h' b (c + 5) ∧ Grow b h h' := by
  have q0 := List.length_pos_iff.mpr ne
  have i0 : ∀ g, ixD (netD n E) (.int 0) g = .ok (.int n) g := fun _ => ev_ixT (i := 0) rfl
  obtain ⟨w, h1, e1, lw, b1, s1⟩ := B.take (K := K) (m := 6) hb (by omega) (by decide) (by decide)
  have l1 : lenD [prT q] h1 = .ok (.int (q.length : Nat)) h1 := by
    show Rs.ok (D.int ((q.map iD).length : Nat)) h1 = _
    rw [List.length_map]
  obtain ⟨a, h2, e2, la, b2, s2⟩ := B.take (K := K) (m := ((q.length : Nat) : Int)) b1 (by omega) (by omega) (by omega)
  have al : a < q.length := by omega
  rw [← g_take] at e1 e2
  have g12 := s1.grow.trans s2.grow
  have st : startD N_law_part_bent [.ref b, netD n E, prT q] = [some (.ref b), some (netD n E), some (prT q), none, none] := rfl
  have c0 : eqD (.int (w : Nat)) (.int 0) h2 = .ok (.bl (decide (w = 0))) h2 := eqI (z := 0)
  have c1 : eqD (.int (w : Nat)) (.int 1) h2 = .ok (.bl (decide (w = 1))) h2 := eqI (z := 1)
  have c2 : eqD (.int (w : Nat)) (.int 2) h2 = .ok (.bl (decide (w = 2))) h2 := eqI (z := 2)
  have c3 : eqD (.int (w : Nat)) (.int 3) h2 = .ok (.bl (decide (w = 3))) h2 := eqI (z := 3)
  have c4 : eqD (.int (w : Nat)) (.int 4) h2 = .ok (.bl (decide (w = 4))) h2 := eqI (z := 4)
  have L := fun g => cutL (h := g) (x0 := some (.ref b)) (x1 := some (netD n E)) (x3 := some (.int (w : Nat))) (rest := []) (ds := q.map iD) (k := a)
  have R := fun g => cutR1 (h := g) (x0 := some (.ref b)) (x1 := some (netD n E)) (x3 := some (.int (w : Nat))) (rest := []) (ds := q.map iD) (k := a)
  rw [show D.tup (q.map iD) = prT q from rfl] at L R
  have lt1 : ∀ x ∈ q.take a ++ q.drop (a + 1), x < n := fun x hx => (List.mem_append.mp hx).elim (fun z => lt x (List.mem_of_mem_take z)) fun z => lt x (List.mem_of_mem_drop z)
  have tl : (q.take a).length ≤ 16 := by rw [List.length_take]; omega
  have dl : (q.drop (a + 1)).length ≤ 16 := by rw [List.length_drop]; omega
  have hw : w = 0 ∨ w = 1 ∨ w = 2 ∨ w = 3 ∨ w = 4 ∨ w = 5 := by omega
  rcases hw with hw | hw | hw | hw | hw | hw
  · rw [decide_eq_true hw] at c0
    have rv : revTD (prT q) (.int (-1)) h2 = .ok (prT q.reverse) h2 := by
      show Rs.ok (D.tup (q.map iD).reverse) h2 = _
      rw [← List.map_reverse]
      rfl
    have ng : negD (.int 1) h2 = .ok (.int (-1)) h2 := rfl
    refine ⟨rP q.reverse, h2, raw_of ?_, pt_row (by rw [List.length_reverse]; omega) fun x hx => by have := lt x (List.mem_reverse.mp hx); omega, b2.le (by omega), g12⟩
    rw [st, show ofP (rP q.reverse) = prT q.reverse from ofP_row]
    unfold b_law_part_bent
    simp -implicitDefEqProofs only [ev_seq, ev_asg, ev_cll, ev_ac, ev_vrS, ev_vr0, ev_ct, ev_an, bd_ok, List.length_cons, List.length_nil, if_true, e1, ev_bs_ok, List.set_cons_succ, List.set_cons_zero, ev_sq_nx, ev_oA, l1, e2, ev_ife, ev_tv, ev_o2, c0, ev_tst, ev_ret, ev_o1, ng, rv, ev_sq_rt]
  · rw [decide_eq_false (by omega)] at c0
    rw [decide_eq_true hw] at c1
    have ad : addD false (.tup ((q.map iD).take a)) (.tup ((q.map iD).drop (a + 1))) h2 = .ok (prT (q.take a ++ q.drop (a + 1))) h2 := by
      rw [← List.map_take, ← List.map_drop, add_tup (by rw [List.length_map, List.length_map]; omega), ← List.map_append]
      rfl
    refine ⟨rP (q.take a ++ q.drop (a + 1)), h2, raw_of ?_, pt_row (by rw [List.length_append]; omega) fun x hx => by have := lt1 x hx; omega, b2.le (by omega), g12⟩
    rw [st, show ofP (rP (q.take a ++ q.drop (a + 1))) = prT (q.take a ++ q.drop (a + 1)) from ofP_row]
    unfold b_law_part_bent
    simp -implicitDefEqProofs only [ev_seq, ev_asg, ev_cll, ev_ac, ev_vrS, ev_vr0, ev_ct, ev_an, bd_ok, List.length_cons, List.length_nil, if_true, e1, ev_bs_ok, List.set_cons_succ, List.set_cons_zero, ev_sq_nx, ev_oA, l1, e2, ev_ife, ev_tv, ev_o2, c0, c1, ev_tst, Bool.false_eq_true, if_false, ev_skp, ev_ret, ev_sq_rt]
    rw [L]
    simp -implicitDefEqProofs only [bd_ok]
    rw [R]
    simp -implicitDefEqProofs only [bd_ok, ad, ev_bs_ok, ev_sq_rt]
  · rw [decide_eq_false (by omega)] at c0 c1
    rw [decide_eq_true hw] at c2
    obtain ⟨x, h3, e3, lx, b3, s3⟩ := B.take (K := K) (m := (n : Int)) b2 (by omega) (by omega) (by omega)
    rw [← g_take] at e3
    have mk : mkT [.int (x : Nat)] h3 = .ok (.tup [.int (x : Nat)]) h3 := ev_mkT (by simp)
    have ad : addD false (prT q) (.tup [.int (x : Nat)]) h3 = .ok (.tup (((q ++ [x]).map fun y : Nat => (y : Int)).map D.int)) h3 := by
      rw [show prT q = .tup (q.map iD) from rfl, add_tup (by rw [List.length_map]; simp; omega), List.map_map, List.map_append]
      rfl
    have lt2 : ∀ y ∈ q ++ [x], y < n := fun y hy => (List.mem_append.mp hy).elim (lt y) fun z => by rw [List.mem_singleton.mp z]; omega
    have iq := B.uq_iset (n := n) (es := q ++ [x]) lt2
    have ul : (uq n (q ++ [x])).length ≤ n := by
      unfold uq
      refine Nat.le_trans (List.length_filter_le _ _) ?_
      rw [List.length_range]
      exact Nat.le_refl _
    have ss0 := ev_sortsetT (own := false) (h := h3) (ns := (q ++ [x]).map fun y : Nat => (y : Int)) (by rw [List.length_map, List.length_append]; simp; omega) (by rw [iq, List.length_map]; omega)
    rw [iq] at ss0
    have ss : sortsetT false (.tup (((q ++ [x]).map fun y : Nat => (y : Int)).map D.int)) h3 = .ok (.lst ((uq n (q ++ [x])).map iD)) h3 := by
      rw [ss0, ev_mkF (by rw [List.length_map, List.length_map]; omega), List.map_map]
      rfl
    have tp : tupleD [.lst ((uq n (q ++ [x])).map iD)] h3 = .ok (prT (uq n (q ++ [x]))) h3 := ev_mkT (by rw [List.length_map]; omega)
    refine ⟨rP (uq n (q ++ [x])), h3, raw_of ?_, pt_row (by omega) fun y hy => by
      unfold uq at hy
      have := List.mem_range.mp (List.mem_filter.mp hy).1
      omega, b3.le (by omega), g12.trans s3.grow⟩
    rw [st, show ofP (rP (uq n (q ++ [x]))) = prT (uq n (q ++ [x])) from ofP_row]
    unfold b_law_part_bent
    simp -implicitDefEqProofs only [ev_seq, ev_asg, ev_cll, ev_ac, ev_vrS, ev_vr0, ev_ct, ev_an, bd_ok, List.length_cons, List.length_nil, if_true, e1, ev_bs_ok, List.set_cons_succ, List.set_cons_zero, ev_sq_nx, ev_oA, l1, e2, ev_ife, ev_tv, ev_o2, c0, c1, c2, ev_tst, Bool.false_eq_true, if_false, ev_skp, ev_ret, ev_sq_rt, ev_o1, i0, e3, mk, ad, ss, tp]
  · rw [decide_eq_false (by omega)] at c0 c1 c2
    rw [decide_eq_true hw] at c3
    have ls : listD false [prT q] h2 = .ok (.lst (q.map iD)) h2 := ev_mkF (by rw [List.length_map]; omega)
    refine ⟨.list (q.map iP), h2, raw_of ?_, ⟨(pl_lst (d := 0) (c := 30) (m := 16) (fun p hp => by
      obtain ⟨y, hy, rfl⟩ := List.mem_map.mp hp
      exact pl_int (by have := lt y hy; omega)) (by rw [List.length_map]; omega)).le (by omega) (by omega), fun ys e => by cases e⟩, b2.le (by omega), g12⟩
    rw [st, show ofP (.list (q.map iP)) = .lst (q.map iD) by rw [ofP_lst, mapI]]
    unfold b_law_part_bent
    simp -implicitDefEqProofs only [ev_seq, ev_asg, ev_cll, ev_ac, ev_vrS, ev_vr0, ev_ct, ev_an, bd_ok, List.length_cons, List.length_nil, if_true, e1, ev_bs_ok, List.set_cons_succ, List.set_cons_zero, ev_sq_nx, ev_oA, l1, e2, ev_ife, ev_tv, ev_o2, c0, c1, c2, c3, ev_tst, Bool.false_eq_true, if_false, ev_skp, ev_ret, ev_sq_rt, ls]
  · rw [decide_eq_false (by omega)] at c0 c1 c2 c3
    rw [decide_eq_true hw] at c4
    obtain ⟨y, ey⟩ : ∃ y, q[a]? = some y := ⟨_, List.getElem?_eq_getElem al⟩
    have ix : ixD (prT q) (.int (a : Nat)) h2 = .ok (iD y) h2 := ev_ixT (by rw [List.getElem?_map, ey]; rfl)
    have mk : mkT [iD y, iD y] h2 = .ok (.tup [iD y, iD y]) h2 := ev_mkT (by simp)
    have ad1 : addD false (.tup ((q.map iD).take a)) (.tup [iD y, iD y]) h2 = .ok (.tup ((q.take a ++ [y, y]).map iD)) h2 := by
      rw [← List.map_take, add_tup (by rw [List.length_map]; simp; omega), List.map_append]
      rfl
    have ad2 : addD false (.tup ((q.take a ++ [y, y]).map iD)) (.tup ((q.map iD).drop (a + 1))) h2 = .ok (prT (q.take a ++ [y, y] ++ q.drop (a + 1))) h2 := by
      rw [← List.map_drop, add_tup (by rw [List.length_map, List.length_map, List.length_append]; simp; omega), ← List.map_append]
      rfl
    refine ⟨rP (q.take a ++ [y, y] ++ q.drop (a + 1)), h2, raw_of ?_, pt_row (by rw [List.length_append, List.length_append]; simp; omega) fun z hz => by
      have yn := lt y (List.mem_of_getElem? ey)
      rcases List.mem_append.mp hz with hz | hz
      · rcases List.mem_append.mp hz with hz | hz
        · have := lt z (List.mem_of_mem_take hz); omega
        · simp at hz; omega
      · have := lt z (List.mem_of_mem_drop hz); omega, b2.le (by omega), g12⟩
    rw [st, show ofP (rP (q.take a ++ [y, y] ++ q.drop (a + 1))) = prT (q.take a ++ [y, y] ++ q.drop (a + 1)) from ofP_row]
    unfold b_law_part_bent
    simp -implicitDefEqProofs only [ev_seq, ev_asg, ev_cll, ev_ac, ev_vrS, ev_vr0, ev_ct, ev_an, bd_ok, List.length_cons, List.length_nil, if_true, e1, ev_bs_ok, List.set_cons_succ, List.set_cons_zero, ev_sq_nx, ev_oA, l1, e2, ev_ife, ev_tv, ev_o2, c0, c1, c2, c3, c4, ev_tst, Bool.false_eq_true, if_false, ev_skp, ev_ret, ev_sq_rt]
    rw [L]
    simp -implicitDefEqProofs only [bd_ok, ix, mk, ad1]
    rw [R]
    simp -implicitDefEqProofs only [bd_ok, ad2, ev_bs_ok, ev_sq_rt]
  · rw [decide_eq_false (by omega)] at c0 c1 c2 c3 c4
    obtain ⟨o, h3, e3, om, b3, g3⟩ := odd_ok (K := K) (h := h2) (E := E) b2 (by omega) hn.2
    have mk : mkT [ofP o] h3 = .ok (.tup [ofP o]) h3 := ev_mkT (by simp)
    obtain ⟨xs, exs⟩ : ∃ xs, xs = (q.take a).map iP ++ [o] ++ (q.drop (a + 1)).map iP := ⟨_, rfl⟩
    have ad1 : addD false (.tup ((q.map iD).take a)) (.tup [ofP o]) h3 = .ok (.tup ((q.map iD).take a ++ [ofP o])) h3 := add_tup (by rw [List.length_take, List.length_map]; simp; omega)
    have ad2 : addD false (.tup ((q.map iD).take a ++ [ofP o])) (.tup ((q.map iD).drop (a + 1))) h3 = .ok (ofP (.tuple xs)) h3 := by
      rw [add_tup (by rw [List.length_append, List.length_take, List.length_map, List.length_drop, List.length_map]; simp; omega), ofP_tup, exs, List.map_append, List.map_append, mapI, mapI, List.map_take, List.map_drop]
      rfl
    have xl : xs.length ≤ 40 := by rw [exs, List.length_append, List.length_append, List.length_map, List.length_map]; simp; omega
    refine ⟨.tuple xs, h3, raw_of ?_, ⟨(pl_tup (d := 3) (c := 40) (m := 40) (fun p hp => ?_) xl).le (by omega) (by omega), fun ys e => by cases e; omega⟩, b3.le (by omega), g12.trans g3⟩
    · rw [st]
      unfold b_law_part_bent
      simp -implicitDefEqProofs only [ev_seq, ev_asg, ev_cll, ev_ac, ev_vrS, ev_vr0, ev_ct, ev_an, bd_ok, List.length_cons, List.length_nil, if_true, e1, ev_bs_ok, List.set_cons_succ, List.set_cons_zero, ev_sq_nx, ev_oA, l1, e2, ev_ife, ev_tv, ev_o2, c0, c1, c2, c3, c4, ev_tst, Bool.false_eq_true, if_false, ev_skp, ev_ret]
      rw [L]
      simp -implicitDefEqProofs only [bd_ok, e3, mk, ad1]
      rw [R]
      simp -implicitDefEqProofs only [bd_ok, ad2, ev_bs_ok]
    · rw [exs] at hp
      rcases List.mem_append.mp hp with hp | hp
      · rcases List.mem_append.mp hp with hp | hp
        · obtain ⟨y, hy, rfl⟩ := List.mem_map.mp hp
          have := lt y (List.mem_of_mem_take hy)
          exact (pl_int (by omega)).le (by omega) (by omega)
        · rw [List.mem_singleton.mp hp]
          exact odd_pl (by omega) o om
      · obtain ⟨y, hy, rfl⟩ := List.mem_map.mp hp
        have := lt y (List.mem_of_mem_drop hy)
        exact (pl_int (by omega)).le (by omega) (by omega)
end P03
namespace P03
open PySem PySem.Spec PyProof.Rows L2 Dt
open A (Beside Kept Ed eD eP Net netD nb Grow raw_of nb_le adj_nb adj nk)
open B (Prt prT prsT Bg uq)
variable {K : PySem.W.Frag} {h : DH}
theorem sort_rows {qs : List (List Nat)} (ne : ∀ q ∈ qs, q ≠ []) (hl : qs.length ≤ 1000) : ∃ rs : List (List Nat), rs.Perm qs ∧ sortD false [.tup (qs.map prT)] h = .ok (.lst (rs.map prT)) h := by
  have tp : ∀ q : List Nat, toP h 60 (prT q) = some (rP q) := fun q => toP_tupI
  have en : ∀ q : List Nat, Dt.encD h (prT q) = PyData.tuple ((q.map fun x : Nat => (x : Int)).map .int) := fun q => by
    unfold Dt.encD
    rw [tp q]
    show rP q = _
    rw [List.map_map]
    rfl
  have dp : ∀ q : List Nat, (Dt.encD h (prT q)).depth ≤ 60 := fun q => by
    rw [en]
    have := lay_int (ns := q.map fun x : Nat => (x : Int))
    simp only [PyData.depth]
    omega
  refine ⟨qs.mergeSort fun a b => PySem.W.dataLe false (Dt.encD h) (prT a) (prT b), List.mergeSort_perm _ _, ?_⟩
  have ms : (qs.map prT).mergeSort (PySem.W.dataLe false (Dt.encD h)) = (qs.mergeSort fun a b => PySem.W.dataLe false (Dt.encD h) (prT a) (prT b)).map prT := by
    rw [← List.map_mergeSort (r := fun a b => PySem.W.dataLe false (Dt.encD h) (prT a) (prT b))]
    intro a _ b _
    rfl
  have em : (qs.map prT).map (Dt.encD h) = (qs.map fun q => q.map fun x : Nat => (x : Int)).map fun r => PyData.tuple (r.map .int) := by
    rw [List.map_map, List.map_map]
    exact List.map_congr_left fun q _ => en q
  have c : (∀ d ∈ qs.map prT, (toP h 60 d).isSome = true) ∧ (∀ d ∈ qs.map prT, (Dt.encD h d).depth ≤ 64) ∧ PySem.W.AllAlike ((qs.map prT).map (Dt.encD h)) ∧ PySem.W.Sortable ((qs.map prT).map (Dt.encD h)) := by
    refine ⟨fun d hd => ?_, fun d hd => ?_, ?_, ?_⟩
    · obtain ⟨q, _, rfl⟩ := List.mem_map.mp hd
      rw [tp]
      rfl
    · obtain ⟨q, _, rfl⟩ := List.mem_map.mp hd
      have := dp q
      omega
    · rw [em]
      exact PySem.W.AllAlike.of fun b b' => by simpa only [PySem.W.alike] using PySem.W.alike_ints b b'
    · rw [em]
      refine .inl fun d hd => ?_
      obtain ⟨r, hr, rfl⟩ := List.mem_map.mp hd
      obtain ⟨q, hq, rfl⟩ := List.mem_map.mp hr
      cases q with
      | nil => exact absurd rfl (ne _ hq)
      | cons a q => exact ⟨.int a, (q.map fun x : Nat => (x : Int)).map .int, rfl⟩
  unfold sortD
  refine (if_pos c).trans ?_
  rw [ms]
  exact ev_mkF (by rw [List.length_map, List.length_mergeSort]; omega)
def prsI : Nat → List (List Nat) → List (Nat × List Nat)
  | _, [] => []
  | k, q :: qs => (k, q) :: prsI (k + 1) qs
theorem num_rows : ∀ {qs : List (List Nat)} {k : Nat}, numD k (qs.map prT) = (prsI k qs).map fun z => D.tup [.int (z.1 : Nat), prT z.2]
  | [], k => rfl
  | q :: qs, k => by
    rw [List.map_cons, numD, prsI, List.map_cons, num_rows]
theorem prsI_mem : ∀ {qs : List (List Nat)} {k : Nat} {z : Nat × List Nat}, z ∈ prsI k qs → z.2 ∈ qs
  | [], k, z, h => by cases h
  | q :: qs, k, z, h => by
    rw [prsI] at h
    rcases List.mem_cons.mp h with rfl | h
    · exact List.mem_cons_self
    · exact List.mem_cons_of_mem _ (prsI_mem h)
theorem prsI_len : ∀ {qs : List (List Nat)} {k : Nat}, (prsI k qs).length = qs.length
  | [], k => rfl
  | q :: qs, k => by rw [prsI, List.length_cons, List.length_cons, prsI_len]
theorem nin_of {x y : D} {b : Bool} (e : inD x y h = .ok (.bl b) h) : ninD x y h = .ok (.bl (!b)) h := by
  unfold inD at e
  unfold ninD
  cases hb : Dt.inB x y h with
  | none => rw [hb] at e; cases e
  | some c =>
    rw [hb] at e
    cases e
    rfl
theorem th_rows {rs : List (List Nat)} (hl : rs.length ≤ 40) (g : ∀ q ∈ rs, q.length ≤ 40 ∧ ∀ x ∈ q, x < 20) : Th (.tuple (rs.map rP)) := ⟨(pl_tup (d := 1) (c := 1300) (m := 40) (fun p hp => by
    obtain ⟨q, hq, rfl⟩ := List.mem_map.mp hp
    exact pl_row (g q hq).1 (g q hq).2) (by rw [List.length_map]; omega)).le (by omega) (by omega), fun xs e => by
    cases e
    refine ⟨by rw [List.length_map]; omega, fun x hx => ?_⟩
    obtain ⟨q, hq, rfl⟩ := List.mem_map.mp hx
    exact (pt_row (g q hq).1 (g q hq).2).s1⟩
theorem ofP_rows {rs : List (List Nat)} : ofP (.tuple (rs.map rP)) = prsT rs := by
  rw [ofP_tup, of_rows]
theorem ne_row {q : List Nat} (hq : q.length ≤ 40) (lt : ∀ x ∈ q, x < 20) : neD (prT q) (.tup []) h = .ok (.bl (!q.isEmpty)) h := by
  have e1 : toP h 60 (prT q) = some (rP q) := toP_tupI
  have e2 : toP h 60 (.tup []) = some (.tuple []) := rfl
  have q' : eqB (prT q) (.tup []) h = some (PyData.eqv (rP q) (.tuple [])) := by
    unfold eqB
    rw [e1, e2]
    simp only [shp_row, show SeqAt.shaped (.tuple []) = true from shp_row (ns := []), and_self, if_true]
  unfold neD
  rw [q']
  cases q <;> simp [PyData.eqv, PyData.eqvAll]
theorem bent_ok {b c n : Nat} {E : List Ed} {ps : List (List Nat)} (hb : Bg h b c) (hc : c ≤ 400000) (N : Net n E) (P : Prt n E ps) :
    ∃ (p : PyData) (h' : DH), G_law_bent K [.ref b, netD n E, prsT ps] h = .ok (ofP p) h' ∧ Th p ∧ Bg h' b (c + 20) ∧ Grow b h h' := by
  have n16 := N.le
  have n1 := N.pos
  have pl := P.few
  have pos : 1 ≤ ps.length := by
    cases hp : ps with
    | nil =>
      have := P.flat
      rw [hp] at this
      simp at this
      omega
    | cons _ _ => simp
  have row : ∀ q ∈ ps, q ≠ [] ∧ q.length ≤ 16 ∧ ∀ x ∈ q, x < n := fun q hq => ⟨P.ne q hq, by have := P.len hq; omega, fun x hx => P.lt hq hx⟩
  have row2 : ∀ q ∈ ps, q.length ≤ 40 ∧ ∀ x ∈ q, x < 20 := fun q hq => ⟨by have := (row q hq).2.1; omega, fun x hx => by have := (row q hq).2.2 x hx; omega⟩
  have i0 : ∀ g, ixD (netD n E) (.int 0) g = .ok (.int n) g := fun _ => ev_ixT (i := 0) rfl
  have ln : ∀ g, lenD [prsT ps] g = .ok (.int (ps.length : Nat)) g := fun g => by
    show Rs.ok (D.int ((ps.map prT).length : Nat)) g = _
    rw [List.length_map]
  obtain ⟨w, h1, e1, lw, b1, s1⟩ := B.take (K := K) (m := 9) hb (by omega) (by decide) (by decide)
  obtain ⟨a, h2, e2, la, b2, s2⟩ := B.take (K := K) (m := ((ps.length : Nat) : Int)) b1 (by omega) (by omega) (by omega)
  obtain ⟨o, h3, e3, lo, b3, s3⟩ := B.take (K := K) (m := ((ps.length : Nat) : Int)) b2 (by omega) (by omega) (by omega)
  rw [← g_take] at e1 e2 e3
  have g3 := (s1.grow.trans s2.grow).trans s3.grow
  have st : startD N_law_bent [.ref b, netD n E, prsT ps] = [some (.ref b), some (netD n E), some (prsT ps), none, none, none, none, none, none, none, none] := rfl
  obtain ⟨qa, ea⟩ : ∃ q, ps[a]? = some q := ⟨_, List.getElem?_eq_getElem (by omega)⟩
  obtain ⟨qo, eo⟩ : ∃ q, ps[o]? = some q := ⟨_, List.getElem?_eq_getElem (by omega)⟩
  have ra := row qa (List.mem_of_getElem? ea)
  have ro := row qo (List.mem_of_getElem? eo)
  have ixa : ∀ g, ixD (prsT ps) (.int (a : Nat)) g = .ok (prT qa) g := fun _ => ev_ixT (by rw [List.getElem?_map, ea]; rfl)
  have ixo : ∀ g, ixD (prsT ps) (.int (o : Nat)) g = .ok (prT qo) g := fun _ => ev_ixT (by rw [List.getElem?_map, eo]; rfl)
  -- the rest
  have en : enmT (ac (vr 2) an) [some (.ref b), some (netD n E), some (prsT ps), some (.int (w : Nat)), some (.int (a : Nat)), some (.int (o : Nat)), none, none, none, none, none] h3 = .ok ⟨[], numD 0 (ps.map prT)⟩ h3 := ev_enmT (by simp only [ev_ac, ev_vrS, ev_vr0, ev_an, bd_ok])
  obtain ⟨rest, erest⟩ : ∃ rest, rest = ((prsI 0 ps).filter fun z => !decide (z.1 ∈ [a, o])).map (·.2) := ⟨_, rfl⟩
  have restm : ∀ q ∈ rest, q ∈ ps := fun q hq => by
    rw [erest] at hq
    obtain ⟨z, hz, rfl⟩ := List.mem_map.mp hq
    exact prsI_mem (List.mem_filter.mp hz).1
  have restl : rest.length ≤ ps.length := by
    rw [erest, List.length_map]
    refine Nat.le_trans (List.length_filter_le _ _) ?_
    rw [prsI_len]
    exact Nat.le_refl _
  have lcr := ev_lcp (h := h3) (t := .tp [(.nm 7), (.nm 8)]) (vs := [7, 8]) (fe := vr 8) (tt := tv (o2 ninD (vr 7) (oA mkT (ac (vr 4) (ac (vr 5) an))))) (fi := enmT (ac (vr 2) an)) (env := [some (.ref b), some (netD n E), some (prsT ps), some (.int (w : Nat)), some (.int (a : Nat)), some (.int (o : Nat)), none, none, none, none, none])
    (fun z : Nat × List Nat => D.tup [.int (z.1 : Nat), prT z.2]) (fun z => prT z.2) (fun z => !decide (z.1 ∈ [a, o])) (prsI 0 ps) (it := ⟨[], numD 0 (ps.map prT)⟩) en so_nil num_rows (fun z _ => ⟨_, rfl, by
      have mk : mkT [.int (a : Nat), .int (o : Nat)] h3 = .ok (prT [a, o]) h3 := ev_mkT (by simp)
      have nn := nin_of (B.in_tup (ws := [a, o]) (n := z.1 + 1) h3 z.1 (by omega))
      simp -implicitDefEqProofs only [wipD, List.foldl, List.set_cons_succ, List.set_cons_zero, ev_tv, ev_o2, ev_oA, ev_ac, ev_vrS, ev_vr0, ev_an, bd_ok, mk, nn, ev_tst], fun _ => rfl⟩) (by rw [prsI_len]; omega)
  rw [show (((prsI 0 ps).filter fun z => !decide (z.1 ∈ [a, o])).map fun z => prT z.2) = rest.map prT from by rw [erest, List.map_map]; rfl] at lcr
  have tpr : tupleD [.lst (rest.map prT)] h3 = .ok (prsT rest) h3 := ev_mkT (by rw [List.length_map]; omega)
  have c0 : ltD (.int (w : Nat)) (.int 2) h3 = .ok (.bl (decide (w < 2))) h3 := by
    rw [ev_lt]
    congr 2
    exact decide_eq_decide.mpr (by omega)
  have c2 : eqD (.int (w : Nat)) (.int 2) h3 = .ok (.bl (decide (w = 2))) h3 := eqI (z := 2)
  have c3 : eqD (.int (w : Nat)) (.int 3) h3 = .ok (.bl (decide (w = 3))) h3 := eqI (z := 3)
  have c4 : eqD (.int (w : Nat)) (.int 4) h3 = .ok (.bl (decide (w = 4))) h3 := eqI (z := 4)
  have c5 : eqD (.int (w : Nat)) (.int 5) h3 = .ok (.bl (decide (w = 5))) h3 := eqI (z := 5)
  have c6 : eqD (.int (w : Nat)) (.int 6) h3 = .ok (.bl (decide (w = 6))) h3 := eqI (z := 6)
  have L := fun (g : DH) (r : Env') => cutL (h := g) (x0 := some (.ref b)) (x1 := some (netD n E)) (x3 := some (.int (w : Nat))) (rest := r) (ds := ps.map prT) (k := a)
  have R := fun (g : DH) (r : Env') => cutR1 (h := g) (x0 := some (.ref b)) (x1 := some (netD n E)) (x3 := some (.int (w : Nat))) (rest := r) (ds := ps.map prT) (k := a)
  have R0 := fun (g : DH) (r : Env') => cutR (h := g) (x0 := some (.ref b)) (x1 := some (netD n E)) (x3 := some (.int (w : Nat))) (rest := r) (ds := ps.map prT) (k := a)
  rw [show D.tup (ps.map prT) = prsT ps from rfl] at L R R0
  have mtk : ∀ k : Nat, (ps.map prT).take k = (ps.take k).map prT := fun k => (List.map_take ..).symm
  have mdr : ∀ k : Nat, (ps.map prT).drop k = (ps.drop k).map prT := fun k => (List.map_drop ..).symm
  have add2 : ∀ (g : DH) (xs ys : List (List Nat)), xs.length + ys.length ≤ 1000 → addD false (.tup (xs.map prT)) (.tup (ys.map prT)) g = .ok (.tup ((xs ++ ys).map prT)) g := fun g xs ys hl => by
    rw [add_tup (by rw [List.length_map, List.length_map]; omega), List.map_append]
  have tl : (ps.take a).length ≤ 16 := by rw [List.length_take]; omega
  have dl : ∀ k, (ps.drop k).length ≤ 16 := fun k => by rw [List.length_drop]; omega
  have tm : ∀ q ∈ ps.take a, q ∈ ps := fun q hq => List.mem_of_mem_take hq
  have dm : ∀ k, ∀ q ∈ ps.drop k, q ∈ ps := fun k q hq => List.mem_of_mem_drop hq
  have pre : ∀ (res : D) (hf : DH), (∀ tailF : SF, True) → True := fun _ _ _ => trivial
  have hw : w < 2 ∨ w = 2 ∨ w = 3 ∨ w = 4 ∨ w = 5 ∨ w = 6 ∨ 6 < w := by omega
  rcases hw with hw | hw | hw | hw | hw | hw | hw
  · rw [decide_eq_true hw] at c0
    obtain ⟨m, em⟩ : ∃ m, m = uq n (qa ++ qo) := ⟨_, rfl⟩
    have lt2 : ∀ y ∈ qa ++ qo, y < n := fun y hy => (List.mem_append.mp hy).elim (ra.2.2 y) (ro.2.2 y)
    have iq := B.uq_iset (n := n) (es := qa ++ qo) lt2
    rw [← em] at iq
    have ml : m.length ≤ n := by
      rw [em]
      unfold uq
      refine Nat.le_trans (List.length_filter_le _ _) ?_
      rw [List.length_range]
      exact Nat.le_refl _
    have mm : ∀ y, y ∈ m ↔ y < n ∧ y ∈ qa ++ qo := fun y => by
      rw [em]
      unfold uq
      rw [List.mem_filter, List.mem_range, decide_eq_true_eq]
    have mne : m ≠ [] := by
      have hd := B.head_mem ra.1
      exact List.ne_nil_of_mem ((mm _).mpr ⟨ra.2.2 _ hd, List.mem_append_left _ hd⟩)
    have ad : addD false (prT qa) (prT qo) h3 = .ok (.tup (((qa ++ qo).map fun y : Nat => (y : Int)).map D.int)) h3 := by
      rw [show prT qa = .tup (qa.map iD) from rfl, show prT qo = .tup (qo.map iD) from rfl, add_tup (by rw [List.length_map, List.length_map]; omega), List.map_map, ← List.map_append]
      rfl
    have ss0 := ev_sortsetT (own := false) (h := h3) (ns := (qa ++ qo).map fun y : Nat => (y : Int)) (by rw [List.length_map, List.length_append]; omega) (by rw [iq, List.length_map]; omega)
    rw [iq] at ss0
    have ss : sortsetT false (.tup (((qa ++ qo).map fun y : Nat => (y : Int)).map D.int)) h3 = .ok (.lst (m.map iD)) h3 := by
      rw [ss0, ev_mkF (by rw [List.length_map, List.length_map]; omega), List.map_map]
      rfl
    have tp : tupleD [.lst (m.map iD)] h3 = .ok (prT m) h3 := ev_mkT (by rw [List.length_map]; omega)
    have mk : mkT [prT m] h3 = .ok (.tup [prT m]) h3 := ev_mkT (by simp)
    have ad2 : addD false (prsT rest) (.tup [prT m]) h3 = .ok (.tup ((rest ++ [m]).map prT)) h3 := by
      have := add2 h3 rest [m] (by simp; omega)
      exact this
    obtain ⟨rs, pm, so⟩ := sort_rows (h := h3) (qs := rest ++ [m]) (fun q hq => by
      rcases List.mem_append.mp hq with hq | hq
      · exact (row q (restm q hq)).1
      · rw [List.mem_singleton.mp hq]; exact mne) (by simp; omega)
    have rl : rs.length ≤ 40 := by rw [pm.length_eq]; simp; omega
    have tp2 : tupleD [.lst (rs.map prT)] h3 = .ok (prsT rs) h3 := ev_mkT (by rw [List.length_map]; omega)
    refine ⟨.tuple (rs.map rP), h3, raw_of ?_, th_rows rl fun q hq => ?_, b3.le (by omega), g3⟩
    · rw [st, ofP_rows]
      unfold b_law_bent
      simp -implicitDefEqProofs only [ev_seq, ev_asg, ev_cll, ev_ac, ev_vrS, ev_vr0, ev_ct, ev_an, bd_ok, List.length_cons, List.length_nil, if_true, e1, ev_bs_ok, List.set_cons_succ, List.set_cons_zero, ev_sq_nx, ev_oA, ln, e2, e3]
      rw [lcr]
      simp -implicitDefEqProofs only [bd_ok, tpr, ev_bs_ok, List.set_cons_succ, List.set_cons_zero, ev_sq_nx, ev_seq, ev_ife, ev_tv, ev_o2, ev_vrS, ev_vr0, ev_ct, c0, ev_tst, if_true, ev_ret, ev_oA, ev_ac, ev_an, ev_o1, ixa, ixo, ad, ss, tp, mk, ad2, so, tp2, ev_sq_rt]
    · rcases List.mem_append.mp (pm.mem_iff.mp hq) with hq | hq
      · exact row2 q (restm q hq)
      · rw [List.mem_singleton.mp hq]
        exact ⟨by omega, fun y hy => by have := ((mm y).mp hy).1; omega⟩
  · rw [decide_eq_false (by omega)] at c0
    rw [decide_eq_true hw] at c2
    have lq : lenD [prT qa] h3 = .ok (.int (qa.length : Nat)) h3 := by
      show Rs.ok (D.int ((qa.map iD).length : Nat)) h3 = _
      rw [List.length_map]
    obtain ⟨u, h4, e4, lu, b4, s4⟩ := B.take (K := K) (m := ((qa.length : Nat) : Int) + 1) b3 (by omega) (by omega) (by omega)
    rw [← g_take] at e4
    have sl1 : slD false (prT qa) none (some (u : Int)) h4 = .ok (prT (qa.take u)) h4 := by
      rw [show prT qa = .tup (qa.map iD) from rfl, sl_to, ← List.map_take]
      rfl
    have sl2 : slD false (prT qa) (some (u : Int)) none h4 = .ok (prT (qa.drop u)) h4 := by
      rw [show prT qa = .tup (qa.map iD) from rfl, sl_at, ← List.map_drop]
      rfl
    have two : ∀ q ∈ [qa.take u, qa.drop u], q.length ≤ 16 ∧ ∀ x ∈ q, x < n := fun q hq => by
      simp only [List.mem_cons, List.not_mem_nil, or_false] at hq
      rcases hq with rfl | rfl
      · exact ⟨by rw [List.length_take]; omega, fun x hx => ra.2.2 x (List.mem_of_mem_take hx)⟩
      · exact ⟨by rw [List.length_drop]; omega, fun x hx => ra.2.2 x (List.mem_of_mem_drop hx)⟩
    have mkl : mkL false [prT (qa.take u), prT (qa.drop u)] h4 = .ok (.lst ([qa.take u, qa.drop u].map prT)) h4 := ev_mkF (by simp)
    have lcs := ev_lcp (h := h4) (t := .nm 8) (vs := [8]) (fe := vr 8) (tt := tv (o2 neD (vr 8) (oA mkT an))) (fi := isq (oA (mkL false) (ac (esl false (o2 ixD (vr 2) (vr 4)) pn (Dt.ps (vr 9))) (ac (esl false (o2 ixD (vr 2) (vr 4)) (Dt.ps (vr 9)) pn) an)))) (env := [some (.ref b), some (netD n E), some (prsT ps), some (.int (w : Nat)), some (.int (a : Nat)), some (.int (o : Nat)), some (prsT rest), none, none, some (.int (u : Nat)), none])
      prT prT (fun q => !q.isEmpty) [qa.take u, qa.drop u] (it := ⟨[], [qa.take u, qa.drop u].map prT⟩) (by
        simp -implicitDefEqProofs only [ev_isq, ev_oA, ev_ac, ev_esl, ev_o2, ev_pn, ev_ps, ev_vrS, ev_vr0, ev_an, bd_ok, ixa, sl1, sl2, mkl, ev_sqL]) so_nil rfl (fun q hq => ⟨_, rfl, by
        have tq := two q hq
        have ne := ne_row (h := h4) (q := q) (by omega) fun x hx => by have := tq.2 x hx; omega
        have mk0 : mkT [] h4 = .ok (.tup []) h4 := ev_mkT (by simp)
        simp -implicitDefEqProofs only [wipD, List.foldl, List.set_cons_succ, List.set_cons_zero, ev_tv, ev_o2, ev_oA, ev_vrS, ev_vr0, ev_an, bd_ok, mk0, ne, ev_tst], fun _ => rfl⟩) (by simp)
    obtain ⟨so2, eso⟩ : ∃ so2, so2 = [qa.take u, qa.drop u].filter fun q => !q.isEmpty := ⟨_, rfl⟩
    rw [← eso] at lcs
    have sol : so2.length ≤ 2 := by rw [eso]; exact List.length_filter_le _ _
    have som : ∀ q ∈ so2, q ≠ [] ∧ q.length ≤ 16 ∧ ∀ x ∈ q, x < n := fun q hq => by
      rw [eso] at hq
      obtain ⟨h1, h2⟩ := List.mem_filter.mp hq
      refine ⟨fun z => ?_, two q h1⟩
      rw [z] at h2
      cases h2
    have tps : tupleD [.lst (so2.map prT)] h4 = .ok (.tup (so2.map prT)) h4 := ev_mkT (by rw [List.length_map]; omega)
    have ad1 := add2 h4 (ps.take a) (ps.drop (a + 1)) (by have := dl (a + 1); omega)
    have ad2 := add2 h4 (ps.take a ++ ps.drop (a + 1)) so2 (by have := dl (a + 1); rw [List.length_append]; omega)
    rw [← mtk, ← mdr] at ad1
    obtain ⟨rs, pm, so⟩ := sort_rows (h := h4) (qs := ps.take a ++ ps.drop (a + 1) ++ so2) (fun q hq => by
      rcases List.mem_append.mp hq with hq | hq
      · rcases List.mem_append.mp hq with hq | hq
        · exact (row q (tm q hq)).1
        · exact (row q (dm _ q hq)).1
      · exact (som q hq).1) (by have := dl (a + 1); rw [List.length_append, List.length_append]; omega)
    have rl : rs.length ≤ 40 := by have := dl (a + 1); rw [pm.length_eq, List.length_append, List.length_append]; omega
    have tp2 : tupleD [.lst (rs.map prT)] h4 = .ok (prsT rs) h4 := ev_mkT (by rw [List.length_map]; omega)
    refine ⟨.tuple (rs.map rP), h4, raw_of ?_, th_rows rl fun q hq => ?_, b4.le (by omega), g3.trans s4.grow⟩
    · rw [st, ofP_rows]
      unfold b_law_bent
      simp -implicitDefEqProofs only [ev_seq, ev_asg, ev_cll, ev_ac, ev_vrS, ev_vr0, ev_ct, ev_an, bd_ok, List.length_cons, List.length_nil, if_true, e1, ev_bs_ok, List.set_cons_succ, List.set_cons_zero, ev_sq_nx, ev_oA, ln, e2, e3]
      rw [lcr]
      simp -implicitDefEqProofs only [bd_ok, tpr, ev_bs_ok, List.set_cons_succ, List.set_cons_zero, ev_sq_nx, ev_seq, ev_ife, ev_tv, ev_o2, ev_vrS, ev_vr0, ev_ct, c0, c2, ev_tst, Bool.false_eq_true, if_false, ev_skp, if_true, ev_asg, ev_cll, ev_ac, ev_oA, ev_an, ixa, lq, ev_add, e4, List.length_cons, List.length_nil]
      rw [lcs]
      simp -implicitDefEqProofs only [ev_bs_ok, List.set_cons_succ, List.set_cons_zero, ev_sq_nx, ev_ret, ev_oA, ev_ac, ev_o2]
      rw [L]
      simp -implicitDefEqProofs only [bd_ok]
      rw [R]
      simp -implicitDefEqProofs only [bd_ok, ad1, ev_vrS, ev_vr0, ev_an, tps, ad2, so, tp2, ev_bs_ok, ev_sq_rt]
    · rcases List.mem_append.mp (pm.mem_iff.mp hq) with hq | hq
      · rcases List.mem_append.mp hq with hq | hq
        · exact row2 q (tm q hq)
        · exact row2 q (dm _ q hq)
      · have := som q hq
        exact ⟨by omega, fun y hy => by have := this.2.2 y hy; omega⟩
  · rw [decide_eq_false (by omega)] at c0 c2
    rw [decide_eq_true hw] at c3
    have ng : negD (.int 1) h3 = .ok (.int (-1)) h3 := rfl
    have rv : revTD (prsT ps) (.int (-1)) h3 = .ok (prsT ps.reverse) h3 := by
      show Rs.ok (D.tup (ps.map prT).reverse) h3 = _
      rw [← List.map_reverse]
    refine ⟨.tuple (ps.reverse.map rP), h3, raw_of ?_, th_rows (by rw [List.length_reverse]; omega) fun q hq => row2 q (List.mem_reverse.mp hq), b3.le (by omega), g3⟩
    rw [st, ofP_rows]
    unfold b_law_bent
    simp -implicitDefEqProofs only [ev_seq, ev_asg, ev_cll, ev_ac, ev_vrS, ev_vr0, ev_ct, ev_an, bd_ok, List.length_cons, List.length_nil, if_true, e1, ev_bs_ok, List.set_cons_succ, List.set_cons_zero, ev_sq_nx, ev_oA, ln, e2, e3]
    rw [lcr]
    simp -implicitDefEqProofs only [bd_ok, tpr, ev_bs_ok, List.set_cons_succ, List.set_cons_zero, ev_sq_nx, ev_seq, ev_ife, ev_tv, ev_o2, ev_vrS, ev_vr0, ev_ct, c0, c2, c3, ev_tst, Bool.false_eq_true, if_false, ev_skp, if_true, ev_ret, ev_o1, ng, rv, ev_sq_rt]
  · rw [decide_eq_false (by omega)] at c0 c2 c3
    rw [decide_eq_true hw] at c4
    have ad1 := add2 h3 (ps.take a) (ps.drop (a + 1)) (by have := dl (a + 1); omega)
    rw [← mtk, ← mdr] at ad1
    refine ⟨.tuple ((ps.take a ++ ps.drop (a + 1)).map rP), h3, raw_of ?_, th_rows (by have := dl (a + 1); rw [List.length_append]; omega) fun q hq => (List.mem_append.mp hq).elim (fun z => row2 q (tm q z)) fun z => row2 q (dm _ q z), b3.le (by omega), g3⟩
    rw [st, ofP_rows]
    unfold b_law_bent
    simp -implicitDefEqProofs only [ev_seq, ev_asg, ev_cll, ev_ac, ev_vrS, ev_vr0, ev_ct, ev_an, bd_ok, List.length_cons, List.length_nil, if_true, e1, ev_bs_ok, List.set_cons_succ, List.set_cons_zero, ev_sq_nx, ev_oA, ln, e2, e3]
    rw [lcr]
    simp -implicitDefEqProofs only [bd_ok, tpr, ev_bs_ok, List.set_cons_succ, List.set_cons_zero, ev_sq_nx, ev_seq, ev_ife, ev_tv, ev_o2, ev_vrS, ev_vr0, ev_ct, c0, c2, c3, c4, ev_tst, Bool.false_eq_true, if_false, ev_skp, if_true, ev_ret]
    rw [L]
    simp -implicitDefEqProofs only [bd_ok]
    rw [R]
    simp -implicitDefEqProofs only [bd_ok, ad1, ev_bs_ok, ev_sq_rt]
  · rw [decide_eq_false (by omega)] at c0 c2 c3 c4
    rw [decide_eq_true hw] at c5
    have mk : mkT [prT qa] h3 = .ok (.tup ([qa].map prT)) h3 := ev_mkT (by simp)
    have ad1 := add2 h3 (ps.take a) [qa] (by simp; omega)
    rw [← mtk] at ad1
    have ad2 := add2 h3 (ps.take a ++ [qa]) (ps.drop a) (by have := dl a; rw [List.length_append]; simp; omega)
    rw [← mdr] at ad2
    refine ⟨.tuple ((ps.take a ++ [qa] ++ ps.drop a).map rP), h3, raw_of ?_, th_rows (by have := dl a; rw [List.length_append, List.length_append]; simp; omega) fun q hq => ?_, b3.le (by omega), g3⟩
    · rw [st, ofP_rows]
      unfold b_law_bent
      simp -implicitDefEqProofs only [ev_seq, ev_asg, ev_cll, ev_ac, ev_vrS, ev_vr0, ev_ct, ev_an, bd_ok, List.length_cons, List.length_nil, if_true, e1, ev_bs_ok, List.set_cons_succ, List.set_cons_zero, ev_sq_nx, ev_oA, ln, e2, e3]
      rw [lcr]
      simp -implicitDefEqProofs only [bd_ok, tpr, ev_bs_ok, List.set_cons_succ, List.set_cons_zero, ev_sq_nx, ev_seq, ev_ife, ev_tv, ev_o2, ev_vrS, ev_vr0, ev_ct, c0, c2, c3, c4, c5, ev_tst, Bool.false_eq_true, if_false, ev_skp, if_true, ev_ret]
      rw [L]
      simp -implicitDefEqProofs only [bd_ok, ev_oA, ev_ac, ev_o2, ev_vrS, ev_vr0, ev_an, ixa, mk, ad1]
      rw [R0]
      simp -implicitDefEqProofs only [bd_ok, ad2, ev_bs_ok, ev_sq_rt]
    · rcases List.mem_append.mp hq with hq | hq
      · rcases List.mem_append.mp hq with hq | hq
        · exact row2 q (tm q hq)
        · rw [List.mem_singleton.mp hq]; exact row2 qa (List.mem_of_getElem? ea)
      · exact row2 q (dm _ q hq)
  · rw [decide_eq_false (by omega)] at c0 c2 c3 c4 c5
    rw [decide_eq_true hw] at c6
    have ls : listD false [prsT ps] h3 = .ok (.lst (ps.map prT)) h3 := ev_mkF (by rw [List.length_map]; omega)
    have mk0 : mkT [] h3 = .ok (.tup []) h3 := ev_mkT (by simp)
    have mk1 : mkT [.tup []] h3 = .ok (.tup ([[]].map prT)) h3 := ev_mkT (by simp)
    have ad1 : addD false (prsT ps) (.tup ([[]].map prT)) h3 = .ok (.tup ((ps ++ [[]]).map prT)) h3 := add2 h3 ps [[]] (by simp; omega)
    obtain ⟨od, h4, e4, om, b4, g4⟩ := odd_ok (K := K) (h := h3) (E := E) b3 (by omega) n16
    obtain ⟨r, h5, e5, lr, b5, s5⟩ := B.take (K := K) (m := 3) b4 (by omega) (by decide) (by decide)
    rw [← g_take] at e5
    have mk2 : mkL false [.lst (ps.map prT), .tup ((ps ++ [[]]).map prT), ofP od] h4 = .ok (.lst [.lst (ps.map prT), .tup ((ps ++ [[]]).map prT), ofP od]) h4 := ev_mkF (by simp)
    obtain ⟨p, ep, tp⟩ : ∃ p : PyData, ([D.lst (ps.map prT), .tup ((ps ++ [[]]).map prT), ofP od])[r]? = some (ofP p) ∧ Th p := by
      have hr : r = 0 ∨ r = 1 ∨ r = 2 := by omega
      rcases hr with rfl | rfl | rfl
      · refine ⟨.list (ps.map rP), ?_, ⟨(pl_lst (d := 1) (c := 1300) (m := 16) (fun p hp => by
          obtain ⟨q, hq, rfl⟩ := List.mem_map.mp hp
          exact pl_row (row2 q hq).1 (row2 q hq).2) (by rw [List.length_map]; omega)).le (by omega) (by omega), fun xs e => by cases e⟩⟩
        rw [ofP_lst, of_rows]
        rfl
      · refine ⟨.tuple ((ps ++ [[]]).map rP), ?_, th_rows (by simp; omega) fun q hq => ?_⟩
        · rw [ofP_rows]
          rfl
        · rcases List.mem_append.mp hq with hq | hq
          · exact row2 q hq
          · rw [List.mem_singleton.mp hq]
            exact ⟨by simp, fun x hx => by cases hx⟩
      · exact ⟨od, rfl, odd_th (by omega) om⟩
    have ix : ixD (.lst [.lst (ps.map prT), .tup ((ps ++ [[]]).map prT), ofP od]) (.int (r : Int)) h5 = .ok (ofP p) h5 := ev_ixL ep
    refine ⟨p, h5, raw_of ?_, tp, b5.le (by omega), (g3.trans g4).trans s5.grow⟩
    rw [st]
    unfold b_law_bent
    simp -implicitDefEqProofs only [ev_seq, ev_asg, ev_cll, ev_ac, ev_vrS, ev_vr0, ev_ct, ev_an, bd_ok, List.length_cons, List.length_nil, if_true, e1, ev_bs_ok, List.set_cons_succ, List.set_cons_zero, ev_sq_nx, ev_oA, ln, e2, e3]
    rw [lcr]
    simp -implicitDefEqProofs only [bd_ok, tpr, ev_bs_ok, List.set_cons_succ, List.set_cons_zero, ev_sq_nx, ev_seq, ev_ife, ev_tv, ev_o2, ev_vrS, ev_vr0, ev_ct, c0, c2, c3, c4, c5, c6, ev_tst, Bool.false_eq_true, if_false, ev_skp, if_true, ev_ret, ev_oA, ev_ac, ev_an, ls, mk0, mk1, ad1, ev_cll, List.length_cons, List.length_nil, e4, mk2, e5, ix, ev_sq_rt]
  · rw [decide_eq_false (by omega)] at c0 c2 c3 c4 c5 c6
    obtain ⟨p1, h4, e4, pt, b4, g4⟩ := bent_part (K := K) (h := h3) (E := E) b3 (by omega) ⟨n1, n16⟩ ra.1 ra.2.1 ra.2.2
    have mk : mkT [ofP p1] h4 = .ok (.tup [ofP p1]) h4 := ev_mkT (by simp)
    obtain ⟨xs, exs⟩ : ∃ xs, xs = (ps.take a).map rP ++ [p1] ++ (ps.drop (a + 1)).map rP := ⟨_, rfl⟩
    have ad1 : addD false (.tup ((ps.map prT).take a)) (.tup [ofP p1]) h4 = .ok (.tup ((ps.map prT).take a ++ [ofP p1])) h4 := add_tup (by rw [List.length_take, List.length_map]; simp; omega)
    have ad2 : addD false (.tup ((ps.map prT).take a ++ [ofP p1])) (.tup ((ps.map prT).drop (a + 1))) h4 = .ok (ofP (.tuple xs)) h4 := by
      rw [add_tup (by rw [List.length_append, List.length_take, List.length_map, List.length_drop, List.length_map]; simp; omega), ofP_tup, exs, List.map_append, List.map_append, of_rows, of_rows, mtk, mdr]
      rfl
    have xl : xs.length ≤ 34 := by have := dl (a + 1); rw [exs, List.length_append, List.length_append, List.length_map, List.length_map]; simp; omega
    have xp : ∀ p ∈ xs, Pt p := fun p hp => by
      rw [exs] at hp
      rcases List.mem_append.mp hp with hp | hp
      · rcases List.mem_append.mp hp with hp | hp
        · obtain ⟨q, hq, rfl⟩ := List.mem_map.mp hp
          exact pt_row (row2 q (tm q hq)).1 (row2 q (tm q hq)).2
        · rw [List.mem_singleton.mp hp]; exact pt
      · obtain ⟨q, hq, rfl⟩ := List.mem_map.mp hp
        exact pt_row (row2 q (dm _ q hq)).1 (row2 q (dm _ q hq)).2
    refine ⟨.tuple xs, h4, raw_of ?_, ⟨(pl_tup (d := 5) (c := 2500) (m := 34) (fun p hp => (xp p hp).pl) xl).le (by omega) (by omega), fun ys e => by
      cases e
      exact ⟨by omega, fun x hx => (xp x hx).s1⟩⟩, b4.le (by omega), g3.trans g4⟩
    rw [st]
    unfold b_law_bent
    simp -implicitDefEqProofs only [ev_seq, ev_asg, ev_cll, ev_ac, ev_vrS, ev_vr0, ev_ct, ev_an, bd_ok, List.length_cons, List.length_nil, if_true, e1, ev_bs_ok, List.set_cons_succ, List.set_cons_zero, ev_sq_nx, ev_oA, ln, e2, e3]
    rw [lcr]
    simp -implicitDefEqProofs only [bd_ok, tpr, ev_bs_ok, List.set_cons_succ, List.set_cons_zero, ev_sq_nx, ev_seq, ev_ife, ev_tv, ev_o2, ev_vrS, ev_vr0, ev_ct, c0, c2, c3, c4, c5, c6, ev_tst, Bool.false_eq_true, if_false, ev_skp, ev_asg, ev_cll, ev_ac, ev_an, ixa, List.length_cons, List.length_nil, if_true, e4, ev_ret]
    rw [L]
    simp -implicitDefEqProofs only [bd_ok, ev_oA, ev_ac, ev_vrS, ev_vr0, ev_an, mk, ad1]
    rw [R]
    simp -implicitDefEqProofs only [bd_ok, ad2, ev_bs_ok]
end P03
namespace P03
open PySem PySem.Spec PyProof.Rows L2 Dt
open A (Beside Kept Ed eD eP Net netD nb Grow raw_of nb_le)
open B (Bg prT prsT Prt)
variable {K : PySem.W.Frag} {h : DH}
theorem g_bag : G_law_bag K = B.G_law_bag K := rfl
theorem g_cell : G_law_cell_at K = B.G_law_cell_at K := rfl
theorem g_net : G_law_net K = B.G_law_net K := rfl
theorem g_parting : G_law_parting K = B.G_law_parting K := rfl
theorem g_is_parting : G_is_parting K = B.G_is_parting K := rfl
theorem ne_emp {p : PyData} (f : Fl p) : ∃ b : Bool, neD (ofP p) (.tup []) h = .ok (.bl b) h := by
  have e1 := f.to (h := h)
  have e2 : toP h 60 (.tup []) = some (.tuple []) := rfl
  have q : eqB (ofP p) (.tup []) h = some (PyData.eqv p (.tuple [])) := by
    unfold eqB
    rw [e1, e2]
    simp only [f.shp, show SeqAt.shaped (.tuple []) = true from shp_row (ns := []), and_self, if_true]
  unfold neD
  rw [q]
  exact ⟨_, rfl⟩
def netP (n : Nat) (E : List Ed) : PyData := .tuple [.int n, .tuple (E.map eP)]
theorem ofP_net {n : Nat} {E : List Ed} : ofP (netP n E) = netD n E := by
  unfold netP
  rw [ofP_tup, List.map_cons, List.map_cons, List.map_nil, ofP_tup, List.map_map]
  rfl
theorem pl_net {n : Nat} {E : List Ed} (N : Net n E) (hE : E.length ≤ 200) : Pl (netP n E) 10 100000 := by
  have n16 := N.le
  have e1 : Pl (.tuple (E.map eP)) 2 13803 := by
    refine (pl_tup (d := 1) (c := 67) (m := 200) (fun p hp => ?_) (by rw [List.length_map]; omega)).le (by omega) (by omega)
    obtain ⟨e, he, rfl⟩ := List.mem_map.mp hp
    have lt := N.lt e he
    refine (pl_tup (xs := [.int (e.1 : Int), .int (e.2 : Int)]) (d := 0) (c := 30) (m := 2) (fun p hp => ?_) (by simp)).le (by omega) (by omega)
    simp only [List.mem_cons, List.not_mem_nil, or_false] at hp
    rcases hp with rfl | rfl
    · exact pl_int (by omega)
    · exact pl_int (by omega)
  unfold netP
  refine (pl_tup (d := 2) (c := 14000) (m := 2) (fun p hp => ?_) (by simp)).le (by omega) (by omega)
  simp only [List.mem_cons, List.not_mem_nil, or_false] at hp
  rcases hp with rfl | rfl
  · exact (pl_int (by omega)).le (by omega) (by omega)
  · exact e1.le (by omega) (by omega)
def bothP (n : Nat) (E : List Ed) (p : PyData) : PyData := .list [netP n E, p]
theorem pl_both {n : Nat} {E : List Ed} {p : PyData} (N : Net n E) (hE : E.length ≤ 200) (t : Th p) : Pl (bothP n E p) 11 200007 := by
  unfold bothP
  refine (pl_lst (d := 10) (c := 100000) (m := 2) (fun q hq => ?_) (by simp)).le (by omega) (by omega)
  simp only [List.mem_cons, List.not_mem_nil, or_false] at hq
  rcases hq with rfl | rfl
  · exact pl_net N hE
  · exact t.pl
theorem repr_both {n : Nat} {E : List Ed} {p : PyData} (N : Net n E) (hE : E.length ≤ 200) (t : Th p) : reprD [.lst [netD n E, ofP p]] h = .ok (.str (bothP n E p).shown) h := by
  have pl := pl_both N hE t
  have e : D.lst [netD n E, ofP p] = ofP (bothP n E p) := by
    unfold bothP
    rw [ofP_lst, List.map_cons, List.map_cons, List.map_nil, ofP_net]
  have tp := toP_of (h := h) (bothP n E p) 60 pl.cl (by have := pl.dep; omega)
  show strqD (.lst [netD n E, ofP p]) h = _
  rw [e]
  unfold strqD
  rw [tp]
  dsimp only
  exact if_pos ⟨rfl, by have := pl.dep; omega, pl.sw, pl.nd, by have := pl.sh; omega⟩
theorem ne_text {n : Nat} {E : List Ed} {p : PyData} (N : Net n E) (hE : E.length ≤ 200) (t : Th p) : neD (.str (bothP n E p).shown) (.str (bothP n E p).shown) h = .ok (.bl false) h := by
  have ok := A.okT_iff.mpr (A.okT_shown _ (pl_both N hE t).cl)
  rw [ev_neZ ok ok, decide_eq_true rfl]
  rfl
noncomputable def askB (K : PySem.W.Frag) : SF := (seq (asg (cll 2 (G_is_parting K) (ac (vr 4) (ac (vr 7) an))) (.nm 9))
    (seq (ife (tor (tnot (tv (oA isiD (ac (vr 9) (ac (ct (.con (.ty "bool"))) an))))) (tv (o2 neD (oA reprD (ac (oA (mkL false) (ac (vr 4) (ac (vr 7) an))) an)) (vr 8)))) (ret (ct (.bl false))) skp)
    (ife (tv (o2 neD (vr 9) (cll 2 (G_law_is_parting K) (ac (vr 4) (ac (vr 7) an))))) (ret (ct (.bl false))) skp)))
theorem ask_turn {n : Nat} {E : List Ed} {p : PyData} {x0 x1 x2 x3 x5 x6 x9 : Option D} (N : Net n E) (hE : E.length ≤ 200) (t : Th p) :
    ∃ y9 h', askB K [x0, x1, x2, x3, some (netD n E), x5, x6, some (ofP p), some (.str (bothP n E p).shown), x9] h = .nx [x0, x1, x2, x3, some (netD n E), x5, x6, some (ofP p), some (.str (bothP n E p).shown), y9] h' := by
  obtain ⟨b, h1, e1, i1, k1⟩ := parting_q (K := K) (h := h) N (by omega) t.s2
  have rp := repr_both (h := h1) N hE t
  have ne := ne_text (h := h1) N hE t
  obtain ⟨b2, h2, e2, i2, k2⟩ := lparting_q (K := K) (h := h1) N (by omega) t.s2 t.fl
  have eb : b = b2 := by
    rw [Bool.eq_iff_iff, i1, i2]
  subst eb
  have mk : mkL false [netD n E, ofP p] h1 = .ok (.lst [netD n E, ofP p]) h1 := ev_mkF (by simp)
  have ib : isiD [.bl b, .con (.ty "bool")] h1 = .ok (.bl true) h1 := rfl
  have nb : neD (.bl b) (.bl b) h2 = .ok (.bl false) h2 := by rw [ev_neB, decide_eq_true rfl]; rfl
  refine ⟨some (.bl b), h2, ?_⟩
  unfold askB
  simp -implicitDefEqProofs only [ev_seq, ev_asg, ev_cll, ev_ac, ev_vrS, ev_vr0, ev_an, bd_ok, List.length_cons, List.length_nil, if_true, g_is_parting, e1, ev_bs_ok, List.set_cons_succ, List.set_cons_zero, ev_sq_nx, ev_ife, ev_tor, ev_tnot, ev_tv, ev_oA, ev_ct, ib, ev_tst, Bool.not_true, Bool.false_eq_true, if_false, ev_o2, mk, rp, ne, ev_skp, e2, nb]
noncomputable def oneB (K : PySem.W.Frag) : SF := (seq (asg (oA reprD (ac (oA (mkL false) (ac (vr 4) (ac (vr 7) an))) an)) (.nm 8))
    (forE (rng1 (ac (ct (.int 2)) an)) (.nm 6) (askB K)))
theorem one_turn {n : Nat} {E : List Ed} {p : PyData} {x0 x1 x2 x3 x5 x6 x8 x9 : Option D} (N : Net n E) (hE : E.length ≤ 200) (t : Th p) :
    ∃ y6 y8 y9 h', oneB K [x0, x1, x2, x3, some (netD n E), x5, x6, some (ofP p), x8, x9] h = .nx [x0, x1, x2, x3, some (netD n E), x5, y6, some (ofP p), y8, y9] h' := by
  have rp := repr_both (h := h) N hE t
  have mk : mkL false [netD n E, ofP p] h = .ok (.lst [netD n E, ofP p]) h := ev_mkF (by simp)
  have rg : rng1 (ac (ct (.int 2)) an) [x0, x1, x2, x3, some (netD n E), x5, x6, some (ofP p), some (.str (bothP n E p).shown), x9] h = .ok (rgI 0 2) h := ev_rng1 (by simp only [ev_ac, ev_ct, ev_an, bd_ok]) (by unfold smR; omega)
  obtain ⟨e1, h1, lp, y6, y9, rfl⟩ := for_g (t := .nm 6) rg (body := askB K) (I := fun j e _ => ∃ y6 y9, e = [x0, x1, x2, x3, some (netD n E), x5, y6, some (ofP p), some (.str (bothP n E p).shown), y9]) ⟨_, _, rfl⟩ (fun _ _ _ _ => so_nil) (fun j e g d hI hd => by
      obtain ⟨y6, y9, rfl⟩ := hI
      obtain ⟨z9, g', tt⟩ := ask_turn (K := K) (h := g) (x0 := x0) (x1 := x1) (x2 := x2) (x3 := x3) (x5 := x5) (x6 := some d) (x9 := y9) N hE t
      exact ⟨_, _, g', rfl, .inl tt, _, _, rfl⟩)
  refine ⟨y6, some (.str (bothP n E p).shown), y9, h1, ?_⟩
  unfold oneB
  simp -implicitDefEqProofs only [ev_seq, ev_asg, ev_oA, ev_ac, ev_vrS, ev_vr0, ev_an, bd_ok, mk, rp, ev_bs_ok, List.set_cons_succ, List.set_cons_zero, ev_sq_nx]
  exact lp
noncomputable def bendB (K : PySem.W.Frag) : SF := (ife (tand (tv (o2 neD (vr 5) (oA mkT an))) (tv (cll 2 (G_law_is_parting K) (ac (vr 4) (ac (vr 5) an))))) (asg (cll 3 (G_law_bent K) (ac (vr 2) (ac (vr 4) (ac (vr 5) an)))) (.nm 5)) skp)
theorem bend_turn {b c n : Nat} {E : List Ed} {p : PyData} {x0 x1 x3 x6 x7 x8 x9 : Option D} (hb : Bg h b c) (hc : c ≤ 300000) (N : Net n E) (hE : E.length ≤ 200) (t : Th p) :
    ∃ (p' : PyData) (h' : DH), bendB K [x0, x1, some (.ref b), x3, some (netD n E), some (ofP p), x6, x7, x8, x9] h = .nx [x0, x1, some (.ref b), x3, some (netD n E), some (ofP p'), x6, x7, x8, x9] h' ∧ Th p' ∧ Bg h' b (c + 30) := by
  obtain ⟨b0, e0⟩ := ne_emp (h := h) t.fl
  have mk : mkT [] h = .ok (.tup []) h := ev_mkT (by simp)
  cases b0 with
  | false =>
    refine ⟨p, h, ?_, t, hb.le (by omega)⟩
    unfold bendB
    simp -implicitDefEqProofs only [ev_ife, ev_tand, ev_tv, ev_o2, ev_oA, ev_vrS, ev_vr0, ev_an, bd_ok, mk, e0, ev_tst, Bool.false_eq_true, if_false, ev_bs_ok, ev_skp]
  | true =>
    obtain ⟨b2, h1, e1, i1, k1⟩ := lparting_q (K := K) (h := h) N (by omega) t.s2 t.fl
    have hb1 : Bg h1 b c := hb.kept (k1.2 b hb.lt)
    cases b2 with
    | false =>
      refine ⟨p, h1, ?_, t, hb1.le (by omega)⟩
      unfold bendB
      simp -implicitDefEqProofs only [ev_ife, ev_tand, ev_tv, ev_o2, ev_oA, ev_vrS, ev_vr0, ev_an, bd_ok, mk, e0, ev_tst, if_true, ev_cll, ev_ac, List.length_cons, List.length_nil, e1, Bool.false_eq_true, if_false, ev_bs_ok, ev_skp]
    | true =>
      obtain ⟨qs, ep, P⟩ := i1.mp rfl
      have eo : ofP p = prsT qs := by rw [ep]; exact ofP_rows
      obtain ⟨p', h2, e2, t2, b2, g2⟩ := bent_ok (K := K) hb1 (by omega) N P
      refine ⟨p', h2, ?_, t2, b2.le (by omega)⟩
      unfold bendB
      simp -implicitDefEqProofs only [ev_ife, ev_tand, ev_tv, ev_o2, ev_oA, ev_vrS, ev_vr0, ev_an, bd_ok, mk, e0, ev_tst, if_true, ev_cll, ev_ac, List.length_cons, List.length_nil, e1, ev_bs_ok, ev_asg]
      rw [eo]
      simp -implicitDefEqProofs only [e2, ev_bs_ok, List.set_cons_succ, List.set_cons_zero]
noncomputable def cellB (K : PySem.W.Frag) : SF := (seq (asg (cll 2 (G_law_bag K) (ac (cll 2 (G_law_cell_at K) (ac (vr 0) (ac (vr 1) an))) (ac (vr 1) an))) (.nm 2))
    (seq (asg (o2 ixD (oA (mkL false) (ac (ct (.int 0)) (ac (ct (.int 1)) (ac (ct (.int 1)) (ac (ct (.int 2)) an))))) (cll 2 (G_law_take K) (ac (vr 2) (ac (ct (.int 4)) an)))) (.nm 3))
    (seq (asg (cll 2 (G_law_net K) (ac (vr 2) (ac (o2 ixD (oA (mkL false) (ac (ct (.int 5)) (ac (ct (.int 16)) an))) (cll 2 (G_law_take K) (ac (vr 2) (ac (ct (.int 2)) an)))) an))) (.nm 4))
    (seq (asg (cll 2 (G_law_parting K) (ac (vr 2) (ac (vr 4) an))) (.nm 5))
    (seq (forE (rng1 (ac (vr 3) an)) (.nm 6) (bendB K))
    (forE (isq (oA (mkL false) (ac (vr 5) (ac (cll 2 (G_law_odd K) (ac (vr 2) (ac (vr 4) an))) an)))) (.nm 7) (oneB K)))))))
theorem cell_turn {ns : List Int} {k : Nat} {x2 x3 x4 x5 x6 x7 x8 x9 : Option D} (hk : k ≤ 100) : ∃ y2 y3 y4 y5 y6 y7 y8 y9 h', cellB K [some (.scr ns), some (.int k), x2, x3, x4, x5, x6, x7, x8, x9] h = .nx [some (.scr ns), some (.int k), y2, y3, y4, y5, y6, y7, y8, y9] h' := by
  obtain ⟨z, e1⟩ := B.cell_ok (K := K) (h := h) (ns := ns) (k := k)
  obtain ⟨bs, e2, hb⟩ := B.bag_ok (K := K) (h := h) (c := z) (k := k) (by omega)
  obtain ⟨b, eb⟩ : ∃ b, b = h.length := ⟨_, rfl⟩
  obtain ⟨h1, eh1⟩ : ∃ h1, h1 = h ++ [Dt.O.lst bs] := ⟨_, rfl⟩
  rw [← eh1, ← eb] at hb e2
  obtain ⟨f, h2, e3, lf, b2, s2⟩ := B.take (K := K) (m := 4) hb (by omega) (by decide) (by decide)
  obtain ⟨m, em, m9⟩ : ∃ m : Nat, ([D.int 0, .int 1, .int 1, .int 2])[f]? = some (.int (m : Int)) ∧ m ≤ 2 := by
    have : f = 0 ∨ f = 1 ∨ f = 2 ∨ f = 3 := by omega
    rcases this with rfl | rfl | rfl | rfl
    · exact ⟨0, rfl, by decide⟩
    · exact ⟨1, rfl, by decide⟩
    · exact ⟨1, rfl, by decide⟩
    · exact ⟨2, rfl, by decide⟩
  have mk1 : mkL false [.int 0, .int 1, .int 1, .int 2] h1 = .ok (.lst [.int 0, .int 1, .int 1, .int 2]) h1 := ev_mkF (by simp)
  have ix1 : ixD (.lst [.int 0, .int 1, .int 1, .int 2]) (.int (f : Int)) h2 = .ok (.int (m : Int)) h2 := ev_ixL em
  obtain ⟨r, h3, e4, lr, b3, s3⟩ := B.take (K := K) (m := 2) b2 (by omega) (by decide) (by decide)
  obtain ⟨most, em2, m1, m2⟩ : ∃ most : Nat, ([D.int 5, .int 16])[r]? = some (.int (most : Int)) ∧ 1 ≤ most ∧ most ≤ 16 := by
    have : r = 0 ∨ r = 1 := by omega
    rcases this with rfl | rfl
    · exact ⟨5, rfl, by decide, by decide⟩
    · exact ⟨16, rfl, by decide, by decide⟩
  have mk2 : mkL false [.int 5, .int 16] h2 = .ok (.lst [.int 5, .int 16]) h2 := ev_mkF (by simp)
  have ix2 : ixD (.lst [.int 5, .int 16]) (.int (r : Int)) h3 = .ok (.int (most : Int)) h3 := ev_ixL em2
  obtain ⟨n, E, h4, e5, N, nm, el, b4, g4⟩ := B.net_ok (K := K) (most := most) b3 (by omega) m1 m2
  have n16 := N.le
  obtain ⟨ps, h5, e6, P, b5, g5⟩ := B.law_parting_ok (K := K) b4 (by omega) N (by omega)
  have pl := P.few
  have t0 : Th (.tuple (ps.map rP)) := th_rows (by omega) fun q hq => ⟨by have := P.len hq; omega, fun x hx => by have := P.lt hq hx; omega⟩
  rw [← g_take] at e3 e4
  have rg : rng1 (ac (vr 3) an) [some (.scr ns), some (.int k), some (.ref b), some (.int (m : Nat)), some (netD n E), some (prsT ps), x6, x7, x8, x9] h5 = .ok (rgI 0 (m : Int)) h5 := ev_rng1 (by simp only [ev_ac, ev_vrS, ev_vr0, ev_an, bd_ok]) (by unfold smR; omega)
  obtain ⟨e7, h6, lp, ⟨y6, p, rfl, tp, b6⟩⟩ := for_g (t := .nm 6) rg (body := bendB K) (I := fun j e g => ∃ (y6 : Option D) (p : PyData), e = [some (.scr ns), some (.int k), some (.ref b), some (.int (m : Nat)), some (netD n E), some (ofP p), y6, x7, x8, x9] ∧ Th p ∧ Bg g b (2000 + 30 * j))
    ⟨_, _, by rw [ofP_rows], t0, b5.le (by omega)⟩ (fun _ _ _ _ => so_nil) (fun j e g d hI hd => by
      obtain ⟨y6, p, rfl, tp, bg⟩ := hI
      have hj := (List.getElem?_eq_some_iff.mp hd).1
      have jl : j < m := by
        have : (rgI 0 (m : Int)).items.length = m := by unfold rgI; simp
        omega
      obtain ⟨p', g', t, tp', bg'⟩ := bend_turn (K := K) (x0 := some (.scr ns)) (x1 := some (.int k)) (x3 := some (.int (m : Nat))) (x6 := some d) (x7 := x7) (x8 := x8) (x9 := x9) bg (by omega) N el tp
      exact ⟨_, _, g', rfl, .inl t, _, p', rfl, tp', bg'.le (by omega)⟩)
  have il : (rgI 0 (m : Int)).items.length = m := by unfold rgI; simp
  rw [il] at b6
  obtain ⟨o, h7, e8, om, b7, g7⟩ := odd_ok (K := K) (E := E) b6 (by omega) n16
  have mk3 : mkL false [ofP p, ofP o] h7 = .ok (.lst ([p, o].map ofP)) h7 := ev_mkF (by simp)
  have hi : isq (oA (mkL false) (ac (vr 5) (ac (cll 2 (G_law_odd K) (ac (vr 2) (ac (vr 4) an))) an))) [some (.scr ns), some (.int k), some (.ref b), some (.int (m : Nat)), some (netD n E), some (ofP p), y6, x7, x8, x9] h6 = .ok ⟨[], [p, o].map ofP⟩ h7 := by
    simp -implicitDefEqProofs only [ev_isq, ev_oA, ev_ac, ev_cll, ev_vrS, ev_vr0, ev_an, bd_ok, List.length_cons, List.length_nil, if_true, e8, mk3, ev_sqL]
  obtain ⟨e9, h8, lp2, y6', y7, y8, y9, rfl⟩ := for_g (t := .nm 7) hi (body := oneB K) (I := fun j e _ => ∃ y6 y7 y8 y9, e = [some (.scr ns), some (.int k), some (.ref b), some (.int (m : Nat)), some (netD n E), some (ofP p), y6, y7, y8, y9]) ⟨_, _, _, _, rfl⟩ (fun _ _ _ _ => so_nil) (fun j e g d hI hd => by
      obtain ⟨y6, y7, y8, y9, rfl⟩ := hI
      dsimp only at hd
      rw [List.getElem?_map] at hd
      obtain ⟨q, hq, rfl⟩ := Option.map_eq_some_iff.mp hd
      have tq : Th q := by
        have := List.mem_of_getElem? hq
        simp only [List.mem_cons, List.not_mem_nil, or_false] at this
        rcases this with rfl | rfl
        · exact tp
        · exact odd_th (by omega) om
      obtain ⟨z6, z8, z9, g', t⟩ := one_turn (K := K) (h := g) (x0 := some (.scr ns)) (x1 := some (.int k)) (x2 := some (.ref b)) (x3 := some (.int (m : Nat))) (x5 := some (ofP p)) (x6 := y6) (x8 := y8) (x9 := y9) N el tq
      exact ⟨_, _, g', rfl, .inl t, _, _, _, _, rfl⟩)
  refine ⟨some (.ref b), some (.int (m : Nat)), some (netD n E), some (ofP p), y6', y7, y8, y9, h8, ?_⟩
  unfold cellB
  simp -implicitDefEqProofs only [ev_seq, ev_asg, ev_cll, ev_ac, ev_vrS, ev_vr0, ev_an, bd_ok, List.length_cons, List.length_nil, if_true, g_cell, e1, g_bag, e2, ev_bs_ok, List.set_cons_succ, List.set_cons_zero, ev_sq_nx, ev_ct, ev_o2, ev_oA, mk1, e3, ix1, mk2, e4, ix2, g_net, e5, g_parting, e6]
  rw [lp]
  simp -implicitDefEqProofs only [ev_sq_nx]
  exact lp2
theorem law_true {w : World} {mg : Str → Option Value} (T : Fx K w mg) (ns : List Int) (hl : ns.length ≤ 63) : ∃ h, G_law K [.scr ns] [] = .ok (.bl true) h := by
  obtain ⟨j, ej⟩ : ∃ j : Int, j = max 1 (min 16 (ns.length : Int)) := ⟨_, rfl⟩
  have er : rng1 (ac (oA max2D (ac (ct (.int 1)) (ac (oA min2D (ac (ct (.int 16)) (ac (oA lenD (ac (vr 0) an)) an))) an))) an) [some (.scr ns), none, none, none, none, none, none, none, none, none] [] = .ok (rgI 0 j) [] :=
    ev_rng1 (by simp only [ev_ac, ev_oA, ev_ct, ev_an, ev_vr0, bd_ok, ev_lenS, ev_min, ev_max, ej]) (by unfold smR; omega)
  obtain ⟨ef, hf, lp, z1, z2, z3, z4, z5, z6, z7, z8, z9, rfl⟩ := for_g (t := .nm 1) (fi := rng1 (ac (oA max2D (ac (ct (.int 1)) (ac (oA min2D (ac (ct (.int 16)) (ac (oA lenD (ac (vr 0) an)) an))) an))) an)) (env := [some (.scr ns), none, none, none, none, none, none, none, none, none]) (h := [])
    (body := cellB K)
    (fun _ e _ => ∃ z1 z2 z3 z4 z5 z6 z7 z8 z9, e = [some (.scr ns), z1, z2, z3, z4, z5, z6, z7, z8, z9]) er ⟨_, _, _, _, _, _, _, _, _, rfl⟩ (fun _ _ _ _ => so_nil) (fun k e g d hI hd => by
      obtain ⟨z1, z2, z3, z4, z5, z6, z7, z8, z9, rfl⟩ := hI
      have hk0 := (List.getElem?_eq_some_iff.mp hd).1
      obtain ⟨hk, rfl⟩ := range_get (lo := 0) (n := (j - 0).toNat) hd
      rw [Int.zero_add]
      obtain ⟨y2, y3, y4, y5, y6, y7, y8, y9, g2, e3⟩ := cell_turn (K := K) (h := g) (ns := ns) (k := k) (x2 := z2) (x3 := z3) (x4 := z4) (x5 := z5) (x6 := z6) (x7 := z7) (x8 := z8) (x9 := z9) (by omega)
      exact ⟨_, _, g2, rfl, .inl e3, _, _, _, _, _, _, _, _, _, rfl⟩)
  refine ⟨hf, raw_of ?_⟩
  rw [show startD N_law [.scr ns] = [some (.scr ns), none, none, none, none, none, none, none, none, none] from rfl]
  unfold b_law
  unfold cellB bendB oneB askB at lp
  simp only [ev_seq]
  rw [lp]
  simp only [ev_sq_nx, ev_ret, ev_ct, ev_bs_ok]
end P03
open PySem PySem.W PySem.Calls PyProof.Rows
theorem PySem.Challenge.cw_beatnet_k03_what_is_a_parting_holds : PySem.Challenge.rw_beatnet_k03_what_is_a_parting.Holds := by
  w_on; o_law
  refine HandSHeadRun.head_any (r := OpenLaw.row PySem.Challenge.rw_beatnet_k03_what_is_a_parting) (q := view (OpenLaw.row PySem.Challenge.rw_beatnet_k03_what_is_a_parting).prog [29]) (H := P03.hk) (ob := P03.ob) (M := 3000) (loose := P03.nms) (d := HandSHeadRun.topDef (OpenLaw.row PySem.Challenge.rw_beatnet_k03_what_is_a_parting).prog 29) (kwd := []) P03.ob_eq
    (by kernel_rfl) (fun s => by kernel_rfl) P03.headRun (by kernel_rfl) (by kernel_rfl) (by kernel_rfl) (by rfl) (by first | assumption | decide +kernel) (by decide +kernel) ⟨rfl, rfl, rfl, rfl, rfl, by decide +kernel⟩ ?hw ?hc
  case hw => w_witness2
  case hc =>
    refine Dt.walk_dtG (l := PySem.Challenge.rw_beatnet_k03_what_is_a_parting) (n := 63) (k := 7) (x := "script") rfl (by decide) (by kernel_rfl) ⟨rfl, by decide, by decide⟩ ?_
    intro w mg fa h Y G hmg0
    obtain ⟨K, KX, c⟩ := Y
    have hmg : mg ("law" : PySem.Str) = some (.ref fa) := by
      have e : (HandSHeadRun.topDef (OpenLaw.row PySem.Challenge.rw_beatnet_k03_what_is_a_parting).prog 29).name = ("law" : PySem.Str) := by kernel_rfl
      rw [← e]
      exact hmg0
    obtain ⟨T⟩ := P03.facts KX G c
    have c := c.d
    have e := hmg.symm.trans (He.glo_ok KX G (c.fact 39 (f := .glo "law") rfl))
    cases e
    exact ⟨K, T.fd_law, P03.G_law K, KX, fun s u => T.F_law.bindsA (ps := ["script"]) (fun _ _ _ _ _ _ us hl => match us, hl with | [_], _ => rfl) s [u] rfl, fun ns hl => P03.law_true T ns hl, fun base _ _ => P03.ok_law T⟩

