import PyProof.Rows.All
import Wide.All
import OpenK.AllK
import Wide.FinOn
import HandS.ForMost
import HandS.ForExc
import HandS.Walk
import HandS.DictTup
import HandS.Zip
import KE.KTupSum
import HandS.IsInst
import HandS.Defaults
import HandS.SuiteRaise
import KE.GoesNew
import KE.GoesDict
import KE.KDictCopyH
import KE.KDictSum
import HandS.Deep
import HandS.Flow
import HandS.SortRule
import HandS.Records
import KE.DataAny
import HandS.Style
import HandS.TupAny
import KE.DataMinMax
import HandS.DictEq
import HandS.OwnEq
import PyProof.DictFindH
import HandS.HeadHook2
import KE.GoesEnum
import HandS.Head0
import HandS.Head1
import HandS.Head2
import HandS.HeadEnd
import HandS.HeadHook1
import KE.KStateDown
import PySem.Challenge.RW_stillshot_k11_whole_cuts_hold_causes
set_option Elab.async false
set_option linter.all false
set_option maxRecDepth 100000
set_option maxHeartbeats 0
namespace SS
open PySem L2

/-! ### the logical store -/
inductive Fld where
  | tmp
  | mI | mP | mR | mRo (a b : Nat) | eI | eTold | eSt | eTi | eLa | mS
  | sI (k : Nat) | sW (k : Nat) | sC (k : Nat) | sWa (k : Nat) | sLy (k : Nat) | sLi (k a b : Nat)
  | hT | hC | hR | hRo (a b : Nat) | hL | hS | hN
  | gT (k : Nat) | gC (k : Nat) | gCut (k : Nat) | gWa (k : Nat) | gLy (k : Nat) | gLi (k a b : Nat)
  | x0 (n : Nat) | x2 (n a b : Nat)
  deriving DecidableEq
/-- a value: tuples are deep, objects that change are named by region and field; rol: a list that nobody changes -/
inductive D where
  | non | bl (b : Bool) | int (i : Int) | str (x : Str) | tup (ds : List D) | loc (r : Nat) (f : Fld) | rol (ns : List Int) | raw (v : V)
inductive LO where
  | lst (ds : List D)
  | dT (kvs : List (List Key × D))
  | dK (kvs : List (Key × D))
  | ins (C : Addr) (fs : List (Str × D))
  | frz (u : LO)
abbrev Rho := Nat → Fld → Option Addr
abbrev Store := Nat → Fld → Option LO
def Store.set (S : Store) (r : Nat) (f : Fld) (o : LO) : Store := fun r' f' => if r' = r ∧ f' = f then some o else S r' f'
theorem set_same {S : Store} {r : Nat} {f : Fld} {o : LO} : S.set r f o r f = some o := by unfold Store.set; rw [if_pos ⟨rfl, rfl⟩]
theorem set_nf {S : Store} {r r' : Nat} {f f' : Fld} {o : LO} (h : f' ≠ f) : S.set r f o r' f' = S r' f' := by
  unfold Store.set; rw [if_neg fun e => h e.2]
theorem set_nr {S : Store} {r r' : Nat} {f f' : Fld} {o : LO} (h : r' ≠ r) : S.set r f o r' f' = S r' f' := by
  unfold Store.set; rw [if_neg fun e => h e.1]
theorem set_set {S : Store} {r : Nat} {f : Fld} {o o' : LO} : (S.set r f o).set r f o' = S.set r f o' := by
  funext r' f'; unfold Store.set; split <;> rfl
/-- a list that is read and never written -/
def RoL (K : PySem.W.Frag) (H : Hp) (a : Addr) (xs : List V) : Prop :=
  (∃ o, H a = some (.frz o (.lst xs))) ∨
    ∃ (o : Obj) (its : Array Value) (n : Nat), K.lookup a = some o ∧ o.cls = .type "list" ∧ o.dict = none ∧ o.data = .seq its n ∧ its.size ≤ sizeLine ∧ Vals xs its.toList
theorem RoL.sq {K : PySem.W.Frag} {H : Hp} {a : Addr} {xs : List V} (h : RoL K H a xs) : SqL K H a xs := by
  rcases h with ⟨o, h⟩ | h
  · exact .inl (.inr ⟨o, h⟩)
  · exact .inr h
mutual
inductive VR (K : PySem.W.Frag) (ρ : Rho) (H : Hp) : V → D → Prop
  | non : VR K ρ H .non .non
  | bl (b : Bool) : VR K ρ H (.bl b) (.bl b)
  | int (i : Int) : VR K ρ H (.int i) (.int i)
  | str (x : Str) : VR K ρ H (.str x) (.str x)
  | tup {a : Addr} {vs : List V} {ds : List D} : H a = some (.tup vs) → VRs K ρ H vs ds → VR K ρ H (.ref a) (.tup ds)
  | loc {r : Nat} {f : Fld} {a : Addr} : ρ r f = some a → VR K ρ H (.ref a) (.loc r f)
  | rol {a : Addr} {ns : List Int} : RoL K H a (ns.map V.int) → VR K ρ H (.ref a) (.rol ns)
  | raw (v : V) : VR K ρ H v (.raw v)
inductive VRs (K : PySem.W.Frag) (ρ : Rho) (H : Hp) : List V → List D → Prop
  | nil : VRs K ρ H [] []
  | cons {v : V} {vs : List V} {d : D} {ds : List D} : VR K ρ H v d → VRs K ρ H vs ds → VRs K ρ H (v :: vs) (d :: ds)
end
/-- what stays: tuples, locked lists, the names' places -/
structure Ext0 (ρ : Rho) (H : Hp) (ρ' : Rho) (H' : Hp) : Prop where
  rho : ∀ r f a, ρ r f = some a → ρ' r f = some a
  tup : ∀ a xs, H a = some (.tup xs) → H' a = some (.tup xs)
  ro : ∀ a o xs, H a = some (.frz o (.lst xs)) → H' a = some (.frz o (.lst xs))
/-- and whatever is locked -/
structure Ext (ρ : Rho) (H : Hp) (ρ' : Rho) (H' : Hp) : Prop where
  rho : ∀ r f a, ρ r f = some a → ρ' r f = some a
  tup : ∀ a xs, H a = some (.tup xs) → H' a = some (.tup xs)
  fz : ∀ a o u, H a = some (.frz o u) → H' a = some (.frz o u)
theorem Ext.e0 {ρ ρ' : Rho} {H H' : Hp} (e : Ext ρ H ρ' H') : Ext0 ρ H ρ' H' := ⟨e.rho, e.tup, fun a o xs h => e.fz a o _ h⟩
theorem Ext.refl {ρ : Rho} {H : Hp} : Ext ρ H ρ H := ⟨fun _ _ _ h => h, fun _ _ h => h, fun _ _ _ h => h⟩
theorem Ext.trans {ρ ρ1 ρ2 : Rho} {H H1 H2 : Hp} (a : Ext ρ H ρ1 H1) (b : Ext ρ1 H1 ρ2 H2) : Ext ρ H ρ2 H2 :=
  ⟨fun r f x h => b.rho r f x (a.rho r f x h), fun x xs h => b.tup x xs (a.tup x xs h), fun x o xs h => b.fz x o xs (a.fz x o xs h)⟩
theorem RoL.mono0 {K : PySem.W.Frag} {ρ ρ' : Rho} {H H' : Hp} {a : Addr} {xs : List V} (e : Ext0 ρ H ρ' H') (h : RoL K H a xs) : RoL K H' a xs := by
  rcases h with ⟨o, h⟩ | h
  · exact .inl ⟨o, e.ro _ _ _ h⟩
  · exact .inr h
section
variable {K : PySem.W.Frag} {ρ ρ' : Rho} {H H' : Hp}
mutual
theorem VR.mono0 (e : Ext0 ρ H ρ' H') : ∀ {v : V} {d : D}, VR K ρ H v d → VR K ρ' H' v d
  | _, _, .non => .non
  | _, _, .bl b => .bl b
  | _, _, .int i => .int i
  | _, _, .str x => .str x
  | _, _, .tup h r => .tup (e.tup _ _ h) (VRs.mono0 e r)
  | _, _, .loc h => .loc (e.rho _ _ _ h)
  | _, _, .rol h => .rol (h.mono0 e)
  | _, _, .raw v => .raw v
theorem VRs.mono0 (e : Ext0 ρ H ρ' H') : ∀ {vs : List V} {ds : List D}, VRs K ρ H vs ds → VRs K ρ' H' vs ds
  | _, _, .nil => .nil
  | _, _, .cons h t => .cons (VR.mono0 e h) (VRs.mono0 e t)
end
theorem VRs.length : ∀ {vs : List V} {ds : List D}, VRs K ρ H vs ds → vs.length = ds.length
  | _, _, .nil => rfl
  | _, _, .cons _ t => by rw [List.length_cons, List.length_cons, VRs.length t]
theorem VRs.get : ∀ {vs : List V} {ds : List D} {i : Nat} {d : D}, VRs K ρ H vs ds → ds[i]? = some d → ∃ v, vs[i]? = some v ∧ VR K ρ H v d
  | _, _, _, _, .nil, e => by simp at e
  | _, _, 0, _, .cons r _, e => by simp at e; subst e; exact ⟨_, rfl, r⟩
  | _, _, i + 1, d, .cons _ t, e => by
    obtain ⟨u, h1, h2⟩ := VRs.get (i := i) (d := d) t (by simpa using e)
    exact ⟨u, by simpa using h1, h2⟩
theorem VRs.get' : ∀ {vs : List V} {ds : List D} {i : Nat} {v : V}, VRs K ρ H vs ds → vs[i]? = some v → ∃ d, ds[i]? = some d ∧ VR K ρ H v d
  | _, _, _, _, .nil, e => by simp at e
  | _, _, 0, _, .cons r _, e => by simp at e; subst e; exact ⟨_, rfl, r⟩
  | _, _, i + 1, d, .cons _ t, e => by
    obtain ⟨u, h1, h2⟩ := VRs.get' (i := i) (v := d) t (by simpa using e)
    exact ⟨u, by simpa using h1, h2⟩
theorem VRs.append : ∀ {vs ws : List V} {ds es : List D}, VRs K ρ H vs ds → VRs K ρ H ws es → VRs K ρ H (vs ++ ws) (ds ++ es)
  | _, _, _, _, .nil, s => s
  | _, _, _, _, .cons r t, s => .cons r (VRs.append t s)
theorem VRs.set {v : V} {d : D} (r : VR K ρ H v d) : ∀ {vs : List V} {ds : List D} (i : Nat), VRs K ρ H vs ds → VRs K ρ H (vs.set i v) (ds.set i d)
  | _, _, _, .nil => .nil
  | _, _, 0, .cons _ t => .cons r t
  | _, _, i + 1, .cons q t => .cons q (VRs.set r i t)
theorem VRs.eraseIdx : ∀ {vs : List V} {ds : List D} (i : Nat), VRs K ρ H vs ds → VRs K ρ H (vs.eraseIdx i) (ds.eraseIdx i)
  | _, _, _, .nil => .nil
  | _, _, 0, .cons _ t => t
  | _, _, i + 1, .cons q t => .cons q (VRs.eraseIdx i t)
theorem VRs.take : ∀ {vs : List V} {ds : List D} (n : Nat), VRs K ρ H vs ds → VRs K ρ H (vs.take n) (ds.take n)
  | _, _, 0, _ => .nil
  | _, _, _ + 1, .nil => .nil
  | _, _, n + 1, .cons r t => .cons r (VRs.take n t)
theorem VRs.drop : ∀ {vs : List V} {ds : List D} (n : Nat), VRs K ρ H vs ds → VRs K ρ H (vs.drop n) (ds.drop n)
  | _, _, 0, r => r
  | _, _, _ + 1, .nil => .nil
  | _, _, n + 1, .cons _ t => VRs.drop n t
theorem VRs.ints {ns : List Int} : ∀ {vs : List V}, VRs K ρ H vs (ns.map D.int) → vs = ns.map V.int := by
  induction ns with
  | nil => intro vs h; cases h; rfl
  | cons n ns ih =>
    intro vs h
    cases h with
    | cons a t =>
      cases a
      rw [ih t, List.map_cons]
theorem VRs.ofInts : ∀ (ns : List Int), VRs K ρ H (ns.map V.int) (ns.map D.int)
  | [] => .nil
  | n :: ns => .cons (.int n) (VRs.ofInts ns)
theorem VRs.bls {ns : List Bool} : ∀ {vs : List V}, VRs K ρ H vs (ns.map D.bl) → vs = ns.map V.bl := by
  induction ns with
  | nil => intro vs h; cases h; rfl
  | cons n ns ih =>
    intro vs h
    cases h with
    | cons a t =>
      cases a
      rw [ih t, List.map_cons]
end

/-! ### pairs -/
section
variable {κ : Type}
inductive KR (K : PySem.W.Frag) (ρ : Rho) (H : Hp) : List (κ × V) → List (κ × D) → Prop
  | nil : KR K ρ H [] []
  | cons {k : κ} {v : V} {d : D} {vs : List (κ × V)} {ds : List (κ × D)} : VR K ρ H v d → KR K ρ H vs ds → KR K ρ H ((k, v) :: vs) ((k, d) :: ds)
variable {K : PySem.W.Frag} {ρ ρ' : Rho} {H H' : Hp}
theorem KR.mono0 (e : Ext0 ρ H ρ' H') : ∀ {vs : List (κ × V)} {ds : List (κ × D)}, KR K ρ H vs ds → KR K ρ' H' vs ds
  | _, _, .nil => .nil
  | _, _, .cons h t => .cons (h.mono0 e) (KR.mono0 e t)
theorem KR.length : ∀ {vs : List (κ × V)} {ds : List (κ × D)}, KR K ρ H vs ds → vs.length = ds.length
  | _, _, .nil => rfl
  | _, _, .cons _ t => by rw [List.length_cons, List.length_cons, KR.length t]
theorem KR.get' : ∀ {vs : List (κ × V)} {ds : List (κ × D)} {i : Nat} {k : κ} {v : V}, KR K ρ H vs ds → vs[i]? = some (k, v) → ∃ d, ds[i]? = some (k, d) ∧ VR K ρ H v d
  | _, _, _, _, _, .nil, e => by simp at e
  | _, _, 0, _, _, .cons r _, e => by
    simp at e; obtain ⟨rfl, rfl⟩ := e; exact ⟨_, rfl, r⟩
  | _, _, i + 1, k, v, .cons _ t, e => by
    obtain ⟨u, h1, h2⟩ := KR.get' (i := i) (k := k) (v := v) t (by simpa using e)
    exact ⟨u, by simpa using h1, h2⟩
variable [DecidableEq κ]
def dget {α : Type} (kvs : List (κ × α)) (k : κ) : Option α := (kvs.find? fun kv => decide (kv.1 = k)).map (·.2)
def dput {α : Type} (kvs : List (κ × α)) (k : κ) (v : α) : List (κ × α) :=
  if (kvs.any fun kv => decide (kv.1 = k)) = true then kvs.map (fun kv => if kv.1 = k then (kv.1, v) else kv) else kvs ++ [(k, v)]
def ddrop {α : Type} (kvs : List (κ × α)) (k : κ) : List (κ × α) := kvs.filter fun kv => decide (kv.1 ≠ k)
theorem KR.val {k : κ} {d : D} : ∀ {vs : List (κ × V)} {ds : List (κ × D)}, KR K ρ H vs ds → dget ds k = some d → ∃ v, valV vs k = some v ∧ VR K ρ H v d
  | _, _, .nil, e => by simp [dget] at e
  | _, _, .cons (k := k') (v := v) (d := d') h t, e => by
    by_cases hk : k' = k
    · refine ⟨v, valV_pos hk, ?_⟩
      unfold dget at e
      rw [List.find?_cons_of_pos (by simpa using hk)] at e
      cases e; exact h
    · unfold dget at e
      rw [List.find?_cons_of_neg (by simpa using hk)] at e
      obtain ⟨w, h1, h2⟩ := KR.val t e
      exact ⟨w, by rw [valV_neg hk]; exact h1, h2⟩
theorem KR.valN {k : κ} : ∀ {vs : List (κ × V)} {ds : List (κ × D)}, KR K ρ H vs ds → dget ds k = none → valV vs k = none
  | _, _, .nil, e => rfl
  | _, _, .cons (k := k') (v := v) (d := d') h t, e => by
    by_cases hk : k' = k
    · unfold dget at e
      rw [List.find?_cons_of_pos (by simpa using hk)] at e
      cases e
    · unfold dget at e
      rw [List.find?_cons_of_neg (by simpa using hk)] at e
      rw [valV_neg hk]; exact KR.valN t e
theorem KR.isSome {k : κ} {vs : List (κ × V)} {ds : List (κ × D)} (h : KR K ρ H vs ds) : (valV vs k).isSome = (dget ds k).isSome := by
  cases e : dget ds k with
  | none => rw [h.valN e]; rfl
  | some d => obtain ⟨v, h1, _⟩ := h.val e; rw [h1]; rfl
theorem KR.map {k : κ} {v : V} {d : D} (r : VR K ρ H v d) : ∀ {vs : List (κ × V)} {ds : List (κ × D)}, KR K ρ H vs ds →
    KR K ρ H (vs.map fun kv => if kv.1 = k then (kv.1, v) else kv) (ds.map fun kv => if kv.1 = k then (kv.1, d) else kv)
  | _, _, .nil => .nil
  | _, _, .cons (k := k') h t => by
    rw [List.map_cons, List.map_cons]
    by_cases hk : k' = k
    · simp only [hk, if_true]; exact .cons r (KR.map r t)
    · simp only [hk, if_false]; exact .cons h (KR.map r t)
theorem KR.app : ∀ {vs ws : List (κ × V)} {ds es : List (κ × D)}, KR K ρ H vs ds → KR K ρ H ws es → KR K ρ H (vs ++ ws) (ds ++ es)
  | _, _, _, _, .nil, s => s
  | _, _, _, _, .cons r t, s => .cons r (KR.app t s)
theorem KR.any {k : κ} : ∀ {vs : List (κ × V)} {ds : List (κ × D)}, KR K ρ H vs ds → (vs.any fun kv => decide (kv.1 = k)) = ds.any fun kv => decide (kv.1 = k)
  | _, _, .nil => rfl
  | _, _, .cons h t => by rw [List.any_cons, List.any_cons, KR.any t]
theorem KR.put {k : κ} {v : V} {d : D} (r : VR K ρ H v d) {vs : List (κ × V)} {ds : List (κ × D)} (h : KR K ρ H vs ds) : KR K ρ H (putK vs k v) (dput ds k d) := by
  unfold putK dput
  rw [h.any]
  split
  · exact h.map r
  · exact h.app (.cons r .nil)
theorem KR.drop {k : κ} : ∀ {vs : List (κ × V)} {ds : List (κ × D)}, KR K ρ H vs ds → KR K ρ H (dropK vs k) (ddrop ds k)
  | _, _, .nil => .nil
  | _, _, .cons (k := k') h t => by
    unfold dropK ddrop
    by_cases hk : k' = k
    · rw [List.filter_cons_of_neg (by simpa using hk), List.filter_cons_of_neg (by simpa using hk)]; exact KR.drop t
    · rw [List.filter_cons_of_pos (by simpa using hk), List.filter_cons_of_pos (by simpa using hk)]; exact .cons h (KR.drop t)
end
/-- the attributes of an instance -/
def fput (f : Str) (v : D) : List (Str × D) → List (Str × D)
  | [] => [(f, v)]
  | (g, x) :: r => if g = f then (g, v) :: r else (g, x) :: fput f v r
section
variable {K : PySem.W.Frag} {ρ ρ' : Rho} {H H' : Hp}
theorem KR.fput {f : Str} {v : V} {d : D} (r : VR K ρ H v d) : ∀ {vs : List (Str × V)} {ds : List (Str × D)}, KR K ρ H vs ds → KR K ρ H (putF f v vs) (fput f d ds)
  | _, _, .nil => .cons r .nil
  | _, _, .cons (k := k') (v := v') (d := d') h t => by
    show KR K ρ H (if k' = f then (k', v) :: _ else (k', v') :: putF f v _) (if k' = f then (k', d) :: _ else (k', d') :: SS.fput f d _)
    by_cases hk : k' = f
    · rw [if_pos hk, if_pos hk]; exact .cons r t
    · rw [if_neg hk, if_neg hk]; exact .cons h (KR.fput r t)
theorem KR.lookup {f : Str} {d : D} : ∀ {vs : List (Str × V)} {ds : List (Str × D)}, KR K ρ H vs ds → ds.lookup f = some d → ∃ v, vs.lookup f = some v ∧ VR K ρ H v d
  | _, _, .nil, e => by simp at e
  | _, _, .cons (k := k') (v := v) h t, e => by
    cases q : (f == k') with
    | true =>
      simp only [List.lookup, q] at e
      cases e
      exact ⟨v, by simp only [List.lookup, q], h⟩
    | false =>
      simp only [List.lookup, q] at e
      obtain ⟨w, h1, h2⟩ := KR.lookup t e
      exact ⟨w, by simp only [List.lookup, q]; exact h1, h2⟩
theorem KR.lookupN {f : Str} : ∀ {vs : List (Str × V)} {ds : List (Str × D)}, KR K ρ H vs ds → ds.lookup f = none → vs.lookup f = none
  | _, _, .nil, e => rfl
  | _, _, .cons (k := k') (v := v) h t, e => by
    cases q : (f == k') with
    | true =>
      simp only [List.lookup, q] at e
      cases e
    | false =>
      simp only [List.lookup, q] at e ⊢
      exact KR.lookupN t e
end
/-- a logical object at an object of the abstract heap -/
def OR (K : PySem.W.Frag) (ρ : Rho) (H : Hp) : LO → HO → Prop
  | .lst ds, ho => ∃ vs, ho = .lst vs ∧ VRs K ρ H vs ds
  | .dT kvs, ho => ∃ kws, ho = .dT kws ∧ KR K ρ H kws kvs
  | .dK kvs, ho => ∃ kws, ho = .dK kws ∧ KR K ρ H kws kvs
  | .ins C fs, ho => ∃ dx gs, ho = .ins C dx gs ∧ KR K ρ H gs fs
  | .frz u, ho => ∃ o hu, ho = .frz o hu ∧ OR K ρ H u hu ∧ ∀ xs, hu ≠ .lst xs
theorem OR.mono0 {K : PySem.W.Frag} {ρ ρ' : Rho} {H H' : Hp} (e : Ext0 ρ H ρ' H') : ∀ {o : LO} {ho : HO}, OR K ρ H o ho → OR K ρ' H' o ho
  | .lst _, _, ⟨vs, e1, r⟩ => ⟨vs, e1, r.mono0 e⟩
  | .dT _, _, ⟨vs, e1, r⟩ => ⟨vs, e1, r.mono0 e⟩
  | .dK _, _, ⟨vs, e1, r⟩ => ⟨vs, e1, r.mono0 e⟩
  | .ins _ _, _, ⟨dx, vs, e1, r⟩ => ⟨dx, vs, e1, r.mono0 e⟩
  | .frz u, _, ⟨o, hu, e1, r, n⟩ => ⟨o, hu, e1, OR.mono0 e r, n⟩
section
variable {K : PySem.W.Frag} {ρ ρ' : Rho} {H H' : Hp}
theorem RoL.mono {a : Addr} {xs : List V} (e : Ext ρ H ρ' H') (h : RoL K H a xs) : RoL K H' a xs := h.mono0 e.e0
theorem VR.mono (e : Ext ρ H ρ' H') {v : V} {d : D} (h : VR K ρ H v d) : VR K ρ' H' v d := h.mono0 e.e0
theorem VRs.mono (e : Ext ρ H ρ' H') {v : List V} {d : List D} (h : VRs K ρ H v d) : VRs K ρ' H' v d := h.mono0 e.e0
theorem KR.mono {κ : Type} (e : Ext ρ H ρ' H') {vs : List (κ × V)} {ds : List (κ × D)} (h : KR K ρ H vs ds) : KR K ρ' H' vs ds := h.mono0 e.e0
theorem OR.mono (e : Ext ρ H ρ' H') {o : LO} {ho : HO} (h : OR K ρ H o ho) : OR K ρ' H' o ho := h.mono0 e.e0
end
/-- no tuple, no locked list -/
def NT0 : HO → Prop
  | .tup _ => False
  | .frz _ (.lst _) => False
  | _ => True
/-- no tuple, nothing locked -/
def NT : HO → Prop
  | .tup _ => False
  | .frz _ _ => False
  | _ => True
theorem NT.n0 {o : HO} (h : NT o) : NT0 o := by cases o <;> first | exact h | trivial | exact h.elim
theorem OR.nt {K : PySem.W.Frag} {ρ : Rho} {H : Hp} : ∀ {o : LO} {ho : HO}, OR K ρ H o ho → NT0 ho
  | .lst _, _, ⟨vs, e1, r⟩ => by subst e1; trivial
  | .dT _, _, ⟨vs, e1, r⟩ => by subst e1; trivial
  | .dK _, _, ⟨vs, e1, r⟩ => by subst e1; trivial
  | .ins _ _, _, ⟨dx, vs, e1, r⟩ => by subst e1; trivial
  | .frz u, _, ⟨o, hu, e1, r, n⟩ => by
    subst e1
    cases hu with
    | lst xs => exact absurd rfl (n xs)
    | _ => trivial
structure Sim (K : PySem.W.Frag) (ρ : Rho) (H : Hp) (S : Store) : Prop where
  inj : ∀ r f r' f' a, ρ r f = some a → ρ r' f' = some a → r = r' ∧ f = f'
  obj : ∀ r f o, S r f = some o → ∃ a ho, ρ r f = some a ∧ H a = some ho ∧ OR K ρ H o ho
  trk : ∀ r f a, ρ r f = some a → ∃ ho, H a = some ho ∧ NT0 ho
  live : ∀ r f a, ρ r f = some a → S r f ≠ none ∨ ∀ f', S r f' = none
  fin : ∃ N, ∀ r f, N ≤ r → ρ r f = none
/-- an object is replaced -/
theorem Ext.upd {ρ : Rho} {H : Hp} {a : Addr} {ho ho' : HO} (h : H a = some ho) (nt : NT ho) : Ext ρ H ρ (L2.upd H a ho') := by
  refine ⟨fun _ _ _ h => h, fun b xs e => ?_, fun b o xs e => ?_⟩
  · have : b ≠ a := by rintro rfl; rw [h] at e; cases e; exact nt
    rw [upd_ne this]; exact e
  · have : b ≠ a := by rintro rfl; rw [h] at e; cases e; exact nt
    rw [upd_ne this]; exact e
theorem Ext0.upd {ρ : Rho} {H : Hp} {a : Addr} {ho ho' : HO} (h : H a = some ho) (nt : NT0 ho) : Ext0 ρ H ρ (L2.upd H a ho') := by
  refine ⟨fun _ _ _ h => h, fun b xs e => ?_, fun b o xs e => ?_⟩
  · have : b ≠ a := by rintro rfl; rw [h] at e; cases e; exact nt
    rw [upd_ne this]; exact e
  · have : b ≠ a := by rintro rfl; rw [h] at e; cases e; exact nt
    rw [upd_ne this]; exact e
theorem Ext.new {ρ ρ' : Rho} {H : Hp} {a : Addr} {ho : HO} (h : H a = none) (hr : ∀ r f x, ρ r f = some x → ρ' r f = some x) : Ext ρ H ρ' (L2.upd H a ho) := by
  refine ⟨hr, fun b xs e => ?_, fun b o xs e => ?_⟩
  · rw [upd_ne (ne_of_none e h)]; exact e
  · rw [upd_ne (ne_of_none e h)]; exact e
section
variable {K : PySem.W.Frag} {ρ : Rho} {H : Hp} {S : Store}
theorem Sim.put0 (s : Sim K ρ H S) {r : Nat} {f : Fld} {a : Addr} {ho ho' : HO} {o' : LO} (ha : ρ r f = some a) (hS : S r f ≠ none) (hh : H a = some ho) (nt : NT0 ho)
    (hn : OR K ρ (L2.upd H a ho') o' ho') : Sim K ρ (L2.upd H a ho') (S.set r f o') := by
  have ext : Ext0 ρ H ρ (L2.upd H a ho') := Ext0.upd hh nt
  refine ⟨s.inj, fun r' f' o e => ?_, fun r' f' b e => ?_, fun r' f' b e => ?_, s.fin⟩
  · by_cases q : r' = r ∧ f' = f
    · obtain ⟨rfl, rfl⟩ := q
      rw [set_same] at e; cases e
      exact ⟨a, ho', ha, upd_same, hn⟩
    · unfold Store.set at e
      rw [if_neg q] at e
      obtain ⟨b, hb, e1, e2, e3⟩ := s.obj r' f' o e
      have : b ≠ a := by rintro rfl; exact q (s.inj _ _ _ _ _ e1 ha)
      exact ⟨b, hb, e1, by rw [upd_ne this]; exact e2, e3.mono0 ext⟩
  · by_cases q : b = a
    · subst q; exact ⟨ho', upd_same, hn.nt⟩
    · obtain ⟨hb, e1, e2⟩ := s.trk r' f' b e
      exact ⟨hb, by rw [upd_ne q]; exact e1, e2⟩
  · by_cases q : r' = r ∧ f' = f
    · obtain ⟨rfl, rfl⟩ := q
      left; rw [set_same]; simp
    · rcases s.live r' f' b e with h | h
      · left; unfold Store.set; rw [if_neg q]; exact h
      · right; intro g
        by_cases qr : r' = r
        · subst qr; exact absurd (h f) hS
        · rw [set_nr qr]; exact h g
theorem Sim.put (s : Sim K ρ H S) {r : Nat} {f : Fld} {a : Addr} {ho ho' : HO} {o' : LO} (ha : ρ r f = some a) (hS : S r f ≠ none) (hh : H a = some ho) (nt : NT ho)
    (hn : OR K ρ (L2.upd H a ho') o' ho') : Sim K ρ (L2.upd H a ho') (S.set r f o') := s.put0 ha hS hh nt.n0 hn
/-- a new object in a region that lives, at a free field; or in a new region -/
theorem Sim.new (s : Sim K ρ H S) {r : Nat} {f : Fld} {a : Addr} {ho : HO} {o : LO} (hf : ρ r f = none) (hl : (∃ g, S r g ≠ none) ∨ ∀ g, ρ r g = none) (ha : H a = none)
    (hn : OR K (fun r' f' => if r' = r ∧ f' = f then some a else ρ r' f') (L2.upd H a ho) o ho) :
    Sim K (fun r' f' => if r' = r ∧ f' = f then some a else ρ r' f') (L2.upd H a ho) (S.set r f o) ∧ Ext ρ H (fun r' f' => if r' = r ∧ f' = f then some a else ρ r' f') (L2.upd H a ho) := by
  have hr : ∀ r' f' x, ρ r' f' = some x → (if r' = r ∧ f' = f then some a else ρ r' f') = some x := fun r' f' x e => by
    rw [if_neg]
    · exact e
    · rintro ⟨rfl, rfl⟩; rw [hf] at e; cases e
  have ext : Ext ρ H (fun r' f' => if r' = r ∧ f' = f then some a else ρ r' f') (L2.upd H a ho) := Ext.new ha hr
  have na : ∀ r' f', ρ r' f' ≠ some a := fun r' f' e => by
    obtain ⟨hb, e1, _⟩ := s.trk _ _ _ e
    rw [ha] at e1; cases e1
  refine ⟨⟨fun r1 f1 r2 f2 b e1 e2 => ?_, fun r' f' o' e => ?_, fun r' f' b e => ?_, fun r' f' b e => ?_, ?_⟩, ext⟩
  · by_cases q1 : r1 = r ∧ f1 = f
    · by_cases q2 : r2 = r ∧ f2 = f
      · exact ⟨q1.1.trans q2.1.symm, q1.2.trans q2.2.symm⟩
      · rw [if_pos q1] at e1; rw [if_neg q2] at e2; cases e1; exact absurd e2 (na _ _)
    · by_cases q2 : r2 = r ∧ f2 = f
      · rw [if_neg q1] at e1; rw [if_pos q2] at e2; cases e2; exact absurd e1 (na _ _)
      · rw [if_neg q1] at e1; rw [if_neg q2] at e2; exact s.inj _ _ _ _ _ e1 e2
  · by_cases q : r' = r ∧ f' = f
    · obtain ⟨rfl, rfl⟩ := q
      rw [set_same] at e; cases e
      exact ⟨a, ho, if_pos ⟨rfl, rfl⟩, upd_same, hn⟩
    · unfold Store.set at e
      rw [if_neg q] at e
      obtain ⟨b, hb, e1, e2, e3⟩ := s.obj r' f' o' e
      have : b ≠ a := by rintro rfl; exact na _ _ e1
      exact ⟨b, hb, by rw [if_neg q]; exact e1, by rw [upd_ne this]; exact e2, e3.mono ext⟩
  · by_cases q : r' = r ∧ f' = f
    · rw [if_pos q] at e; cases e
      exact ⟨ho, upd_same, hn.nt⟩
    · rw [if_neg q] at e
      obtain ⟨hb, e1, e2⟩ := s.trk r' f' b e
      have : b ≠ a := by rintro rfl; exact na _ _ e
      exact ⟨hb, by rw [upd_ne this]; exact e1, e2⟩
  · by_cases q : r' = r ∧ f' = f
    · obtain ⟨rfl, rfl⟩ := q
      left; rw [set_same]; simp
    · rw [if_neg q] at e
      rcases s.live r' f' b e with h | h
      · left; unfold Store.set; rw [if_neg q]; exact h
      · right; intro g
        by_cases qr : r' = r
        · subst qr
          rcases hl with ⟨g', hg⟩ | hg
          · exact absurd (h g') hg
          · rw [hg f'] at e; cases e
        · rw [set_nr qr]; exact h g
  · obtain ⟨N, hN⟩ := s.fin
    refine ⟨max N (r + 1), fun r' f' h => ?_⟩
    rw [if_neg]
    · exact hN r' f' (by omega)
    · rintro ⟨rfl, _⟩; omega
theorem Sim.freshR (s : Sim K ρ H S) : ∃ r, ∀ f, ρ r f = none := by
  obtain ⟨N, h⟩ := s.fin
  exact ⟨N, fun f => h N f (Nat.le_refl _)⟩
theorem Sim.noneOf (s : Sim K ρ H S) {r : Nat} {f : Fld} (h : ρ r f = none) : S r f = none := by
  cases e : S r f with
  | none => rfl
  | some o => obtain ⟨a, _, e1, _⟩ := s.obj r f o e; rw [h] at e1; cases e1
/-- a free field of a region that lives has no place -/
theorem Sim.free (s : Sim K ρ H S) {r : Nat} {f : Fld} (h : S r f = none) (hl : ∃ g, S r g ≠ none) : ρ r f = none := by
  cases e : ρ r f with
  | none => rfl
  | some a =>
    rcases s.live r f a e with q | q
    · exact absurd h q
    · obtain ⟨g, hg⟩ := hl; exact absurd (q g) hg
/-- a tuple is laid -/
theorem Sim.laidT (s : Sim K ρ H S) {a : Addr} {xs : List V} (ha : H a = none) : Sim K ρ (L2.upd H a (.tup xs)) S ∧ Ext ρ H ρ (L2.upd H a (.tup xs)) := by
  have ext : Ext ρ H ρ (L2.upd H a (.tup xs)) := Ext.new ha fun _ _ _ h => h
  refine ⟨⟨s.inj, fun r f o e => ?_, fun r f b e => ?_, s.live, s.fin⟩, ext⟩
  · obtain ⟨b, hb, e1, e2, e3⟩ := s.obj r f o e
    exact ⟨b, hb, e1, by rw [upd_ne (ne_of_none e2 ha)]; exact e2, e3.mono ext⟩
  · obtain ⟨hb, e1, e2⟩ := s.trk r f b e
    exact ⟨hb, by rw [upd_ne (ne_of_none e1 ha)]; exact e1, e2⟩
/-- an untracked thing is laid (an instance's own dict) -/
theorem Sim.laidX (s : Sim K ρ H S) {a : Addr} {ho : HO} (ha : H a = none) : Sim K ρ (L2.upd H a ho) S ∧ Ext ρ H ρ (L2.upd H a ho) := by
  have ext : Ext ρ H ρ (L2.upd H a ho) := Ext.new ha fun _ _ _ h => h
  refine ⟨⟨s.inj, fun r f o e => ?_, fun r f b e => ?_, s.live, s.fin⟩, ext⟩
  · obtain ⟨b, hb, e1, e2, e3⟩ := s.obj r f o e
    exact ⟨b, hb, e1, by rw [upd_ne (ne_of_none e2 ha)]; exact e2, e3.mono ext⟩
  · obtain ⟨hb, e1, e2⟩ := s.trk r f b e
    exact ⟨hb, by rw [upd_ne (ne_of_none e1 ha)]; exact e1, e2⟩
/-- regions are forgotten whole -/
def Sub (S₁ S : Store) : Prop := ∀ r, (∀ f, S₁ r f = S r f) ∨ ∀ f, S₁ r f = none
theorem Sub.refl {S : Store} : Sub S S := fun _ => .inl fun _ => rfl
theorem Sub.trans {S₁ S₂ S₃ : Store} (a : Sub S₁ S₂) (b : Sub S₂ S₃) : Sub S₁ S₃ := fun r => by
  rcases a r with h | h
  · rcases b r with g | g
    · exact .inl fun f => (h f).trans (g f)
    · exact .inr fun f => (h f).trans (g f)
  · exact .inr h
theorem Sim.sub {S₁ : Store} (s : Sim K ρ H S) (b : Sub S₁ S) : Sim K ρ H S₁ := by
  refine ⟨s.inj, fun r f o e => ?_, s.trk, fun r f a e => ?_, s.fin⟩
  · rcases b r with h | h
    · exact s.obj r f o ((h f).symm.trans e)
    · rw [h f] at e; cases e
  · rcases b r with h | h
    · rcases s.live r f a e with q | q
      · left; rw [h f]; exact q
      · right; intro g; rw [h g]; exact q g
    · exact .inr h
end
end SS
namespace SS
open PySem L2

abbrev LEnv := List (Option D)
structure EnvR (K : PySem.W.Frag) (ρ : Rho) (H : Hp) (σ : L2.St) (env : LEnv) : Prop where
  len : σ.length = env.length
  get : ∀ (i : Nat) (d : D), env[i]? = some (some d) → ∃ v, σ[i]? = some (some v) ∧ VR K ρ H v d
abbrev QD := D → Store → Prop
abbrev XD := Value → LEnv → Store → Prop
abbrev LTE := LEnv → Store → QD → XD → Prop
abbrev LTT := LEnv → Store → (Bool → Store → Prop) → XD → Prop
abbrev LTA := LEnv → Store → (List D → Store → Prop) → XD → Prop
def XPost (K : PySem.W.Frag) (ρ : Rho) (H : Hp) (Ex : XD) (W : WX) : Prop := ∀ ρ' σ' env' H' S' c, Ext ρ H ρ' H' → Sim K ρ' H' S' → EnvR K ρ' H' σ' env' → Ex c env' S' → W c none σ' H'
def Post (K : PySem.W.Frag) (ρ : Rho) (H : Hp) (Q' : QD) (Q : VK) : Prop := ∀ ρ' v d H' S', Ext ρ H ρ' H' → Sim K ρ' H' S' → VR K ρ' H' v d → Q' d S' → Q v H'
def PostT (K : PySem.W.Frag) (ρ : Rho) (H : Hp) (Q' : Bool → Store → Prop) (Q : Bool → Hp → Prop) : Prop := ∀ ρ' b H' S', Ext ρ H ρ' H' → Sim K ρ' H' S' → Q' b S' → Q b H'
def PostA (K : PySem.W.Frag) (ρ : Rho) (H : Hp) (Q' : List D → Store → Prop) (Q : List V → Hp → Prop) : Prop := ∀ ρ' vs ds H' S', Ext ρ H ρ' H' → Sim K ρ' H' S' → VRs K ρ' H' vs ds → Q' ds S' → Q vs H'
section
variable {K : PySem.W.Frag} {ρ ρ1 : Rho} {H H1 : Hp} {σ : L2.St} {env : LEnv}
theorem EnvR.mono (h : EnvR K ρ H σ env) (e : Ext ρ H ρ1 H1) : EnvR K ρ1 H1 σ env := ⟨h.len, fun i d q => let ⟨v, a, b⟩ := h.get i d q; ⟨v, a, b.mono e⟩⟩
theorem EnvR.set (h : EnvR K ρ H σ env) {v : V} {d : D} (r : VR K ρ H v d) (i : Nat) : EnvR K ρ H (σ.set i (some v)) (env.set i (some d)) := by
  refine ⟨by simp [h.len], fun j e q => ?_⟩
  by_cases hj : i = j
  · subst hj
    rw [List.getElem?_set] at q
    split at q
    · split at q
      · cases q
        exact ⟨v, by rw [List.getElem?_set_self (by rw [h.len]; assumption)], r⟩
      · cases q
    · omega
  · rw [List.getElem?_set_ne hj] at q
    rw [List.getElem?_set_ne hj]
    exact h.get j e q
theorem EnvR.unset (h : EnvR K ρ H σ env) (i : Nat) : EnvR K ρ H (σ.set i none) (env.set i none) := by
  refine ⟨by simp [h.len], fun j e q => ?_⟩
  by_cases hj : i = j
  · subst hj
    rw [List.getElem?_set] at q
    split at q
    · split at q <;> cases q
    · omega
  · rw [List.getElem?_set_ne hj] at q
    rw [List.getElem?_set_ne hj]
    exact h.get j e q
theorem XPost.ext {Ex : XD} {W : WX} (h : XPost K ρ H Ex W) (e : Ext ρ H ρ1 H1) : XPost K ρ1 H1 Ex W := fun ρ' σ' env' H' S' c e1 s er q => h ρ' σ' env' H' S' c (e.trans e1) s er q
theorem Post.ext {Q' : QD} {Q : VK} (h : Post K ρ H Q' Q) (e : Ext ρ H ρ1 H1) : Post K ρ1 H1 Q' Q := fun ρ' v d H' S' e1 s er q => h ρ' v d H' S' (e.trans e1) s er q
theorem PostT.ext {Q' : Bool → Store → Prop} {Q : Bool → Hp → Prop} (h : PostT K ρ H Q' Q) (e : Ext ρ H ρ1 H1) : PostT K ρ1 H1 Q' Q := fun ρ' b H' S' e1 s q => h ρ' b H' S' (e.trans e1) s q
theorem PostA.ext {Q' : List D → Store → Prop} {Q : List V → Hp → Prop} (h : PostA K ρ H Q' Q) (e : Ext ρ H ρ1 H1) : PostA K ρ1 H1 Q' Q := fun ρ' v d H' S' e1 s er q => h ρ' v d H' S' (e.trans e1) s er q
theorem Post.here {Q' : QD} {Q : VK} {S : Store} {v : V} {d : D} (h : Post K ρ H Q' Q) (s : Sim K ρ H S) (r : VR K ρ H v d) (q : Q' d S) : Q v H := h ρ v d H S .refl s r q
end
def lE (K : PySem.W.Frag) (W : WX) (r : LTE) : TE := fun σ H Q => ∃ ρ env S Q' Ex, Sim K ρ H S ∧ EnvR K ρ H σ env ∧ r env S Q' Ex ∧ Post K ρ H Q' Q ∧ XPost K ρ H Ex W
def lT (K : PySem.W.Frag) (W : WX) (r : LTT) : TT := fun σ H Q => ∃ ρ env S Q' Ex, Sim K ρ H S ∧ EnvR K ρ H σ env ∧ r env S Q' Ex ∧ PostT K ρ H Q' Q ∧ XPost K ρ H Ex W
def lA (K : PySem.W.Frag) (W : WX) (r : LTA) : TA := fun σ H Q => ∃ ρ env S Q' Ex, Sim K ρ H S ∧ EnvR K ρ H σ env ∧ r env S Q' Ex ∧ PostA K ρ H Q' Q ∧ XPost K ρ H Ex W
def LE (X : Cx) (W : WX) (e : Expr) (r : LTE) : Prop := PE X e (lE X.K W r)
def LT (X : Cx) (W : WX) (e : Expr) (r : LTT) : Prop := PT X e (lT X.K W r)
def LA (X : Cx) (W : WX) (es : List Expr) (r : LTA) : Prop := PA X es (lA X.K W r)
theorem peI {X : Cx} {e : Expr} {t t' : TE} (h : PE X e t) (i : ∀ σ H Q, t' σ H Q → t σ H Q) : PE X e t' := ⟨fun pins s σ H Q I q => h.run pins s σ H Q I (i σ H Q q)⟩
theorem ptI {X : Cx} {e : Expr} {t t' : TT} (h : PT X e t) (i : ∀ σ H Q, t' σ H Q → t σ H Q) : PT X e t' := ⟨fun pins s σ H Q I q => h.run pins s σ H Q I (i σ H Q q)⟩
theorem paI {X : Cx} {e : List Expr} {t t' : TA} (h : PA X e t) (i : ∀ σ H Q, t' σ H Q → t σ H Q) : PA X e t' := ⟨fun p pins s σ H Q I q => h.run p pins s σ H Q I (i σ H Q q)⟩
section
variable {X : Cx} {W : WX} {a b c e o : Expr} {es : List Expr} {ra rb rc : LTE} {pos p : Pos}

/-! ### names, constants -/
def rVar (i : Nat) : LTE := fun env S Q _ => ∃ d, env[i]? = some (some d) ∧ Q d S
def rC (d : D) : LTE := fun _ S Q _ => Q d S
theorem le_var (i : Nat) {x : Str} {pos : Pos} (hN : X.N[i]? = some x := by rfl) (hv : Vis X.env.scope x := by first | exact Or.inl rfl | exact Or.inr (Or.inl rfl) | exact Or.inr (Or.inr rfl)) (hd : (x == ("__debug__" : Str)) = false := by decide)
    (hcd : (x == ("__classdict__" : Str)) = false := by decide) : LE X W (.Name x pos) (rVar i) :=
  peI (pe_var hN hv hd hcd) fun σ H Q ⟨ρ, env, S, Q', Ex, s, er, ⟨d, hd, q⟩, po, _⟩ => by
    obtain ⟨v, h1, h2⟩ := er.get i d hd
    exact ⟨v, h1, po.here s h2 q⟩
theorem le_int {i : _} {j : _} : LE X W (.Constant (.int i) j pos) (rC (.int i)) := peI pe_int fun σ H Q ⟨ρ, env, S, Q', Ex, s, er, q, po, _⟩ => po.here s (.int i) q
theorem le_bl {i : _} {j : _} : LE X W (.Constant (.bool i) j pos) (rC (.bl i)) := peI pe_bl fun σ H Q ⟨ρ, env, S, Q', Ex, s, er, q, po, _⟩ => po.here s (.bl i) q
theorem le_str {i : _} {j : _} : LE X W (.Constant (.str i) j pos) (rC (.str i)) := peI pe_str fun σ H Q ⟨ρ, env, S, Q', Ex, s, er, q, po, _⟩ => po.here s (.str i) q
theorem le_non {j : _} : LE X W (.Constant .none j pos) (rC .non) := peI pe_non fun σ H Q ⟨ρ, env, S, Q', Ex, s, er, q, po, _⟩ => po.here s .non q
theorem le_glob {x : Str} {v : V} {u : Value} (hg : Gl X x) (hm : X.mg x = some u) (r : RelV v u) (hd : (x == ("__debug__" : Str)) = false := by decide) : LE X W (.Name x pos) (rC (.raw v)) :=
  peI (pe_glob hg hm r hd) fun σ H Q ⟨ρ, env, S, Q', Ex, s, er, q, po, _⟩ => po.here s (.raw v) q
theorem le_bltn {x : Str} {v : V} {u : Value} (hg : Gl X x) (hm : X.mg x = none) (hv : bootBuiltins x = some u) (r : RelV v u) (hn : x ≠ "__name__" := by decide) (hd : (x == ("__debug__" : Str)) = false := by decide) : LE X W (.Name x pos) (rC (.raw v)) :=
  peI (pe_bltn hg hm hv r hn hd) fun σ H Q ⟨ρ, env, S, Q', Ex, s, er, q, po, _⟩ => po.here s (.raw v) q

/-! ### operators by values -/
abbrev D2 := D → D → Store → QD → Prop
def OpL (K : PySem.W.Frag) (rV : R2) (rD : D2) : Prop := ∀ ρ H S x y d e Q' Q, Sim K ρ H S → VR K ρ H x d → VR K ρ H y e → rD d e S Q' → Post K ρ H Q' Q → rV x y H Q
def rOp (rD : D2) (ra rb : LTE) : LTE := fun env S Q Ex => ra env S (fun d S1 => rb env S1 (fun e S2 => rD d e S2 Q) Ex) Ex
theorem op_lift {rV : R2} {rD : D2} (hl : OpL X.K rV rD) {σ : L2.St} {H : Hp} {Q : VK} (h : lE X.K W (rOp rD ra rb) σ H Q) : tOp rV (lE X.K W ra) (lE X.K W rb) σ H Q := by
  obtain ⟨ρ, env, S, Q', Ex, s, er, q, po, xp⟩ := h
  refine ⟨ρ, env, S, _, Ex, s, er, q, fun ρ1 x d H1 S1 e1 s1 r1 q1 => ?_, xp⟩
  refine ⟨ρ1, env, S1, _, Ex, s1, er.mono e1, q1, fun ρ2 y e H2 S2 e2 s2 r2 q2 => ?_, xp.ext e1⟩
  exact hl ρ2 H2 S2 x y d e Q' Q s2 (r1.mono e2) r2 q2 (po.ext (e1.trans e2))
theorem le_op {op : Operator} {rV : R2} {rD : D2} (ho : OpR X (binaryOp op) rV) (hl : OpL X.K rV rD) (ha : LE X W a ra) (hb : LE X W b rb) : LE X W (.BinOp a op b pos) (rOp rD ra rb) :=
  peI (pe_op ho ha hb) fun _ _ _ h => op_lift hl h
theorem le_cmp {op : CmpOp} {rV : R2} {rD : D2} (ho : OpR X (compareOp op) rV) (hl : OpL X.K rV rD) (ha : LE X W a ra) (hb : LE X W b rb) (hm : behindInMarks op b = false) : LE X W (.Compare a [op] [b] pos) (rOp rD ra rb) :=
  peI (pe_cmpR ho ha hb hm) fun _ _ _ h => op_lift hl h
/-- a bool as a test -/
def rTest (r : LTE) : LTT := fun env S Q Ex => r env S (fun d S1 => ∃ k, d = .bl k ∧ Q k S1) Ex
theorem lt_cmp {op : CmpOp} {rV : R2} {rD : D2} (ho : OpR X (compareOp op) rV) (hl : OpL X.K rV rD) (ha : LE X W a ra) (hb : LE X W b rb) (hm : behindInMarks op b = false) : LT X W (.Compare a [op] [b] pos) (rTest (rOp rD ra rb)) :=
  ptI (pt_cmpR ho ha hb hm) fun σ H Q h => by
    obtain ⟨ρ, env, S, Q', Ex, s, er, q, po, xp⟩ := h
    refine op_lift hl ⟨ρ, env, S, _, Ex, s, er, q, fun ρ1 x d H1 S1 e1 s1 r1 ⟨k, ek, q1⟩ => ?_, xp⟩
    subst ek
    cases r1
    exact ⟨k, rfl, po ρ1 k H1 S1 e1 s1 q1⟩
def oI (g : Int → Int → D) : D2 := fun d e S Q => ∃ i j, d = .int i ∧ e = .int j ∧ Q (g i j) S
def oIC (C : Int → Int → Prop) (g : Int → Int → D) : D2 := fun d e S Q => ∃ i j, d = .int i ∧ e = .int j ∧ C i j ∧ Q (g i j) S
theorem oI_int {K : PySem.W.Frag} {g : Int → Int → Int} : OpL K (rI0 fun i j => .int (g i j)) (oI fun i j => .int (g i j)) := by
  rintro ρ H S x y d e Q' Q s r1 r2 ⟨i, j, rfl, rfl, q⟩ po
  cases r1; cases r2
  exact ⟨i, j, rfl, rfl, po.here s (.int _) q⟩
theorem oI_bl {K : PySem.W.Frag} {g : Int → Int → Bool} : OpL K (rI0 fun i j => .bl (g i j)) (oI fun i j => .bl (g i j)) := by
  rintro ρ H S x y d e Q' Q s r1 r2 ⟨i, j, rfl, rfl, q⟩ po
  cases r1; cases r2
  exact ⟨i, j, rfl, rfl, po.here s (.bl _) q⟩
theorem oIC_int {K : PySem.W.Frag} {C : Int → Int → Prop} {g : Int → Int → Int} : OpL K (rI C fun i j => .int (g i j)) (oIC C fun i j => .int (g i j)) := by
  rintro ρ H S x y d e Q' Q s r1 r2 ⟨i, j, rfl, rfl, c, q⟩ po
  cases r1; cases r2
  exact ⟨i, j, rfl, rfl, c, po.here s (.int _) q⟩
abbrev oAdd : D2 := oI fun i j => .int (i + j)
abbrev oSub : D2 := oI fun i j => .int (i - j)
abbrev oMul : D2 := oIC CMul fun i j => .int (i * j)
abbrev oMod : D2 := oIC (fun _ j => 0 < j) fun i j => .int (i % j)
abbrev oPow : D2 := oIC CPow fun i j => .int (i ^ j.toNat)
abbrev oLt : D2 := oI fun i j => .bl (decide (i < j))
abbrev oLe : D2 := oI fun i j => .bl (decide (i ≤ j))
abbrev oGt : D2 := oI fun i j => .bl (decide (j < i))
theorem le_add (ha : LE X W a ra) (hb : LE X W b rb) : LE X W (.BinOp a .Add b pos) (rOp oAdd ra rb) := le_op op_add oI_int ha hb
theorem le_sub (ha : LE X W a ra) (hb : LE X W b rb) : LE X W (.BinOp a .Sub b pos) (rOp oSub ra rb) := le_op op_sub oI_int ha hb
theorem le_mul (ha : LE X W a ra) (hb : LE X W b rb) : LE X W (.BinOp a .Mult b pos) (rOp oMul ra rb) := le_op op_mul oIC_int ha hb
theorem le_mod (ha : LE X W a ra) (hb : LE X W b rb) : LE X W (.BinOp a .Mod b pos) (rOp oMod ra rb) := le_op op_mod oIC_int ha hb
theorem le_pow (ha : LE X W a ra) (hb : LE X W b rb) : LE X W (.BinOp a .Pow b pos) (rOp oPow ra rb) := le_op op_pow oIC_int ha hb
theorem le_lt (ha : LE X W a ra) (hb : LE X W b rb) : LE X W (.Compare a [.Lt] [b] pos) (rOp oLt ra rb) := le_cmp op_lt oI_bl ha hb (nomark _)
theorem le_le (ha : LE X W a ra) (hb : LE X W b rb) : LE X W (.Compare a [.LtE] [b] pos) (rOp oLe ra rb) := le_cmp op_le oI_bl ha hb (nomark _)
theorem le_gt (ha : LE X W a ra) (hb : LE X W b rb) : LE X W (.Compare a [.Gt] [b] pos) (rOp oGt ra rb) := le_cmp op_gt oI_bl ha hb (nomark _)
theorem lt_lt (ha : LE X W a ra) (hb : LE X W b rb) : LT X W (.Compare a [.Lt] [b] pos) (rTest (rOp oLt ra rb)) := lt_cmp op_lt oI_bl ha hb (nomark _)
theorem lt_le (ha : LE X W a ra) (hb : LE X W b rb) : LT X W (.Compare a [.LtE] [b] pos) (rTest (rOp oLe ra rb)) := lt_cmp op_le oI_bl ha hb (nomark _)
theorem lt_gt (ha : LE X W a ra) (hb : LE X W b rb) : LT X W (.Compare a [.Gt] [b] pos) (rTest (rOp oGt ra rb)) := lt_cmp op_gt oI_bl ha hb (nomark _)
/-! scalars: == and != -/
def toV : D → Option V
  | .non => some .non
  | .bl b => some (.bl b)
  | .int i => some (.int i)
  | .str x => some (.str x)
  | _ => none
theorem toV_eq {K : PySem.W.Frag} {ρ : Rho} {H : Hp} {x y : V} {d : D} (r : VR K ρ H x d) (h : toV d = some y) : x = y := by
  cases r <;> simp [toV] at h <;> first | exact h | skip
def scD (d e : D) : Option Bool := match toV d, toV e with
  | some x, some y => if scal x y = true then some (decide (x = y)) else none
  | _, _ => none
def oEq : D2 := fun d e S Q => ∃ k, scD d e = some k ∧ Q (.bl k) S
def oNe : D2 := fun d e S Q => ∃ k, scD d e = some k ∧ Q (.bl (!k)) S
theorem scD_of {d e : D} {k : Bool} (h : scD d e = some k) : ∃ x y, toV d = some x ∧ toV e = some y ∧ scal x y = true ∧ k = decide (x = y) := by
  unfold scD at h
  cases q1 : toV d with
  | none => rw [q1] at h; cases h
  | some x =>
    cases q2 : toV e with
    | none => rw [q1, q2] at h; cases h
    | some y =>
      rw [q1, q2] at h
      have h' : (if scal x y = true then some (decide (x = y)) else none) = some k := h
      by_cases sc : scal x y = true
      · rw [if_pos sc] at h'; cases h'; exact ⟨x, y, rfl, rfl, sc, rfl⟩
      · rw [if_neg sc] at h'; cases h'
theorem oEq_l {K : PySem.W.Frag} : OpL K rEq oEq := by
  rintro ρ H S x y d e Q' Q s r1 r2 ⟨k, hk, q⟩ po
  obtain ⟨x', y', e1, e2, sc, ek⟩ := scD_of hk
  obtain rfl := toV_eq r1 e1
  obtain rfl := toV_eq r2 e2
  subst ek
  exact ⟨sc, po.here s (.bl _) q⟩
theorem oNe_l {K : PySem.W.Frag} : OpL K rNe oNe := by
  rintro ρ H S x y d e Q' Q s r1 r2 ⟨k, hk, q⟩ po
  obtain ⟨x', y', e1, e2, sc, ek⟩ := scD_of hk
  obtain rfl := toV_eq r1 e1
  obtain rfl := toV_eq r2 e2
  subst ek
  exact ⟨sc, po.here s (.bl _) q⟩
theorem le_eq (ha : LE X W a ra) (hb : LE X W b rb) : LE X W (.Compare a [.Eq] [b] pos) (rOp oEq ra rb) := le_cmp op_eq oEq_l ha hb (nomark _)
theorem le_ne (ha : LE X W a ra) (hb : LE X W b rb) : LE X W (.Compare a [.NotEq] [b] pos) (rOp oNe ra rb) := le_cmp op_ne oNe_l ha hb (nomark _)
theorem lt_eq (ha : LE X W a ra) (hb : LE X W b rb) : LT X W (.Compare a [.Eq] [b] pos) (rTest (rOp oEq ra rb)) := lt_cmp op_eq oEq_l ha hb (nomark _)
theorem lt_ne (ha : LE X W a ra) (hb : LE X W b rb) : LT X W (.Compare a [.NotEq] [b] pos) (rTest (rOp oNe ra rb)) := lt_cmp op_ne oNe_l ha hb (nomark _)
/-! is None -/
def isN : D → Option Bool
  | .non => some true
  | .bl _ => some false
  | .int _ => some false
  | .str _ => some false
  | .tup _ => some false
  | .loc _ _ => some false
  | .rol _ => some false
  | .raw _ => none
theorem isN_eq {K : PySem.W.Frag} {ρ : Rho} {H : Hp} {x : V} {d : D} {k : Bool} (r : VR K ρ H x d) (h : isN d = some k) : decide (x = .non) = k := by
  cases r <;> simp [isN] at h <;> subst h <;> rfl
def oIs : D2 := fun d e S Q => e = .non ∧ ∃ k, isN d = some k ∧ Q (.bl k) S
def oIsNot : D2 := fun d e S Q => e = .non ∧ ∃ k, isN d = some k ∧ Q (.bl (!k)) S
theorem oIs_l {K : PySem.W.Frag} : OpL K (fun x y H Q => y = .non ∧ Q (.bl (decide (x = .non))) H) oIs := by
  rintro ρ H S x y d e Q' Q s r1 r2 ⟨rfl, k, hk, q⟩ po
  cases r2
  exact ⟨rfl, by rw [isN_eq r1 hk]; exact po.here s (.bl _) q⟩
theorem oIsNot_l {K : PySem.W.Frag} : OpL K (fun x y H Q => y = .non ∧ Q (.bl (!decide (x = .non))) H) oIsNot := by
  rintro ρ H S x y d e Q' Q s r1 r2 ⟨rfl, k, hk, q⟩ po
  cases r2
  exact ⟨rfl, by rw [isN_eq r1 hk]; exact po.here s (.bl _) q⟩
theorem le_isN (ha : LE X W a ra) (hb : LE X W b rb) : LE X W (.Compare a [.Is] [b] pos) (rOp oIs ra rb) := le_cmp op_isN oIs_l ha hb (nomark _)
theorem lt_isN (ha : LE X W a ra) (hb : LE X W b rb) : LT X W (.Compare a [.Is] [b] pos) (rTest (rOp oIs ra rb)) := lt_cmp op_isN oIs_l ha hb (nomark _)
theorem le_notN (ha : LE X W a ra) (hb : LE X W b rb) : LE X W (.Compare a [.IsNot] [b] pos) (rOp oIsNot ra rb) := le_cmp op_notN oIsNot_l ha hb (nomark _)
theorem lt_notN (ha : LE X W a ra) (hb : LE X W b rb) : LT X W (.Compare a [.IsNot] [b] pos) (rTest (rOp oIsNot ra rb)) := lt_cmp op_notN oIsNot_l ha hb (nomark _)

/-! ### tests -/
variable {rA rB : LTT} {rest : List Expr}
theorem lt_val (h : LE X W e ra) (he : ∀ whole, isTrue e X.env whole = (do let v ← whole; standAt e.pos; holding [v] (truthy v)) := by intro _; rfl) : LT X W e (rTest ra) :=
  ptI (pt_val h he) fun σ H Q ⟨ρ, env, S, Q', Ex, s, er, q, po, xp⟩ =>
    ⟨ρ, env, S, _, Ex, s, er, q, fun ρ1 x d H1 S1 e1 s1 r1 ⟨k, ek, q1⟩ => by subst ek; cases r1; exact ⟨k, rfl, po ρ1 k H1 S1 e1 s1 q1⟩, xp⟩
def LW (X : Cx) (W : WX) (e : Expr) (r : LTT) : Prop := PW X e (lT X.K W r)
theorem pwI {X : Cx} {e : Expr} {t t' : TT} (h : PW X e t) (i : ∀ σ H Q, t' σ H Q → t σ H Q) : PW X e t' := ⟨fun w pins s σ H Q I q => h.run w pins s σ H Q I (i σ H Q q)⟩
theorem LW.pt (h : LW X W e rA) : LT X W e rA := PW.pt h
def rAnd (r r' : LTT) : LTT := fun env S Q Ex => r env S (fun k S1 => if k = true then r' env S1 Q Ex else Q false S1) Ex
def rOr (r r' : LTT) : LTT := fun env S Q Ex => r env S (fun k S1 => if k = true then Q true S1 else r' env S1 Q Ex) Ex
def rNot (r : LTT) : LTT := fun env S Q Ex => r env S (fun k S1 => Q (!k) S1) Ex
theorem lw_and1 (ha : LT X W a rA) : LW X W (.BoolOp .And [a] pos) rA := pw_and1 ha
theorem lw_or1 (ha : LT X W a rA) : LW X W (.BoolOp .Or [a] pos) rA := pw_or1 ha
theorem lw_and (ha : LT X W a rA) (hb : LW X W (.BoolOp .And (b :: rest) pos) rB) : LW X W (.BoolOp .And (a :: b :: rest) pos) (rAnd rA rB) :=
  pwI (pw_and ha hb) fun σ H Q ⟨ρ, env, S, Q', Ex, s, er, q, po, xp⟩ =>
    ⟨ρ, env, S, _, Ex, s, er, q, fun ρ1 k H1 S1 e1 s1 q1 => by
      cases k with
      | true => rw [if_pos rfl] at q1 ⊢; exact ⟨ρ1, env, S1, _, Ex, s1, er.mono e1, q1, po.ext e1, xp.ext e1⟩
      | false => rw [if_neg (by simp)] at q1 ⊢; exact po ρ1 _ H1 S1 e1 s1 q1, xp⟩
theorem lw_or (ha : LT X W a rA) (hb : LW X W (.BoolOp .Or (b :: rest) pos) rB) : LW X W (.BoolOp .Or (a :: b :: rest) pos) (rOr rA rB) :=
  pwI (pw_or ha hb) fun σ H Q ⟨ρ, env, S, Q', Ex, s, er, q, po, xp⟩ =>
    ⟨ρ, env, S, _, Ex, s, er, q, fun ρ1 k H1 S1 e1 s1 q1 => by
      cases k with
      | true => rw [if_pos rfl] at q1 ⊢; exact po ρ1 _ H1 S1 e1 s1 q1
      | false => rw [if_neg (by simp)] at q1 ⊢; exact ⟨ρ1, env, S1, _, Ex, s1, er.mono e1, q1, po.ext e1, xp.ext e1⟩, xp⟩
theorem lt_not (ha : LT X W a rA) : LT X W (.UnaryOp .Not a pos) (rNot rA) :=
  ptI (pt_not ha) fun σ H Q ⟨ρ, env, S, Q', Ex, s, er, q, po, xp⟩ =>
    ⟨ρ, env, S, _, Ex, s, er, q, fun ρ1 k H1 S1 e1 s1 q1 => po ρ1 _ H1 S1 e1 s1 q1, xp⟩
/-! as values (bools) -/
def rAndV (r r' : LTE) : LTE := fun env S Q Ex => r env S (fun d S1 => ∃ k, d = .bl k ∧ if k = true then r' env S1 Q Ex else Q (.bl false) S1) Ex
def rOrV (r r' : LTE) : LTE := fun env S Q Ex => r env S (fun d S1 => ∃ k, d = .bl k ∧ if k = true then Q (.bl true) S1 else r' env S1 Q Ex) Ex
def rNotV (r : LTE) : LTE := fun env S Q Ex => r env S (fun d S1 => ∃ k, d = .bl k ∧ Q (.bl (!k)) S1) Ex
theorem le_one {op : _} (h : LE X W a ra) : LE X W (.BoolOp op [a] pos) ra := pe_one h
theorem le_and (ha : LE X W a ra) (hb : LE X W (.BoolOp .And (b :: rest) pos) rb) : LE X W (.BoolOp .And (a :: b :: rest) pos) (rAndV ra rb) :=
  peI (pe_and ha hb) fun σ H Q ⟨ρ, env, S, Q', Ex, s, er, q, po, xp⟩ =>
    ⟨ρ, env, S, _, Ex, s, er, q, fun ρ1 x d H1 S1 e1 s1 r1 ⟨k, ek, q1⟩ => by
      subst ek; cases r1
      refine ⟨k, rfl, ?_⟩
      cases k with
      | true => rw [if_pos rfl] at q1 ⊢; exact ⟨ρ1, env, S1, _, Ex, s1, er.mono e1, q1, po.ext e1, xp.ext e1⟩
      | false => rw [if_neg (by simp)] at q1 ⊢; exact po ρ1 _ _ H1 S1 e1 s1 (.bl _) q1, xp⟩
theorem le_or (ha : LE X W a ra) (hb : LE X W (.BoolOp .Or (b :: rest) pos) rb) : LE X W (.BoolOp .Or (a :: b :: rest) pos) (rOrV ra rb) :=
  peI (pe_or ha hb) fun σ H Q ⟨ρ, env, S, Q', Ex, s, er, q, po, xp⟩ =>
    ⟨ρ, env, S, _, Ex, s, er, q, fun ρ1 x d H1 S1 e1 s1 r1 ⟨k, ek, q1⟩ => by
      subst ek; cases r1
      refine ⟨k, rfl, ?_⟩
      cases k with
      | true => rw [if_pos rfl] at q1 ⊢; exact po ρ1 _ _ H1 S1 e1 s1 (.bl _) q1
      | false => rw [if_neg (by simp)] at q1 ⊢; exact ⟨ρ1, env, S1, _, Ex, s1, er.mono e1, q1, po.ext e1, xp.ext e1⟩, xp⟩
theorem le_not (ha : LE X W a ra) : LE X W (.UnaryOp .Not a pos) (rNotV ra) :=
  peI (pe_not ha) fun σ H Q ⟨ρ, env, S, Q', Ex, s, er, q, po, xp⟩ =>
    ⟨ρ, env, S, _, Ex, s, er, q, fun ρ1 x d H1 S1 e1 s1 r1 ⟨k, ek, q1⟩ => by
      subst ek; cases r1; exact ⟨k, rfl, po ρ1 _ _ H1 S1 e1 s1 (.bl _) q1⟩, xp⟩
/-! chains of ints: a <= b < c -/
def rChain (r r' : D2) (ra rb rc : LTE) : LTE := fun env S Q Ex => ra env S (fun d S1 => rb env S1 (fun e S2 => r d e S2 fun z S3 => ∃ k, z = .bl k ∧ if k = true then rc env S3 (fun w S4 => r' e w S4 Q) Ex else Q (.bl false) S3) Ex) Ex
theorem chain_lift {rV rV' : R2} {rD rD' : D2} (hl : OpL X.K rV rD) (hl' : OpL X.K rV' rD') {σ : L2.St} {H : Hp} {Q : VK} (h : lE X.K W (rChain rD rD' ra rb rc) σ H Q) : tChain rV rV' (lE X.K W ra) (lE X.K W rb) (lE X.K W rc) σ H Q := by
  obtain ⟨ρ, env, S, Q', Ex, s, er, q, po, xp⟩ := h
  refine ⟨ρ, env, S, _, Ex, s, er, q, fun ρ1 x d H1 S1 e1 s1 r1 q1 => ?_, xp⟩
  refine ⟨ρ1, env, S1, _, Ex, s1, er.mono e1, q1, fun ρ2 y e H2 S2 e2 s2 r2 q2 => ?_, xp.ext e1⟩
  refine hl ρ2 H2 S2 x y d e _ _ s2 (r1.mono e2) r2 q2 fun ρ3 z g H3 S3 e3 s3 r3 ⟨k, ek, q3⟩ => ?_
  subst ek; cases r3
  refine ⟨k, rfl, ?_⟩
  have e03 := (e1.trans e2).trans e3
  cases k with
  | false => rw [if_neg (by simp)] at q3 ⊢; exact po ρ3 _ _ H3 S3 e03 s3 (.bl _) q3
  | true =>
    rw [if_pos rfl] at q3 ⊢
    exact ⟨ρ3, env, S3, _, Ex, s3, er.mono e03, q3, fun ρ4 w g H4 S4 e4 s4 r4 q4 => hl' ρ4 H4 S4 y w e g Q' Q s4 (r2.mono (e3.trans e4)) r4 q4 (po.ext (e03.trans e4)), xp.ext e03⟩
theorem le_chain {op op' : CmpOp} {rV rV' : R2} {rD rD' : D2} (ho : OpR X (compareOp op) rV) (ho' : OpR X (compareOp op') rV') (hl : OpL X.K rV rD) (hl' : OpL X.K rV' rD') (ha : LE X W a ra) (hb : LE X W b rb) (hc : LE X W c rc)
    (hm : lastMarks [op, op'] [b, c] = false := by rfl) : LE X W (.Compare a [op, op'] [b, c] pos) (rChain rD rD' ra rb rc) :=
  peI (pe_chain ho ho' ha hb hc hm) fun _ _ _ h => chain_lift hl hl' h
theorem lt_chain {op op' : CmpOp} {rV rV' : R2} {rD rD' : D2} (ho : OpR X (compareOp op) rV) (ho' : OpR X (compareOp op') rV') (hl : OpL X.K rV rD) (hl' : OpL X.K rV' rD') (ha : LE X W a ra) (hb : LE X W b rb) (hc : LE X W c rc)
    (hm : lastMarks [op, op'] [b, c] = false := by rfl) : LT X W (.Compare a [op, op'] [b, c] pos) (rTest (rChain rD rD' ra rb rc)) :=
  ptI (pt_chain ho ho' ha hb hc hm) fun σ H Q h => by
    obtain ⟨ρ, env, S, Q', Ex, s, er, q, po, xp⟩ := h
    refine chain_lift hl hl' ⟨ρ, env, S, _, Ex, s, er, q, fun ρ1 x d H1 S1 e1 s1 r1 ⟨k, ek, q1⟩ => ?_, xp⟩
    subst ek
    cases r1
    exact ⟨k, rfl, po ρ1 k H1 S1 e1 s1 q1⟩

/-! ### arguments, tuples, lists -/
variable {rL : LTA}
def rNil : LTA := fun _ S Q _ => Q [] S
def rCons (r : LTE) (rs : LTA) : LTA := fun env S Q Ex => r env S (fun d S1 => rs env S1 (fun ds S2 => Q (d :: ds) S2) Ex) Ex
theorem la_nil : LA X W [] rNil := paI pa_nil fun σ H Q ⟨ρ, env, S, Q', Ex, s, er, q, po, _⟩ => po ρ [] [] H S .refl s .nil q
theorem la_cons (ha : LE X W e ra) (hr : LA X W es rL) (hs : starEach (e :: es) X.env = (false, eval e X.env) :: starEach es X.env := by rfl) : LA X W (e :: es) (rCons ra rL) :=
  paI (pa_cons ha hr hs) fun σ H Q ⟨ρ, env, S, Q', Ex, s, er, q, po, xp⟩ =>
    ⟨ρ, env, S, _, Ex, s, er, q, fun ρ1 x d H1 S1 e1 s1 r1 q1 => ⟨ρ1, env, S1, _, Ex, s1, er.mono e1, q1, fun ρ2 vs ds H2 S2 e2 s2 r2 q2 => po ρ2 _ _ H2 S2 (e1.trans e2) s2 (.cons (r1.mono e2) r2) q2, xp.ext e1⟩, xp⟩
def rTup (r : LTA) : LTE := fun env S Q Ex => r env S (fun ds S1 => ds.length ≤ sizeLine ∧ Q (.tup ds) S1) Ex
theorem le_tup {x1 : _} (h : LA X W es rL) : LE X W (.Tuple es x1 pos) (rTup rL) :=
  peI (pe_tup h) fun σ H Q ⟨ρ, env, S, Q', Ex, s, er, q, po, xp⟩ =>
    ⟨ρ, env, S, _, Ex, s, er, q, fun ρ1 vs ds H1 S1 e1 s1 r1 ⟨hl, q1⟩ => ⟨by rw [r1.length]; exact hl, fun p np => by
      obtain ⟨s2, e2⟩ := s1.laidT (xs := vs) np
      exact po ρ1 _ _ _ S1 (e1.trans e2) s2 (.tup upd_same (r1.mono e2)) q1⟩, xp⟩
/-- a new list in a region of its own -/
def newL (ds : List D) (S : Store) (Q : QD) : Prop := ∀ r, (∀ f, S r f = none) → Q (.loc r .tmp) (S.set r .tmp (.lst ds))
/-- a new object at a free field of a region that lives -/
def newA (o : LO) (S : Store) (Q : QD) : Prop := ∃ r f, S r f = none ∧ (∃ g, S r g ≠ none) ∧ Q (.loc r f) (S.set r f o)
/-- a new object in a new region, at the field f -/
def newF (f : Fld) (o : LO) (S : Store) (Q : QD) : Prop := ∀ r, (∀ f, S r f = none) → Q (.loc r f) (S.set r f o)
def OldOk (K : PySem.W.Frag) (o : LO) (ho : HO) : Prop := ∀ ρ H, OR K ρ H o ho → True
theorem newA_ok {K : PySem.W.Frag} {ρ : Rho} {H : Hp} {S : Store} {Q' : QD} {Q : VK} {o : LO} {ho : HO} (s : Sim K ρ H S) (h : newA o S Q') (po : Post K ρ H Q' Q) (hr : OR K ρ H o ho) (p : Addr) (np : H p = none) : Q (.ref p) (L2.upd H p ho) := by
  obtain ⟨r, f, hf, hl, q⟩ := h
  have hr0 := s.free hf hl
  have ext : Ext ρ H (fun r' f' => if r' = r ∧ f' = f then some p else ρ r' f') (L2.upd H p ho) := Ext.new np fun r' f' x e => by
    rw [if_neg]
    · exact e
    · rintro ⟨rfl, rfl⟩; rw [hr0] at e; cases e
  obtain ⟨s2, _⟩ := s.new (ho := ho) (o := o) hr0 (.inl hl) np (hr.mono ext)
  exact po _ _ _ _ _ ext s2 (.loc (if_pos ⟨rfl, rfl⟩)) q
theorem newF_ok {K : PySem.W.Frag} {ρ : Rho} {H : Hp} {S : Store} {Q' : QD} {Q : VK} {f : Fld} {o : LO} {ho : HO} (s : Sim K ρ H S) (h : newF f o S Q') (po : Post K ρ H Q' Q) (hr : OR K ρ H o ho) (p : Addr) (np : H p = none) : Q (.ref p) (L2.upd H p ho) := by
  obtain ⟨r, hr0⟩ := s.freshR
  have q := h r fun g => s.noneOf (hr0 g)
  have ext : Ext ρ H (fun r' f' => if r' = r ∧ f' = f then some p else ρ r' f') (L2.upd H p ho) := Ext.new np fun r' f' x e => by
    rw [if_neg]
    · exact e
    · rintro ⟨rfl, rfl⟩; rw [hr0] at e; cases e
  obtain ⟨s2, _⟩ := s.new (ho := ho) (o := o) (hr0 f) (.inr hr0) np (hr.mono ext)
  exact po _ _ _ _ _ ext s2 (.loc (if_pos ⟨rfl, rfl⟩)) q
/-- a way to make a new object: where it is to be named -/
def NewOk (n : LO → Store → QD → Prop) : Prop := ∀ {K : PySem.W.Frag} {ρ : Rho} {H : Hp} {S : Store} {Q' : QD} {Q : VK} {o : LO} {ho : HO}, Sim K ρ H S → n o S Q' → Post K ρ H Q' Q → OR K ρ H o ho → ∀ p, H p = none → Q (.ref p) (L2.upd H p ho)
theorem nA : NewOk newA := fun s h po hr p np => newA_ok s h po hr p np
theorem nF (f : Fld) : NewOk (newF f) := fun s h po hr p np => newF_ok s h po hr p np
def rLst (n : LO → Store → QD → Prop) (r : LTA) : LTE := fun env S Q Ex => r env S (fun ds S1 => ds.length ≤ sizeLine ∧ n (.lst ds) S1 Q) Ex
theorem le_lst {n : LO → Store → QD → Prop} (hn : NewOk n) (h : LA X W es rL) : LE X W (.List es pos) (rLst n rL) :=
  peI (pe_lst h) fun σ H Q ⟨ρ, env, S, Q', Ex, s, er, q, po, xp⟩ =>
    ⟨ρ, env, S, _, Ex, s, er, q, fun ρ1 vs ds H1 S1 e1 s1 r1 ⟨hl, q1⟩ => ⟨by rw [r1.length]; exact hl, fun p np => hn s1 q1 (po.ext e1) (o := .lst ds) (ho := .lst vs) ⟨vs, rfl, r1⟩ p np⟩, xp⟩
def rDct (n : LO → Store → QD → Prop) (o : LO) : LTE := fun _ S Q _ => n o S Q
theorem le_dnewT {n : LO → Store → QD → Prop} (hn : NewOk n) : LE X W (.Dict [] [] pos) (rDct n (.dT [])) :=
  peI pe_dnewT fun σ H Q ⟨ρ, env, S, Q', Ex, s, er, q, po, xp⟩ => fun p np => hn s q po (ho := .dT []) ⟨[], rfl, .nil⟩ p np
theorem le_dnewK {n : LO → Store → QD → Prop} (hn : NewOk n) : LE X W (.Dict [] [] pos) (rDct n (.dK [])) :=
  peI pe_dnewK fun σ H Q ⟨ρ, env, S, Q', Ex, s, er, q, po, xp⟩ => fun p np => hn s q po (ho := .dK []) ⟨[], rfl, .nil⟩ p np
end
end SS
namespace SS
open PySem L2
/-! ### the script, lists and tuples as sequences -/
/-- d is a sequence of ds -/
def SeqD (S : Store) (d : D) (ds : List D) : Prop := match d with
  | .tup es => ds = es
  | .rol ns => ds = ns.map D.int
  | .loc r f => S r f = some (.lst ds)
  | _ => False
def LstD (S : Store) (d : D) (ds : List D) : Prop := match d with
  | .rol ns => ds = ns.map D.int
  | .loc r f => S r f = some (.lst ds)
  | _ => False
section
variable {K : PySem.W.Frag} {ρ : Rho} {H : Hp} {S : Store}
theorem LstD.sq (s : Sim K ρ H S) {d : D} {ds : List D} {v : V} (h : LstD S d ds) (r : VR K ρ H v d) : ∃ a vs, v = .ref a ∧ SqL K H a vs ∧ VRs K ρ H vs ds := by
  cases r with
  | rol h1 =>
    have h' : ds = _ := h
    subst h'
    exact ⟨_, _, rfl, h1.sq, VRs.ofInts _⟩
  | loc h1 =>
    obtain ⟨b, hb, e1, e2, vs, e3, r⟩ := s.obj _ _ _ h
    rw [h1] at e1; cases e1
    subst e3
    exact ⟨_, vs, rfl, .of e2, r⟩
  | _ => exact h.elim
theorem SeqD.sq (s : Sim K ρ H S) {d : D} {ds : List D} {v : V} (h : SeqD S d ds) (r : VR K ρ H v d) : ∃ a vs, v = .ref a ∧ (SqL K H a vs ∨ SqT K H a vs) ∧ VRs K ρ H vs ds := by
  cases r with
  | tup h1 r =>
    have h' : ds = _ := h
    subst h'
    exact ⟨_, _, rfl, .inr (.of h1), r⟩
  | rol h1 => exact let ⟨a, vs, e, h, r⟩ := LstD.sq s (d := .rol _) h (.rol h1); ⟨a, vs, e, .inl h, r⟩
  | loc h1 => exact let ⟨a, vs, e, h, r⟩ := LstD.sq s (d := .loc _ _) h (.loc h1); ⟨a, vs, e, .inl h, r⟩
  | _ => exact h.elim
theorem atI_vr {vs : List V} {ds : List D} {i : Int} {d : D} (r : VRs K ρ H vs ds) (h : atI ds i = some d) : ∃ v, atI vs i = some v ∧ VR K ρ H v d := by
  unfold atI at h ⊢
  rw [r.length]
  cases e : ixN ds.length i with
  | none => rw [e] at h; cases h
  | some j =>
    rw [e] at h
    obtain ⟨v, h1, h2⟩ := r.get h
    exact ⟨v, h1, h2⟩
end
/-- keys as values -/
def kD : Key → D
  | .inl i => .int i
  | .inr x => .str x
section
variable {K : PySem.W.Frag} {ρ : Rho} {H : Hp} {S : Store}
theorem kD_vr {k : Key} {v : V} (r : VR K ρ H v (kD k)) : v = kV k := by
  cases k <;> cases r <;> rfl
theorem kDs_vr : ∀ {ks : List Key} {vs : List V}, VRs K ρ H vs (ks.map kD) → vs = ks.map kV
  | [], _, .nil => rfl
  | k :: ks, _, .cons r t => by rw [kD_vr r, kDs_vr t]; rfl
theorem vr_kD : ∀ (k : Key), VR K ρ H (kV k) (kD k)
  | .inl i => .int i
  | .inr x => .str x
theorem vr_kDs : ∀ (ks : List Key), VRs K ρ H (ks.map kV) (ks.map kD)
  | [] => .nil
  | k :: ks => .cons (vr_kD k) (vr_kDs ks)
end
/-- what a dict holds at a key -/
inductive DAt (S : Store) : D → D → Option D → Prop
  | t {r : Nat} {f : Fld} {kvs : List (List Key × D)} {ks : List Key} : (S r f = some (.dT kvs) ∨ S r f = some (.frz (.dT kvs))) → DAt S (.loc r f) (.tup (ks.map kD)) (dget kvs ks)
  | k {r : Nat} {f : Fld} {kvs : List (Key × D)} {k : Key} : (S r f = some (.dK kvs) ∨ S r f = some (.frz (.dK kvs))) → DAt S (.loc r f) (kD k) (dget kvs k)
theorem dAt_vr {K : PySem.W.Frag} {ρ : Rho} {H : Hp} {S : Store} (s : Sim K ρ H S) {d e : D} {o : Option D} {x y : V} (h : DAt S d e o) (r1 : VR K ρ H x d) (r2 : VR K ρ H y e) :
    ∃ a ov, x = .ref a ∧ DGet H a y ov ∧ ov.isSome = o.isSome ∧ ∀ z, o = some z → ∃ v, ov = some v ∧ VR K ρ H v z := by
  cases h with
  | @t rg fl kvs ks hs =>
    cases r1 with
    | @loc _ _ ad h1 =>
      cases r2 with
      | tup h2 r2 =>
        have e2 := kDs_vr r2
        subst e2
        have : ∃ kws, Rd H ad (.dT kws) ∧ KR K ρ H kws kvs := by
          rcases hs with hs | hs
          · obtain ⟨b, hb, e1, e2, kws, e3, kr⟩ := s.obj _ _ _ hs
            rw [h1] at e1; cases e1; subst e3
            exact ⟨kws, .inl e2, kr⟩
          · obtain ⟨b, hb, e1, e2, o, hu, e3, ⟨kws, e4, kr⟩, _⟩ := s.obj _ _ _ hs
            rw [h1] at e1; cases e1; subst e3; subst e4
            exact ⟨kws, .inr ⟨o, e2⟩, kr⟩
        obtain ⟨kws, rd, kr⟩ := this
        exact ⟨_, _, rfl, .inr ⟨kws, _, _, rd, rfl, h2, rfl⟩, kr.isSome, fun z hz => kr.val hz⟩
  | @k rg fl kvs k hs =>
    cases r1 with
    | @loc _ _ ad h1 =>
      have e2 := kD_vr r2
      subst e2
      have : ∃ kws, Rd H ad (.dK kws) ∧ KR K ρ H kws kvs := by
        rcases hs with hs | hs
        · obtain ⟨b, hb, e1, e2, kws, e3, kr⟩ := s.obj _ _ _ hs
          rw [h1] at e1; cases e1; subst e3
          exact ⟨kws, .inl e2, kr⟩
        · obtain ⟨b, hb, e1, e2, o, hu, e3, ⟨kws, e4, kr⟩, _⟩ := s.obj _ _ _ hs
          rw [h1] at e1; cases e1; subst e3; subst e4
          exact ⟨kws, .inr ⟨o, e2⟩, kr⟩
      obtain ⟨kws, rd, kr⟩ := this
      exact ⟨_, _, rfl, .inl ⟨kws, _, rd, rfl, rfl⟩, kr.isSome, fun z hz => kr.val hz⟩
section
variable {X : Cx} {W : WX} {a b c e o : Expr} {es : List Expr} {ra rb rc : LTE} {rL : LTA} {rA rB : LTT} {pos p apos cpos : Pos}
/-! ### subscripts -/
open PySem.Spec PyProof.Rows in
theorem ix_dict (hu : X.A.units + 1 < cLine) : IxR X (fun x y H Q => ∃ a v, x = .ref a ∧ DGet H a y (some v) ∧ Q v H) := by
  intro value slice pins s σ H x y v u Q I rx ry ⟨a, w', ex, g, q⟩ hs
  subst ex
  obtain rfl : v = Value.ref a := rx
  have hT := dict_typeIs I g
  unfold subscriptTail
  refine wpAny_bind ?_
  rw [getitemInPython_of_ne hT.not_modules]
  refine wpAny_bind (wpAny_specialOf hT PySem.F.slot_dict_getitem.lookup ?_)
  have fin : wpAny (model X.prog X.w) X.A (subscripted slice false (.ref a) u) (fun r s₃ => wpAny (model X.prog X.w) X.A (letTemporaryGo value (.ref a) r >>= fun _ => pure r) (EP X pins σ Q) X.xe s₃) X.xe s := by
    rw [hs]
    exact wpAny_operating (wpAny_mono (d_getItem hu I g ry fun w1 s3 I3 r3 => (⟨w', H, I3, r3, q⟩ : EP X pins σ Q w1 s3)) (fun r s₃ h₃ => wpAny_bind (wpAny_letTemporaryGo (wpAny_pure h₃))) fun _ _ x => x)
  first
    | exact wpAny_pure (wpAny_bind fin)
    | exact wpAny_bind fin
/-- a[b]: a sequence at an int, a dict at a key -/
def ixD : D2 := fun d e S Q => (∃ ds i z, SeqD S d ds ∧ e = .int i ∧ atI ds i = some z ∧ Q z S) ∨ ∃ z, DAt S d e (some z) ∧ Q z S
def rIxAll (K : PySem.W.Frag) : R2 := fun x y H Q => (rIxL K x y H Q ∨ rIxT K x y H Q) ∨ ∃ a v, x = .ref a ∧ DGet H a y (some v) ∧ Q v H
theorem ixD_l {K : PySem.W.Frag} : OpL K (rIxAll K) ixD := by
  rintro ρ H S x y d e Q' Q s r1 r2 (⟨ds, i, z, hs, rfl, hz, q⟩ | ⟨z, hd, q⟩) po
  · obtain ⟨a, vs, rfl, sq, rs⟩ := hs.sq s r1
    cases r2
    obtain ⟨v, h1, h2⟩ := atI_vr rs hz
    rcases sq with sq | sq
    · exact .inl (.inl ⟨a, vs, i, v, rfl, rfl, sq, h1, po.here s h2 q⟩)
    · exact .inl (.inr ⟨a, vs, i, v, rfl, rfl, sq, h1, po.here s h2 q⟩)
  · obtain ⟨a, ov, rfl, g, _, hv⟩ := dAt_vr s hd r1 r2
    obtain ⟨v, rfl, h2⟩ := hv z rfl
    exact .inr ⟨a, v, rfl, g, po.here s h2 q⟩
theorem le_ix (hu : X.A.units + 1 < cLine) (ha : LE X W a ra) (hb : LE X W b rb) (hs : PlainIx b := by exact fun _ _ => rfl) : LE X W (.Subscript a b pos) (rOp ixD ra rb) :=
  peI (pe_ix ((ix_list.or ix_tup).or (ix_dict hu)) ha hb hs) fun _ _ _ h => op_lift ixD_l h
/-! ### attributes -/
def rAttr (C : Addr) (r : LTE) (f : Str) : LTE := fun env S Q Ex => r env S (fun d S1 => ∃ rg fl fs v, d = .loc rg fl ∧ S1 rg fl = some (.ins C fs) ∧ fs.lookup f = some v ∧ Q v S1) Ex
theorem ins_of {K : PySem.W.Frag} {ρ : Rho} {H : Hp} {S : Store} (s : Sim K ρ H S) {rg : Nat} {fl : Fld} {C : Addr} {fs : List (Str × D)} {v : V} (h : S rg fl = some (.ins C fs)) (r : VR K ρ H v (.loc rg fl)) :
    ∃ a dx gs, v = .ref a ∧ ρ rg fl = some a ∧ H a = some (.ins C dx gs) ∧ KR K ρ H gs fs := by
  cases r with
  | loc h1 =>
    obtain ⟨b, hb, e1, e2, dx, gs, e3, kr⟩ := s.obj _ _ _ h
    rw [h1] at e1; cases e1; subst e3
    exact ⟨_, dx, gs, rfl, h1, e2, kr⟩
theorem le_attr {C : Addr} {f : Str} (cl : Cls X.K C) (na : NoAttr X.K C f) (he : LE X W e ra) (hb : attributeBase e f X.env (eval e X.env) = eval e X.env := by rfl) : LE X W (.Attribute e f pos) (rAttr C ra f) :=
  peI (pe_fld he hb) fun σ H Q ⟨ρ, env, S, Q', Ex, s, er, q, po, xp⟩ =>
    ⟨ρ, env, S, _, Ex, s, er, q, fun ρ1 x d H1 S1 e1 s1 r1 ⟨rg, fl, fs, v, ed, hS, hl, q1⟩ => by
      subst ed
      obtain ⟨a, dx, gs, rfl, _, h2, kr⟩ := ins_of s1 hS r1
      obtain ⟨w, h3, h4⟩ := kr.lookup hl
      exact ⟨a, C, dx, gs, w, rfl, h2, cl, na, h3, po ρ1 _ _ H1 S1 e1 s1 h4 q1⟩, xp⟩
/-! ### built-in calls by values -/
abbrev DA := List D → Store → QD → Prop
def CaL (K : PySem.W.Frag) (rV : List V → Hp → VK → Prop) (rD : DA) : Prop := ∀ ρ H S vs ds Q' Q, Sim K ρ H S → VRs K ρ H vs ds → rD ds S Q' → Post K ρ H Q' Q → rV vs H Q
def rCall (rD : DA) (r : LTA) : LTE := fun env S Q Ex => r env S (fun ds S1 => rD ds S1 Q) Ex
theorem call_lift {rV : List V → Hp → VK → Prop} {rD : DA} (hl : CaL X.K rV rD) {σ : L2.St} {H : Hp} {Q : VK} (h : lE X.K W (rCall rD rL) σ H Q) : tCB rV (lA X.K W rL) σ H Q := by
  obtain ⟨ρ, env, S, Q', Ex, s, er, q, po, xp⟩ := h
  exact ⟨ρ, env, S, _, Ex, s, er, q, fun ρ1 x d H1 S1 e1 s1 r1 q1 => hl ρ1 H1 S1 x d Q' Q s1 r1 q1 (po.ext e1), xp⟩
theorem le_callB {x : Str} {id : String} {rV : List V → Hp → VK → Prop} {rD : DA} (hc : CallR X (.builtin id) rV) (hl : CaL X.K rV rD) (hg : Gl X x) (hm : X.mg x = none) (hv : bootBuiltins x = some (.builtin id)) (ha : LA X W (e :: es) rL)
    (hn : x ≠ "__name__" := by decide) (hd : (x == ("__debug__" : Str)) = false := by decide) (he : starEach (e :: es) X.env = (false, eval e X.env) :: starEach es X.env := by rfl) (hpl : (backTo pos (starEach es X.env)).any (·.1) = false := by rfl) :
    LE X W (.Call (.Name x p) (e :: es) [] pos) (rCall rD rL) := peI (pe_callB hc hg hm hv ha hn hd he hpl) fun _ _ _ h => call_lift hl h
theorem le_callTy {x : Str} {id : String} {rV : List V → Hp → VK → Prop} {rD : DA} (hc : CallR X (.type id) rV) (hl : CaL X.K rV rD) (hg : Gl X x) (hm : X.mg x = none) (hv : bootBuiltins x = some (.type id)) (ha : LA X W (e :: es) rL)
    (hn : x ≠ "__name__" := by decide) (hd : (x == ("__debug__" : Str)) = false := by decide) (he : starEach (e :: es) X.env = (false, eval e X.env) :: starEach es X.env := by rfl) (hpl : (backTo pos (starEach es X.env)).any (·.1) = false := by rfl) :
    LE X W (.Call (.Name x p) (e :: es) [] pos) (rCall rD rL) := peI (pe_callTy hc hg hm hv ha hn hd he hpl) fun _ _ _ h => call_lift hl h
end
end SS
namespace SS
open PySem L2
/-! ### len, list, tuple, sum, max, all, any -/
def dLen : DA := fun ds S Q => ∃ d es, ds = [d] ∧ SeqD S d es ∧ Q (.int es.length) S
def dList (n : LO → Store → QD → Prop) : DA := fun ds S Q => ∃ d es, ds = [d] ∧ SeqD S d es ∧ n (.lst es) S Q
def dTuple : DA := fun ds S Q => ∃ d es, ds = [d] ∧ SeqD S d es ∧ Q (.tup es) S
def dSum : DA := fun ds S Q => ∃ (d : D) (ns : List Int), ds = [d] ∧ SeqD S d (ns.map D.int) ∧ Q (.int ns.sum) S
def dMax2 : DA := fun ds S Q => ∃ i j, ds = [.int i, .int j] ∧ Q (.int (if j > i then j else i)) S
def dAll : DA := fun ds S Q => ∃ (d : D) (bs : List Bool), ds = [d] ∧ LstD S d (bs.map D.bl) ∧ Q (.bl (bs.all id)) S
def dInt : DA := fun ds S Q => ∃ k, ds = [.bl k] ∧ Q (.int (if k then 1 else 0)) S
section
variable {K : PySem.W.Frag}
theorem VRs.one {ρ : Rho} {H : Hp} {vs : List V} {d : D} (r : VRs K ρ H vs [d]) : ∃ v, vs = [v] ∧ VR K ρ H v d := by
  cases r with
  | cons a t => cases t; exact ⟨_, rfl, a⟩
theorem VRs.two {ρ : Rho} {H : Hp} {vs : List V} {d e : D} (r : VRs K ρ H vs [d, e]) : ∃ v w, vs = [v, w] ∧ VR K ρ H v d ∧ VR K ρ H w e := by
  cases r with
  | cons a t =>
    obtain ⟨w, rfl, r⟩ := t.one
    exact ⟨_, _, rfl, a, r⟩
theorem dLen_l : CaL K (fun xs H Q => ∃ p ys, xs = [.ref p] ∧ (SqL K H p ys ∨ SqT K H p ys) ∧ Q (.int ys.length) H) dLen := by
  rintro ρ H S vs ds Q' Q s r0 ⟨d, es, rfl, hs, q⟩ po
  obtain ⟨v, rfl, r⟩ := r0.one
  obtain ⟨a, ws, rfl, sq, rs⟩ := hs.sq s r
  exact ⟨a, ws, rfl, sq, by rw [rs.length]; exact po.here s (.int _) q⟩
theorem dList_l {n : LO → Store → QD → Prop} (hn : NewOk n) : CaL K (fun xs H Q => ∃ p ys, xs = [.ref p] ∧ (SqL K H p ys ∨ SqT K H p ys) ∧ ∀ l, H l = none → Q (.ref l) (L2.upd H l (.lst ys))) (dList n) := by
  rintro ρ H S vs ds Q' Q s r0 ⟨d, es, rfl, hs, q⟩ po
  obtain ⟨v, rfl, r⟩ := r0.one
  obtain ⟨a, ws, rfl, sq, rs⟩ := hs.sq s r
  exact ⟨a, ws, rfl, sq, fun l nl => hn s q po (ho := .lst ws) ⟨ws, rfl, rs⟩ l nl⟩
theorem dTuple_l : CaL K (fun xs H Q => ∃ p ys, xs = [.ref p] ∧ ((SqL K H p ys ∧ ∀ l, H l = none → Q (.ref l) (L2.upd H l (.tup ys))) ∨ (SqT K H p ys ∧ Q (.ref p) H))) dTuple := by
  rintro ρ H S vs ds Q' Q s r0 ⟨d, es, rfl, hs, q⟩ po
  obtain ⟨v, rfl, r⟩ := r0.one
  cases r with
  | tup h1 r1 =>
    have h' : es = _ := hs
    subst h'
    exact ⟨_, _, rfl, .inr ⟨.of h1, po.here s (.tup h1 r1) q⟩⟩
  | rol h1 =>
    obtain ⟨a, ws, e, sq, rs⟩ := LstD.sq s (d := .rol _) hs (.rol h1)
    cases e
    refine ⟨_, ws, rfl, .inl ⟨sq, fun l nl => ?_⟩⟩
    obtain ⟨s2, e2⟩ := s.laidT (xs := ws) nl
    exact po _ _ _ _ _ e2 s2 (.tup upd_same (rs.mono e2)) q
  | loc h1 =>
    obtain ⟨a, ws, e, sq, rs⟩ := LstD.sq s (d := .loc _ _) hs (.loc h1)
    cases e
    refine ⟨_, ws, rfl, .inl ⟨sq, fun l nl => ?_⟩⟩
    obtain ⟨s2, e2⟩ := s.laidT (xs := ws) nl
    exact po _ _ _ _ _ e2 s2 (.tup upd_same (rs.mono e2)) q
  | _ => exact hs.elim
def rSumA (K : PySem.W.Frag) : List V → Hp → VK → Prop := fun vs H Q => ∃ (a : Addr) (ns : List Int), vs = [V.ref a] ∧ (SqL K H a (ns.map V.int) ∨ SqT K H a (ns.map V.int)) ∧ Q (.int ns.sum) H
open PySem.Spec PyProof.Rows in
theorem cr_sumA {X : Cx} (hc : X.calm = true) : CallR X (.builtin "sum") (rSumA X.K) := by
  intro pins s σ H vs us Q I r ⟨a, ns, e, hs, q⟩
  subst e
  rcases hs with hs | hs
  · exact cr_sum hc pins s σ H _ us Q I r ⟨a, ns, rfl, hs, q⟩
  · obtain ⟨its, rv, hl, _⟩ := I.tuple hs
    rw [Vals.ref1 r]
    obtain ⟨xs, e⟩ := rv.ints.allInts.items
    have hn : numsOf (intItems xs).toList = ns := by rw [← e]; exact rv.ints.numsOf
    rw [nums_intItems] at hn
    rw [e] at hl
    refine PySem.W.ktm_sumG (I.ok.hd hc) hl fun h' tk t' hk => ?_
    rw [preSum_eq, List.take_of_length_le (by simp), hn]
    exact ⟨.int _, H, I.kept hk, ⟨_, rfl⟩, q⟩
theorem dSum_l : CaL K (rSumA K) dSum := by
  rintro ρ H S vs ds Q' Q s r0 ⟨d, ns, rfl, hs, q⟩ po
  obtain ⟨v, rfl, r⟩ := r0.one
  obtain ⟨a, ws, rfl, sq, rs⟩ := hs.sq s r
  have := rs.ints
  subst this
  exact ⟨a, ns, rfl, sq, po.here s (.int _) q⟩
theorem dMax2_l : CaL K (fun xs H Q => ∃ i j, xs = [.int i, .int j] ∧ Q (.int (if j > i then j else i)) H) dMax2 := by
  rintro ρ H S vs ds Q' Q s r0 ⟨i, j, rfl, q⟩ po
  obtain ⟨v, w, rfl, r1, r2⟩ := r0.two
  cases r1; cases r2
  exact ⟨i, j, rfl, po.here s (.int _) q⟩
theorem dAll_l : CaL K (rAll K) dAll := by
  rintro ρ H S vs ds Q' Q s r0 ⟨d, bs, rfl, hs, q⟩ po
  obtain ⟨v, rfl, r⟩ := r0.one
  obtain ⟨a, ws, rfl, sq, rs⟩ := hs.sq s r
  have := rs.bls
  subst this
  exact ⟨a, bs, rfl, sq, po.here s (.bl _) q⟩
theorem dInt_l : CaL K (fun xs H Q => (∃ i, xs = [.int i] ∧ Q (.int i) H) ∨ ∃ k, xs = [.bl k] ∧ Q (.int (if k then 1 else 0)) H) dInt := by
  rintro ρ H S vs ds Q' Q s r0 ⟨k, rfl, q⟩ po
  obtain ⟨v, rfl, r⟩ := r0.one
  cases r
  exact .inr ⟨k, rfl, po.here s (.int _) q⟩
end
/-! ### isinstance -/
/-- the built-in type of a value, or the own class of an instance -/
def tyD (S : Store) : D → Option Value
  | .non => some (.type "NoneType")
  | .bl _ => some (.type "bool")
  | .int _ => some (.type "int")
  | .str _ => some (.type "str")
  | .tup _ => some (.type "tuple")
  | .loc r f => match S r f with
    | some (.lst _) => some (.type "list")
    | some (.dT _) => some (.type "dict")
    | some (.dK _) => some (.type "dict")
    | some (.ins C _) => some (.ref C)
    | _ => none
  | _ => none
/-- what TyOf asks of an own class -/
structure ClsTy (K : PySem.W.Frag) (C : Addr) : Prop where
  cl : Cls K C
  ha : PySem.W.findIn K (.ref C) "__class__" = some (some (.builtin "object.__class__"))
  hn : PySem.W.specialIn K (.builtin "object.__class__") "__get__" = some (some (.builtin "getset_descriptor.__get__"))
  htk : PySem.W.takesIn K (.builtin "object.__class__") = some true
  hm : PySem.W.mroIn K C (.type "object") = some true
theorem tyD_of {K : PySem.W.Frag} {ρ : Rho} {H : Hp} {S : Store} (s : Sim K ρ H S) {d : D} {v : V} {t : Value} (r : VR K ρ H v d) (h : tyD S d = some t) (hc : ∀ C, t = .ref C → ClsTy K C) : TyOf K H v t := by
  cases r with
  | non => cases h; exact .non
  | bl b => cases h; exact .bl b
  | int i => cases h; exact .int i
  | str x => cases h; exact .str x
  | tup h1 _ => cases h; exact .tup h1
  | rol _ => cases h
  | raw _ => cases h
  | @loc rg fl ad h1 =>
    unfold tyD at h
    cases e : S rg fl with
    | none => simp only [e] at h; cases h
    | some o =>
      obtain ⟨b, hb, e1, e2, orr⟩ := s.obj _ _ _ e
      rw [h1] at e1; cases e1
      cases o with
      | lst ds => simp only [e] at h; cases h; obtain ⟨vs, rfl, _⟩ := orr; exact .lst e2
      | dT ds => simp only [e] at h; cases h; obtain ⟨vs, rfl, _⟩ := orr; exact .dT e2
      | dK ds => simp only [e] at h; cases h; obtain ⟨vs, rfl, _⟩ := orr; exact .dK e2
      | frz ds => simp only [e] at h; cases h
      | ins C fs =>
        simp only [e] at h; cases h
        obtain ⟨dx, gs, rfl, _⟩ := orr
        have c := hc C rfl
        exact .ins e2 c.cl c.ha c.hn c.htk c.hm
/-- isinstance(x, c): c a class (its value cv), b the answer -/
def dIsi (K : PySem.W.Frag) (cv : V) (cu : Value) : DA := fun ds S Q => ∃ d t b, ds = [d, .raw cv] ∧ tyD S d = some t ∧ (∀ C, t = .ref C → ClsTy K C) ∧ PySem.W.kitOne K t cu = some b ∧ Q (.bl b) S
def rIsi (K : PySem.W.Frag) (cv : V) (cu : Value) : List V → Hp → VK → Prop := fun xs H Q => ∃ x t b, xs = [x, cv] ∧ TyOf K H x t ∧ PySem.W.kitOne K t cu = some b ∧ Q (.bl b) H
open PySem.Spec PyProof.Rows in
theorem cr_isi {X : Cx} {cv : V} {cu : Value} (hr : ∀ u, RelV cv u → u = cu) : CallR X (.builtin "isinstance") (rIsi X.K cv cu) := by
  intro pins s σ H vs us Q I r ⟨x, t, b, e, ty, hk, q⟩
  subst e
  obtain ⟨u, u', rfl, r1, r2⟩ := vals2 r
  obtain rfl := hr _ r2
  exact isinst_ok I r1 ty hk fun tk => ⟨.bl b, H, I.tok _, rfl, q⟩
theorem dIsi_l {K : PySem.W.Frag} {cv : V} {cu : Value} : CaL K (rIsi K cv cu) (dIsi K cv cu) := by
  rintro ρ H S vs ds Q' Q s r0 ⟨d, t, b, rfl, ht, hc, hk, q⟩ po
  obtain ⟨v, w, rfl, r1, r2⟩ := r0.two
  cases r2
  exact ⟨v, t, b, rfl, tyD_of s r1 ht hc, hk, po.here s (.bl _) q⟩
section
variable {X : Cx} {W : WX} {a b c e o : Expr} {es : List Expr} {ra rb rc : LTE} {rL : LTA} {rA rB : LTT} {pos p apos cpos : Pos}
/-! ### truth -/
/-- a value's truth -/
inductive TruD (S : Store) : D → Bool → Prop
  | bl (b : Bool) : TruD S (.bl b) b
  | seq {d : D} {ds : List D} : SeqD S d ds → TruD S d (!ds.isEmpty)
  | int (i : Int) : TruD S (.int i) (i != 0)
  | non : TruD S .non false
def rTru (r : LTE) : LTT := fun env S Q Ex => r env S (fun d S1 => ∃ k, TruD S1 d k ∧ Q k S1) Ex
theorem isEmpty_vr {K : PySem.W.Frag} {ρ : Rho} {H : Hp} {vs : List V} {ds : List D} (r : VRs K ρ H vs ds) : vs.isEmpty = ds.isEmpty := by
  cases r <;> rfl
theorem lt_tru (ha : LE X W a ra) (he : ∀ whole, isTrue a X.env whole = (do let v ← whole; standAt a.pos; holding [v] (truthy v)) := by intro _; rfl) : LT X W a (rTru ra) :=
  ptI (pt_truth ha he) fun σ H Q ⟨ρ, env, S, Q', Ex, s, er, q, po, xp⟩ =>
    ⟨ρ, env, S, _, Ex, s, er, q, fun ρ1 x d H1 S1 e1 s1 r1 ⟨k, tk, q1⟩ => by
      refine ⟨k, ?_, po ρ1 k H1 S1 e1 s1 q1⟩
      cases tk with
      | bl b => cases r1; rfl
      | int i => cases r1; rfl
      | non => cases r1; rfl
      | seq hs =>
        obtain ⟨ad, vs, rfl, sq, rs⟩ := hs.sq s1 r1
        rw [← isEmpty_vr rs]
        rcases sq with sq | sq
        · exact .inl ⟨vs, sq, rfl⟩
        · exact .inr (.inl ⟨vs, sq, rfl⟩), xp⟩
/-! ### methods of built-ins -/
abbrev DM := D → List D → Store → QD → Prop
def MtL (K : PySem.W.Frag) (T : String) (rV : V → List V → Hp → VK → Prop) (ty : D → Store → Prop) (rD : DM) : Prop :=
  (∀ ρ H S v d, Sim K ρ H S → VR K ρ H v d → ty d S → tyV K T v H) ∧
  ∀ ρ H S v d vs ds Q' Q, Sim K ρ H S → VR K ρ H v d → VRs K ρ H vs ds → rD d ds S Q' → Post K ρ H Q' Q → rV v vs H Q
def rBM (ty : D → Store → Prop) (rD : DM) (ro : LTE) (rl : LTA) : LTE := fun env S Q Ex => ro env S (fun d S1 => ty d S1 ∧ rl env S1 (fun ds S2 => rD d ds S2 Q) Ex) Ex
open PySem.Spec PyProof.Rows in
theorem le_bm {T id : String} {name : Str} {rV : V → List V → Hp → VK → Prop} {ty : D → Store → Prop} {rD : DM} (pa : PlainAttrs T) (slot : Slot T name id) (hty : typeOf (.builtin id) = pure (.type "method_descriptor")) (hm : MtR X id rV) (hl : MtL X.K T rV ty rD) (ho : LE X W o ra) (ha : LA X W (e :: es) rL)
    (hbase : attributeBase o name X.env (eval o X.env) = eval o X.env := by rfl)
    (hfew : ((backTo cpos (starEach (e :: es) X.env)).all (fun x => !x.1) && (backToKw cpos (keywordEach [] X.env)).all (fun x => x.1.isSome)
      && decide ((e :: es).length + ([] : List Keyword).length + (if ([] : List Keyword).isEmpty then 0 else 1) < 30)) = true := by rfl)
    (hline : (apos.endLine == cpos.line) = true := by rfl) (hs : starEach (e :: es) X.env = (false, eval e X.env) :: starEach es X.env := by rfl) (hplain : (backTo cpos (starEach es X.env)).any (·.1) = false := by rfl) :
    LE X W (.Call (.Attribute o name apos) (e :: es) [] cpos) (rBM ty rD ra rL) :=
  peI (pe_bm pa slot hty hm ho ha hbase hfew hline hs hplain) fun σ H Q ⟨ρ, env, S, Q', Ex, s, er, q, po, xp⟩ =>
    ⟨ρ, env, S, _, Ex, s, er, q, fun ρ1 x d H1 S1 e1 s1 r1 ⟨ht, q1⟩ => ⟨hl.1 ρ1 H1 S1 x d s1 r1 ht, ρ1, env, S1, _, Ex, s1, er.mono e1, q1, fun ρ2 vs ds H2 S2 e2 s2 r2 q2 =>
      hl.2 ρ2 H2 S2 x d vs ds Q' Q s2 (r1.mono e2) r2 q2 (po.ext (e1.trans e2)), xp.ext e1⟩, xp⟩
def isL : D → Store → Prop := fun d S => ∃ ds, LstD S d ds
theorem isL_ty {K : PySem.W.Frag} : ∀ ρ H S v d, Sim K ρ H S → VR K ρ H v d → isL d S → tyV K "list" v H := fun ρ H S v d s r ⟨ds, h⟩ => by
  obtain ⟨a, vs, rfl, sq, _⟩ := h.sq s r
  exact .inl ⟨rfl, vs, sq⟩
theorem lst_of {K : PySem.W.Frag} {ρ : Rho} {H : Hp} {S : Store} (s : Sim K ρ H S) {rg : Nat} {fl : Fld} {ds : List D} {v : V} (h : S rg fl = some (.lst ds)) (r : VR K ρ H v (.loc rg fl)) :
    ∃ a vs, v = .ref a ∧ ρ rg fl = some a ∧ H a = some (.lst vs) ∧ VRs K ρ H vs ds := by
  cases r with
  | loc h1 =>
    obtain ⟨b, hb, e1, e2, vs, e3, rs⟩ := s.obj _ _ _ h
    rw [h1] at e1; cases e1; subst e3
    exact ⟨_, vs, rfl, h1, e2, rs⟩
/-- a list is written -/
theorem lst_put {K : PySem.W.Frag} {ρ : Rho} {H : Hp} {S : Store} (s : Sim K ρ H S) {rg : Nat} {fl : Fld} {ds ds' : List D} {a : Addr} {vs vs' : List V} (h : S rg fl = some (.lst ds)) (h1 : ρ rg fl = some a) (h2 : H a = some (.lst vs)) (r : VRs K ρ H vs' ds') :
    Sim K ρ (L2.upd H a (.lst vs')) (S.set rg fl (.lst ds')) ∧ Ext ρ H ρ (L2.upd H a (.lst vs')) := by
  have ext : Ext ρ H ρ (L2.upd H a (.lst vs')) := Ext.upd h2 trivial
  exact ⟨s.put h1 (by rw [h]; simp) h2 trivial ⟨vs', rfl, r.mono ext⟩, ext⟩
def mAppend : DM := fun d ds S Q => ∃ rg fl es e, d = .loc rg fl ∧ ds = [e] ∧ S rg fl = some (.lst es) ∧ es.length < sizeLine ∧ Q .non (S.set rg fl (.lst (es ++ [e])))
theorem mAppend_l {K : PySem.W.Frag} : MtL K "list" rAppend isL mAppend := by
  refine ⟨isL_ty, ?_⟩
  rintro ρ H S v d vs ds Q' Q s r rs ⟨rg, fl, es, e, rfl, rfl, hS, hl, q⟩ po
  obtain ⟨a, ws, rfl, h1, h2, rw'⟩ := lst_of s hS r
  obtain ⟨y, rfl, ry⟩ := rs.one
  obtain ⟨s2, e2⟩ := lst_put s hS h1 h2 (rw'.append (.cons ry .nil))
  exact ⟨a, ws, y, rfl, rfl, h2, by rw [rw'.length]; exact hl, po _ _ _ _ _ e2 s2 .non q⟩
/-- xs.pop(0) -/
def mPop0 : DM := fun d ds S Q => ∃ rg fl e es, d = .loc rg fl ∧ ds = [.int 0] ∧ S rg fl = some (.lst (e :: es)) ∧ Q e (S.set rg fl (.lst es))
theorem mPop0_l {K : PySem.W.Frag} : MtL K "list" rPopAt isL mPop0 := by
  refine ⟨isL_ty, ?_⟩
  rintro ρ H S v d vs ds Q' Q s r rs ⟨rg, fl, e, es, rfl, rfl, hS, q⟩ po
  obtain ⟨a, ws, rfl, h1, h2, rw'⟩ := lst_of s hS r
  obtain ⟨y, rfl, ry⟩ := rs.one
  cases ry
  cases rw' with
  | @cons w ws' _ _ hw hws =>
    obtain ⟨s2, e2⟩ := lst_put s hS h1 h2 hws
    refine ⟨a, w :: ws', 0, 0, w, rfl, rfl, h2, by decide, by decide, ?_, rfl, po _ _ _ _ _ e2 s2 (hw.mono e2) q⟩
    rw [seqIndex_of (Int.le_refl _) (by simp <;> omega)]; rfl
theorem le_append (ho : LE X W o ra) (ha : LE X W e rb)
    (hbase : attributeBase o "append" X.env (eval o X.env) = eval o X.env := by rfl)
    (hfew : ((backTo cpos (starEach [e] X.env)).all (fun x => !x.1) && (backToKw cpos (keywordEach [] X.env)).all (fun x => x.1.isSome)
      && decide (([e] : List Expr).length + ([] : List Keyword).length + (if ([] : List Keyword).isEmpty then 0 else 1) < 30)) = true := by rfl)
    (hline : (apos.endLine == cpos.line) = true := by rfl) (hs : starEach [e] X.env = (false, eval e X.env) :: starEach [] X.env := by rfl) (hplain : (backTo cpos (starEach [] X.env)).any (·.1) = false := by rfl) :
    LE X W (.Call (.Attribute o "append" apos) [e] [] cpos) (rBM isL mAppend ra (rCons rb rNil)) :=
  le_bm PySem.F.plainAttrs_list PySem.F.slot_list_append PySem.F.type_list_append mt_append mAppend_l ho (la_cons ha la_nil hs) hbase hfew hline hs hplain
theorem le_pop0 (ho : LE X W o ra) (ha : LE X W e rb)
    (hbase : attributeBase o "pop" X.env (eval o X.env) = eval o X.env := by rfl)
    (hfew : ((backTo cpos (starEach [e] X.env)).all (fun x => !x.1) && (backToKw cpos (keywordEach [] X.env)).all (fun x => x.1.isSome)
      && decide (([e] : List Expr).length + ([] : List Keyword).length + (if ([] : List Keyword).isEmpty then 0 else 1) < 30)) = true := by rfl)
    (hline : (apos.endLine == cpos.line) = true := by rfl) (hs : starEach [e] X.env = (false, eval e X.env) :: starEach [] X.env := by rfl) (hplain : (backTo cpos (starEach [] X.env)).any (·.1) = false := by rfl) :
    LE X W (.Call (.Attribute o "pop" apos) [e] [] cpos) (rBM isL mPop0 ra (rCons rb rNil)) :=
  le_bm PySem.F.plainAttrs_list PySem.F.slot_list_pop PySem.F.type_list_pop mt_popAt mPop0_l ho (la_cons ha la_nil hs) hbase hfew hline hs hplain
/-! ### lists: + ; dicts: in -/
def oCat (n : LO → Store → QD → Prop) : D2 := fun d e S Q => ∃ r f r' f' ds es, d = .loc r f ∧ e = .loc r' f' ∧ S r f = some (.lst ds) ∧ S r' f' = some (.lst es) ∧ ds.length + es.length ≤ sizeLine ∧ n (.lst (ds ++ es)) S Q
theorem oCat_l {K : PySem.W.Frag} {n : LO → Store → QD → Prop} (hn : NewOk n) : OpL K rCat (oCat n) := by
  rintro ρ H S x y d e Q' Q s r1 r2 ⟨r, f, r', f', ds, es, rfl, rfl, h1, h2, hl, q⟩ po
  obtain ⟨a, vs, rfl, _, g2, rv⟩ := lst_of s h1 r1
  obtain ⟨a', ws, rfl, _, g3, rw'⟩ := lst_of s h2 r2
  exact ⟨a, a', vs, ws, rfl, rfl, g2, g3, by rw [rv.length, rw'.length]; exact hl, fun p np => hn s q po (ho := .lst (vs ++ ws)) ⟨_, rfl, rv.append rw'⟩ p np⟩
theorem le_cat {n : LO → Store → QD → Prop} (hn : NewOk n) (ha : LE X W a ra) (hb : LE X W b rb) : LE X W (.BinOp a .Add b pos) (rOp (oCat n) ra rb) := le_op op_cat (oCat_l hn) ha hb
def oIn : D2 := fun e d S Q => ∃ o, DAt S d e o ∧ Q (.bl o.isSome) S
theorem oIn_ok {K : PySem.W.Frag} : OpL K (fun y x H Q => ∃ a o, x = .ref a ∧ DGet H a y o ∧ Q (.bl o.isSome) H) oIn := by
  rintro ρ H S x y d e Q' Q s r1 r2 ⟨o, h, q⟩ po
  obtain ⟨a, ov, rfl, g, hi, _⟩ := dAt_vr s h r2 r1
  exact ⟨a, ov, rfl, g, by rw [hi]; exact po.here s (.bl _) q⟩
theorem op_din (hu : X.A.units + 1 < cLine) : OpR X (compareOp .In) (fun y x H Q => ∃ a o, x = .ref a ∧ DGet H a y o ∧ Q (.bl o.isSome) H) := by
  intro pins s σ H x y v u Q I rx ry ⟨a, ov, ex, g, q⟩
  subst ex
  obtain rfl : u = Value.ref a := ry
  exact d_in hu I g rx fun s3 I3 => ⟨.bl ov.isSome, H, I3, rfl, q⟩
theorem le_din (hu : X.A.units + 1 < cLine) (ha : LE X W a ra) (hb : LE X W b rb) (hm : behindInMarks .In b = false := by rfl) : LE X W (.Compare a [.In] [b] pos) (rOp oIn ra rb) := le_cmp (op_din hu) oIn_ok ha hb hm
theorem lt_din (hu : X.A.units + 1 < cLine) (ha : LE X W a ra) (hb : LE X W b rb) (hm : behindInMarks .In b = false := by rfl) : LT X W (.Compare a [.In] [b] pos) (rTest (rOp oIn ra rb)) := lt_cmp (op_din hu) oIn_ok ha hb hm
end
/-! ### defs and methods -/
abbrev LSp := List D → Store → QD → (Value → Store → Prop) → Prop
def liftSp (K : PySem.W.Frag) (sp : LSp) : Sp := fun vs H Q E => ∃ ρ S ds Q' Ex, Sim K ρ H S ∧ VRs K ρ H vs ds ∧ sp ds S Q' Ex ∧ Post K ρ H Q' Q ∧ (∀ ρ' H' S' c, Ext ρ H ρ' H' → Sim K ρ' H' S' → Ex c S' → E c none H')
/-- called where nothing is raised -/
def noX : Value → Store → Prop := fun _ _ => False
section
variable {X : Cx} {W : WX} {a b c e o : Expr} {es : List Expr} {ra rb rc : LTE} {rL : LTA} {rA rB : LTT} {pos p apos : Pos} {CXq : CXT} {k : Nat} {f C : Addr} {fd : FuncData} {ps : List Str} {sp : LSp} {x m : Str}
def rDef (sp : LSp) (r : LTA) : LTE := fun env S Q Ex => r env S (fun ds S1 => sp ds S1 Q noX) Ex
theorem le_def (F : FnOk X.prog X.w X.K X.mg X.base CXq k f fd ps (liftSp X.K sp)) (hr : Room k X.A) (hg : Gl X x) (hm : X.mg x = some (.ref f)) (hk : PySem.W.keepIn X.K (.ref f) = true) (hb : Binds X.K fd ps []) (hx : Passes CXq X E0)
    (ha : LA X W (e :: es) rL) (hdb : (x == ("__debug__" : Str)) = false := by decide) (he : starEach (e :: es) X.env = (false, eval e X.env) :: starEach es X.env := by rfl) (hpl : (backTo pos (starEach es X.env)).any (·.1) = false := by rfl) :
    LE X W (.Call (.Name x p) (e :: es) [] pos) (rDef sp rL) :=
  peI (pe_call F hr hg hm hk hb .nil hx ha hdb he hpl) fun σ H Q ⟨ρ, env, S, Q', Ex, s, er, q, po, xp⟩ =>
    ⟨ρ, env, S, _, Ex, s, er, q, fun ρ1 vs ds H1 S1 e1 s1 r1 q1 => by
      show liftSp X.K sp (vs ++ []) H1 Q E0
      rw [List.append_nil]
      exact ⟨ρ1, S1, ds, Q', noX, s1, r1, q1, po.ext e1, fun _ _ _ _ _ _ z => z.elim⟩, xp⟩
/-- the same where what is raised goes on -/
def rDefX (sp : LSp) (r : LTA) : LTE := fun env S Q Ex => r env S (fun ds S1 => sp ds S1 Q fun c S2 => Ex c env S2) Ex
theorem le_defX (F : FnOk X.prog X.w X.K X.mg X.base (L2.CX X.prog X.w) k f fd ps (liftSp X.K sp)) (hr : Room k X.A) (hg : Gl X x) (hm : X.mg x = some (.ref f)) (hk : PySem.W.keepIn X.K (.ref f) = true) (hb : Binds X.K fd ps []) (tk : Takes X W)
    (ha : LA X W (e :: es) rL) (hdb : (x == ("__debug__" : Str)) = false := by decide) (he : starEach (e :: es) X.env = (false, eval e X.env) :: starEach es X.env := by rfl) (hpl : (backTo pos (starEach es X.env)).any (·.1) = false := by rfl) :
    LE X W (.Call (.Name x p) (e :: es) [] pos) (rDefX sp rL) :=
  peI (pe_callS (E := WE W) F hr hg hm hk hb (fun σ => passAt tk σ) ha hdb he hpl) fun σ H Q ⟨ρ, env, S, Q', Ex, s, er, q, po, xp⟩ =>
    ⟨ρ, env, S, _, Ex, s, er, q, fun ρ1 vs ds H1 S1 e1 s1 r1 q1 =>
      ⟨ρ1, S1, ds, Q', _, s1, r1, q1, po.ext e1, fun ρ2 H2 S2 c e2 s2 z => xp ρ2 σ env H2 S2 c (e1.trans e2) s2 (er.mono (e1.trans e2)) z⟩, xp⟩
def rMeth (C : Addr) (m : Str) (sp : LSp) (ro : LTE) (r : LTA) : LTE := fun env S Q Ex => ro env S (fun d S1 => ∃ rg fl fs, d = .loc rg fl ∧ S1 rg fl = some (.ins C fs) ∧ fs.lookup m = none ∧ r env S1 (fun ds S2 => sp (d :: ds) S2 Q noX) Ex) Ex
theorem le_meth {pl : Sem Bool} (he : LE X W o ra) (cl : Cls X.K C) (hm : Meth X.K C m f) (F : FnOk X.prog X.w X.K X.mg X.base CXq k f fd ps (liftSp X.K sp)) (hr : Room k X.A) (hb : Binds X.K fd ps []) (hx : Passes CXq X E0) (ha : LA X W (e :: es) rL)
    (hst : starEach (e :: es) X.env = (false, eval e X.env) :: starEach es X.env := by rfl) (hpl : (backTo pos (starEach es X.env)).any (·.1) = false := by rfl)
    (ht : eval (.Call (.Attribute o m apos) (e :: es) [] pos) X.env = (do
      let ov ← eval o X.env
      standAt apos.atName
      let (f, first) ← holding [ov] (getMethod ov m pl)
      callWith pos f first (backTo pos (starEach (e :: es) X.env)) (backToKw pos (keywordEach [] X.env))) := by rfl) :
    LE X W (.Call (.Attribute o m apos) (e :: es) [] pos) (rMeth C m sp ra rL) :=
  peI (pe_meth (pl := pl) he cl hm F hr hb .nil hx ha hst hpl ht) fun σ H Q ⟨ρ, env, S, Q', Ex, s, er, q, po, xp⟩ =>
    ⟨ρ, env, S, _, Ex, s, er, q, fun ρ1 v d H1 S1 e1 s1 r1 ⟨rg, fl, fs, ed, hS, hn, q1⟩ => by
      subst ed
      obtain ⟨ad, dx, gs, rfl, _, h2, kr⟩ := ins_of s1 hS r1
      refine ⟨ad, dx, gs, rfl, h2, kr.lookupN hn, ρ1, env, S1, _, Ex, s1, er.mono e1, q1, fun ρ2 vs ds H2 S2 e2 s2 r2 q2 => ?_, xp.ext e1⟩
      show liftSp X.K sp (V.ref ad :: (vs ++ [])) H2 Q E0
      rw [List.append_nil]
      exact ⟨ρ2, S2, _, Q', noX, s2, .cons (r1.mono e2) r2, q2, po.ext (e1.trans e2), fun _ _ _ _ _ _ z => z.elim⟩, xp⟩
def rMeth0 (C : Addr) (m : Str) (sp : LSp) (ro : LTE) : LTE := fun env S Q Ex => ro env S (fun d S1 => ∃ rg fl fs, d = .loc rg fl ∧ S1 rg fl = some (.ins C fs) ∧ fs.lookup m = none ∧ sp [d] S1 Q noX) Ex
theorem le_meth0 {pl : Sem Bool} (he : LE X W o ra) (cl : Cls X.K C) (hm : Meth X.K C m f) (F : FnOk X.prog X.w X.K X.mg X.base CXq k f fd ps (liftSp X.K sp)) (hr : Room k X.A) (hb : Binds X.K fd ps []) (hx : Passes CXq X E0)
    (ht : eval (.Call (.Attribute o m apos) [] [] pos) X.env = (do
      let ov ← eval o X.env
      standAt apos.atName
      let (f, first) ← holding [ov] (getMethod ov m pl)
      callWith pos f first (backTo pos (starEach [] X.env)) (backToKw pos (keywordEach [] X.env))) := by rfl) :
    LE X W (.Call (.Attribute o m apos) [] [] pos) (rMeth0 C m sp ra) :=
  peI (pe_meth0 (pl := pl) he cl hm F hr hb .nil hx ht) fun σ H Q ⟨ρ, env, S, Q', Ex, s, er, q, po, xp⟩ =>
    ⟨ρ, env, S, _, Ex, s, er, q, fun ρ1 v d H1 S1 e1 s1 r1 ⟨rg, fl, fs, ed, hS, hn, q1⟩ => by
      subst ed
      obtain ⟨ad, dx, gs, rfl, _, h2, kr⟩ := ins_of s1 hS r1
      refine ⟨ad, dx, gs, rfl, h2, kr.lookupN hn, ?_⟩
      show liftSp X.K sp (V.ref ad :: ([] ++ [])) H1 Q E0
      exact ⟨ρ1, S1, _, Q', noX, s1, .cons r1 .nil, q1, po.ext e1, fun _ _ _ _ _ _ z => z.elim⟩, xp⟩
/-- o.m(..) where what is raised goes on -/
def rMethX (C : Addr) (m : Str) (sp : LSp) (ro : LTE) (r : LTA) : LTE := fun env S Q Ex => ro env S (fun d S1 => ∃ rg fl fs, d = .loc rg fl ∧ S1 rg fl = some (.ins C fs) ∧ fs.lookup m = none ∧ r env S1 (fun ds S2 => sp (d :: ds) S2 Q fun c S3 => Ex c env S3) Ex) Ex
def tMethS (C : Addr) (m : Str) (sp : Sp) (E : L2.St → XK) (ta : TE) (t : TA) : TE := fun σ H Q => ta σ H fun x H1 => ∃ a dx fs, x = .ref a ∧ H1 a = some (.ins C dx fs) ∧ fs.lookup m = none ∧
  t σ H1 fun vs H2 => sp (x :: vs) H2 Q (E σ)
theorem pe_methS {pl : Sem Bool} {sp : Sp} {ta : TE} {t : TA} {E : L2.St → XK} (he : PE X o ta) (cl : Cls X.K C) (hm : Meth X.K C m f) (F : FnOk X.prog X.w X.K X.mg X.base CXq k f fd ps sp) (hr : Room k X.A) (hb : Binds X.K fd ps []) (hx : ∀ σ, PassesAt CXq X σ (E σ)) (ha : PA X (e :: es) t)
    (hst : starEach (e :: es) X.env = (false, eval e X.env) :: starEach es X.env := by rfl) (hpl : (backTo pos (starEach es X.env)).any (·.1) = false := by rfl)
    (ht : eval (.Call (.Attribute o m apos) (e :: es) [] pos) X.env = (do
      let ov ← eval o X.env
      standAt apos.atName
      let (f, first) ← holding [ov] (getMethod ov m pl)
      callWith pos f first (backTo pos (starEach (e :: es) X.env)) (backToKw pos (keywordEach [] X.env))) := by rfl) :
    PE X (.Call (.Attribute o m apos) (e :: es) [] pos) (tMethS C m sp E ta t) := by
  refine ⟨fun pins s σ H Q I h => ?_⟩
  refine PySem.W.methodCall_KW (pl := pl) (thn (he.run pins s σ H _ I h) fun u s1 ⟨x, H1, I1, rx, a, dx, fs, ex, ea, l, q⟩ => ?_) ht
  subst ex
  obtain rfl : u = Value.ref a := rx
  refine getmeth_ok I1 ea cl hm l ?_
  refine PySem.W.callWith_K (first := [.ref a]) (h₀ := X.base) I.ok.mod.kin hm.kp (thn (ha.run pos pins s1 σ H1 _ I1 q) fun us s2 ⟨vs, H2, I2, r, q2⟩ => ⟨I2.kIn, ?_⟩) hst hpl
  exact run_fnS (us := .ref a :: us) (vs := .ref a :: vs) F hr hb (hx σ) I2 (.cons rfl r) q2
theorem le_methX {pl : Sem Bool} (he : LE X W o ra) (cl : Cls X.K C) (hm : Meth X.K C m f) (F : FnOk X.prog X.w X.K X.mg X.base (L2.CX X.prog X.w) k f fd ps (liftSp X.K sp)) (hr : Room k X.A) (hb : Binds X.K fd ps []) (tk : Takes X W) (ha : LA X W (e :: es) rL)
    (hst : starEach (e :: es) X.env = (false, eval e X.env) :: starEach es X.env := by rfl) (hpl : (backTo pos (starEach es X.env)).any (·.1) = false := by rfl)
    (ht : eval (.Call (.Attribute o m apos) (e :: es) [] pos) X.env = (do
      let ov ← eval o X.env
      standAt apos.atName
      let (f, first) ← holding [ov] (getMethod ov m pl)
      callWith pos f first (backTo pos (starEach (e :: es) X.env)) (backToKw pos (keywordEach [] X.env))) := by rfl) :
    LE X W (.Call (.Attribute o m apos) (e :: es) [] pos) (rMethX C m sp ra rL) :=
  peI (pe_methS (pl := pl) (E := WE W) he cl hm F hr hb (fun σ => passAt tk σ) ha hst hpl ht) fun σ H Q ⟨ρ, env, S, Q', Ex, s, er, q, po, xp⟩ =>
    ⟨ρ, env, S, _, Ex, s, er, q, fun ρ1 v d H1 S1 e1 s1 r1 ⟨rg, fl, fs, ed, hS, hn, q1⟩ => by
      subst ed
      obtain ⟨ad, dx, gs, rfl, _, h2, kr⟩ := ins_of s1 hS r1
      refine ⟨ad, dx, gs, rfl, h2, kr.lookupN hn, ρ1, env, S1, _, Ex, s1, er.mono e1, q1, fun ρ2 vs ds H2 S2 e2 s2 r2 q2 => ?_, xp.ext e1⟩
      have e02 := e1.trans e2
      exact ⟨ρ2, S2, _, Q', _, s2, .cons (r1.mono e2) r2, q2, po.ext e02, fun ρ3 H3 S3 c e3 s3 z => xp ρ3 σ env H3 S3 c (e02.trans e3) s3 (er.mono (e02.trans e3)) z⟩, xp⟩
/-- C(..): a new instance, named by n, then __init__ -/
def rMake (n : LO → Store → QD → Prop) (C : Addr) (sp : LSp) (r : LTA) : LTE := fun env S Q Ex => r env S (fun ds S1 => n (.ins C []) S1 fun d S2 => sp (d :: ds) S2 (fun z S3 => z = .non ∧ Q d S3) noX) Ex
theorem le_make {n : LO → Store → QD → Prop} (hn : NewOk n) (M : Mk X.K C f) (F : FnOk X.prog X.w X.K X.mg X.base CXq k f fd ps (liftSp X.K sp)) (hr : Room (k + 1) X.A) (hg : Gl X x) (hm : X.mg x = some (.ref C)) (hb : Binds X.K fd ps []) (hx : Passes CXq X E0)
    (ha : LA X W (e :: es) rL) (hdb : (x == ("__debug__" : Str)) = false := by decide) (he : starEach (e :: es) X.env = (false, eval e X.env) :: starEach es X.env := by rfl) (hpl : (backTo pos (starEach es X.env)).any (·.1) = false := by rfl) :
    LE X W (.Call (.Name x p) (e :: es) [] pos) (rMake n C sp rL) :=
  peI (pe_make M F hr hg hm hb .nil hx ha hdb he hpl) fun σ H Q ⟨ρ, env, S, Q', Ex, s, er, q, po, xp⟩ =>
    ⟨ρ, env, S, _, Ex, s, er, q, fun ρ1 vs ds H1 S1 e1 s1 r1 q1 => fun y dx ny ndx ne => by
      obtain ⟨s2, e2⟩ := s1.laidX (ho := .own y) ndx
      have ny2 : (L2.upd H1 dx (.own y)) y = none := by rw [upd_ne (Ne.symm ne)]; exact ny
      have key := hn (o := .ins C []) (ho := .ins C dx []) (Q := fun v H' => ∀ a, v = .ref a → liftSp X.K sp (.ref a :: (vs ++ [])) H' (fun v H2 => v = .non ∧ Q (.ref a) H2) E0) s2 q1 (fun ρ3 v d H3 S3 e3 s3 r3 q3 => ?_) ⟨dx, [], rfl, .nil⟩ y ny2
      · exact key y rfl
      · rintro a rfl
        rw [List.append_nil]
        have e03 := e2.trans e3
        refine ⟨ρ3, S3, _, _, noX, s3, .cons r3 (r1.mono e03), q3, fun ρ4 z w H4 S4 e4 s4 r4 ⟨ez, q4⟩ => ?_, fun _ _ _ _ _ _ z => z.elim⟩
        subst ez
        cases r4
        exact ⟨rfl, po ρ4 _ _ H4 S4 (e1.trans (e03.trans e4)) s4 (r3.mono e4) q4⟩, xp⟩
end
end SS
namespace SS
open PySem L2
structure LEnds where
  nx : LEnv → Store → Prop
  rt : QD
  bk : LEnv → Store → Prop := fun _ _ => False
  ct : LEnv → Store → Prop := fun _ _ => False
  ex : XD := fun _ _ _ => False
abbrev LTS := LEnds → LEnv → Store → Prop
def PostN (K : PySem.W.Frag) (ρ : Rho) (H : Hp) (n' : LEnv → Store → Prop) (n : L2.St → Hp → Prop) : Prop := ∀ ρ' σ' env' H' S', Ext ρ H ρ' H' → Sim K ρ' H' S' → EnvR K ρ' H' σ' env' → n' env' S' → n σ' H'
structure SPost (K : PySem.W.Frag) (ρ : Rho) (H : Hp) (D' : LEnds) (D : Ends) : Prop where
  nx : PostN K ρ H D'.nx D.nx
  rt : Post K ρ H D'.rt D.rt
  bk : PostN K ρ H D'.bk D.bk
  ct : PostN K ρ H D'.ct D.ct
section
variable {K : PySem.W.Frag} {ρ ρ1 : Rho} {H H1 : Hp} {D' : LEnds} {D : Ends}
theorem PostN.ext {n' : LEnv → Store → Prop} {n : L2.St → Hp → Prop} (h : PostN K ρ H n' n) (e : Ext ρ H ρ1 H1) : PostN K ρ1 H1 n' n := fun ρ' σ' env' H' S' e1 s er q => h ρ' σ' env' H' S' (e.trans e1) s er q
theorem SPost.ext (h : SPost K ρ H D' D) (e : Ext ρ H ρ1 H1) : SPost K ρ1 H1 D' D := ⟨h.nx.ext e, h.rt.ext e, h.bk.ext e, h.ct.ext e⟩
end
def lS (K : PySem.W.Frag) (W : WX) (r : LTS) : TS := fun D σ H => ∃ ρ env S D', Sim K ρ H S ∧ EnvR K ρ H σ env ∧ r D' env S ∧ SPost K ρ H D' D ∧ XPost K ρ H D'.ex W
def LS (X : Cx) (W : WX) (st : Stmt) (r : LTS) : Prop := PS X st (lS X.K W r)
def LSs (X : Cx) (W : WX) (st : List Stmt) (r : LTS) : Prop := PSs X st (lS X.K W r)
theorem psI {X : Cx} {e : Stmt} {t t' : TS} (h : PS X e t) (i : ∀ D σ H, t' D σ H → t D σ H) : PS X e t' := ⟨fun pins s σ H D I q => h.run pins s σ H D I (i D σ H q)⟩
theorem pssI {X : Cx} {e : List Stmt} {t t' : TS} (h : PSs X e t) (i : ∀ D σ H, t' D σ H → t D σ H) : PSs X e t' := ⟨fun pins s σ H D I q => h.run pins s σ H D I (i D σ H q)⟩
/-- what may be forgotten -/
def Wk (P : Store → Prop) (S : Store) : Prop := ∃ S₁, Sub S₁ S ∧ P S₁
theorem Wk.here {P : Store → Prop} {S : Store} (h : P S) : Wk P S := ⟨S, .refl, h⟩
section
variable {X : Cx} {W : WX} {a b c e o : Expr} {es : List Expr} {ra rb rc : LTE} {rL : LTA} {rA rB : LTT} {pos p apos cpos pos' : Pos} {st : Stmt} {rest : List Stmt} {t u : LTS}
def rNext : LTS := fun D env S => D.nx env S
def rSeq (t u : LTS) : LTS := fun D env S => t { D with nx := fun e s => Wk (u D e) s } env S
theorem lss_nil : LSs X W [] rNext := pssI pss_nil fun D σ H ⟨ρ, env, S, D', s, er, q, po, xp⟩ => po.nx ρ σ env H S .refl s er q
theorem lss_one (h : LS X W st t) : LSs X W [st] t := pss_one h
theorem lss_cons (h1 : LS X W st t) (h2 : LSs X W rest u) : LSs X W (st :: rest) (rSeq t u) :=
  pssI (pss_cons h1 h2) fun D σ H ⟨ρ, env, S, D', s, er, q, po, xp⟩ =>
    ⟨ρ, env, S, { D' with nx := fun e s => Wk (u D' e) s }, s, er, q, ⟨fun ρ1 σ1 env1 H1 S1 e1 s1 er1 ⟨S₁, sb, q1⟩ => ⟨ρ1, env1, S₁, D', s1.sub sb, er1, q1, po.ext e1, xp.ext e1⟩, po.rt, po.bk, po.ct⟩, xp⟩
theorem ls_pass : LS X W (.Pass pos) rNext := psI ps_pass fun D σ H ⟨ρ, env, S, D', s, er, q, po, xp⟩ => po.nx ρ σ env H S .refl s er q
def rNever : LTS := fun _ _ _ => False
theorem ls_never : LS X W st rNever := psI ps_never fun D σ H ⟨ρ, env, S, D', s, er, q, po, xp⟩ => q
theorem lss_never {sts : List Stmt} : LSs X W sts rNever := pssI pss_never fun D σ H ⟨ρ, env, S, D', s, er, q, po, xp⟩ => q
def rDrop (r : LTE) : LTS := fun D env S => r env S (fun _ S1 => D.nx env S1) D.ex
theorem ls_expr (he : LE X W e ra) (hs : swapsWith e none pos.line X.env = pure false := by rfl) : LS X W (.Expr e pos) (rDrop ra) :=
  psI (ps_expr he hs) fun D σ H ⟨ρ, env, S, D', s, er, q, po, xp⟩ =>
    ⟨ρ, env, S, _, D'.ex, s, er, q, fun ρ1 v d H1 S1 e1 s1 r1 q1 => po.nx ρ1 σ env H1 S1 e1 s1 (er.mono e1) q1, xp⟩
def rRet (r : LTE) : LTS := fun D env S => r env S D.rt D.ex
theorem ls_ret (he : LE X W e ra) : LS X W (.Return (some e) pos) (rRet ra) :=
  psI (ps_ret he) fun D σ H ⟨ρ, env, S, D', s, er, q, po, xp⟩ => ⟨ρ, env, S, D'.rt, D'.ex, s, er, q, po.rt, xp⟩
def rIf (c : LTT) (t u : LTS) : LTS := fun D env S => c env S (fun k S1 => if k = true then t D env S1 else u D env S1) D.ex
theorem ls_if {A B : List Stmt} (hc : LT X W c rA) (ha : LSs X W A t) (hb : LSs X W B u) : LS X W (.If c A B pos) (rIf rA t u) :=
  psI (ps_if hc ha hb) fun D σ H ⟨ρ, env, S, D', s, er, q, po, xp⟩ =>
    ⟨ρ, env, S, _, D'.ex, s, er, q, fun ρ1 k H1 S1 e1 s1 q1 => by
      cases k with
      | true => rw [if_pos rfl] at q1 ⊢; exact ⟨ρ1, env, S1, D', s1, er.mono e1, q1, po.ext e1, xp.ext e1⟩
      | false => rw [if_neg (by simp)] at q1 ⊢; exact ⟨ρ1, env, S1, D', s1, er.mono e1, q1, po.ext e1, xp.ext e1⟩, xp⟩
/-! ### assignments -/
def rSet (i : Nat) (r : LTE) : LTS := fun D env S => r env S (fun d S1 => D.nx (env.set i (some d)) S1) D.ex
theorem ls_set (i : Nat) {x : Str} (hN : X.N.Nodup) (he : LE X W e ra) (hi : X.N[i]? = some x := by rfl) (hx : Loc X.env.scope x := by first | exact .inl rfl | exact .inr rfl) (hs : swapsWith e (some (.Name x pos')) pos.line X.env = pure false := by rfl)
    (hf : X.fn x = true ∨ X.env.scope.names.lookup x = some .local := by first | exact .inl rfl | exact .inr rfl | assumption) : LS X W (.Assign [.Name x pos'] e pos) (rSet i ra) :=
  psI (ps_set hN hi hx he hs hf) fun D σ H ⟨ρ, env, S, D', s, er, q, po, xp⟩ =>
    ⟨ρ, env, S, _, D'.ex, s, er, q, fun ρ1 v d H1 S1 e1 s1 r1 q1 => po.nx ρ1 _ _ H1 S1 e1 s1 ((er.mono e1).set r1 i) q1, xp⟩
def rFld (C : Addr) (ro : LTE) (f : Str) (rv : LTE) : LTS := fun D env S => rv env S (fun y S1 => ro env S1 (fun d S2 => ∃ rg fl fs, d = .loc rg fl ∧ S2 rg fl = some (.ins C fs) ∧ fs.length < 1000 ∧ D.nx env (S2.set rg fl (.ins C (fput f y fs)))) D.ex) D.ex
theorem ls_fld {C : Addr} {f : Str} (cl : Cls X.K C) (na : NoAttr X.K C f) (ho : LE X W o ra) (hv : LE X W e rb) (hs : swapsWith e (some (.Attribute o f pos')) pos.line X.env = pure false := by rfl) : LS X W (.Assign [.Attribute o f pos'] e pos) (rFld C ra f rb) :=
  psI (ps_fld ho hv hs) fun D σ H ⟨ρ, env, S, D', s, er, q, po, xp⟩ =>
    ⟨ρ, env, S, _, D'.ex, s, er, q, fun ρ1 v y H1 S1 e1 s1 r1 q1 =>
      ⟨ρ1, env, S1, _, D'.ex, s1, er.mono e1, q1, fun ρ2 v2 d H2 S2 e2 s2 r2 ⟨rg, fl, fs, ed, hS, hl, q2⟩ => by
        subst ed
        obtain ⟨ad, dx, gs, rfl, h1, h2, kr⟩ := ins_of s2 hS r2
        have ext : Ext ρ2 H2 ρ2 (L2.upd H2 ad (.ins C dx (putF f v gs))) := Ext.upd h2 trivial
        have s3 := s2.put (o' := .ins C (fput f y fs)) h1 (by rw [hS]; simp) h2 trivial ⟨dx, _, rfl, (kr.fput (r1.mono e2)).mono ext⟩
        exact ⟨ad, C, dx, gs, rfl, h2, cl, na, by rw [kr.length]; exact hl, po.nx ρ2 σ env _ _ ((e1.trans e2).trans ext) s3 (er.mono ((e1.trans e2).trans ext)) q2⟩, xp.ext e1⟩, xp⟩
/-- o[i] = v by values: a list, a dict -/
inductive PutD (S : Store) (y : D) : D → D → Store → Prop
  | l {rg : Nat} {fl : Fld} {ds : List D} {k : Int} {j : Nat} : S rg fl = some (.lst ds) → ixN ds.length k = some j → PutD S y (.loc rg fl) (.int k) (S.set rg fl (.lst (ds.set j y)))
  | t {rg : Nat} {fl : Fld} {kvs : List (List Key × D)} {ks : List Key} : S rg fl = some (.dT kvs) → kvs.length < sizeLine → PutD S y (.loc rg fl) (.tup (ks.map kD)) (S.set rg fl (.dT (dput kvs ks y)))
  | k {rg : Nat} {fl : Fld} {kvs : List (Key × D)} {k : Key} : S rg fl = some (.dK kvs) → kvs.length < sizeLine → PutD S y (.loc rg fl) (kD k) (S.set rg fl (.dK (dput kvs k y)))
def tSetA : TSet := fun o i v H Q => rSetL o i v H Q ∨ ∃ a H4, o = .ref a ∧ DPut H a i v H4 ∧ Q H4
theorem set_all (hu : X.A.units + 1 < cLine) : PSet X tSetA := by
  intro pins s σ H o i v ov iv u Q I r1 r2 r3 h
  rcases h with h | ⟨ad, H4, ex, g, q⟩
  · exact set_list pins s σ H o i v ov iv u Q I r1 r2 r3 h
  · subst ex
    obtain rfl : ov = Value.ref ad := r1
    exact d_setItem hu I g r2 r3 fun s' I' => ⟨H4, I', q⟩
theorem putD_ok {K : PySem.W.Frag} {ρ : Rho} {H : Hp} {S S' : Store} {d i y : D} {vo vi vy : V} (s : Sim K ρ H S) (h : PutD S y d i S') (r1 : VR K ρ H vo d) (r2 : VR K ρ H vi i) (r3 : VR K ρ H vy y) (Q : Hp → Prop)
    (hq : ∀ H', Ext ρ H ρ H' → Sim K ρ H' S' → Q H') : tSetA vo vi vy H Q := by
  cases h with
  | @l rg fl ds k j hS hj =>
    obtain ⟨ad, vs, rfl, h1, h2, rs⟩ := lst_of s hS r1
    cases r2
    obtain ⟨s2, e2⟩ := lst_put s hS h1 h2 (rs.set r3 j)
    exact .inl ⟨ad, vs, k, j, rfl, rfl, h2, by rw [rs.length]; exact hj, hq _ e2 s2⟩
  | @t rg fl kvs ks hS hl =>
    cases r1 with
    | @loc _ _ ad h1 =>
      obtain ⟨b, hb, e1, e2, kws, e3, kr⟩ := s.obj _ _ _ hS
      rw [h1] at e1; cases e1; subst e3
      cases r2 with
      | tup h2 r2 =>
        have := kDs_vr r2
        subst this
        have ext : Ext ρ H ρ (L2.upd H ad (.dT (putK kws ks vy))) := Ext.upd e2 trivial
        exact .inr ⟨ad, _, rfl, DPut.t e2 h2 (by rw [kr.length]; exact hl), hq _ ext (s.put h1 (by rw [hS]; simp) e2 trivial ⟨_, rfl, (kr.put r3).mono ext⟩)⟩
  | @k rg fl kvs k hS hl =>
    cases r1 with
    | @loc _ _ ad h1 =>
      obtain ⟨b, hb, e1, e2, kws, e3, kr⟩ := s.obj _ _ _ hS
      rw [h1] at e1; cases e1; subst e3
      have := kD_vr r2
      subst this
      have ext : Ext ρ H ρ (L2.upd H ad (.dK (putK kws k vy))) := Ext.upd e2 trivial
      exact .inr ⟨ad, _, rfl, DPut.k e2 (by rw [kr.length]; exact hl), hq _ ext (s.put h1 (by rw [hS]; simp) e2 trivial ⟨_, rfl, (kr.put r3).mono ext⟩)⟩
def rSub (ro ri rv : LTE) : LTS := fun D env S => rv env S (fun y S1 => ro env S1 (fun d S2 => ri env S2 (fun i S3 => ∃ S4, PutD S3 y d i S4 ∧ D.nx env S4) D.ex) D.ex) D.ex
theorem ls_sub (hu : X.A.units + 1 < cLine) {i : Expr} (ho : LE X W o ra) (hi : LE X W i rb) (he : LE X W e rc)
    (ha : ∀ v, assign (.Subscript o i pos') X.env v = (do
      let ov ← holding [v] (eval o X.env)
      let iv ← holding [v, ov] (eval i X.env)
      standAt pos'
      holding [v, ov, iv] (setItem ov iv v)
      release [v, ov, iv] []) := by intro _; rfl) (hs : swapsWithSole [.Subscript o i pos'] e pos.line X.env = pure false := by rfl) (hw : swappedStores [.Subscript o i pos'] e X.env = pure none := by rfl)
    (h1 : (assignEach [.Subscript o i pos'] X.env).map (·.2) = [assign (.Subscript o i pos') X.env] := by rfl) : LS X W (.Assign [.Subscript o i pos'] e pos) (rSub ra rb rc) :=
  psI (ps_asg he (pg_sub ho hi (set_all hu) ha) hs hw h1) fun D σ H ⟨ρ, env, S, D', s, er, q, po, xp⟩ =>
    ⟨ρ, env, S, _, D'.ex, s, er, q, fun ρ1 vy y H1 S1 e1 s1 r1 q1 =>
      ⟨ρ1, env, S1, _, D'.ex, s1, er.mono e1, q1, fun ρ2 vo d H2 S2 e2 s2 r2 q2 =>
        ⟨ρ2, env, S2, _, D'.ex, s2, er.mono (e1.trans e2), q2, fun ρ3 vi i H3 S3 e3 s3 r3 ⟨S4, hp, q3⟩ =>
          putD_ok s3 hp (r2.mono e3) r3 (r1.mono (e2.trans e3)) _ fun H4 e4 s4 => po.nx ρ3 σ env H4 S4 (((e1.trans e2).trans e3).trans e4) s4 (er.mono (((e1.trans e2).trans e3).trans e4)) q3, xp.ext (e1.trans e2)⟩, xp.ext e1⟩, xp⟩
/-! ### targets: a name, a tuple of names -/
inductive Tg where
  | nm (i : Nat)
  | tp (is : List Nat)
def Tg.vars : Tg → List Nat
  | .nm i => [i]
  | .tp is => is
def gNames : List Nat → TGs
  | [] => gNil
  | i :: is => gCons (gName i) (gNames is)
def gTg (K : PySem.W.Frag) : Tg → TG
  | .nm i => gName i
  | .tp is => gTup K is.length (gNames is)
def setAll : LEnv → List Nat → List D → LEnv
  | env, i :: is, d :: ds => setAll (env.set i (some d)) is ds
  | env, _, _ => env
def rTg (t : Tg) (d : D) (env : LEnv) (Q : LEnv → Prop) : Prop := match t with
  | .nm i => Q (env.set i (some d))
  | .tp is => ∃ ds, d = .tup ds ∧ ds.length = is.length ∧ Q (setAll env is ds)
theorem wipe_set {σ : L2.St} {i : Nat} {x : Option V} : ∀ {vs : List Nat}, i ∈ vs → wipe (σ.set i x) vs = wipe σ vs
  | [], h => by cases h
  | v :: vs, h => by
    unfold wipe
    by_cases hv : i ∈ vs
    · rw [wipe_set hv]
    · have e : i = v := by
        rcases List.mem_cons.mp h with e | e
        · exact e
        · exact absurd e hv
      subst e
      have : ∀ ws : List Nat, i ∉ ws → wipe (σ.set i x) ws = (wipe σ ws).set i x := by
        intro ws hw
        induction ws with
        | nil => rfl
        | cons w ws ih =>
          unfold wipe
          rw [ih (fun h => hw (List.mem_cons_of_mem _ h))]
          exact List.set_comm _ _ (fun e => hw (e ▸ List.mem_cons_self))
      rw [this vs hv, List.set_set]
theorem gNames_ok {K : PySem.W.Frag} {ρ : Rho} {H : Hp} (ws : List Nat) : ∀ (is : List Nat) (vs : List V) (ds : List D) (σ : L2.St) (env : LEnv) (Q : L2.St → Hp → Prop), (∀ i ∈ is, i ∈ ws) → VRs K ρ H vs ds → ds.length = is.length → EnvR K ρ H σ env →
    (∀ σ', EnvR K ρ H σ' (setAll env is ds) → wipe σ' ws = wipe σ ws → Q σ' H) → gNames is vs σ H Q
  | [], vs, ds, σ, env, Q, _, r, hl, er, hq => by
    cases ds with
    | nil => cases r; exact ⟨rfl, hq σ er rfl⟩
    | cons _ _ => simp at hl
  | i :: is, vs, ds, σ, env, Q, hw, r, hl, er, hq => by
    cases r with
    | nil => simp at hl
    | @cons v vs d ds r rs =>
      refine ⟨v, vs, rfl, ?_⟩
      refine gNames_ok ws is vs ds _ (env.set i (some d)) Q (fun j hj => hw j (List.mem_cons_of_mem _ hj)) rs (by simpa using hl) (er.set r i) fun σ' er' e' => hq σ' er' (e'.trans (wipe_set (hw i List.mem_cons_self)))
theorem tg_ok {K : PySem.W.Frag} {ρ : Rho} {H : Hp} {t : Tg} {v : V} {d : D} {σ : L2.St} {env : LEnv} {Q' : LEnv → Prop} {Q : L2.St → Hp → Prop} (r : VR K ρ H v d) (er : EnvR K ρ H σ env) (h : rTg t d env Q')
    (hq : ∀ σ' env', EnvR K ρ H σ' env' → wipe σ' t.vars = wipe σ t.vars → Q' env' → Q σ' H) : gTg K t v σ H Q := by
  cases t with
  | nm i => exact hq _ _ (er.set r i) (wipe_set (List.mem_cons_self)) h
  | tp is =>
    obtain ⟨ds, rfl, hl, q⟩ := h
    cases r with
    | @tup ad vs _ h1 rs =>
      refine ⟨ad, vs, rfl, .of h1, by rw [rs.length]; exact hl, ?_⟩
      exact gNames_ok is is vs ds σ env Q (fun i hi => hi) rs hl er fun σ' er' e' => hq σ' _ er' e' q
/-- targets = value -/
def rUnp (t : Tg) (r : LTE) : LTS := fun D env S => r env S (fun d S1 => rTg t d env fun env' => D.nx env' S1) D.ex
theorem ls_unp {tg : Expr} {t : Tg} (he : LE X W e ra) (hg : PG X tg (gTg X.K t)) (hs : swapsWithSole [tg] e pos.line X.env = pure false := by rfl) (hw : swappedStores [tg] e X.env = pure none := by rfl)
    (h1 : (assignEach [tg] X.env).map (·.2) = [assign tg X.env] := by rfl) : LS X W (.Assign [tg] e pos) (rUnp t ra) :=
  psI (ps_asg he hg hs hw h1) fun D σ H ⟨ρ, env, S, D', s, er, q, po, xp⟩ =>
    ⟨ρ, env, S, _, D'.ex, s, er, q, fun ρ1 v d H1 S1 e1 s1 r1 q1 => tg_ok r1 (er.mono e1) q1 fun σ' env' er' _ q' => po.nx ρ1 σ' env' H1 S1 e1 s1 er' q', xp⟩
/-! ### walks -/
structure LWalk (K : PySem.W.Frag) (ρ0 : Rho) (H0 : Hp) (J : It) (items : List D) (G : Store → Prop) : Prop where
  go : ∀ ρ H S i, Ext ρ0 H0 ρ H → Sim K ρ H S → G S → i < items.length → J.go i H
  yld : ∀ ρ H S i x H', Ext ρ0 H0 ρ H → Sim K ρ H S → G S → i < items.length → J.yld i H x H' → Ext ρ H ρ H' ∧ Sim K ρ H' S ∧ ∃ d, items[i]? = some d ∧ VR K ρ H' x d
  stop : ∀ ρ H S, Ext ρ0 H0 ρ H → Sim K ρ H S → G S → J.stop items.length H
abbrev LTI := LEnv → Store → (List D → (Store → Prop) → Store → Prop) → XD → Prop
def lI (K : PySem.W.Frag) (W : WX) (ri : LTI) : TI := fun σ H R => ∃ ρ env S Q' Ex, Sim K ρ H S ∧ EnvR K ρ H σ env ∧ ri env S Q' Ex ∧
  (∀ ρ' H' S' J items G, Ext ρ H ρ' H' → Sim K ρ' H' S' → LWalk K ρ' H' J items G → Q' items G S' → R J H') ∧ XPost K ρ H Ex W
def LI (X : Cx) (W : WX) (tg iter : Expr) (ri : LTI) : Prop := PI X tg iter (lI X.K W ri)
theorem piI {X : Cx} {tg iter : Expr} {t t' : TI} (h : PI X tg iter t) (i : ∀ σ H R, t' σ H R → t σ H R) : PI X tg iter t' := ⟨fun pins s σ H R I q => h.run pins s σ H R I (i σ H R q)⟩
/-- over a list that stays -/
def iLst (r : LTE) : LTI := fun env S Q Ex => r env S (fun d S1 => ∃ ds, LstD S1 d ds ∧ Q ds (fun S' => LstD S' d ds) S1) Ex
theorem li_list {tg : Expr} (he : LE X W e ra) : LI X W tg e (iLst ra) :=
  piI (pi_list he) fun σ H R ⟨ρ, env, S, Q', Ex, s, er, q, po, xp⟩ =>
    ⟨ρ, env, S, _, Ex, s, er, q, fun ρ1 v d H1 S1 e1 s1 r1 ⟨ds, hd, q1⟩ => by
      obtain ⟨ad, vs, rfl, sq, rs⟩ := hd.sq s1 r1
      refine ⟨ad, rfl, ⟨vs, sq⟩, po ρ1 H1 S1 _ _ _ e1 s1 ⟨fun ρ2 H2 S2 i e2 s2 g hi => ?_, fun ρ2 H2 S2 i x H3 e2 s2 g hi y => ?_, fun ρ2 H2 S2 e2 s2 g => ?_⟩ q1⟩
      · obtain ⟨ad', ws, e, sq2, rs2⟩ := g.sq s2 (r1.mono e2)
        cases e
        have hl := rs2.length
        exact ⟨ws, ws[i]'(by omega), sq2, by simp⟩
      · obtain ⟨ad', ws, e, sq2, rs2⟩ := g.sq s2 (r1.mono e2)
        cases e
        obtain ⟨rfl, hy⟩ := y
        obtain ⟨d', h1, h2⟩ := rs2.get' (hy ws sq2)
        exact ⟨.refl, s2, d', h1, h2⟩
      · obtain ⟨ad', ws, e, sq2, rs2⟩ := g.sq s2 (r1.mono e2)
        cases e
        exact ⟨ws, sq2, Nat.le_of_eq rs2.length⟩, xp⟩
/-- over a tuple -/
def iTp (r : LTE) : LTI := fun env S Q Ex => r env S (fun d S1 => ∃ ds, d = .tup ds ∧ Q ds (fun _ => True) S1) Ex
theorem li_tup {tg : Expr} (he : LE X W e ra) : LI X W tg e (iTp ra) :=
  piI (pi_tup he) fun σ H R ⟨ρ, env, S, Q', Ex, s, er, q, po, xp⟩ =>
    ⟨ρ, env, S, _, Ex, s, er, q, fun ρ1 v d H1 S1 e1 s1 r1 ⟨ds, hd, q1⟩ => by
      subst hd
      cases r1 with
      | @tup ad vs _ h1 rs =>
        have hl := rs.length
        refine ⟨ad, rfl, ⟨vs, .of h1⟩, po ρ1 H1 S1 _ _ _ e1 s1 ⟨fun ρ2 H2 S2 i e2 s2 g hi => ?_, fun ρ2 H2 S2 i x H3 e2 s2 g hi y => ?_, fun ρ2 H2 S2 e2 s2 g => ?_⟩ q1⟩
        · exact ⟨vs, vs[i]'(by omega), .of (e2.tup _ _ h1), by simp⟩
        · obtain ⟨rfl, hy⟩ := y
          obtain ⟨d', h3, h2⟩ := rs.get' (hy vs (.of (e2.tup _ _ h1)))
          exact ⟨.refl, s2, d', h3, h2.mono e2⟩
        · exact ⟨vs, .of (e2.tup _ _ h1), Nat.le_of_eq hl⟩, xp⟩
/-- range(n) -/
def iRng (r : LTA) : LTI := fun env S Q Ex => r env S (fun ds S1 => ∃ n : Int, ds = [.int n] ∧ -(2 ^ 62) ≤ n ∧ n < 2 ^ 62 ∧ Q ((List.range n.toNat).map fun i : Nat => D.int (i : Int)) (fun _ => True) S1) Ex
theorem li_range {tg : Expr} (hg : Gl X "range") (hm : X.mg "range" = none) (ha : LA X W [a] rL) (hs : starEach [a] X.env = [(false, eval a X.env)] := by rfl) : LI X W tg (.Call (.Name "range" p) [a] [] pos) (iRng rL) :=
  piI (pi_range1 hg hm ha hs) fun σ H R ⟨ρ, env, S, Q', Ex, s, er, q, po, xp⟩ =>
    ⟨ρ, env, S, _, Ex, s, er, q, fun ρ1 vs ds H1 S1 e1 s1 r1 ⟨n, hd, h1, h2, q1⟩ => by
      subst hd
      obtain ⟨v, rfl, r⟩ := r1.one
      cases r
      refine ⟨n, rfl, h1, h2, po ρ1 H1 S1 _ _ _ e1 s1 ⟨fun ρ2 H2 S2 i e2 s2 g hi => ?_, fun ρ2 H2 S2 i x H3 e2 s2 g hi y => ?_, fun ρ2 H2 S2 e2 s2 g => ?_⟩ q1⟩
      · rw [List.length_map, List.length_range] at hi; exact hi
      · obtain ⟨rfl, rfl⟩ := y
        simp at hi
        exact ⟨.refl, s2, .int i, by simp [hi], by rw [Int.zero_add]; exact .int _⟩
      · show n.toNat ≤ _; simp, xp⟩
def rFor (ri : LTI) (t : Tg) (b : LTS) : LTS := fun D env S => ri env S (fun items G S1 => ∃ Inv : Nat → LEnv → Store → Prop, Wk (Inv 0 env) S1 ∧
  (∀ i d env S, items[i]? = some d → Inv i env S → G S ∧ rTg t d env fun env2 => b { D with nx := fun e s => Wk (Inv (i + 1) e) s, ct := fun e s => Wk (Inv (i + 1) e) s, bk := D.nx } env2 S) ∧ ∀ env S, Inv items.length env S → G S ∧ D.nx env S) D.ex
theorem ls_for {tg iter : Expr} {body : List Stmt} {ri : LTI} {tt : Tg} (hp : PassesOwn (model X.prog X.w) X.A X.env X.xe) (hc : X.calm = true) (hi : LI X W tg iter ri) (hg : PG X tg (gTg X.K tt)) (hb : LSs X W body t)
    (hs : ∀ x, foldedSetIterable iter X.env x = pure x := by intro _; rfl) : LS X W (.For tg iter body [] pos) (rFor ri tt t) :=
  psI (ps_for hp hc hi hg hb hs) fun D σ H ⟨ρ, env, S, D', s, er, q, po, xp⟩ =>
    ⟨ρ, env, S, _, D'.ex, s, er, q, fun ρ1 H1 S1 J items G e1 s1 w ⟨Iv, ⟨S0, sb0, i0⟩, it, iz⟩ => by
      let Pv : Nat → L2.St → Hp → Prop := fun i σ2 H2 => ∃ ρ2 env2 S2, Ext ρ1 H1 ρ2 H2 ∧ Sim X.K ρ2 H2 S2 ∧ EnvR X.K ρ2 H2 σ2 env2 ∧ Iv i env2 S2
      have step : ∀ i ρ' σ' env' H' S', Ext ρ1 H1 ρ' H' → Sim X.K ρ' H' S' → EnvR X.K ρ' H' σ' env' → Wk (Iv i env') S' → Pv i σ' H' := fun i ρ' σ' env' H' S' e s er ⟨S₁, sb, iv⟩ => ⟨ρ', env', S₁, e, s.sub sb, er, iv⟩
      refine ⟨fun i m σ2 H2 => m = items.length - i ∧ i ≤ items.length ∧ Pv i σ2 H2, ⟨items.length, by simp, Nat.zero_le _, ρ1, env, S0, .refl, s1.sub sb0, er.mono e1, i0⟩, ?_⟩
      rintro i m σ2 H2 ⟨rfl, hi, ρ2, env2, S2, e2, s2, er2, iv⟩
      by_cases hlt : i < items.length
      · right
        have hd : items[i]? = some items[i] := by simp [hlt]
        obtain ⟨g2, b2⟩ := it i _ env2 S2 hd iv
        refine ⟨w.go ρ2 H2 S2 i e2 s2 g2 hlt, Pv (i + 1), fun σ' H' pv => ⟨items.length - (i + 1), by omega, rfl, hlt, pv⟩, fun x H3 y => ?_⟩
        obtain ⟨e3, s3, d, hd', rx⟩ := w.yld ρ2 H2 S2 i x H3 e2 s2 g2 hlt y
        rw [hd] at hd'; cases hd'
        have e03 := (e1.trans e2).trans e3
        refine tg_ok rx (er2.mono e3) b2 fun σ' env' er' _ q' => ?_
        refine ⟨ρ2, env', S2, _, s3, er', q', ⟨?_, po.rt.ext e03, po.nx.ext e03, ?_⟩, xp.ext e03⟩
        · exact fun ρ4 σ4 env4 H4 S4 e4 s4 er4 q4 => step (i + 1) ρ4 σ4 env4 H4 S4 ((e2.trans e3).trans e4) s4 er4 q4
        · exact fun ρ4 σ4 env4 H4 S4 e4 s4 er4 q4 => step (i + 1) ρ4 σ4 env4 H4 S4 ((e2.trans e3).trans e4) s4 er4 q4
      · have e : i = items.length := by omega
        subst e
        obtain ⟨g2, q2⟩ := iz env2 S2 iv
        exact .inl ⟨w.stop ρ2 H2 S2 e2 s2 g2, po.nx ρ2 σ2 env2 H2 S2 (e1.trans e2) s2 er2 q2⟩, xp⟩
/-! ### while -/
def rWhile (c : LTT) (b : LTS) : LTS := fun D env S => ∃ Inv : Nat → LEnv → Store → Prop, (∃ m, Inv m env S) ∧ ∀ m env S, Inv m env S →
  c env S (fun k S1 => if k = true then b { D with nx := fun e s => Wk (fun s => ∃ m', m' < m ∧ Inv m' e s) s, ct := fun e s => Wk (fun s => ∃ m', m' < m ∧ Inv m' e s) s, bk := D.nx } env S1 else D.nx env S1) D.ex
theorem ls_while {body : List Stmt} (hp : PassesOwn (model X.prog X.w) X.A X.env X.xe) (hc : LT X W c rA) (hb : LSs X W body t) : LS X W (.While c body [] pos) (rWhile rA t) :=
  psI (ps_while hp hc hb) fun D σ H ⟨ρ, env, S, D', s, er, ⟨Iv, ⟨m0, i0⟩, it⟩, po, xp⟩ => by
    let Pv : Nat → L2.St → Hp → Prop := fun m σ2 H2 => ∃ ρ2 env2 S2, Ext ρ H ρ2 H2 ∧ Sim X.K ρ2 H2 S2 ∧ EnvR X.K ρ2 H2 σ2 env2 ∧ Iv m env2 S2
    refine ⟨Pv, ⟨m0, ρ, env, S, .refl, s, er, i0⟩, ?_⟩
    rintro m σ2 H2 ⟨ρ2, env2, S2, e2, s2, er2, iv⟩
    refine ⟨ρ2, env2, S2, _, D'.ex, s2, er2, it m env2 S2 iv, fun ρ3 k H3 S3 e3 s3 q3 => ?_, xp.ext e2⟩
    have e03 := e2.trans e3
    cases k with
    | false => rw [if_neg (by simp)] at q3; show if false = true then _ else _; rw [if_neg (by simp)]; exact po.nx ρ3 σ2 env2 H3 S3 e03 s3 (er2.mono e3) q3
    | true =>
      rw [if_pos rfl] at q3
      show if true = true then _ else _
      rw [if_pos rfl]
      have step : PostN X.K ρ3 H3 (fun e s => Wk (fun s => ∃ m', m' < m ∧ Iv m' e s) s) (fun σ' H' => ∃ m', m' < m ∧ Pv m' σ' H') := fun ρ4 σ4 env4 H4 S4 e4 s4 er4 ⟨S₁, sb, m', hm, iv'⟩ => ⟨m', hm, ρ4, env4, S₁, e03.trans e4, s4.sub sb, er4, iv'⟩
      exact ⟨fun σ' H' => ∃ m', m' < m ∧ Pv m' σ' H', fun σ' H' h => h, ρ3, env2, S3, _, s3, er2.mono e3, q3, ⟨step, po.rt.ext e03, po.nx.ext e03, step⟩, xp.ext e03⟩
/-! ### comprehensions -/
def lwipe (env : LEnv) : List Nat → LEnv
  | [] => env
  | v :: vs => (lwipe env vs).set v none
theorem lwipe_ok {K : PySem.W.Frag} {ρ : Rho} {H : Hp} {σ : L2.St} {env : LEnv} (er : EnvR K ρ H σ env) : ∀ vs : List Nat, EnvR K ρ H (wipe σ vs) (lwipe env vs)
  | [] => er
  | v :: vs => (lwipe_ok er vs).unset v
def rYes : LTT := fun _ S Q _ => Q true S
def lcBody (n : LO → Store → QD → Prop) (t : Tg) (tt : LTT) (te : LTE) (env : LEnv) (Q : QD) (items : List D) (G : Store → Prop) (S1 : Store) : Prop := n (.lst []) S1 fun d S2 => ∃ r f, d = .loc r f ∧ S2 r f = some (.lst []) ∧ ∃ Inv : Nat → Store → Prop, Inv 0 S2 ∧
  (∀ i x S, items[i]? = some x → Inv i S → G S ∧ rTg t x (lwipe env t.vars) fun env2 => tt env2 S (fun k S3 =>
    if k = true then te env2 S3 (fun y S4 => ∃ acc, S4 r f = some (.lst acc) ∧ acc.length < sizeLine ∧ Wk (Inv (i + 1)) (S4.set r f (.lst (acc ++ [y])))) (fun _ _ _ => False) else Wk (Inv (i + 1)) S3) (fun _ _ _ => False)) ∧
  ∀ S, Inv items.length S → G S ∧ Q d S
def rLc (n : LO → Store → QD → Prop) (ri : LTI) (t : Tg) (tt : LTT) (te : LTE) : LTE := fun env S Q Ex => ri env S (lcBody n t tt te env Q) Ex
def LTs (X : Cx) (W : WX) (ifs : List Expr) (r : LTT) : Prop := PTs X ifs (lT X.K W r)
theorem lts_nil : LTs X W [] rYes := ⟨fun pins s σ H Q I ⟨ρ, env, S, Q', Ex, sm, er, q, po, xp⟩ => pts_nil.run pins s σ H Q I (po ρ true H S .refl sm q)⟩
theorem lts_one (h : LT X W c rA) : LTs X W [c] rA := pts_one h
abbrev W0 : WX := fun _ _ _ _ => False
theorem lc_lift {n : LO → Store → QD → Prop} (hn : NewOk n) {ri : LTI} {tt : Tg} {σ : L2.St} {H : Hp} {Q : VK} (h : lE X.K W (rLc n ri tt rA ra) σ H Q) : tLc (lI X.K W ri) (gTg X.K tt) (lT X.K W0 rA) (lE X.K W0 ra) tt.vars σ H Q := by
  obtain ⟨ρ, env, S, Q', Ex, s, er, q, po, xp⟩ := h
  refine ⟨ρ, env, S, _, Ex, s, er, q, fun ρ1 H1 S1 J items G e1 s1 w q1 => ?_, xp⟩
  intro Dd nD
  unfold lcBody at q1
  have key := hn (o := .lst []) (ho := .lst []) (Q := fun v H2 => ∀ Dd, v = .ref Dd → ∃ W : Nat → Nat → Hp → Prop, (∃ m, W 0 m H2) ∧ ∀ i m H, W i m H →
    (J.stop i H ∧ Q (.ref Dd) H) ∨ (J.go i H ∧ ∃ Nx : Hp → Prop, (∀ H', Nx H' → ∃ m', m' < m ∧ W (i + 1) m' H') ∧ ∀ x H', J.yld i H x H' → gTg X.K tt x (wipe σ tt.vars) H' fun σ2 H2 => wipe σ2 tt.vars = wipe σ tt.vars ∧ lT X.K W0 rA σ2 H2 fun b H3 =>
      if b = true then lE X.K W0 ra σ2 H3 fun y H4 => ∃ acc, H4 Dd = some (.lst acc) ∧ acc.length < sizeLine ∧ Nx (L2.upd H4 Dd (.lst (acc ++ [y]))) else Nx H3)) s1 q1 ?_ ⟨[], rfl, .nil⟩ Dd nD
  · exact key Dd rfl
  · rintro ρ2 v d H2 S2 e2 s2 r2 ⟨r, f, rfl, hS2, Iv, i0, it, iz⟩ Dd' rfl
    have hD : ρ2 r f = some Dd' := by cases r2; assumption
    let Pv : Nat → Hp → Prop := fun i H3 => ∃ ρ3 S3, Ext ρ2 H2 ρ3 H3 ∧ Sim X.K ρ3 H3 S3 ∧ Iv i S3
    have e02 := e1.trans e2
    refine ⟨fun i m H3 => m = items.length - i ∧ i ≤ items.length ∧ Pv i H3, ⟨items.length, by simp, Nat.zero_le _, ρ2, S2, .refl, s2, i0⟩, ?_⟩
    rintro i m H3 ⟨rfl, hi, ρ3, S3, e3, s3, iv⟩
    by_cases hlt : i < items.length
    · right
      have hd : items[i]? = some items[i] := by simp [hlt]
      obtain ⟨g3, b3⟩ := it i _ S3 hd iv
      refine ⟨w.go ρ3 H3 S3 i (e2.trans e3) s3 g3 hlt, Pv (i + 1), fun H' pv => ⟨items.length - (i + 1), by omega, rfl, hlt, pv⟩, fun x H4 y => ?_⟩
      obtain ⟨e4, s4, d, hd', rx⟩ := w.yld ρ3 H3 S3 i x H4 (e2.trans e3) s3 g3 hlt y
      rw [hd] at hd'; cases hd'
      have e24 := e3.trans e4
      have ew := lwipe_ok (er.mono (e02.trans e24)) tt.vars
      refine tg_ok rx ew b3 fun σ' env' er' ew' q' => ⟨?_, ρ3, env', S3, _, _, s4, er', q', fun ρ5 k H5 S5 e5 s5 q5 => ?_, fun _ _ _ _ _ _ _ _ _ z => z⟩
      · have ww : ∀ (τ : L2.St) (vs : List Nat), wipe (wipe τ vs) vs = wipe τ vs := by
          intro τ vs
          have hlen := wipe_length τ vs
          refine List.ext_getElem? fun j => ?_
          by_cases hj : j ∈ vs
          · have key : ∀ (τ : L2.St) (vs : List Nat), j ∈ vs → (wipe τ vs)[j]? = if j < τ.length then some none else none := by
              intro τ vs
              induction vs with
              | nil => intro h; cases h
              | cons v vs ih =>
                intro h
                unfold wipe
                rw [List.getElem?_set]
                by_cases e : v = j
                · subst e
                  simp [wipe_length]
                · rw [if_neg e]
                  exact ih (by rcases List.mem_cons.mp h with q | q; exact absurd q.symm e; exact q)
            rw [key _ _ hj, key _ _ hj, hlen]
          · rw [wipe_out hj]
        rw [ew', ww]
      · have e25 := e24.trans e5
        have er5 := er'.mono e5
        cases k with
        | false => rw [if_neg (by simp)] at q5; show if false = true then _ else _; rw [if_neg (by simp)]; obtain ⟨S₁, sb, iv'⟩ := q5; exact ⟨ρ5, S₁, e25, s5.sub sb, iv'⟩
        | true =>
          rw [if_pos rfl] at q5
          show if true = true then _ else _
          rw [if_pos rfl]
          refine ⟨ρ5, env', S5, _, _, s5, er5, q5, fun ρ6 vy y H6 S6 e6 s6 r6 ⟨acc, hacc, hl, S₁, sb, iv'⟩ => ?_, fun _ _ _ _ _ _ _ _ _ z => z⟩
          have e26 := e25.trans e6
          obtain ⟨ad, vs, e, h1, h2, rs⟩ := lst_of s6 hacc (r2.mono e26)
          cases e
          obtain ⟨s7, e7⟩ := lst_put s6 hacc h1 h2 (rs.append (.cons r6 .nil))
          exact ⟨vs, h2, by rw [rs.length]; exact hl, ρ6, S₁, e26.trans e7, s7.sub sb, iv'⟩
    · have e : i = items.length := by omega
      subst e
      obtain ⟨g3, q3⟩ := iz S3 iv
      exact .inl ⟨w.stop ρ3 H3 S3 (e2.trans e3) s3 g3, po ρ3 _ _ H3 S3 (e02.trans e3) s3 (r2.mono e3) q3⟩
theorem le_lc {n : LO → Store → QD → Prop} (hn : NewOk n) {tg iter elt : Expr} {ifs : List Expr} {scope : Scope} {own : List (Str × Nat)} {ri : LTI} {tt : Tg} (hc : X.calm = true) (hN : X.N.Nodup) (hi : LI X W tg iter ri) (ok : BlkOk X.N X.env.scope scope own) (hv : own.map (·.2) = tt.vars)
    (hg : ∀ (s : Shared) (H : Hp) (C : Addr) (cl : List (Str × Addr)) (fp : List Addr), PG (X.blk s H scope (compEnvC scope cl C X.env) fp) tg (gTg X.K tt)) (ht : ∀ (s : Shared) (H : Hp) (C : Addr) (cl : List (Str × Addr)) (fp : List Addr), LTs (X.blk s H scope (compEnvC scope cl C X.env) fp) W0 ifs rA)
    (he : ∀ (s : Shared) (H : Hp) (C : Addr) (cl : List (Str × Addr)) (fp : List Addr), LE (X.blk s H scope (compEnvC scope cl C X.env) fp) W0 elt ra) (hs : ∀ x, foldedSetIterable iter X.env x = pure x := by intro _; rfl) :
    LE X W (.ListComp elt [⟨tg, iter, ifs, 0⟩] scope pos) (rLc n ri tt rA ra) :=
  peI (pe_lc (wi := lI X.K W ri) (g := gTg X.K tt) (tt := lT X.K W0 rA) (te := lE X.K W0 ra) hc hN hi ok hg ht he hs) fun σ H Q h => by rw [hv]; exact lc_lift hn h
theorem ls_setLc {n : LO → Store → QD → Prop} (hn : NewOk n) (i : Nat) {y : Str} {py spos : Pos} {tg iter elt : Expr} {ifs : List Expr} {scope : Scope} {own : List (Str × Nat)} {ri : LTI} {tt : Tg} (hc : X.calm = true) (hN : X.N.Nodup) (hy : X.N[i]? = some y) (hyl : X.env.scope.names.lookup y = some .local)
    (hsw : swapsWith (.ListComp elt [⟨tg, iter, ifs, 0⟩] scope pos) (some (.Name y py)) spos.line X.env = pure true) (hi : LI X W tg iter ri) (ok : BlkOk X.N X.env.scope scope own) (hv : own.map (·.2) = tt.vars)
    (hg : ∀ (s : Shared) (H : Hp) (C : Addr) (cl : List (Str × Addr)) (fp : List Addr), PG (X.blk s H scope (compEnvC scope cl C X.env) fp) tg (gTg X.K tt)) (ht : ∀ (s : Shared) (H : Hp) (C : Addr) (cl : List (Str × Addr)) (fp : List Addr), LTs (X.blk s H scope (compEnvC scope cl C X.env) fp) W0 ifs rA)
    (he : ∀ (s : Shared) (H : Hp) (C : Addr) (cl : List (Str × Addr)) (fp : List Addr), LE (X.blk s H scope (compEnvC scope cl C X.env) fp) W0 elt ra) (hs : ∀ x, foldedSetIterable iter X.env x = pure x := by intro _; rfl) :
    LS X W (.Assign [.Name y py] (.ListComp elt [⟨tg, iter, ifs, 0⟩] scope pos) spos) (rSet i (rLc n ri tt rA ra)) :=
  psI (ps_setLc (i := i) (wi := lI X.K W ri) (g := gTg X.K tt) (tt := lT X.K W0 rA) (te := lE X.K W0 ra) hc hN hy hyl hsw hi ok hg ht he hs) fun D σ H ⟨ρ, env, S, D', s, er, q, po, xp⟩ => by
    rw [hv]
    exact lc_lift hn ⟨ρ, env, S, _, D'.ex, s, er, q, fun ρ1 v d H1 S1 e1 s1 r1 q1 => po.nx ρ1 _ _ H1 S1 e1 s1 ((er.mono e1).set r1 i) q1, xp⟩
end
end SS
namespace SS
open PySem L2 PyProof.Rows
/-! ### raise, try -/
section
variable {X : Cx} {W : WX} {a b c e o : Expr} {es : List Expr} {ra rb rc : LTE} {rL : LTA} {rA rB : LTT} {pos p apos cpos pos' np : Pos} {st : Stmt} {rest : List Stmt} {t u : LTS}
def rRaise (C : Addr) : LTS := fun D env S => D.ex (.ref C) env S
theorem ls_raise {C : Addr} {x m : Str} {j : Nat} {p p2 : Pos} (hc : X.calm = true) (tk : Takes X W) (q : PySem.W.excIn X.K C HandSPX.veTail "ValueError.__new__" = true) (gC : X.mg x = some (.ref C)) (kC : PySem.W.keepIn X.K (.ref C) = true)
    (bC : PySem.W.subIn X.K (.ref C) (.type "BaseException") = some true) (tC : PySem.W.typeIn X.K (.ref C) = some (.type "type")) (hg : Gl X x) (hdb : (x == ("__debug__" : Str)) = false := by decide) :
    LS X W (.Raise (some (.Call (.Name x p) [.Constant (.str m) j p2] [] pos')) none pos) (rRaise C) :=
  psI (ps_raise hc tk (pmk_own PySem.F.excBase_ValueError q gC kC (raises_own bC tC) hg hdb)) fun D σ H ⟨ρ, env, S, D', s, er, q, po, xp⟩ =>
    xp ρ σ env H S _ .refl s er q
/-- try: .. except x: suite (the suite raises nothing) -/
def rTry (K : PySem.W.Frag) (c : Value) (b u : LTS) : LTS := fun D env S => b { D with ex := fun cls env' S' => ∃ k, PySem.W.exmOne K cls c = some k ∧ (k = true → u D env' S') ∧ (k = false → D.ex cls env' S') } env S
theorem ls_try {x : Str} {c : Value} {body suite : List Stmt} {b₀ : Stmt} (hs : X.stack = X.env :: X.outer) (hf : X.env.frame = some X.env.locals) (hc : Names X x c) (tk : Takes X W)
    (hb : ∀ (W' : WX) (pn : List (Addr × Obj)) (xe : Value → Shared → Prop), Takes (X.tr pn xe) W' → PassesOwn (model X.prog X.w) X.A X.env xe → LSs (X.tr pn xe) W' body t)
    (hsu : ∀ (a : Addr) (oe : Obj) (pn : List (Addr × Obj)), (∃ vs, oe.data = .fields vs) → LSs (X.suite a ((a, oe) :: pn)) W (b₀ :: suite) u) :
    LS X W (.Try body [.ExceptHandler (some (.Name x np)) none (b₀ :: suite) pos'] [] [] pos) (rTry X.K c t u) :=
  psI (ps_try_only (tb := fun W' => lS X.K W' t) (ts := fun _ _ _ => lS X.K W u) (Wout := W) hs hf hc tk (fun W' pn xe tk' po => hb W' pn xe tk' po) fun a oe cls d pn hz hf => hsu a oe pn hf) fun D σ H ⟨ρ, env, S, D', s, er, q, po, xp⟩ =>
    ⟨ρ, env, S, _, s, er, q, ⟨po.nx, po.rt, po.bk, po.ct⟩, fun ρ1 σ1 env1 H1 S1 cls e1 s1 er1 ⟨k, hk, h1, h2⟩ =>
      ⟨k, hk, fun hk a na => ⟨ρ1, env1, S1, D', s1, er1, h1 hk, po.ext e1, xp.ext e1⟩, fun hk => xp ρ1 σ1 env1 H1 S1 cls e1 s1 er1 (h2 hk)⟩⟩
end
/-! ### defs -/
def start (N : List Str) (ds : List D) : LEnv := ds.map some ++ List.replicate (N.length - ds.length) none
theorem VRs.envAt {K : PySem.W.Frag} {ρ : Rho} {H : Hp} (k : Nat) : ∀ {vs : List V} {ds : List D}, VRs K ρ H vs ds → ∀ (i : Nat) (d : D), (ds.map some ++ List.replicate k none)[i]? = some (some d) → ∃ v, (vs.map some ++ List.replicate k (none : Option V))[i]? = some (some v) ∧ VR K ρ H v d
  | _, _, .nil, i, d, h => by
    simp only [List.map_nil, List.nil_append, List.getElem?_replicate] at h
    split at h <;> cases h
  | _, _, .cons r t, 0, d, h => by simp at h; subst h; exact ⟨_, by simp, r⟩
  | _, _, .cons r t, i + 1, d, h => by
    obtain ⟨v, h1, h2⟩ := VRs.envAt k t i d (by simpa using h)
    exact ⟨v, by simpa using h1, h2⟩
theorem start_ok {K : PySem.W.Frag} {ρ : Rho} {H : Hp} {N : List Str} {vs : List V} {ds : List D} (r : VRs K ρ H vs ds) : EnvR K ρ H (L2.start N vs) (start N ds) := by
  unfold L2.start start
  rw [r.length]
  exact ⟨by simp [r.length], fun i d h => r.envAt _ i d h⟩
section
variable {P : Program} {w : World} {K : PySem.W.Frag} {mg : Str → Option Value} {base : Heap} {x qual : Str} {params : Arguments} {body : List Stmt} {scope : Scope} {f : Addr} {fd : FuncData} {N ps : List Str} {k : Nat} {sp : LSp} {r : LTS}
abbrev FnD (K : PySem.W.Frag) (x qual : Str) (params : Arguments) (body : List Stmt) (scope : Scope) (f : Addr) (fd : FuncData) : Prop := FunD K x qual params body scope [] [] f fd
def ends0 (Q : QD) : LEnds := { nx := fun _ S' => Wk (Q .non) S', rt := fun d S' => Wk (Q d) S' }
def endsX (Q : QD) (Ex : Value → Store → Prop) : LEnds := { nx := fun _ S' => Wk (Q .non) S', rt := fun d S' => Wk (Q d) S', ex := fun c _ S' => Wk (Ex c) S' }
theorem lfn (F : FnD K x qual params body scope f fd) (Sc : FnScope N ps scope) (len : ∀ ds S Q Ex, sp ds S Q Ex → ds.length = ps.length)
    (hb : ∀ (cdv : Value) (A : Around) (outer : List Env) (s : Shared) (H : Hp) (E : XK), Room k (A.deeper (envOfC qual scope s.heap.objs.size f cdv)) → LSs (cxOf CX0 P w K mg base N qual scope f cdv A outer s H E).nox W0 body r)
    (hr : ∀ ds S Q Ex, sp ds S Q Ex → r (ends0 Q) (start N ds) S) : FnOk P w K mg base CX0 (k + 1) f fd ps (liftSp K sp) := by
  refine F.ok (CX := CX0) Sc (fun vs H Q E ⟨ρ, S, ds, Q', Ex, s, r, h, _⟩ => by rw [r.length]; exact len _ _ _ _ h) fun cdv A outer s H vs Q E hro ⟨ρ, S, ds, Q', Ex, sm, rv, h, po, xp⟩ => ?_
  refine ⟨_, PSs.nox (hb cdv A outer s H E hro), ρ, _, S, ends0 Q', sm, start_ok rv, hr ds S Q' Ex h, ⟨?_, ?_, ?_, ?_⟩, fun _ _ _ _ _ _ _ _ _ z => z⟩
  · exact fun ρ1 σ1 env1 H1 S1 e1 s1 er1 ⟨S₁, sb, q⟩ => po ρ1 _ _ H1 S₁ e1 (s1.sub sb) .non q
  · exact fun ρ1 v d H1 S1 e1 s1 r1 ⟨S₁, sb, q⟩ => po ρ1 _ _ H1 S₁ e1 (s1.sub sb) r1 q
  · exact fun _ _ _ _ _ _ _ _ z => z
  · exact fun _ _ _ _ _ _ _ _ z => z
theorem lfnX (F : FnD K x qual params body scope f fd) (Sc : FnScope N ps scope) (len : ∀ ds S Q Ex, sp ds S Q Ex → ds.length = ps.length)
    (hb : ∀ (cdv : Value) (A : Around) (outer : List Env) (s : Shared) (H : Hp) (E : XK), Room k (A.deeper (envOfC qual scope s.heap.objs.size f cdv)) → LSs (cxOf (L2.CX P w) P w K mg base N qual scope f cdv A outer s H E) (fun cls d _ H => E cls d H) body r)
    (hr : ∀ ds S Q Ex, sp ds S Q Ex → r (endsX Q Ex) (start N ds) S) : FnOk P w K mg base (L2.CX P w) (k + 1) f fd ps (liftSp K sp) := by
  refine F.ok (CX := L2.CX P w) Sc (fun vs H Q E ⟨ρ, S, ds, Q', Ex, s, r, h, _⟩ => by rw [r.length]; exact len _ _ _ _ h) fun cdv A outer s H vs Q E hro ⟨ρ, S, ds, Q', Ex, sm, rv, h, po, xp⟩ => ?_
  refine ⟨_, hb cdv A outer s H E hro, ρ, _, S, endsX Q' Ex, sm, start_ok rv, hr ds S Q' Ex h, ⟨?_, ?_, ?_, ?_⟩, ?_⟩
  · exact fun ρ1 σ1 env1 H1 S1 e1 s1 er1 ⟨S₁, sb, q⟩ => po ρ1 _ _ H1 S₁ e1 (s1.sub sb) .non q
  · exact fun ρ1 v d H1 S1 e1 s1 r1 ⟨S₁, sb, q⟩ => po ρ1 _ _ H1 S₁ e1 (s1.sub sb) r1 q
  · exact fun _ _ _ _ _ _ _ _ z => z
  · exact fun _ _ _ _ _ _ _ _ z => z
  · exact fun ρ1 σ1 env1 H1 S1 c e1 s1 er1 ⟨S₁, sb, q⟩ => xp ρ1 H1 S₁ c e1 (s1.sub sb) q
end
end SS
namespace SS
open PySem L2 PyProof.Rows
/-! ### zip and enumerate over lists and tuples in any mix: by the library's GoesN -/
/-- a sequence's kind: true a list, false a tuple -/
def SqS (K : PySem.W.Frag) (k : Bool) (H : Hp) (a : Addr) (xs : List V) : Prop := match k with
  | true => SqL K H a xs
  | false => SqT K H a xs
def itS (k : Bool) (h : Heap) (it a : Addr) (i : Nat) : Prop := match k with
  | true => h.IsListIter it a i
  | false => h.IsTupleIter it a i
def isS (k : Bool) (h : Heap) (a : Addr) (items : Array Value) : Prop := match k with
  | true => h.IsList a items
  | false => h.IsTuple a items
def obS (k : Bool) (a : Addr) : Obj := match k with
  | true => { cls := .type "list_iterator", data := .fields #[.ref a, .int 0 0] }
  | false => { cls := .type "tuple_iterator", data := .fields #[.ref a, .int 0 0] }
theorem beginsS (k : Bool) (a : Addr) (items : Array Value) : Begins (.ref a) (obS k a) fun h => isS k h a items := by
  cases k
  · exact begins_tuple a items
  · exact begins_list a items
theorem drawsS {prog : Program} {w : World} {A : Around} (hh : A.handled = none) (k : Bool) (it a : Addr) (hne : a ≠ it) (items : Array Value) :
    Draws prog w A it [it, a] items.size (fun i v => items[i]? = some v) (fun i h => itS k h it a i ∧ isS k h a items) := by
  cases k
  · exact Draws.tuple hh it a hne items
  · exact Draws.list hh it a hne items
theorem itS_obj {k : Bool} {h : Heap} {it a : Addr} {i : Nat} (x : itS k h it a i) : ∃ o, h.get? it = some o ∧ ∀ v, o.data ≠ .cell v := by
  cases k
  · obtain ⟨o, e, _, d⟩ := x; exact ⟨o, e, fun v q => by rw [d] at q; cases q⟩
  · obtain ⟨o, e, _, d⟩ := x; exact ⟨o, e, fun v q => by rw [d] at q; cases q⟩
theorem itS_at {k : Bool} {h h' : Heap} {it a : Addr} {i : Nat} (x : itS k h it a i) (e : ∀ o, h.get? it = some o → h'.get? it = some o) : itS k h' it a i := by
  cases k
  · obtain ⟨o, q, r⟩ := x; exact ⟨o, e o q, r⟩
  · obtain ⟨o, q, r⟩ := x; exact ⟨o, e o q, r⟩
theorem itS_new {k : Bool} {h : Heap} {it a : Addr} (e : h.get? it = some (obS k a)) : itS k h it a 0 := by
  cases k
  · exact ⟨_, e, rfl, rfl⟩
  · exact ⟨_, e, rfl, rfl⟩
theorem seqS {X : Cx} {pins : List (Addr × Obj)} {σ : L2.St} {H : Hp} {s : Shared} (I : Inv X pins σ H s) {k : Bool} {a : Addr} {xs : List V} (h : SqS X.K k H a xs) : ∃ its : List Value, Vals xs its ∧ isS k s.heap a its.toArray ∧ xs.length ≤ sizeLine ∧ a < s.heap.objs.size := by
  cases k
  · obtain ⟨its, r, p, z⟩ := I.tuple h
    obtain ⟨o, e, _⟩ := id p
    exact ⟨its, r, p, z, Heap.lt_size e⟩
  · obtain ⟨its, r, p, z⟩ := I.list h
    exact ⟨its, r, p.isList, z, p.lt⟩
theorem seqS_inj {X : Cx} {pins : List (Addr × Obj)} {σ : L2.St} {H : Hp} {s : Shared} (I : Inv X pins σ H s) {k : Bool} {a : Addr} {xs ys : List V} (h : SqS X.K k H a xs) (h' : SqS X.K k H a ys) : xs = ys := by
  cases k
  · exact I.tuple_inj h h'
  · exact I.list_inj h h'
/-- pairs of the items of a and b, each a new tuple -/
def ItP (K : PySem.W.Frag) (k1 k2 : Bool) (a b : Addr) : It :=
  ⟨fun i H => ∃ (xs ys : List V), SqS K k1 H a xs ∧ SqS K k2 H b ys ∧ i < min xs.length ys.length,
    fun i H v H' => ∃ T x y, v = .ref T ∧ H T = none ∧ H' = L2.upd H T (.tup [x, y]) ∧ (∀ xs, SqS K k1 H a xs → xs[i]? = some x) ∧ ∀ ys, SqS K k2 H b ys → ys[i]? = some y,
    fun i H => ∃ xs ys : List V, SqS K k1 H a xs ∧ SqS K k2 H b ys ∧ i = min xs.length ys.length⟩
def stP (k1 k2 : Bool) (a b z TI TO i1 i2 : Addr) (i : Nat) (h : Heap) : Prop :=
  IsZip h z TI TO .none ∧ IsTupOf2 h TI (.ref i1) (.ref i2) ∧ (∃ a1 a2, IsTupOf2 h TO a1 a2) ∧ itS k1 h i1 a i ∧ itS k2 h i2 b i
structure SepP (a b z TI TO i1 i2 : Addr) : Prop where
  zs : ZipSep2 z TI TO i1 i2 [i1, a] [i2, b]
  ai : a ≠ i1
  bi : b ≠ i2
theorem turn_P {P : Program} {w : World} {K : PySem.W.Frag} {elts : List Expr} {kk : Nat} {tpos : Pos} {k1 k2 : Bool} {a b z TI TO i1 i2 : Addr} (D : SepP a b z TI TO i1 i2) :
    Turn P w K (.Tuple elts kk tpos) (ItP K k1 k2 a b) [z, TI, TO, i1, i2] z (stP k1 k2 a b z TI TO i1 i2) where
  mem := by simp
  obj := fun i h st c hc => by
    obtain ⟨hz, hTI, ⟨x, y, hTO⟩, h1, h2⟩ := st
    simp only [List.mem_cons, List.not_mem_nil, or_false] at hc
    rcases hc with rfl | rfl | rfl | rfl | rfl
    · exact ⟨_, hz, fun v q => nomatch q⟩
    · exact ⟨_, hTI, fun v q => nomatch q⟩
    · exact ⟨_, hTO, fun v q => nomatch q⟩
    · exact itS_obj h1
    · exact itS_obj h2
  keep := fun i h h' st k => by
    obtain ⟨hz, hTI, ⟨x, y, hTO⟩, h1, h2⟩ := st
    exact ⟨k z (by simp) _ hz, k TI (by simp) _ hTI, ⟨x, y, k TO (by simp) _ hTO⟩, itS_at h1 fun o q => k i1 (by simp) o q, itS_at h2 fun o q => k i2 (by simp) o q⟩
  item := by
    intro X hP hw hK hc i pins s σ H E I hf st hg
    subst hP hw hK
    obtain ⟨xs, ys, hx, hy, hi⟩ := hg
    obtain ⟨its, rx, sx, _, _⟩ := seqS I hx
    obtain ⟨jts, ry, sy, _, _⟩ := seqS I hy
    have W := GoesN.zip2 (prog := X.prog) (w := X.w) (A := X.A) (elts := elts) (x1 := kk) (pos := tpos) D.zs (drawsS (show X.A.in1.handled = none from I.ok.hd hc) k1 i1 a D.ai its.toArray) (drawsS (show X.A.in1.handled = none from I.ok.hd hc) k2 i2 b D.bi jts.toArray)
    have l1 := rx.length
    have l2 := ry.length
    obtain ⟨hz, hTI, hTO, h1, h2⟩ := st
    refine W.goes i s _ E (by simp only [List.size_toArray]; omega) ⟨hz, hTI, hTO, ⟨h1, sx⟩, ⟨h2, sy⟩⟩ fun v h' tk hY st' hk htk => ?_
    obtain ⟨T, u, u', rfl, hT, e1, e2, tup⟩ := hY
    obtain ⟨x, hx1, rx1⟩ : ∃ x, xs[i]? = some x ∧ RelV x u := by
      have hxi : i < xs.length := by omega
      obtain ⟨u2, e3, r3⟩ := rx.get (show xs[i]? = some xs[i] by simp [hxi])
      rw [List.getElem?_toArray, e3] at e1; cases e1
      exact ⟨_, by simp [hxi], r3⟩
    obtain ⟨y, hy1, ry1⟩ : ∃ y, ys[i]? = some y ∧ RelV y u' := by
      have hyi : i < ys.length := by omega
      obtain ⟨u2, e3, r3⟩ := ry.get (show ys[i]? = some ys[i] by simp [hyi])
      rw [List.getElem?_toArray, e3] at e2; cases e2
      exact ⟨_, by simp [hyi], r3⟩
    have hT0 : H T = none := I.hok.fresh hT
    have new : ObjOk X.prog X.w (L2.upd H T (.tup [x, y])) h' T (.tup [x, y]) := ⟨by show 2 ≤ sizeLine; decide, [u, u'], .cons rx1 (.cons ry1 .nil), tup⟩
    have I1 : Inv X pins σ (L2.upd H T (.tup [x, y])) { s with heap := h', toks := tk } :=
      I.turnedNew (ch := [z, TI, TO, i1, i2]) (fun c o hb q => hk c o (fun m => hb (by simp only [List.mem_cons, List.not_mem_nil, or_false] at m ⊢; rcases m with m | m | m | m <;> simp [m])) q) hf hT new
    refine ⟨.ref T, _, I1, rfl, ⟨T, x, y, rfl, hT0, rfl, fun l hl => by rw [seqS_inj I hl hx]; exact hx1, fun l hl => by rw [seqS_inj I hl hy]; exact hy1⟩, ⟨st'.1, st'.2.1, st'.2.2.1, st'.2.2.2.1.1, st'.2.2.2.2.1⟩, fun c hcm => ?_⟩
    have hcn := hf c hcm
    by_cases e : c = T
    · subst e
      exfalso
      obtain ⟨o, ho⟩ : ∃ o, s.heap.get? c = some o := by
        simp only [List.mem_cons, List.not_mem_nil, or_false] at hcm
        rcases hcm with rfl | rfl | rfl | rfl | rfl
        · exact ⟨_, hz⟩
        · exact ⟨_, hTI⟩
        · obtain ⟨_, _, q⟩ := hTO; exact ⟨_, q⟩
        · obtain ⟨o, q, _⟩ := itS_obj h1; exact ⟨o, q⟩
        · obtain ⟨o, q, _⟩ := itS_obj h2; exact ⟨o, q⟩
      exact absurd (Nat.lt_of_lt_of_le (Heap.lt_size ho) hT) (Nat.lt_irrefl _)
    · rw [upd_ne e]; exact hcn.1
  done := by
    intro X hP hw hK hc i pins s σ H E I hf st hg
    subst hP hw hK
    obtain ⟨xs, ys, hx, hy, hi⟩ := hg
    obtain ⟨its, rx, sx, _, _⟩ := seqS I hx
    obtain ⟨jts, ry, sy, _, _⟩ := seqS I hy
    have W := GoesN.zip2 (prog := X.prog) (w := X.w) (A := X.A) (elts := elts) (x1 := kk) (pos := tpos) D.zs (drawsS (show X.A.in1.handled = none from I.ok.hd hc) k1 i1 a D.ai its.toArray) (drawsS (show X.A.in1.handled = none from I.ok.hd hc) k2 i2 b D.bi jts.toArray)
    have l1 := rx.length
    have l2 := ry.length
    have hn : min its.toArray.size jts.toArray.size = i := by simp only [List.size_toArray]; omega
    rw [hn] at W
    obtain ⟨hz, hTI, hTO, h1, h2⟩ := st
    refine W.stops s _ E ⟨hz, hTI, hTO, ⟨h1, sx⟩, ⟨h2, sy⟩⟩ fun h' tk hk htk => ?_
    exact I.turnedL (ch := [z, TI, TO, i1, i2]) (fun c o hb q => hk c o (fun m => hb (by simp only [List.mem_cons, List.not_mem_nil, or_false] at m ⊢; rcases m with m | m | m | m <;> simp [m])) q) hf
  self := fun A i s Q E st h => wpAny_pyIter_zip st.1 h
def iZipS (K : PySem.W.Frag) (ta : TA) : TI := fun σ H R => ta σ H fun vs H1 => ∃ k1 k2 a b xs ys, vs = [.ref a, .ref b] ∧ SqS K k1 H1 a xs ∧ SqS K k2 H1 b ys ∧ R (ItP K k1 k2 a b) H1
theorem pi_zipS {X : Cx} {e e2 : Expr} {ta : TA} {p pos tpos : Pos} {elts : List Expr} {kk : Nat} (hg : Gl X "zip") (hm : X.mg "zip" = none) (ha : PA X [e, e2] ta)
    (hs : starEach [e, e2] X.env = (false, eval e X.env) :: starEach [e2] X.env := by rfl) (hpl : (backTo pos (starEach [e2] X.env)).any (·.1) = false := by rfl) :
    PI X (.Tuple elts kk tpos) (.Call (.Name "zip" p) [e, e2] [] pos) (iZipS X.K ta) := by
  refine ⟨fun pins s σ H R I h => ?_⟩
  refine Call_ (ld_blt I hg hm PyProof.Rows.boot_zip (PyProof.Rows.callWith_type1 (thn (ha.run pos pins s σ H _ I h) fun us s1 ⟨vs, H1, I1, r1, k1, k2, a, b, xs, ys, ex, hx, hy, q⟩ => ?_) hs hpl))
  subst ex
  obtain ⟨ua, ub, rfl, ra, rb⟩ := vals2 r1
  cases ra; cases rb
  obtain ⟨its, rx, sx, _, la⟩ := seqS I1 hx
  obtain ⟨jts, ry, sy, _, lb⟩ := seqS I1 hy
  refine zip_begins2 (beginsS k1 a its.toArray) (beginsS k2 b jts.toArray) sx sy fun h' hz hTI hTO h1 h2 hsz hk => wpAny_pyIter_zip hz ?_
  have I2 : Inv X pins σ H1 { s1 with heap := h' } := I1.kept (t' := s1.toks) hk
  have hsep : SepP a b (s1.heap.objs.size + 4) (s1.heap.objs.size + 2) (s1.heap.objs.size + 3) s1.heap.objs.size (s1.heap.objs.size + 1) :=
    ⟨zip_sep2 (fp1 := [a]) (fp2 := [b]) (fun c hc => by rw [List.mem_singleton.mp hc]; exact la) (fun c hc => by rw [List.mem_singleton.mp hc]; exact lb), Nat.ne_of_lt la, Nat.ne_of_lt (Nat.lt_succ_of_lt lb)⟩
  refine ⟨s1.heap.objs.size + 4, [s1.heap.objs.size + 4, s1.heap.objs.size + 2, s1.heap.objs.size + 3, s1.heap.objs.size, s1.heap.objs.size + 1], _, _, H1, rfl, I2, turn_P hsep, ⟨hz, hTI, ⟨_, _, hTO⟩, itS_new h1, itS_new h2⟩, fun c hcm => ?_, q⟩
  have hle : s1.heap.objs.size ≤ c := by
    simp only [List.mem_cons, List.not_mem_nil, or_false] at hcm
    rcases hcm with rfl | rfl | rfl | rfl | rfl
    · exact Nat.le_add_right _ _
    · exact Nat.le_add_right _ _
    · exact Nat.le_add_right _ _
    · exact Nat.le_refl _
    · exact Nat.le_add_right _ _
  exact I1.fpOk hle (I1.hok.fresh hle)
/-! lifted -/
theorem SeqD.sqS {K : PySem.W.Frag} {ρ : Rho} {H : Hp} {S : Store} (s : Sim K ρ H S) {d : D} {ds : List D} {v : V} (h : SeqD S d ds) (r : VR K ρ H v d) : ∃ k a vs, v = .ref a ∧ SqS K k H a vs ∧ VRs K ρ H vs ds ∧
    (k = false ↔ ∃ es, d = .tup es) := by
  cases r with
  | tup h1 r =>
    have h' : ds = _ := h
    subst h'
    exact ⟨false, _, _, rfl, .of h1, r, fun _ => ⟨_, rfl⟩, fun _ => rfl⟩
  | rol h1 => exact let ⟨a, vs, e, h, r⟩ := LstD.sq s (d := .rol _) h (.rol h1); ⟨true, a, vs, e, h, r, fun z => (nomatch z), fun ⟨_, z⟩ => nomatch z⟩
  | loc h1 => exact let ⟨a, vs, e, h, r⟩ := LstD.sq s (d := .loc _ _) h (.loc h1); ⟨true, a, vs, e, h, r, fun z => (nomatch z), fun ⟨_, z⟩ => nomatch z⟩
  | _ => exact h.elim
/-- the pairs of two lists -/
def pairD (ds es : List D) : List D := (ds.zip es).map fun p => .tup [p.1, p.2]
def iZp (r : LTA) : LTI := fun env S Q Ex => r env S (fun as S1 => ∃ d e ds es, as = [d, e] ∧ SeqD S1 d ds ∧ SeqD S1 e es ∧ Q (pairD ds es) (fun S' => SeqD S' d ds ∧ SeqD S' e es) S1) Ex
theorem li_zip {X : Cx} {W : WX} {e e2 : Expr} {rL : LTA} {p pos tpos : Pos} {elts : List Expr} {kk : Nat} (hg : Gl X "zip") (hm : X.mg "zip" = none) (ha : LA X W [e, e2] rL)
    (hs : starEach [e, e2] X.env = (false, eval e X.env) :: starEach [e2] X.env := by rfl) (hpl : (backTo pos (starEach [e2] X.env)).any (·.1) = false := by rfl) : LI X W (.Tuple elts kk tpos) (.Call (.Name "zip" p) [e, e2] [] pos) (iZp rL) :=
  piI (pi_zipS hg hm ha hs hpl) fun σ H R ⟨ρ, env, S, Q', Ex, s, er, q, po, xp⟩ =>
    ⟨ρ, env, S, _, Ex, s, er, q, fun ρ1 vs ds H1 S1 e1 s1 r1 ⟨d, e, ds, es, hd, h1, h2, q1⟩ => by
      subst hd
      obtain ⟨va, vb, rfl, ra, rb⟩ := r1.two
      obtain ⟨k1, a, ws, rfl, g1, rs, i1⟩ := h1.sqS s1 ra
      obtain ⟨k2, b, us, rfl, g2, rt, i2⟩ := h2.sqS s1 rb
      have again : ∀ {ρ2 : Rho} {H2 : Hp} {S2 : Store} {d : D} {ds : List D} {a : Addr} {k : Bool} (e2 : Ext ρ1 H1 ρ2 H2) (s2 : Sim X.K ρ2 H2 S2) (r : VR X.K ρ1 H1 (.ref a) d) (i : k = false ↔ ∃ es, d = .tup es) (h : SeqD S2 d ds), ∃ vs, SqS X.K k H2 a vs ∧ VRs X.K ρ2 H2 vs ds := by
        intro ρ2 H2 S2 d ds a k e2 s2 r i h
        obtain ⟨k', a', vs, e, g, rv, i'⟩ := h.sqS s2 (r.mono e2)
        cases e
        have : k' = k := by
          cases k <;> cases k' <;> simp_all
        subst this
        exact ⟨vs, g, rv⟩
      have hlen : (pairD ds es).length = min ds.length es.length := by simp [pairD]
      refine ⟨k1, k2, a, b, ws, us, rfl, g1, g2, po ρ1 H1 S1 _ _ _ e1 s1 ⟨fun ρ2 H2 S2 i e2 s2 g hi => ?_, fun ρ2 H2 S2 i x H3 e2 s2 g hi y => ?_, fun ρ2 H2 S2 e2 s2 g => ?_⟩ q1⟩
      · obtain ⟨v1, a1, r1⟩ := again e2 s2 ra i1 g.1
        obtain ⟨v2, a2, r2⟩ := again e2 s2 rb i2 g.2
        exact ⟨v1, v2, a1, a2, by rw [r1.length, r2.length, ← hlen]; exact hi⟩
      · obtain ⟨v1, a1, r1⟩ := again e2 s2 ra i1 g.1
        obtain ⟨v2, a2, r2⟩ := again e2 s2 rb i2 g.2
        obtain ⟨T, x1, y1, rfl, nT, rfl, hx, hy⟩ := y
        obtain ⟨d1, e3, q3⟩ := r1.get' (hx v1 a1)
        obtain ⟨d2, e4, q4⟩ := r2.get' (hy v2 a2)
        obtain ⟨s3, e5⟩ := s2.laidT (xs := [x1, y1]) nT
        exact ⟨e5, s3, .tup [d1, d2], by simp [pairD, List.getElem?_zip_eq_some, e3, e4], .tup upd_same (.cons (q3.mono e5) (.cons (q4.mono e5) .nil))⟩
      · obtain ⟨v1, a1, r1⟩ := again e2 s2 ra i1 g.1
        obtain ⟨v2, a2, r2⟩ := again e2 s2 rb i2 g.2
        exact ⟨v1, v2, a1, a2, by rw [r1.length, r2.length, hlen]⟩, xp⟩
/-! ### deep == -/
mutual
inductive DatD (S : Store) : D → PyData → Prop
  | non : DatD S .non .none
  | bl (b : Bool) : DatD S (.bl b) (.bool b)
  | int (i : Int) : DatD S (.int i) (.int i)
  | str (x : Str) : DatD S (.str x) (.str x)
  | tup {ds : List D} {ps : List PyData} : DatDs S ds ps → DatD S (.tup ds) (.tuple ps)
  | lst {r : Nat} {f : Fld} {ds : List D} {ps : List PyData} : S r f = some (.lst ds) → DatDs S ds ps → DatD S (.loc r f) (.list ps)
inductive DatDs (S : Store) : List D → List PyData → Prop
  | nil : DatDs S [] []
  | cons {d : D} {ds : List D} {p : PyData} {ps : List PyData} : DatD S d p → DatDs S ds ps → DatDs S (d :: ds) (p :: ps)
end
section
variable {K : PySem.W.Frag} {ρ : Rho} {H : Hp} {S : Store}
mutual
theorem DatD.dp (s : Sim K ρ H S) : ∀ {d : D} {p : PyData} {v : V}, DatD S d p → VR K ρ H v d → Dp K H v p
  | _, _, _, .non, r => by cases r; exact .non
  | _, _, _, .bl b, r => by cases r; exact .bl b
  | _, _, _, .int i, r => by cases r; exact .int i
  | _, _, _, .str x, r => by cases r; exact .str x
  | _, _, _, .tup h, r => by
    cases r with
    | tup h1 r => exact .tup (.of h1) (DatDs.dp s h r)
  | _, _, _, .lst hS h, r => by
    obtain ⟨a, vs, rfl, _, h2, rs⟩ := lst_of s hS r
    exact .lst (.of h2) (DatDs.dp s h rs)
theorem DatDs.dp (s : Sim K ρ H S) : ∀ {ds : List D} {ps : List PyData} {vs : List V}, DatDs S ds ps → VRs K ρ H vs ds → DpAll K H vs ps
  | _, _, _, .nil, r => by cases r; exact .nil
  | _, _, _, .cons h t, r => by
    cases r with
    | cons a b => exact .cons (DatD.dp s h a) (DatDs.dp s t b)
end
end
def oEqD : D2 := fun d e S Q => ∃ p q, DatD S d p ∧ DatD S e q ∧ SeqAt.shaped p = true ∧ SeqAt.shaped q = true ∧ Q (.bl (PyData.eqv p q)) S
def oNeD : D2 := fun d e S Q => ∃ p q, DatD S d p ∧ DatD S e q ∧ SeqAt.shaped p = true ∧ SeqAt.shaped q = true ∧ Q (.bl (!PyData.eqv p q)) S
theorem oEqD_l {K : PySem.W.Frag} : OpL K (rEqD K) oEqD := by
  rintro ρ H S x y d e Q' Q s r1 r2 ⟨p, q, h1, h2, h3, h4, k⟩ po
  exact ⟨p, q, h1.dp s r1, h2.dp s r2, h3, h4, po.here s (.bl _) k⟩
theorem oNeD_l {K : PySem.W.Frag} : OpL K (rNeD K) oNeD := by
  rintro ρ H S x y d e Q' Q s r1 r2 ⟨p, q, h1, h2, h3, h4, k⟩ po
  exact ⟨p, q, h1.dp s r1, h2.dp s r2, h3, h4, po.here s (.bl _) k⟩
section
variable {X : Cx} {W : WX} {a b : Expr} {ra rb : LTE} {pos : Pos}
theorem le_eqD (hu : X.A.units + 64 < cLine) (ha : LE X W a ra) (hb : LE X W b rb) : LE X W (.Compare a [.Eq] [b] pos) (rOp oEqD ra rb) := le_cmp (op_eqD hu) oEqD_l ha hb (nomark _)
theorem le_neD (hu : X.A.units + 64 < cLine) (ha : LE X W a ra) (hb : LE X W b rb) : LE X W (.Compare a [.NotEq] [b] pos) (rOp oNeD ra rb) := le_cmp (op_neD hu) oNeD_l ha hb (nomark _)
theorem lt_eqD (hu : X.A.units + 64 < cLine) (ha : LE X W a ra) (hb : LE X W b rb) : LT X W (.Compare a [.Eq] [b] pos) (rTest (rOp oEqD ra rb)) := lt_cmp (op_eqD hu) oEqD_l ha hb (nomark _)
theorem lt_neD (hu : X.A.units + 64 < cLine) (ha : LE X W a ra) (hb : LE X W b rb) : LT X W (.Compare a [.NotEq] [b] pos) (rTest (rOp oNeD ra rb)) := lt_cmp (op_neD hu) oNeD_l ha hb (nomark _)
end
end SS
namespace SS
open PySem L2 PyProof.Rows
/-! ### a dict is locked while it is walked -/
def rLock (t : LTS) : LTS := fun D env S => ∃ r f u, S r f = some u ∧ ((∃ kvs, u = .dT kvs) ∨ ∃ kvs, u = .dK kvs) ∧
  t { D with nx := fun e S' => S' r f = some (.frz u) ∧ D.nx e (S'.set r f u), rt := fun d S' => S' r f = some (.frz u) ∧ D.rt d (S'.set r f u), bk := fun e S' => S' r f = some (.frz u) ∧ D.bk e (S'.set r f u), ct := fun e S' => S' r f = some (.frz u) ∧ D.ct e (S'.set r f u) } env (S.set r f (.frz u))
section
variable {X : Cx} {W : WX} {st : Stmt} {t : LTS}
theorem lock_back {K : PySem.W.Frag} {ρ ρ' : Rho} {H H' : Hp} {S' : Store} {r : Nat} {f : Fld} {u : LO} {a : Addr} {hu : HO} {od : Obj} (h1 : ρ r f = some a) (h2 : H a = some hu) (nt : NT hu) (nl : ∀ xs, hu ≠ .lst xs) (orr : OR K ρ H u hu)
    (e : Ext ρ (L2.upd H a (.frz od hu)) ρ' H') (s : Sim K ρ' H' S') (hS : S' r f = some (.frz u)) :
    H' a = some (.frz od hu) ∧ Sim K ρ' (L2.upd H' a hu) (S'.set r f u) ∧ Ext ρ H ρ' (L2.upd H' a hu) := by
  have hf := e.fz a od hu upd_same
  have el : Ext ρ H ρ (L2.upd H a (.frz od hu)) := Ext.upd h2 nt
  have nt' : NT0 (.frz od hu) := by
    cases hu with
    | lst xs => exact absurd rfl (nl xs)
    | _ => trivial
  have e0 : Ext0 ρ' H' ρ' (L2.upd H' a hu) := Ext0.upd hf nt'
  refine ⟨hf, s.put0 (e.rho _ _ _ h1) (by rw [hS]; simp) hf nt' ((orr.mono (el.trans e)).mono0 e0), e.rho, fun b xs q => ?_, fun b o v q => ?_⟩
  · have : b ≠ a := by rintro rfl; rw [h2] at q; cases q; exact nt
    rw [upd_ne this]; exact e.tup b xs (by rw [upd_ne this]; exact q)
  · have : b ≠ a := by rintro rfl; rw [h2] at q; cases q; exact nt
    rw [upd_ne this]; exact e.fz b o v (by rw [upd_ne this]; exact q)
theorem ls_lock (h : LS X W st t) : LS X W st (rLock t) :=
  psI (ps_lock h) fun D σ H ⟨ρ, env, S, D', s, er, ⟨r, f, u, hS, hk, q⟩, po, xp⟩ => by
    obtain ⟨a, hu, h1, h2, orr⟩ := s.obj r f u hS
    have hd : (∃ kvs, hu = .dT kvs) ∨ ∃ kvs, hu = .dK kvs := by
      rcases hk with ⟨kvs, rfl⟩ | ⟨kvs, rfl⟩
      · obtain ⟨k, rfl, _⟩ := orr; exact .inl ⟨k, rfl⟩
      · obtain ⟨k, rfl, _⟩ := orr; exact .inr ⟨k, rfl⟩
    have mu : Mut (some hu) := by rcases hd with ⟨_, rfl⟩ | ⟨_, rfl⟩ <;> trivial
    have nt : NT hu := by rcases hd with ⟨_, rfl⟩ | ⟨_, rfl⟩ <;> trivial
    have nl : ∀ xs, hu ≠ .lst xs := by rcases hd with ⟨_, rfl⟩ | ⟨_, rfl⟩ <;> (intro _ z; cases z)
    refine ⟨a, hu, h2, mu, fun od => ?_⟩
    have el : Ext ρ H ρ (L2.upd H a (.frz od hu)) := Ext.upd h2 nt
    have sl : Sim X.K ρ (L2.upd H a (.frz od hu)) (S.set r f (.frz u)) := s.put h1 (by rw [hS]; simp) h2 nt ⟨od, hu, rfl, orr.mono el, nl⟩
    refine ⟨ρ, env, _, _, sl, er.mono el, q, ⟨?_, ?_, ?_, ?_⟩, xp.ext el⟩
    · intro ρ' σ' env' H' S' e s' er' ⟨hS', q'⟩
      obtain ⟨g1, g2, g3⟩ := lock_back h1 h2 nt nl orr e s' hS'
      exact ⟨g1, po.nx ρ' σ' env' _ _ g3 g2 ⟨er'.len, fun i d hi => let ⟨v, z1, z2⟩ := er'.get i d hi; ⟨v, z1, z2.mono0 (Ext0.upd g1 (by cases hu with | lst xs => exact absurd rfl (nl xs) | _ => trivial))⟩⟩ q'⟩
    · intro ρ' v d H' S' e s' r' ⟨hS', q'⟩
      obtain ⟨g1, g2, g3⟩ := lock_back h1 h2 nt nl orr e s' hS'
      exact ⟨g1, po.rt ρ' v d _ _ g3 g2 (r'.mono0 (Ext0.upd g1 (by cases hu with | lst xs => exact absurd rfl (nl xs) | _ => trivial))) q'⟩
    · intro ρ' σ' env' H' S' e s' er' ⟨hS', q'⟩
      obtain ⟨g1, g2, g3⟩ := lock_back h1 h2 nt nl orr e s' hS'
      exact ⟨g1, po.bk ρ' σ' env' _ _ g3 g2 ⟨er'.len, fun i d hi => let ⟨v, z1, z2⟩ := er'.get i d hi; ⟨v, z1, z2.mono0 (Ext0.upd g1 (by cases hu with | lst xs => exact absurd rfl (nl xs) | _ => trivial))⟩⟩ q'⟩
    · intro ρ' σ' env' H' S' e s' er' ⟨hS', q'⟩
      obtain ⟨g1, g2, g3⟩ := lock_back h1 h2 nt nl orr e s' hS'
      exact ⟨g1, po.ct ρ' σ' env' _ _ g3 g2 ⟨er'.len, fun i d hi => let ⟨v, z1, z2⟩ := er'.get i d hi; ⟨v, z1, z2.mono0 (Ext0.upd g1 (by cases hu with | lst xs => exact absurd rfl (nl xs) | _ => trivial))⟩⟩ q'⟩
end
/-! ### d.values() of a locked dict whose keys are tuples -/
def ItvT (d : Addr) (o : Obj) (kvs : List (List Key × V)) : It :=
  ⟨fun i H => H d = some (.frz o (.dT kvs)) ∧ i < kvs.length, fun i H x H' => H' = H ∧ ∃ k, kvs[i]? = some (k, x), fun i H => H d = some (.frz o (.dT kvs)) ∧ i = kvs.length⟩
theorem frzTv {X : Cx} {pins : List (Addr × Obj)} {σ : L2.St} {H : Hp} {s : Shared} {d : Addr} {o : Obj} {kvs : List (List Key × V)} (I : Inv X pins σ H s) (h : H d = some (.frz o (.dT kvs))) :
    (d == sysModules) = false ∧ s.heap.get? d = some o ∧ ∃ (es : Array DictEntry) (ep : Nat), o.data = .dict es ep ∧ s.heap.DictRaw d es ep ∧ es.size = kvs.length ∧ ∀ (i : Nat) (hi : i < es.size), ∃ k v, kvs[i]? = some (k, v) ∧ RelV v es[i].val := by
  obtain ⟨hd, z, hs, xs, pr, o', es, ep, ho, hx, hdt, he, _⟩ := I.hok d _ h
  rw [hd] at ho
  cases ho
  have l2 : kvs.length = xs.length := Paired.length pr
  have l1 : es.size = xs.length := by
    have := congrArg List.length he
    simpa using this
  refine ⟨hs, hd, es, ep, hdt, ⟨o, hd, hx, hdt⟩, by omega, fun i hi => ?_⟩
  have hk : kvs[i]? = some kvs[i] := List.getElem?_eq_getElem (by omega)
  obtain ⟨b, hb, e1, e2, r⟩ := paired_get pr hk
  refine ⟨kvs[i].1, kvs[i].2, hk, ?_⟩
  have q : es.toList[i]? = (xs.map (entryOfKey (tupleKind (mixKind X.prog X.w))))[i]? := by rw [he]
  rw [List.getElem?_map, hb] at q
  have q2 : es[i] = entryOfKey (tupleKind (mixKind X.prog X.w)) b := by
    have : es.toList[i]? = some es[i] := by simp [hi]
    rw [this] at q
    exact Option.some.inj q
  rw [q2]
  exact r
theorem turn_valsT {P : Program} {w : World} {K : PySem.W.Frag} {tg : Expr} {d : Addr} {o : Obj} {es : Array DictEntry} {ep : Nat} {kvs : List (List Key × V)} (it : Addr) (hne : d ≠ it) (hod : o.data = .dict es ep) : Turn P w K tg (ItvT d o kvs) [it] it (fun i h => h.IsValIter it d i es.size ep) where
  mem := by simp
  obj := fun i h st b hb => by
    have e : b = it := by simpa using hb
    subst e
    obtain ⟨oi, e, c, dd⟩ := st
    exact ⟨oi, e, fun v z => by rw [dd] at z; cases z⟩
  keep := fun i h h' ⟨oi, e, r⟩ k => ⟨oi, k it (by simp) oi e, r⟩
  item := by
    intro X hP hw hK hc i pins s σ H E I hf st hg
    subst hP hw hK
    obtain ⟨hd, hi⟩ := hg
    obtain ⟨hs, hgd, es', ep', hdt, raw, hsz, ent⟩ := frzTv I hd
    rw [hod] at hdt; cases hdt
    have G := Goes.rawValues (prog := X.prog) (w := X.w) (A := X.A) (target := tg) (I.ok.hd hc) it d hne es ep
    refine G.goes i s _ E (by omega) ⟨st, raw⟩ fun v h' tk hY st' hk htk => ?_
    obtain ⟨hi', rfl⟩ := hY
    obtain ⟨k, x, hkx, r⟩ := ent i hi'
    exact ⟨x, H, I.turnedL (ch := [it]) (fun b ob hb e => hk b ob hb e) hf, r, ⟨rfl, k, hkx⟩, st'.1, fun b hb => (hf b hb).1⟩
  done := by
    intro X hP hw hK hc i pins s σ H E I hf st hg
    subst hP hw hK
    obtain ⟨hd, hi⟩ := hg
    obtain ⟨hs, hgd, es', ep', hdt, raw, hsz, ent⟩ := frzTv I hd
    rw [hod] at hdt; cases hdt
    have G := Goes.rawValues (prog := X.prog) (w := X.w) (A := X.A) (target := tg) (I.ok.hd hc) it d hne es ep
    have e : i = es.size := by omega
    subst e
    exact G.stops s _ E ⟨st, raw⟩ fun h' tk hk htk => I.turnedL (ch := [it]) (fun b ob hb e => hk b ob hb e) hf
  self := fun A i s Q E st h => wpAny_pyIter_valiter st h
section
variable {X : Cx} {W : WX} {tg e : Expr} {td : TE} {apos cpos : Pos} {ra : LTE}
def iValsT (td : TE) : TI := fun σ H R => td σ H fun x H1 => ∃ d o kvs, x = .ref d ∧ H1 d = some (.frz o (.dT kvs)) ∧ R (ItvT d o kvs) H1
theorem pi_valuesT (he : PE X e td) (hbase : attributeBase e "values" X.env (eval e X.env) = eval e X.env := by rfl) (hline : (apos.endLine == cpos.line) = true := by rfl) : PI X tg (.Call (.Attribute e "values" apos) [] [] cpos) (iValsT td) := by
  refine ⟨fun pins s σ H R I h => ?_⟩
  refine wpAny_Call_method (T := "dict") (id := "dict.values") hbase rfl hline F.plainAttrs_dict F.slot_dict_values F.type_dict_values (thn (he.run pins s σ H _ I h) fun u s1 ⟨x, H1, I1, rx, d, o, kvs, ex, hd, q⟩ => ?_)
  subst ex
  obtain rfl : u = Value.ref d := rx
  obtain ⟨hs, hgd, es, ep, hdt, raw, hsz, ent⟩ := frzTv I1 hd
  obtain ⟨o', ho', hx, _⟩ := id raw
  refine ⟨raw.typeIs, fun a ea => ?_, ?_⟩
  · cases ea; exact ⟨o', ho', hx.2.1⟩
  have I2 : Inv X pins σ H1 { s1 with heap := s1.heap.push { cls := .type "dict_values", data := .fields #[.ref d] } } := I1.kept (t' := s1.toks) fun b ob q => Heap.get?_push_of_some _ q
  have dlt : d < s1.heap.objs.size := Heap.lt_size hgd
  have fin : wpAny (model X.prog X.w) X.A (pyIter (.ref s1.heap.objs.size)) (PIE X pins σ tg R) X.xe { s1 with heap := s1.heap.push { cls := .type "dict_values", data := .fields #[.ref d] } } := by
    refine wpAny_pyIter_values_raw (d := d) ⟨_, Heap.get?_push_size _ rfl, rfl, rfl⟩ (raw.at fun o e => Heap.get?_push_of_some _ e) (pi_one (tk := s1.toks) I2 _ (turn_valsT _ ?_ hdt) ⟨_, Heap.get?_push_size _ rfl, rfl, rfl⟩ q)
    show d ≠ (s1.heap.push _).objs.size
    rw [Heap.size_push]
    exact Nat.ne_of_lt (Nat.lt_succ_of_lt dlt)
  show wpAny _ _ (callWith cpos (.builtin "dict.values") [.ref d] [] []) _ X.xe s1
  exact method_meetsIn F.slot_dict_values F.entry_dict_values rfl (PySem.evalArgs_none ⟨rfl, raw.typeIs, F.args_dict_values_1 _, _, meets_dict_values_raw d hs, ⟨es, ep, raw⟩, fin⟩)
def iValT (r : LTE) : LTI := fun env S Q Ex => r env S (fun d S1 => ∃ rg fl kvs, d = .loc rg fl ∧ S1 rg fl = some (.frz (.dT kvs)) ∧ Q (kvs.map (·.2)) (fun S' => S' rg fl = some (.frz (.dT kvs))) S1) Ex
theorem li_valT (he : LE X W e ra) (hbase : attributeBase e "values" X.env (eval e X.env) = eval e X.env := by rfl) (hline : (apos.endLine == cpos.line) = true := by rfl) : LI X W tg (.Call (.Attribute e "values" apos) [] [] cpos) (iValT ra) :=
  piI (pi_valuesT he hbase hline) fun σ H R ⟨ρ, env, S, Q', Ex, s, er, q, po, xp⟩ =>
    ⟨ρ, env, S, _, Ex, s, er, q, fun ρ1 v d H1 S1 e1 s1 r1 ⟨rg, fl, kvs, ed, hS, q1⟩ => by
      subst ed
      cases r1 with
      | @loc _ _ a h1 =>
        obtain ⟨b, hb, g1, g2, o, hu, g3, ⟨kws, g4, kr⟩, _⟩ := s1.obj _ _ _ hS
        rw [h1] at g1; cases g1; subst g3; subst g4
        have hl := kr.length
        refine ⟨a, o, kws, rfl, g2, po ρ1 H1 S1 _ _ _ e1 s1 ⟨fun ρ2 H2 S2 i e2 s2 g hi => ?_, fun ρ2 H2 S2 i x H3 e2 s2 g hi y => ?_, fun ρ2 H2 S2 e2 s2 g => ?_⟩ q1⟩
        · exact ⟨e2.fz _ _ _ g2, by simpa [hl] using hi⟩
        · obtain ⟨rfl, k, hk⟩ := y
          obtain ⟨dd, h3, h4⟩ := kr.get' hk
          exact ⟨.refl, s2, dd, by simp [h3], h4.mono e2⟩
        · exact ⟨e2.fz _ _ _ g2, by simp [hl]⟩, xp⟩
end
end SS
namespace SS
open PySem L2 PyProof.Rows
/-! ### slices -/
abbrev LTO := LEnv → Store → (Option Int → Store → Prop) → XD → Prop
def lO (K : PySem.W.Frag) (W : WX) (r : LTO) : TO := fun σ H Q => ∃ ρ env S Q' Ex, Sim K ρ H S ∧ EnvR K ρ H σ env ∧ r env S Q' Ex ∧ (∀ ρ' o H' S', Ext ρ H ρ' H' → Sim K ρ' H' S' → Q' o S' → Q o H') ∧ XPost K ρ H Ex W
def LO' (X : Cx) (W : WX) (e : Option Expr) (r : LTO) : Prop := PO X e (lO X.K W r)
def rNoPart : LTO := fun _ S Q _ => Q none S
def rPart (r : LTE) : LTO := fun env S Q Ex => r env S (fun d S1 => ∃ i, d = .int i ∧ Q (some i) S1) Ex
def cutD {α : Type} (xs : List α) (lo hi : Option Int) : List α := (xs.drop (HT.sIx xs.length 0 lo)).take (HT.sIx xs.length xs.length hi - HT.sIx xs.length 0 lo)
section
variable {X : Cx} {W : WX} {e : Expr} {ra : LTE} {lo hi : Option Expr} {rl rh : LTO} {pos p2 : Pos}
theorem poI {X : Cx} {e : Option Expr} {t t' : TO} (h : PO X e t) (i : ∀ σ H Q, t' σ H Q → t σ H Q) : PO X e t' := ⟨fun pins s σ H Q I q => h.run pins s σ H Q I (i σ H Q q)⟩
theorem lp_none : LO' X W none rNoPart := poI po_none fun σ H Q ⟨ρ, env, S, Q', Ex, s, er, q, po, xp⟩ => po ρ none H S .refl s q
theorem lp_some (h : LE X W e ra) : LO' X W (some e) (rPart ra) := poI (po_some h) fun σ H Q ⟨ρ, env, S, Q', Ex, s, er, q, po, xp⟩ =>
  ⟨ρ, env, S, _, Ex, s, er, q, fun ρ1 v d H1 S1 e1 s1 r1 ⟨i, ed, q1⟩ => by subst ed; cases r1; exact ⟨i, rfl, po ρ1 _ H1 S1 e1 s1 q1⟩, xp⟩
theorem cut_vr {K : PySem.W.Frag} {ρ : Rho} {H : Hp} {vs : List V} {ds : List D} (r : VRs K ρ H vs ds) (lo hi : Option Int) : VRs K ρ H (cutV vs lo hi) (cutD ds lo hi) := by
  unfold cutV cutD
  rw [r.length]
  exact (r.drop _).take _
def rSlice (k : D → Option Int → Option Int → Store → QD → Prop) (r : LTE) (rl rh : LTO) : LTE := fun env S Q Ex => r env S (fun d S1 => rl env S1 (fun lo S2 => rh env S2 (fun hi S3 => k d lo hi S3 Q) Ex) Ex) Ex
theorem slice_lift {rV : V → Option Int → Option Int → Hp → VK → Prop} {k : D → Option Int → Option Int → Store → QD → Prop} (hl : ∀ ρ H S v d lo hi Q' Q, Sim X.K ρ H S → VR X.K ρ H v d → k d lo hi S Q' → Post X.K ρ H Q' Q → rV v lo hi H Q)
    {σ : L2.St} {H : Hp} {Q : VK} (h : lE X.K W (rSlice k ra rl rh) σ H Q) : tSl rV (lE X.K W ra) (lO X.K W rl) (lO X.K W rh) σ H Q := by
  obtain ⟨ρ, env, S, Q', Ex, s, er, q, po, xp⟩ := h
  refine ⟨ρ, env, S, _, Ex, s, er, q, fun ρ1 v d H1 S1 e1 s1 r1 q1 => ?_, xp⟩
  refine ⟨ρ1, env, S1, _, Ex, s1, er.mono e1, q1, fun ρ2 lo H2 S2 e2 s2 q2 => ?_, xp.ext e1⟩
  refine ⟨ρ2, env, S2, _, Ex, s2, er.mono (e1.trans e2), q2, fun ρ3 hi H3 S3 e3 s3 q3 => ?_, xp.ext (e1.trans e2)⟩
  exact hl ρ3 H3 S3 v d lo hi Q' Q s3 (r1.mono (e2.trans e3)) q3 (po.ext ((e1.trans e2).trans e3))
def rSliceL (n : LO → Store → QD → Prop) (r : LTE) (rl rh : LTO) : LTE := rSlice (fun d lo hi S Q => ∃ ds, LstD S d ds ∧ n (.lst (cutD ds lo hi)) S Q) r rl rh
theorem le_sliceL {n : LO → Store → QD → Prop} (hn : NewOk n) (he : LE X W e ra) (hl : LO' X W lo rl) (hu : LO' X W hi rh) : LE X W (.Subscript e (.Slice lo hi none p2) pos) (rSliceL n ra rl rh) :=
  peI (pe_slice sl_list he hl hu) fun _ _ _ h => slice_lift (fun ρ H S v d lo hi Q' Q s r ⟨ds, hd, q⟩ po => by
    obtain ⟨a, vs, rfl, sq, rs⟩ := hd.sq s r
    exact ⟨a, vs, rfl, sq, fun p np => hn s q po (ho := .lst (cutV vs lo hi)) ⟨_, rfl, cut_vr rs lo hi⟩ p np⟩) h
/-- of a tuple, less than the whole -/
def rSliceT (r : LTE) (rl rh : LTO) : LTE := rSlice (fun d lo hi S Q => ∃ ds, d = .tup ds ∧ ¬ (HT.sIx ds.length 0 lo = 0 ∧ HT.sIx ds.length ds.length hi = ds.length) ∧ Q (.tup (cutD ds lo hi)) S) r rl rh
theorem le_sliceT (he : LE X W e ra) (hl : LO' X W lo rl) (hu : LO' X W hi rh) : LE X W (.Subscript e (.Slice lo hi none p2) pos) (rSliceT ra rl rh) :=
  peI (pe_slice sl_tup he hl hu) fun _ _ _ h => slice_lift (fun ρ H S v d lo hi Q' Q s r ⟨ds, hd, hw, q⟩ po => by
    subst hd
    cases r with
    | @tup a vs _ h1 rs =>
      refine ⟨a, vs, rfl, .of h1, by rw [rs.length]; exact hw, fun p np => ?_⟩
      obtain ⟨s2, e2⟩ := s.laidT (xs := cutV vs lo hi) np
      exact po _ _ _ _ _ e2 s2 (.tup upd_same ((cut_vr rs lo hi).mono e2)) q) h
end
/-! ### {k: v, ..} -/
def rPairs : List (LTE × LTE) → LEnv → Store → (List (D × D) → Store → Prop) → XD → Prop
  | [], _, S, Q, _ => Q [] S
  | (rk, rv) :: r, env, S, Q, Ex => rk env S (fun x S1 => rv env S1 (fun y S2 => rPairs r env S2 (fun ps S3 => Q ((x, y) :: ps) S3) Ex) Ex) Ex
def lP (K : PySem.W.Frag) (W : WX) (rs : List (LTE × LTE)) : List (TE × TE) := rs.map fun p => (lE K W p.1, lE K W p.2)
inductive VRp (K : PySem.W.Frag) (ρ : Rho) (H : Hp) : List (V × V) → List (D × D) → Prop
  | nil : VRp K ρ H [] []
  | cons {v w : V} {d e : D} {vs : List (V × V)} {ds : List (D × D)} : VR K ρ H v d → VR K ρ H w e → VRp K ρ H vs ds → VRp K ρ H ((v, w) :: vs) ((d, e) :: ds)
theorem pairs_lift {K : PySem.W.Frag} {W : WX} {σ : L2.St} {env : LEnv} : ∀ {rs : List (LTE × LTE)} {ρ : Rho} {H : Hp} {S : Store} {Q' : List (D × D) → Store → Prop} {Ex : XD} {Q : List (V × V) → Hp → Prop}, Sim K ρ H S → EnvR K ρ H σ env → rPairs rs env S Q' Ex →
    (∀ ρ' vs ds H' S', Ext ρ H ρ' H' → Sim K ρ' H' S' → VRp K ρ' H' vs ds → Q' ds S' → Q vs H') → XPost K ρ H Ex W → tPairs (lP K W rs) σ H Q
  | [], ρ, H, S, Q', Ex, Q, s, er, q, po, xp => po ρ [] [] H S .refl s .nil q
  | (rk, rv) :: r, ρ, H, S, Q', Ex, Q, s, er, q, po, xp => by
    refine ⟨ρ, env, S, _, Ex, s, er, q, fun ρ1 v d H1 S1 e1 s1 r1 q1 => ?_, xp⟩
    refine ⟨ρ1, env, S1, _, Ex, s1, er.mono e1, q1, fun ρ2 w e H2 S2 e2 s2 r2 q2 => ?_, xp.ext e1⟩
    exact pairs_lift s2 (er.mono (e1.trans e2)) q2 (fun ρ3 vs ds H3 S3 e3 s3 r3 q3 => po ρ3 _ _ H3 S3 ((e1.trans e2).trans e3) s3 (.cons (r1.mono (e2.trans e3)) (r2.mono e3) r3) q3) (xp.ext (e1.trans e2))
def dmerge (kvs : List (Key × D)) : List (Key × D) := kvs.foldl (fun acc kv => dput acc kv.1 kv.2) []
def rDisp (n : LO → Store → QD → Prop) (rs : List (LTE × LTE)) : LTE := fun env S Q Ex => n (.dK []) S fun d S1 => ∃ r f, d = .loc r f ∧ rPairs rs env S1 (fun ps S2 => S2 r f = some (.dK []) ∧ ∃ kvs : List (Key × D), ps = kvs.map (fun kv => (kD kv.1, kv.2)) ∧ kvs.length ≤ 15 ∧ Q d (S2.set r f (.dK (dmerge kvs)))) Ex
theorem vrp_kvs {K : PySem.W.Frag} {ρ : Rho} {H : Hp} : ∀ {kvs : List (Key × D)} {vs : List (V × V)}, VRp K ρ H vs (kvs.map fun kv => (kD kv.1, kv.2)) → ∃ kws : List (Key × V), vs = kws.map (fun kv => (kV kv.1, kv.2)) ∧ KR K ρ H kws kvs
  | [], _, .nil => ⟨[], rfl, .nil⟩
  | (k, d) :: kvs, _, .cons r1 r2 t => by
    obtain ⟨kws, rfl, kr⟩ := vrp_kvs t
    rw [kD_vr r1]
    exact ⟨(k, _) :: kws, rfl, .cons r2 kr⟩
theorem merge_kr {K : PySem.W.Frag} {ρ : Rho} {H : Hp} : ∀ {kws : List (Key × V)} {kvs : List (Key × D)} {aw : List (Key × V)} {av : List (Key × D)}, KR K ρ H kws kvs → KR K ρ H aw av → KR K ρ H (mergeK aw kws) (kvs.foldl (fun acc kv => dput acc kv.1 kv.2) av)
  | _, _, _, _, .nil, a => a
  | _, _, aw, av, .cons (k := k) (v := v) (d := d) (vs := vs) (ds := ds) r t, a => by
    show KR K ρ H (mergeK (putK aw k v) vs) (ds.foldl _ (dput av k d))
    exact merge_kr t (a.put r)
theorem le_disp {X : Cx} {W : WX} {n : LO → Store → QD → Prop} (hn : NewOk n) {pos : Pos} {keys : List (Option Expr)} {values : List Expr} {rs : List (LTE × LTE)} (h : PPs X pos keys values (lP X.K W rs)) (hall : keys.all (·.isSome) = true := by rfl) (hl : keys.length = values.length := by rfl) (h0 : keys ≠ [] := by exact fun z => by cases z)
    (h15 : keys.length ≤ 15 := by decide) : LE X W (.Dict keys values pos) (rDisp n rs) :=
  peI (pe_disp h hall hl h0 h15) fun σ H Q ⟨ρ, env, S, Q', Ex, s, er, q, po, xp⟩ => fun p np => by
    have key := hn (o := .dK []) (ho := .dK []) (Q := fun v H1 => ∀ p, v = .ref p → tPairs (lP X.K W rs) σ H1 fun ps H2 => H2 p = some (.dK []) ∧ ∃ kvs : List (Key × V), ps = kvs.map (fun kv => (kV kv.1, kv.2)) ∧ kvs.length ≤ 15 ∧ Q (.ref p) (L2.upd H2 p (.dK (mergeK [] kvs)))) s q ?_ ⟨[], rfl, .nil⟩ p np
    · exact key p rfl
    · rintro ρ1 v d H1 S1 e1 s1 r1 ⟨r, f, rfl, q1⟩ p' rfl
      have hp : ρ1 r f = some p' := by cases r1; assumption
      refine pairs_lift s1 (er.mono e1) q1 (fun ρ2 vs ds H2 S2 e2 s2 r2 ⟨hS, kvs, ed, hk, q2⟩ => ?_) (xp.ext e1)
      subst ed
      obtain ⟨kws, rfl, kr⟩ := vrp_kvs r2
      obtain ⟨b, hb, g1, g2, kw0, g3, kr0⟩ := s2.obj r f _ hS
      rw [e2.rho _ _ _ hp] at g1; cases g1; subst g3
      cases kr0
      have ext : Ext ρ2 H2 ρ2 (L2.upd H2 p' (.dK (mergeK [] kws))) := Ext.upd g2 trivial
      exact ⟨g2, kws, rfl, by rw [kr.length]; exact hk, po ρ2 _ _ _ _ ((e1.trans e2).trans ext) (s2.put (o' := .dK (dmerge kvs)) (e2.rho _ _ _ hp) (by rw [hS]; simp) g2 trivial ⟨_, rfl, (merge_kr kr .nil).mono ext⟩) (.loc (e2.rho _ _ _ hp)) q2⟩
theorem lp_nil {X : Cx} {W : WX} {pos : Pos} : PPs X pos [] [] (lP X.K W []) := pps_nil
theorem lp_cons {X : Cx} {W : WX} {pos : Pos} {k v : Expr} {ks : List (Option Expr)} {vs : List Expr} {rk rv : LTE} {rs : List (LTE × LTE)} (hk : LE X W k rk) (hv : LE X W v rv) (hr : PPs X pos ks vs (lP X.K W rs)) : PPs X pos (some k :: ks) (v :: vs) (lP X.K W ((rk, rv) :: rs)) := pps_cons hk hv hr
/-! ### what is known of a def, a method, a class that is made -/
def GFn (P : Program) (w : World) (K : PySem.W.Frag) (mg : Str → Option Value) (base : Heap) (CX : CXT) (k : Nat) (x : Str) (ps : List Str) (sp : LSp) : Prop :=
  ∃ f fd, mg x = some (.ref f) ∧ PySem.W.keepIn K (.ref f) = true ∧ Binds K fd ps [] ∧ FnOk P w K mg base CX k f fd ps (liftSp K sp)
def MFn (P : Program) (w : World) (K : PySem.W.Frag) (mg : Str → Option Value) (base : Heap) (CX : CXT) (k : Nat) (C : Addr) (m : Str) (ps : List Str) (sp : LSp) : Prop :=
  ∃ f fd, Meth K C m f ∧ Binds K fd ps [] ∧ FnOk P w K mg base CX k f fd ps (liftSp K sp)
def IFn (P : Program) (w : World) (K : PySem.W.Frag) (mg : Str → Option Value) (base : Heap) (CX : CXT) (k : Nat) (C : Addr) (ps : List Str) (sp : LSp) : Prop :=
  ∃ f fd, Mk K C f ∧ Binds K fd ps [] ∧ FnOk P w K mg base CX k f fd ps (liftSp K sp)
section
variable {X : Cx} {W : WX} {a b c e o : Expr} {es : List Expr} {ra rb rc : LTE} {rL : LTA} {pos p apos : Pos} {CXq : CXT} {k : Nat} {C : Addr} {ps : List Str} {sp : LSp} {x m : Str}
theorem le_gdef (F : GFn X.prog X.w X.K X.mg X.base CXq k x ps sp) (hr : Room k X.A) (hx : Passes CXq X E0) (ha : LA X W (e :: es) rL) (hg : Gl X x := by rfl) (hdb : (x == ("__debug__" : Str)) = false := by decide) (he : starEach (e :: es) X.env = (false, eval e X.env) :: starEach es X.env := by rfl) (hpl : (backTo pos (starEach es X.env)).any (·.1) = false := by rfl) :
    LE X W (.Call (.Name x p) (e :: es) [] pos) (rDef sp rL) := by
  obtain ⟨f, fd, h1, h2, h3, h4⟩ := F
  exact le_def h4 hr hg h1 h2 h3 hx ha hdb he hpl
theorem le_gdefX (F : GFn X.prog X.w X.K X.mg X.base (L2.CX X.prog X.w) k x ps sp) (hr : Room k X.A) (tk : Takes X W) (ha : LA X W (e :: es) rL) (hg : Gl X x := by rfl) (hdb : (x == ("__debug__" : Str)) = false := by decide) (he : starEach (e :: es) X.env = (false, eval e X.env) :: starEach es X.env := by rfl) (hpl : (backTo pos (starEach es X.env)).any (·.1) = false := by rfl) :
    LE X W (.Call (.Name x p) (e :: es) [] pos) (rDefX sp rL) := by
  obtain ⟨f, fd, h1, h2, h3, h4⟩ := F
  exact le_defX h4 hr hg h1 h2 h3 tk ha hdb he hpl
theorem le_gmeth {pl : Sem Bool} (F : MFn X.prog X.w X.K X.mg X.base CXq k C m ps sp) (cl : Cls X.K C) (hr : Room k X.A) (hx : Passes CXq X E0) (he : LE X W o ra) (ha : LA X W (e :: es) rL)
    (hst : starEach (e :: es) X.env = (false, eval e X.env) :: starEach es X.env := by rfl) (hpl : (backTo pos (starEach es X.env)).any (·.1) = false := by rfl)
    (ht : eval (.Call (.Attribute o m apos) (e :: es) [] pos) X.env = (do
      let ov ← eval o X.env
      standAt apos.atName
      let (f, first) ← holding [ov] (getMethod ov m pl)
      callWith pos f first (backTo pos (starEach (e :: es) X.env)) (backToKw pos (keywordEach [] X.env))) := by rfl) :
    LE X W (.Call (.Attribute o m apos) (e :: es) [] pos) (rMeth C m sp ra rL) := by
  obtain ⟨f, fd, h1, h2, h3⟩ := F
  exact le_meth (pl := pl) he cl h1 h3 hr h2 hx ha hst hpl ht
theorem le_gmeth0 {pl : Sem Bool} (F : MFn X.prog X.w X.K X.mg X.base CXq k C m ps sp) (cl : Cls X.K C) (hr : Room k X.A) (hx : Passes CXq X E0) (he : LE X W o ra)
    (ht : eval (.Call (.Attribute o m apos) [] [] pos) X.env = (do
      let ov ← eval o X.env
      standAt apos.atName
      let (f, first) ← holding [ov] (getMethod ov m pl)
      callWith pos f first (backTo pos (starEach [] X.env)) (backToKw pos (keywordEach [] X.env))) := by rfl) :
    LE X W (.Call (.Attribute o m apos) [] [] pos) (rMeth0 C m sp ra) := by
  obtain ⟨f, fd, h1, h2, h3⟩ := F
  exact le_meth0 (pl := pl) he cl h1 h3 hr h2 hx ht
theorem le_gmethX {pl : Sem Bool} (F : MFn X.prog X.w X.K X.mg X.base (L2.CX X.prog X.w) k C m ps sp) (cl : Cls X.K C) (hr : Room k X.A) (tk : Takes X W) (he : LE X W o ra) (ha : LA X W (e :: es) rL)
    (hst : starEach (e :: es) X.env = (false, eval e X.env) :: starEach es X.env := by rfl) (hpl : (backTo pos (starEach es X.env)).any (·.1) = false := by rfl)
    (ht : eval (.Call (.Attribute o m apos) (e :: es) [] pos) X.env = (do
      let ov ← eval o X.env
      standAt apos.atName
      let (f, first) ← holding [ov] (getMethod ov m pl)
      callWith pos f first (backTo pos (starEach (e :: es) X.env)) (backToKw pos (keywordEach [] X.env))) := by rfl) :
    LE X W (.Call (.Attribute o m apos) (e :: es) [] pos) (rMethX C m sp ra rL) := by
  obtain ⟨f, fd, h1, h2, h3⟩ := F
  exact le_methX (pl := pl) he cl h1 h3 hr h2 tk ha hst hpl ht
theorem le_gmake {n : LO → Store → QD → Prop} (hn : NewOk n) (F : IFn X.prog X.w X.K X.mg X.base CXq k C ps sp) (hm : X.mg x = some (.ref C)) (hr : Room (k + 1) X.A) (hx : Passes CXq X E0)
    (ha : LA X W (e :: es) rL) (hg : Gl X x := by rfl) (hdb : (x == ("__debug__" : Str)) = false := by decide) (he : starEach (e :: es) X.env = (false, eval e X.env) :: starEach es X.env := by rfl) (hpl : (backTo pos (starEach es X.env)).any (·.1) = false := by rfl) :
    LE X W (.Call (.Name x p) (e :: es) [] pos) (rMake n C sp rL) := by
  obtain ⟨f, fd, h1, h2, h3⟩ := F
  exact le_make hn h1 h3 hr hg hm h2 hx ha hdb he hpl
end
end SS
namespace SS
open PySem L2
/-! ### regions -/
abbrev Reg := Fld → Option LO
def Store.setR (S : Store) (r : Nat) (g : Reg) : Store := fun r' => if r' = r then g else S r'
def fset (g : Reg) (f : Fld) (o : LO) : Reg := fun f' => if f' = f then some o else g f'
theorem setR_same {S : Store} {r : Nat} {g : Reg} : S.setR r g r = g := by unfold Store.setR; rw [if_pos rfl]
theorem setR_ne {S : Store} {r q : Nat} {g : Reg} (h : q ≠ r) : S.setR r g q = S q := by unfold Store.setR; rw [if_neg h]
theorem setR_setR {S : Store} {r : Nat} {g g' : Reg} : (S.setR r g).setR r g' = S.setR r g' := by
  funext q; unfold Store.setR; split <;> rfl
theorem setR_comm {S : Store} {r q : Nat} {g g' : Reg} (h : r ≠ q) : (S.setR r g).setR q g' = (S.setR q g').setR r g := by
  funext t; unfold Store.setR
  by_cases h1 : t = q
  · subst h1; rw [if_pos rfl, if_neg (Ne.symm h), if_pos rfl]
  · rw [if_neg h1]; by_cases h2 : t = r
    · subst h2; rw [if_pos rfl, if_pos rfl]
    · rw [if_neg h2, if_neg h2, if_neg h1]
theorem setR_self {S : Store} {r : Nat} {g : Reg} (h : S r = g) : S.setR r g = S := by
  funext q; unfold Store.setR; split
  · next e => subst e; exact h.symm
  · rfl
theorem set_R {S : Store} {r : Nat} {f : Fld} {o : LO} : S.set r f o = S.setR r (fset (S r) f o) := by
  funext q f'; unfold Store.set Store.setR fset
  by_cases h : q = r
  · subst h; by_cases h2 : f' = f
    · subst h2; simp
    · simp [h2]
  · simp [h]
theorem fset_same {g : Reg} {f : Fld} {o : LO} : fset g f o f = some o := by unfold fset; rw [if_pos rfl]
theorem fset_ne {g : Reg} {f f' : Fld} {o : LO} (h : f' ≠ f) : fset g f o f' = g f' := by unfold fset; rw [if_neg h]
theorem fset_fset {g : Reg} {f : Fld} {o o' : LO} : fset (fset g f o) f o' = fset g f o' := by
  funext q; unfold fset; split <;> rfl
theorem fset_comm {g : Reg} {f f' : Fld} {o o' : LO} (h : f ≠ f') : fset (fset g f o) f' o' = fset (fset g f' o') f o := by
  funext t; unfold fset
  by_cases h1 : t = f'
  · subst h1; rw [if_pos rfl, if_neg (Ne.symm h), if_pos rfl]
  · rw [if_neg h1]; by_cases h2 : t = f
    · subst h2; rw [if_pos rfl, if_pos rfl]
    · rw [if_neg h2, if_neg h2, if_neg h1]
/-- a region with one temporary list -/
def tmpR (o : LO) : Reg := fun f => if f = .tmp then some o else none
theorem set_tmp {S : Store} {r : Nat} {o : LO} (h : ∀ f, S r f = none) : S.set r .tmp o = S.setR r (tmpR o) := by
  rw [set_R]; congr 1; funext f; unfold fset tmpR; split
  · rfl
  · exact h f
theorem set_tmp2 {S : Store} {r : Nat} {o o' : LO} : (S.setR r (tmpR o)).set r .tmp o' = S.setR r (tmpR o') := by
  rw [set_R, setR_setR, setR_same]; congr 1; funext f; unfold fset tmpR; split <;> rfl
theorem tmpR_tmp {o : LO} : tmpR o .tmp = some o := by unfold tmpR; rw [if_pos rfl]
theorem fresh_ne {S : Store} {r q : Nat} {f : Fld} {o : LO} (h : ∀ f, S r f = none) (h2 : S q f = some o) : q ≠ r := by
  rintro rfl; rw [h f] at h2; cases h2
/-- a fresh region is forgotten -/
theorem sub_drop {S : Store} {r : Nat} {g : Reg} (h : ∀ f, S r f = none) : Sub S (S.setR r g) := fun q => by
  by_cases e : q = r
  · subst e; exact .inr h
  · exact .inl fun f => by rw [setR_ne e]
theorem sub_set {S S' : Store} {r : Nat} {g : Reg} (h : Sub S S') : Sub (S.setR r g) (S'.setR r g) := fun q => by
  by_cases e : q = r
  · subst e; exact .inl fun f => by rw [setR_same, setR_same]
  · rcases h q with z | z
    · exact .inl fun f => by rw [setR_ne e, setR_ne e]; exact z f
    · exact .inr fun f => by rw [setR_ne e]; exact z f
/-! ### readings without effects -/
/-- a comprehension without effects: F tells what becomes of an item -/
theorem lcb_pure {n : LO → Store → QD → Prop} {t : Tg} {tt : LTT} {te : LTE} {env : LEnv} {Q : QD} (items : List D) (G : Store → Prop) (S1 : Store) (F : D → Option D)
    (hl : items.length < sizeLine)
    (hn : ∀ Q' : QD, (∀ r f, (S1 r f = none) → (∀ ds, G (S1.set r f (.lst ds))) →
      (∀ (i : Nat) (x : D) (ds : List D) (P : D → Store → Prop) (N : Store → Prop), items[i]? = some x → (∀ y S4, F x = some y → Sub (S1.set r f (.lst ds)) S4 → P y S4) → (F x = none → N (S1.set r f (.lst ds))) →
        rTg t x (lwipe env t.vars) fun env2 => tt env2 (S1.set r f (.lst ds)) (fun k S3 => if k = true then te env2 S3 P (fun _ _ _ => False) else N S3) (fun _ _ _ => False)) →
      Q (.loc r f) (S1.set r f (.lst (items.filterMap F))) → Q' (.loc r f) (S1.set r f (.lst []))) → n (.lst []) S1 Q') : lcBody n t tt te env Q items G S1 := by
  refine hn _ fun r f hf hG hs hQ => ⟨r, f, rfl, set_same, fun i S' => S' = S1.set r f (.lst ((items.take i).filterMap F)), ?_, ?_, ?_⟩
  · simp
  · rintro i x S' hx rfl
    refine ⟨hG _, hs i x _ _ _ hx (fun y S4 hy sb => ?_) fun hy => ?_⟩
    · have hS4 : S4 r f = some (.lst ((items.take i).filterMap F)) := by
        rcases sb r with z | z
        · rw [← z f, set_same]
        · have := z f; rw [set_same] at this; cases this
      have hlen : ((items.take i).filterMap F).length < sizeLine := Nat.lt_of_le_of_lt (Nat.le_trans (List.length_filterMap_le _ _) (by simp; omega)) hl
      refine ⟨_, hS4, hlen, S1.set r f (.lst ((items.take (i + 1)).filterMap F)), ?_, rfl⟩
      have e : (items.take (i + 1)).filterMap F = (items.take i).filterMap F ++ [y] := by
        rw [List.take_succ, hx, List.filterMap_append]
        simp [hy]
      rw [e]
      intro q
      rcases sb q with z | z
      · left; intro g
        by_cases h : q = r ∧ g = f
        · obtain ⟨rfl, rfl⟩ := h; rw [set_same, set_same]
        · unfold Store.set at z ⊢; rw [if_neg h, if_neg h, ← z g, if_neg h]
      · by_cases h : q = r
        · subst h; have := z f; rw [set_same] at this; cases this
        · right; intro g; have := z g; rw [set_nr h] at this ⊢; exact this
    · refine ⟨_, .refl, ?_⟩
      show _ = S1.set r f (.lst ((items.take (i + 1)).filterMap F))
      rw [List.take_succ, hx, List.filterMap_append]
      simp [hy]
  · rintro S' rfl
    exact ⟨hG _, by simpa using hQ⟩
theorem lc_pure {n : LO → Store → QD → Prop} {ri : LTI} {t : Tg} {tt : LTT} {te : LTE} {env : LEnv} {S : Store} {Q : QD} {Ex : XD} (items : List D) (G : Store → Prop) (S1 : Store) (F : D → Option D)
    (hi : ∀ Q' : List D → (Store → Prop) → Store → Prop, Q' items G S1 → ri env S Q' Ex)
    (hl : items.length < sizeLine)
    (hn : ∀ Q' : QD, (∀ r f, (S1 r f = none) → (∀ ds, G (S1.set r f (.lst ds))) →
      (∀ (i : Nat) (x : D) (ds : List D) (P : D → Store → Prop) (N : Store → Prop), items[i]? = some x → (∀ y S4, F x = some y → Sub (S1.set r f (.lst ds)) S4 → P y S4) → (F x = none → N (S1.set r f (.lst ds))) →
        rTg t x (lwipe env t.vars) fun env2 => tt env2 (S1.set r f (.lst ds)) (fun k S3 => if k = true then te env2 S3 P (fun _ _ _ => False) else N S3) (fun _ _ _ => False)) →
      Q (.loc r f) (S1.set r f (.lst (items.filterMap F))) → Q' (.loc r f) (S1.set r f (.lst []))) → n (.lst []) S1 Q') : rLc n ri t tt te env S Q Ex := hi _ (lcb_pure items G S1 F hl hn)
theorem lc_tmp {ri : LTI} {t : Tg} {tt : LTT} {te : LTE} {env : LEnv} {S : Store} {Q : QD} {Ex : XD} (items : List D) (G : Store → Prop) (S1 : Store) (F : D → Option D)
    (hi : ∀ Q' : List D → (Store → Prop) → Store → Prop, Q' items G S1 → ri env S Q' Ex) (hl : items.length < sizeLine)
    (hG : ∀ r, (∀ f, S1 r f = none) → ∀ ds, G (S1.setR r (tmpR (.lst ds))))
    (hs : ∀ r, (∀ f, S1 r f = none) → ∀ (i : Nat) (x : D) (ds : List D) (P : D → Store → Prop) (N : Store → Prop), items[i]? = some x → (∀ y S4, F x = some y → Sub (S1.setR r (tmpR (.lst ds))) S4 → P y S4) → (F x = none → N (S1.setR r (tmpR (.lst ds)))) →
        rTg t x (lwipe env t.vars) fun env2 => tt env2 (S1.setR r (tmpR (.lst ds))) (fun k S3 => if k = true then te env2 S3 P (fun _ _ _ => False) else N S3) (fun _ _ _ => False))
    (hQ : ∀ r, (∀ f, S1 r f = none) → Q (.loc r .tmp) (S1.setR r (tmpR (.lst (items.filterMap F))))) : rLc (newF .tmp) ri t tt te env S Q Ex := by
  refine lc_pure items G S1 F hi hl fun Q' h r hr => h r .tmp (hr .tmp) (fun ds => by rw [set_tmp hr]; exact hG r hr ds) (fun i x ds P N hx h1 h2 => ?_) (by rw [set_tmp hr]; exact hQ r hr)
  rw [set_tmp hr] at h1 h2 ⊢
  exact hs r hr i x ds P N hx h1 h2
theorem lc_at {ri : LTI} {t : Tg} {tt : LTT} {te : LTE} {env : LEnv} {S : Store} {Q : QD} {Ex : XD} (items : List D) (G : Store → Prop) (S1 : Store) (F : D → Option D) (r : Nat) (f : Fld)
    (hi : ∀ Q' : List D → (Store → Prop) → Store → Prop, Q' items G S1 → ri env S Q' Ex) (hl : items.length < sizeLine) (hf : S1 r f = none) (hr : ∃ g, S1 r g ≠ none)
    (hG : ∀ ds, G (S1.set r f (.lst ds)))
    (hs : ∀ (i : Nat) (x : D) (ds : List D) (P : D → Store → Prop) (N : Store → Prop), items[i]? = some x → (∀ y S4, F x = some y → Sub (S1.set r f (.lst ds)) S4 → P y S4) → (F x = none → N (S1.set r f (.lst ds))) →
        rTg t x (lwipe env t.vars) fun env2 => tt env2 (S1.set r f (.lst ds)) (fun k S3 => if k = true then te env2 S3 P (fun _ _ _ => False) else N S3) (fun _ _ _ => False))
    (hQ : Q (.loc r f) (S1.set r f (.lst (items.filterMap F)))) : rLc newA ri t tt te env S Q Ex :=
  lc_pure items G S1 F hi hl fun Q' h => ⟨r, f, hf, hr, h r f hf hG hs hQ⟩
theorem rTg_yes {t : Tg} {x : D} {env : LEnv} {S : Store} {te : LTE} {P : QD} {N : Store → Prop} (h : rTg t x env fun env2 => te env2 S P (fun _ _ _ => False)) :
    rTg t x env fun env2 => rYes env2 S (fun k S3 => if k = true then te env2 S3 P (fun _ _ _ => False) else N S3) (fun _ _ _ => False) := by
  have e : (fun env2 => rYes env2 S (fun k S3 => if k = true then te env2 S3 P (fun _ _ _ => False) else N S3) (fun _ _ _ => False)) = fun env2 => te env2 S P (fun _ _ _ => False) := by
    funext env2
    show (if true = true then te env2 S P (fun _ _ _ => False) else N S) = _
    rw [if_pos rfl]
  rw [e]; exact h
theorem filterMap_some {α β : Type} (g : α → β) : ∀ l : List α, l.filterMap (fun x => some (g x)) = l.map g
  | [] => rfl
  | a :: l => by rw [List.filterMap_cons, List.map_cons]; simp
/-- without a test -/
theorem lc_map {ri : LTI} {t : Tg} {te : LTE} {env : LEnv} {S : Store} {Q : QD} {Ex : XD} (items : List D) (G : Store → Prop) (S1 : Store) (F : D → D)
    (hi : ∀ Q' : List D → (Store → Prop) → Store → Prop, Q' items G S1 → ri env S Q' Ex) (hl : items.length < sizeLine)
    (hG : ∀ r, (∀ f, S1 r f = none) → ∀ ds, G (S1.setR r (tmpR (.lst ds))))
    (hs : ∀ r, (∀ f, S1 r f = none) → ∀ (i : Nat) (x : D) (ds : List D) (P : D → Store → Prop), items[i]? = some x → (∀ S4, Sub (S1.setR r (tmpR (.lst ds))) S4 → P (F x) S4) →
        rTg t x (lwipe env t.vars) fun env2 => te env2 (S1.setR r (tmpR (.lst ds))) P (fun _ _ _ => False))
    (hQ : ∀ r, (∀ f, S1 r f = none) → Q (.loc r .tmp) (S1.setR r (tmpR (.lst (items.map F))))) : rLc (newF .tmp) ri t rYes te env S Q Ex := by
  refine lc_tmp items G S1 (fun x => some (F x)) hi hl hG (fun r hr i x ds P N hx h1 h2 => rTg_yes (hs r hr i x ds P hx fun S4 sb => h1 _ S4 rfl sb)) fun r hr => ?_
  rw [filterMap_some]; exact hQ r hr
theorem lc_mapA {ri : LTI} {t : Tg} {te : LTE} {env : LEnv} {S : Store} {Q : QD} {Ex : XD} (items : List D) (G : Store → Prop) (S1 : Store) (F : D → D) (r : Nat) (f : Fld)
    (hi : ∀ Q' : List D → (Store → Prop) → Store → Prop, Q' items G S1 → ri env S Q' Ex) (hl : items.length < sizeLine) (hf : S1 r f = none) (hr : ∃ g, S1 r g ≠ none)
    (hG : ∀ ds, G (S1.set r f (.lst ds)))
    (hs : ∀ (i : Nat) (x : D) (ds : List D) (P : D → Store → Prop), items[i]? = some x → (∀ S4, Sub (S1.set r f (.lst ds)) S4 → P (F x) S4) →
        rTg t x (lwipe env t.vars) fun env2 => te env2 (S1.set r f (.lst ds)) P (fun _ _ _ => False))
    (hQ : Q (.loc r f) (S1.set r f (.lst (items.map F)))) : rLc newA ri t rYes te env S Q Ex := by
  refine lc_at items G S1 (fun x => some (F x)) r f hi hl hf hr hG (fun i x ds P N hx h1 h2 => rTg_yes (hs i x ds P hx fun S4 sb => h1 _ S4 rfl sb)) ?_
  rw [filterMap_some]; exact hQ
theorem lcb_map {t : Tg} {te : LTE} {env : LEnv} {Q : QD} {items : List D} {G : Store → Prop} {S1 : Store} (F : D → D) (hl : items.length < sizeLine)
    (hG : ∀ r, (∀ f, S1 r f = none) → ∀ ds, G (S1.setR r (tmpR (.lst ds))))
    (hs : ∀ r, (∀ f, S1 r f = none) → ∀ (i : Nat) (x : D) (ds : List D) (P : D → Store → Prop), items[i]? = some x → (∀ S4, Sub (S1.setR r (tmpR (.lst ds))) S4 → P (F x) S4) →
        rTg t x (lwipe env t.vars) fun env2 => te env2 (S1.setR r (tmpR (.lst ds))) P (fun _ _ _ => False))
    (hQ : ∀ r, (∀ f, S1 r f = none) → Q (.loc r .tmp) (S1.setR r (tmpR (.lst (items.map F))))) : lcBody (newF .tmp) t rYes te env Q items G S1 :=
  lc_map (ri := fun _ S Q' _ => Q' items G S) (S := S1) (Ex := fun _ _ _ => False) items G S1 F (fun Q' hq => hq) hl hG hs hQ
theorem lcb_tmp {t : Tg} {tt : LTT} {te : LTE} {env : LEnv} {Q : QD} {items : List D} {G : Store → Prop} {S1 : Store} (F : D → Option D) (hl : items.length < sizeLine)
    (hG : ∀ r, (∀ f, S1 r f = none) → ∀ ds, G (S1.setR r (tmpR (.lst ds))))
    (hs : ∀ r, (∀ f, S1 r f = none) → ∀ (i : Nat) (x : D) (ds : List D) (P : D → Store → Prop) (N : Store → Prop), items[i]? = some x → (∀ y S4, F x = some y → Sub (S1.setR r (tmpR (.lst ds))) S4 → P y S4) → (F x = none → N (S1.setR r (tmpR (.lst ds)))) →
        rTg t x (lwipe env t.vars) fun env2 => tt env2 (S1.setR r (tmpR (.lst ds))) (fun k S3 => if k = true then te env2 S3 P (fun _ _ _ => False) else N S3) (fun _ _ _ => False))
    (hQ : ∀ r, (∀ f, S1 r f = none) → Q (.loc r .tmp) (S1.setR r (tmpR (.lst (items.filterMap F))))) : lcBody (newF .tmp) t tt te env Q items G S1 :=
  lc_tmp (ri := fun _ S Q' _ => Q' items G S) (S := S1) (Ex := fun _ _ _ => False) items G S1 F (fun Q' hq => hq) hl hG hs hQ
end SS
namespace SS
open PySem L2
/-! ### values without objects, of a depth -/
inductive PureK : Nat → D → Prop
  | non {k : Nat} : PureK k .non
  | bl {k : Nat} (b : Bool) : PureK k (.bl b)
  | int {k : Nat} (i : Int) : PureK k (.int i)
  | str {k : Nat} (x : Str) : PyData.strOk x = true → PureK k (.str x)
  | tup {k : Nat} {ds : List D} : (∀ d ∈ ds, PureK k d) → PureK (k + 1) (.tup ds)
inductive All2 {α β : Type} (P : α → β → Prop) : List α → List β → Prop
  | nil : All2 P [] []
  | cons {a : α} {b : β} {as : List α} {bs : List β} : P a b → All2 P as bs → All2 P (a :: as) (b :: bs)
theorem pd_list {P : D → PyData → Prop} {B : Nat} : ∀ (ds : List D), (∀ d ∈ ds, ∃ p, P d p ∧ p.canLay0 = true ∧ p.depth ≤ B) → ∃ ps : List PyData, All2 P ds ps ∧ PyData.canLayAll0 ps = true ∧ PyData.depthAll ps ≤ B
  | [], _ => ⟨[], .nil, rfl, Nat.zero_le _⟩
  | d :: ds, h => by
    obtain ⟨p, h1, h2, h3⟩ := h d List.mem_cons_self
    obtain ⟨ps, g1, g2, g3⟩ := pd_list ds fun e he => h e (List.mem_cons_of_mem _ he)
    exact ⟨p :: ps, .cons h1 g1, by simp [PyData.canLayAll0, h2, g2], by rw [PyData.depthAll]; omega⟩
theorem datDs_of {S : Store} : ∀ {ds : List D} {ps : List PyData}, All2 (fun d p => DatD S d p) ds ps → DatDs S ds ps
  | _, _, .nil => .nil
  | _, _, .cons h t => .cons h (datDs_of t)
theorem pure_dat {S : Store} {k : Nat} {d : D} (h : PureK k d) : ∃ p, DatD S d p ∧ p.canLay0 = true ∧ p.depth ≤ k + 1 := by
  induction h with
  | non => exact ⟨.none, .non, rfl, by rw [PyData.depth]; omega⟩
  | bl b => exact ⟨.bool b, .bl b, rfl, by rw [PyData.depth]; omega⟩
  | int i => exact ⟨.int i, .int i, rfl, by rw [PyData.depth]; omega⟩
  | str x hx => exact ⟨.str x, .str x, hx, by rw [PyData.depth]; omega⟩
  | @tup k ds _ ih =>
    obtain ⟨ps, h1, h2, h3⟩ := pd_list ds ih
    exact ⟨.tuple ps, .tup (datDs_of h1), h2, by rw [PyData.depth]; omega⟩
theorem shaped_of {p : PyData} {k : Nat} (h : p.canLay0 = true) (hd : p.depth ≤ k) (hk : k ≤ 64) : SeqAt.shaped p = true := by
  unfold SeqAt.shaped; rw [h]; simp; omega
theorem ne_same {S : Store} {Q : QD} {k : Nat} {d : D} (h : PureK k d) (hk : k ≤ 60) (q : Q (.bl false) S) : oNeD d d S Q := by
  obtain ⟨p, h1, h2, h3⟩ := pure_dat (S := S) h
  exact ⟨p, p, h1, h1, shaped_of h2 h3 (by omega), shaped_of h2 h3 (by omega), by rw [SeqAt.eqv_refl p h2]; exact q⟩
theorem eq_same {S : Store} {Q : QD} {k : Nat} {d : D} (h : PureK k d) (hk : k ≤ 60) (q : Q (.bl true) S) : oEqD d d S Q := by
  obtain ⟨p, h1, h2, h3⟩ := pure_dat (S := S) h
  exact ⟨p, p, h1, h1, shaped_of h2 h3 (by omega), shaped_of h2 h3 (by omega), by rw [SeqAt.eqv_refl p h2]; exact q⟩
theorem lst_dat {S : Store} {r r' : Nat} {f f' : Fld} {k : Nat} {ds : List D} (h : ∀ d ∈ ds, PureK k d) (h1 : S r f = some (.lst ds)) (h2 : S r' f' = some (.lst ds)) : ∃ p, DatD S (.loc r f) p ∧ DatD S (.loc r' f') p ∧ p.canLay0 = true ∧ p.depth ≤ k + 2 := by
  obtain ⟨ps, g1, g2, g3⟩ := pd_list (P := DatD S) ds fun d hd => pure_dat (h d hd)
  exact ⟨.list ps, .lst h1 (datDs_of g1), .lst h2 (datDs_of g1), g2, by rw [PyData.depth]; omega⟩
theorem ne_sameL {S : Store} {Q : QD} {r r' : Nat} {f f' : Fld} {k : Nat} {ds : List D} (h : ∀ d ∈ ds, PureK k d) (hk : k ≤ 60) (h1 : S r f = some (.lst ds)) (h2 : S r' f' = some (.lst ds)) (q : Q (.bl false) S) : oNeD (.loc r f) (.loc r' f') S Q := by
  obtain ⟨p, g1, g2, g3, g4⟩ := lst_dat h h1 h2
  exact ⟨p, p, g1, g2, shaped_of g3 g4 (by omega), shaped_of g3 g4 (by omega), by rw [SeqAt.eqv_refl p g3]; exact q⟩
theorem eq_sameL {S : Store} {Q : QD} {r r' : Nat} {f f' : Fld} {k : Nat} {ds : List D} (h : ∀ d ∈ ds, PureK k d) (hk : k ≤ 60) (h1 : S r f = some (.lst ds)) (h2 : S r' f' = some (.lst ds)) (q : Q (.bl true) S) : oEqD (.loc r f) (.loc r' f') S Q := by
  obtain ⟨p, g1, g2, g3, g4⟩ := lst_dat h h1 h2
  exact ⟨p, p, g1, g2, shaped_of g3 g4 (by omega), shaped_of g3 g4 (by omega), by rw [SeqAt.eqv_refl p g3]; exact q⟩
end SS
namespace SS
open PySem L2 PyProof.Rows
/-! ### d.pop(k), the key there -/
def rPopT1 : V → List V → Hp → VK → Prop := fun x xs H Q => ∃ (a : Addr) (kvs : List (List L2.Key × V)) (k : List L2.Key) (b : Addr) (v : V), x = .ref a ∧ xs = [.ref b] ∧ H a = some (.dT kvs) ∧ H b = some (.tup (k.map kV)) ∧
  valV kvs k = some v ∧ Q v (L2.upd H a (.dT (dropK kvs k)))
theorem mt_popT1 {X : Cx} (hu : X.A.units + 1 < cLine) : MtR X "dict.pop" rPopT1 := by
  intro pins s σ H x xs v us Q I rx rxs h
  obtain ⟨a, kvs, k, b, v0, rfl, rfl, ha, hb, ev, q⟩ := h
  cases rx
  have e1 := Vals.ref1 rxs
  subst e1
  obtain ⟨z, hd, xs', rel, dd⟩ := dt_of I.hok ha
  have hz : xs'.length ≤ sizeLine := by rw [← Paired.length rel]; exact z
  have r := rel.val k
  rw [ev] at r
  obtain ⟨p, hp, rv⟩ : ∃ p, atKey xs' k = some p ∧ RelV v0 p.2 := by
    cases ep : atKey xs' k with
    | none => rw [ep] at r; exact (show False from r).elim
    | some p => rw [ep] at r; exact ⟨p, rfl, r⟩
  refine call_pop_heap (knd := tupleKind (mixKind X.prog X.w)) (k := k) (xs := xs') (more := []) (.inl rfl) (PySem.F.args_dict_pop_2 _ _) (tupleKind_room_in1 hu) (key_of I.hok hb) hd dd hp (fun h' dd' hs => ?_) hz
  obtain ⟨o, es, ep, hq, h2, h3, h4, _, h5⟩ := dd'
  have I2 : Inv X pins σ (L2.upd H a (.dT (dropK kvs k))) { s with heap := h', toks := s.toks + (tupleKind (mixKind X.prog X.w)).draws k } :=
    d_write I (by rw [ha]; exact True.intro) hs ⟨o, hq⟩ ⟨Nat.le_trans (dropK_le kvs k) z, hd, _, (L2.DX.KT_drop k rel).keeps (fun c ys ec => (by rw [upd_ne (ne_of ec ha (fun z => nomatch z))]; exact ec)), o, es, ep, hq, h2, h3, h4, h5⟩
  exact ⟨v0, _, I2, rv, q⟩
def isDT : D → Store → Prop := fun d S => ∃ r f kvs, d = .loc r f ∧ S r f = some (.dT kvs)
def mPopT : DM := fun d ds S Q => ∃ r f kvs ks z, d = .loc r f ∧ ds = [.tup (ks.map kD)] ∧ S r f = some (.dT kvs) ∧ dget kvs ks = some z ∧ Q z (S.set r f (.dT (ddrop kvs ks)))
theorem mPopT_l {K : PySem.W.Frag} : MtL K "dict" rPopT1 isDT mPopT := by
  refine ⟨?_, ?_⟩
  · rintro ρ H S v d s r ⟨rg, fl, kvs, rfl, hS⟩
    cases r with
    | loc h1 =>
      obtain ⟨b, hb, e1, e2, kws, e3, kr⟩ := s.obj _ _ _ hS
      rw [h1] at e1; cases e1; subst e3
      exact .inr (.inr (.inl ⟨rfl, .inr ⟨kws, e2⟩⟩))
  · rintro ρ H S v d vs ds Q' Q s r rs ⟨rg, fl, kvs, ks, z, rfl, rfl, hS, hz, q⟩ po
    cases r with
    | @loc _ _ a h1 =>
      obtain ⟨b, hb, e1, e2, kws, e3, kr⟩ := s.obj _ _ _ hS
      rw [h1] at e1; cases e1; subst e3
      obtain ⟨y, rfl, ry⟩ := rs.one
      cases ry with
      | tup h2 r2 =>
        have := kDs_vr r2
        subst this
        obtain ⟨w, hw, rw'⟩ := kr.val hz
        have ext : Ext ρ H ρ (L2.upd H a (.dT (dropK kws ks))) := Ext.upd e2 trivial
        have s2 := s.put (o' := .dT (ddrop kvs ks)) h1 (by rw [hS]; simp) e2 trivial ⟨_, rfl, kr.drop.mono ext⟩
        exact ⟨_, kws, ks, _, w, rfl, rfl, e2, h2, hw, po _ _ _ _ _ ext s2 (rw'.mono ext) q⟩
section
variable {X : Cx} {W : WX} {a b c e o : Expr} {es : List Expr} {ra rb rc : LTE} {pos p apos cpos : Pos}
theorem le_popT (hu : X.A.units + 1 < cLine) (ho : LE X W o ra) (ha : LE X W e rb)
    (hbase : attributeBase o "pop" X.env (eval o X.env) = eval o X.env := by rfl)
    (hfew : ((backTo cpos (starEach [e] X.env)).all (fun x => !x.1) && (backToKw cpos (keywordEach [] X.env)).all (fun x => x.1.isSome)
      && decide (([e] : List Expr).length + ([] : List Keyword).length + (if ([] : List Keyword).isEmpty then 0 else 1) < 30)) = true := by rfl)
    (hline : (apos.endLine == cpos.line) = true := by rfl) (hs : starEach [e] X.env = (false, eval e X.env) :: starEach [] X.env := by rfl) (hplain : (backTo cpos (starEach [] X.env)).any (·.1) = false := by rfl) :
    LE X W (.Call (.Attribute o "pop" apos) [e] [] cpos) (rBM isDT mPopT ra (rCons rb rNil)) :=
  le_bm PySem.F.plainAttrs_dict PySem.F.slot_dict_pop PySem.F.type_dict_pop (mt_popT1 hu) mPopT_l ho (la_cons ha la_nil hs) hbase hfew hline hs hplain
end
end SS
namespace SS
open PySem L2 PyProof.Rows
/-! ### in, deep -/
def oInD : D2 := fun d e S Q => ∃ p ps, DatD S d p ∧ DatD S e (.list ps) ∧ SeqAt.shaped p = true ∧ SeqAt.shaped (.list ps) = true ∧ Q (.bl (ps.any fun z => PyData.eqv z p)) S
def oNotInD : D2 := fun d e S Q => ∃ p ps, DatD S d p ∧ DatD S e (.list ps) ∧ SeqAt.shaped p = true ∧ SeqAt.shaped (.list ps) = true ∧ Q (.bl (!ps.any fun z => PyData.eqv z p)) S
theorem oInD_l {K : PySem.W.Frag} : OpL K (rInD K) oInD := by
  rintro ρ H S x y d e Q' Q s r1 r2 ⟨p, q, h1, h2, h3, h4, k⟩ po
  exact ⟨p, q, h1.dp s r1, h2.dp s r2, h3, h4, po.here s (.bl _) k⟩
theorem oNotInD_l {K : PySem.W.Frag} : OpL K (rNotInD K) oNotInD := by
  rintro ρ H S x y d e Q' Q s r1 r2 ⟨p, q, h1, h2, h3, h4, k⟩ po
  exact ⟨p, q, h1.dp s r1, h2.dp s r2, h3, h4, po.here s (.bl _) k⟩
section
variable {X : Cx} {W : WX} {a b c e o : Expr} {es : List Expr} {ra rb rc : LTE} {rL : LTA} {pos p apos cpos : Pos}
theorem le_inD (hu : X.A.units + 65 < cLine) (ha : LE X W a ra) (hb : LE X W b rb) (hm : behindInMarks .In b = false := by rfl) : LE X W (.Compare a [.In] [b] pos) (rOp oInD ra rb) := le_cmp (op_inD hu) oInD_l ha hb hm
theorem lt_inD (hu : X.A.units + 65 < cLine) (ha : LE X W a ra) (hb : LE X W b rb) (hm : behindInMarks .In b = false := by rfl) : LT X W (.Compare a [.In] [b] pos) (rTest (rOp oInD ra rb)) := lt_cmp (op_inD hu) oInD_l ha hb hm
theorem le_notInD (hu : X.A.units + 65 < cLine) (ha : LE X W a ra) (hb : LE X W b rb) (hm : behindInMarks .NotIn b = false := by rfl) : LE X W (.Compare a [.NotIn] [b] pos) (rOp oNotInD ra rb) := le_cmp (op_notInD hu) oNotInD_l ha hb hm
theorem lt_notInD (hu : X.A.units + 65 < cLine) (ha : LE X W a ra) (hb : LE X W b rb) (hm : behindInMarks .NotIn b = false := by rfl) : LT X W (.Compare a [.NotIn] [b] pos) (rTest (rOp oNotInD ra rb)) := lt_cmp (op_notInD hu) oNotInD_l ha hb hm
end
/-! ### a dict's truth, its keys tuples -/
theorem len_raw {prog : Program} {w : World} {A : Around} {E : Value → Shared → Prop} {s : Shared} {d : Addr} {es : Array DictEntry} {ep : Nat} {R : Shared → Prop} (hd : (d == sysModules) = false) (hm : s.heap.DictRaw d es ep) (hfit : (es.size : Int) < 2 ^ 63)
    (h : ∀ tk, R { s with toks := tk }) : wpAny (model prog w) A (Builtin.«len» ⟨[.ref d], []⟩) (fun fin s' => ∃ t, fin = .done (.ret (.int es.size t)) ∧ R s') E s := by
  unfold Builtin.«len»; refine wpAny_bind (m := oneArg "len" _) (wpAny_pure (wpAny_bind (m := callSpecial? (.ref d) (Str.ofString "__len__")) (wpAny_callSpecial?_slot (name := Str.ofString "__len__") hm.typeIs F.slot_dict_len (call_len_raw hd hm (wpAny_bind (wpAny_holding (wpAny_pure (wpAny_bind (wpAny_letGo ?_)))))))))
  show wpAny _ _ (if ((es.size : Nat) : Int) < 0 then _ else _) _ _ _
  rw [if_neg (by omega)]; show wpAny _ _ (if ((es.size : Nat) : Int) ≥ 2 ^ 63 then _ else _) _ _ _; rw [if_neg (by omega)]
  exact wpAny_bind (wpAny_mkInt (wpAny_pure ⟨_, rfl, h _⟩))
theorem truthy_raw {prog : Program} {w : World} {A : Around} {E : Value → Shared → Prop} {s : Shared} {d : Addr} {es : Array DictEntry} {ep : Nat} {Q : Bool → Shared → Prop} (hd : (d == sysModules) = false) (hm : s.heap.DictRaw d es ep) (hfit : (es.size : Int) < 2 ^ 63)
    (h : ∀ tk, Q ((es.size : Int) != 0) { s with toks := tk }) : wpAny (model prog w) A (truthy (.ref d)) Q E s := by
  have run : wpAny (model prog w) A (runValue (.builtin "len" ⟨[.ref d], []⟩)) (fun r s' => (∃ t, r = .int es.size t) ∧ Q ((es.size : Int) != 0) s') E s := by
    refine wpAny_runValue (codeAny_builtin entry_len (by rw [Around.under_plainId plain_len _]; exact wpAny_mono (len_raw hd hm hfit h) (fun fin s' z => by obtain ⟨t, rfl, w'⟩ := z; exact ⟨⟨t, rfl⟩, w'⟩) fun _ _ e => e))
  unfold truthy
  first | refine wpAny_bind (wpAny_callSpecial?_none (name := Str.ofString "__bool__") hm.typeIs noBool_dict (wpAny_bind (wpAny_specialOf (name := Str.ofString "__len__") hm.typeIs F.slot_dict_len.lookup (wpAny_bind (wpAny_mono run ?_ fun _ _ e => e))))) | refine wpAny_bind (wpAny_pure (wpAny_bind (wpAny_callSpecial?_none (name := Str.ofString "__bool__") hm.typeIs noBool_dict (wpAny_bind (wpAny_pure (wpAny_bind (wpAny_specialOf (name := Str.ofString "__len__") hm.typeIs F.slot_dict_len.lookup (wpAny_bind (wpAny_pure (wpAny_bind (wpAny_mono run ?_ fun _ _ e => e)))))))))))
  intro r s' z
  obtain ⟨⟨t, rfl⟩, w'⟩ := z
  exact wpAny_pure w'
def rTruDT : V → Hp → (Bool → Hp → Prop) → Prop := fun x H Q => ∃ a kvs, x = .ref a ∧ H a = some (.dT kvs) ∧ Q (!kvs.isEmpty) H
theorem tru_dT {X : Cx} : TruR X rTruDT := by
  intro pins s σ H x v Q I rx ⟨a, kvs, e, ha, q⟩
  subst e
  obtain rfl : v = Value.ref a := rx
  obtain ⟨z, hd, xs', rel, dd⟩ := dt_of I.hok ha
  have hl : kvs.length = xs'.length := Paired.length rel
  obtain ⟨o, es, ep, hq, h2, h3, h4, _, h5⟩ := dd
  have hes : es.size = xs'.length := by
    have := congrArg List.length h4
    simpa using this
  have hs : sizeLine = 16777216 := sizeLine_eq
  refine truthy_raw hd ⟨o, hq, h2, h3⟩ (by omega) fun tk => ⟨H, I.tok _, ?_⟩
  have : ((es.size : Int) != 0) = !kvs.isEmpty := by
    rw [hes, ← hl]; cases kvs <;> simp <;> omega
  rw [this]; exact q
/-- if d: .., where d's keys are tuples -/
def rTruT (r : LTE) : LTT := fun env S Q Ex => r env S (fun d S1 => ∃ rg fl kvs, d = .loc rg fl ∧ S1 rg fl = some (.dT kvs) ∧ Q (!kvs.isEmpty) S1) Ex
/-- not d -/
def rNotT (r : LTE) : LTE := fun env S Q Ex => r env S (fun d S1 => ∃ rg fl kvs, d = .loc rg fl ∧ S1 rg fl = some (.dT kvs) ∧ Q (.bl kvs.isEmpty) S1) Ex
theorem dT_of {K : PySem.W.Frag} {ρ : Rho} {H : Hp} {S : Store} (s : Sim K ρ H S) {rg : Nat} {fl : Fld} {kvs : List (List Key × D)} {v : V} (h : S rg fl = some (.dT kvs)) (r : VR K ρ H v (.loc rg fl)) :
    ∃ a kws, v = .ref a ∧ ρ rg fl = some a ∧ H a = some (.dT kws) ∧ KR K ρ H kws kvs := by
  cases r with
  | loc h1 =>
    obtain ⟨b, hb, e1, e2, kws, e3, kr⟩ := s.obj _ _ _ h
    rw [h1] at e1; cases e1; subst e3
    exact ⟨_, kws, rfl, h1, e2, kr⟩
theorem KR.emp {κ : Type} {K : PySem.W.Frag} {ρ : Rho} {H : Hp} {vs : List (κ × V)} {ds : List (κ × D)} (h : KR K ρ H vs ds) : vs.isEmpty = ds.isEmpty := by cases h <;> rfl
section
variable {X : Cx} {W : WX} {a b c e o : Expr} {es : List Expr} {ra rb rc : LTE} {rL : LTA} {pos p apos cpos : Pos}
theorem lt_truT (ha : LE X W a ra) (he : ∀ whole, isTrue a X.env whole = (do let v ← whole; standAt a.pos; holding [v] (truthy v)) := by intro _; rfl) : LT X W a (rTruT ra) :=
  ptI (pt_truthR ha tru_dT he) fun σ H Q ⟨ρ, env, S, Q', Ex, s, er, q, po, xp⟩ =>
    ⟨ρ, env, S, _, Ex, s, er, q, fun ρ1 x d H1 S1 e1 s1 r1 ⟨rg, fl, kvs, ed, hS, q1⟩ => by
      subst ed
      obtain ⟨ad, kws, rfl, _, h2, kr⟩ := dT_of s1 hS r1
      exact ⟨ad, kws, rfl, h2, by rw [kr.emp]; exact po ρ1 _ H1 S1 e1 s1 q1⟩, xp⟩
theorem pe_notR {a : Expr} {ta : TE} {r : V → Hp → (Bool → Hp → Prop) → Prop} (ha : PE X a ta) (hr : TruR X r) : PE X (.UnaryOp .Not a pos) (fun σ H Q => ta σ H fun x H1 => r x H1 fun k H2 => Q (.bl (!k)) H2) := by
  refine ⟨fun pins s σ H Q I h => ?_⟩
  refine UnaryOp_ (thn (ha.run pins s σ H _ I h) fun v s1 ⟨x, H1, I1, r1, q1⟩ => ?_)
  exact not_of (thn (hr pins s1 σ H1 x v _ I1 r1 q1) fun c s2 ⟨H2, I2, q2⟩ => ⟨.bl (!c), H2, I2, rfl, q2⟩)
theorem le_notT (ha : LE X W a ra) : LE X W (.UnaryOp .Not a pos) (rNotT ra) :=
  peI (pe_notR ha tru_dT) fun σ H Q ⟨ρ, env, S, Q', Ex, s, er, q, po, xp⟩ =>
    ⟨ρ, env, S, _, Ex, s, er, q, fun ρ1 x d H1 S1 e1 s1 r1 ⟨rg, fl, kvs, ed, hS, q1⟩ => by
      subst ed
      obtain ⟨ad, kws, rfl, _, h2, kr⟩ := dT_of s1 hS r1
      exact ⟨ad, kws, rfl, h2, by rw [kr.emp]; show Q (V.bl (!!kvs.isEmpty)) H1; rw [Bool.not_not]; exact po ρ1 _ _ H1 S1 e1 s1 (.bl _) q1⟩, xp⟩
end
/-! ### sorted(d), d's keys pairs of ints that rise -/
theorem srt_same {α : Type} {lt : α → α → Bool} : ∀ (l out : List α), l.Pairwise (fun x y => lt x y = true) → out.Pairwise (fun x y => lt y x = false) → out.Perm l → out = l
  | [], out, _, _, hp => List.Perm.eq_nil hp
  | a :: l, out, hs, ho, hp => by
    cases out with
    | nil => exact absurd hp.length_eq (by simp)
    | cons o out =>
      have e : o = a := by
        refine Classical.byContradiction fun hne => ?_
        have h1 : o ∈ l := by
          rcases List.mem_cons.mp (hp.mem_iff.mp List.mem_cons_self) with z | z
          · exact absurd z hne
          · exact z
        have h2 : a ∈ out := by
          rcases List.mem_cons.mp (hp.mem_iff.mpr List.mem_cons_self) with z | z
          · exact absurd z.symm hne
          · exact z
        have h3 := (List.pairwise_cons.mp hs).1 o h1
        have h4 := (List.pairwise_cons.mp ho).1 a h2
        rw [h3] at h4; cases h4
      subst e
      rw [srt_same l out (List.pairwise_cons.mp hs).2 (List.pairwise_cons.mp ho).2 (List.Perm.cons_inv hp)]
def kOf (H : Hp) : Value → Int × Int
  | .ref a => match H a with
    | some (.tup [.int i, .int j]) => (i, j)
    | _ => (0, 0)
  | _ => (0, 0)
def pairK (p : Int × Int) : List L2.Key := [.inl p.1, .inl p.2]
def rSortDT : List V → Hp → VK → Prop := fun vs H Q => ∃ (a : Addr) (kvs : List (List L2.Key × V)) (ps : List (Int × Int)), vs = [V.ref a] ∧ H a = some (.dT kvs) ∧ kvs.map (·.1) = ps.map pairK ∧ ps.Pairwise (fun p q => SrtO.lexB p q = true) ∧
  ∀ (p : Addr) (as : List Addr), H p = none → Paired (fun b q => H b = some (.tup [.int q.1, .int q.2])) as ps → Q (.ref p) (L2.upd H p (.lst (as.map V.ref)))
theorem kt_refs {H : Hp} : ∀ {kvs : List (List L2.Key × V)} {xs : List (List L2.Key × Addr × Value)} {ps : List (Int × Int)}, KT H kvs xs → kvs.map (·.1) = ps.map pairK → Paired (fun b q => H b = some (.tup [.int q.1, .int q.2])) (xs.map (·.2.1)) ps
  | _, _, [], .nil, _ => .nil
  | _, _, q :: ps, .nil, e => by simp at e
  | _, _, [], .cons h t, e => by simp at e
  | _, _, q :: ps, .cons (a := p) (b := x) h t, e => by
    rw [List.map_cons, List.map_cons] at e
    injection e with e1 e2
    obtain ⟨h1, h2, h3⟩ := h
    refine .cons ?_ (kt_refs t e2)
    rw [e1] at h2
    exact h2
/-- the keys of a dict in a new list; the heap has grown -/
theorem keys_collect {prog : Program} {w : World} {A : Around} {E : Value → Shared → Prop} {s : Shared} {d : Addr} {es : Array DictEntry} {ep : Nat} {R : List Value → Shared → Prop} (hd : (d == sysModules) = false) (hm : s.heap.DictRaw d es ep) (hh : A.handled = none) (hn : es.size ≤ sizeLine)
    (fin : ∀ (h' : Heap) (tk : Nat) (acc : Array Value), (∀ b o, s.heap.get? b = some o → h'.get? b = some o) → s.heap.objs.size < h'.objs.size → ItemsOf (fun i v => ∃ hi : i < es.size, v = es[i].key) acc es.size → R acc.toList { s with heap := h', toks := tk }) :
    wpAny (model prog w) A (collect (.ref d)) R E s := by
  have src : PySem.W.KdlSrc prog w "dict" d d es.size (fun i v => ∃ hi : i < es.size, v = es[i].key) (fun h => h.DictRaw d es ep) := PySem.KdlSrc.rawDict hd
  have lt : d < s.heap.objs.size := (src.there _ hm).1
  have new : (s.heap.push { cls := .type "list", data := .seq ([] : List Value).toArray }).get? s.heap.objs.size = some { cls := .type "list", data := .seq #[] } := Heap.get?_push_size _ rfl
  let Z : Result → Shared → Prop := fun q s' => ∃ (h' : Heap) (tk : Nat) (acc : Array Value) (c : Nat), q = .ok (.ret (.ref s.heap.objs.size)) ∧ s' = { s with heap := h', toks := tk } ∧ (∀ b o, s.heap.get? b = some o → h'.get? b = some o) ∧ h'.get? s.heap.objs.size = some { cls := .type "list", dict := none, data := .seq acc c, slots := #[] } ∧ ItemsOf (fun i v => ∃ hi : i < es.size, v = es[i].key) acc es.size
  have done : ∀ q s', Z q s' → ∃ (h' : Heap) (tk : Nat) (acc : Array Value) (c : Nat), q = .ok (.ret (.ref s.heap.objs.size)) ∧ s' = { s with heap := h', toks := tk } ∧ h'.get? s.heap.objs.size = some { cls := .type "list", dict := none, data := .seq acc c, slots := #[] } ∧ R acc.toList { s with heap := h', toks := tk } := by
    rintro q s' ⟨h', tk, acc, c, e1, e2, k, g, its⟩
    exact ⟨h', tk, acc, c, e1, e2, g, fin h' tk acc k (Heap.lt_size g) its⟩
  have ext := PySem.W.kdl_extend (A := A) (R := Z) (s := { s with heap := s.heap.push { cls := .type "list", data := .seq ([] : List Value).toArray } }) src hh (src.keep _ _ hm fun b _ o e => Heap.get?_push_of_some _ e) s.heap.objs.size (Nat.ne_of_gt lt) (Nat.ne_of_gt lt) (.ref s.heap.objs.size) 0 new
    (fun h' tk acc c k g its => ⟨h', tk, acc, c, rfl, rfl, fun b o e => k b o (Nat.ne_of_lt (Heap.lt_size e)) (Heap.get?_push_of_some _ e), g, its⟩) hn
  unfold collect; refine wpAny_bind (wpAny_runValue (codeAny_builtin entry_proto_collect' ?_)); rw [Around.under_plainId PySem.F.plain_proto_collect _]
  show wpAny _ A.in1 (newList [] >>= fun l => again (.builtin "list.__iadd__" ⟨[l, .ref d], []⟩)) _ _ s; refine wpAny_bind (wpAny_newObj_type ?_); refine wpAny_pure ⟨plainId_quiet PySem.F.plain_list_iadd _, codeAny_builtin entry_list_iadd' ?_⟩; rw [Around.under_plainId PySem.F.plain_list_iadd _]
  refine wpAny_mono ext (fun f s' x => ?_) fun e s' x => ?_
  · cases f with
    | done f =>
      obtain ⟨h', tk, acc, c, e, rfl, g, z⟩ := done _ _ x
      cases e
      exact (show wpAny _ A (load s.heap.objs.size >>= _) _ _ _ from wpAny_bind (wpAny_load g (wpAny_pure z)))
    | again c₁ =>
      refine ⟨x.1, codeAny_mono x.2 fun q s₂ y => ?_⟩
      obtain ⟨h', tk, acc, c, rfl, rfl, g, z⟩ := done _ _ y
      exact (show wpAny _ A (load s.heap.objs.size >>= _) _ _ _ from wpAny_bind (wpAny_load g (wpAny_pure z)))
  · obtain ⟨_, _, _, _, e', _⟩ := x
    cases e'
theorem cr_sortedDT {X : Cx} (hc : X.calm = true) : CallR X (.builtin "sorted") rSortDT := by
  intro pins s σ H vs us Q I r ⟨a, kvs, ps, e, ha, hk, hso, q⟩
  subst e
  rw [Vals.ref1 r]
  obtain ⟨z, hd, xs', rel, dd⟩ := dt_of I.hok ha
  obtain ⟨o, es, ep, hq, h2, h3, h4, _, h5⟩ := dd
  have hl : kvs.length = xs'.length := Paired.length rel
  have hes : es.size = xs'.length := by
    have := congrArg List.length h4
    simpa using this
  have pr := kt_refs rel hk
  have hlp : xs'.length = ps.length := by have := Paired.length pr; simpa using this
  refine Calls.call_function_entry kind_sorted plain_sorted entry_sorted (args_sorted1 _) ?_; unfold Builtin.«sorted»; refine wpAny_bind (m := checkCount "sorted" 1 1 _) (wpAny_pure ?_)
  refine wpAny_bind (keys_collect (A := X.A.in1) (es := es) (ep := ep) hd ⟨o, hq, h2, h3⟩ (I.ok.hd hc) (by rw [hes, ← hl]; exact z) fun h' tk acc hk' hgr hacc => ?_)
  have hvs : acc.toList = (xs'.map (·.2.1)).map Value.ref := by
    refine List.ext_getElem? fun i => ?_
    by_cases hi : i < es.size
    · have ha1 : i < acc.size := by rw [hacc.1]; exact hi
      obtain ⟨_, hv⟩ := hacc.2 i acc[i] (by simp [ha1])
      have e2 : es.toList[i]? = some es[i] := by simp [hi]
      rw [h4, List.getElem?_map] at e2
      cases ex : xs'[i]? with
      | none => rw [ex] at e2; cases e2
      | some x =>
        rw [ex] at e2
        have e3 : entryOfKey (tupleKind (mixKind X.prog X.w)) x = es[i] := Option.some.inj e2
        rw [Array.getElem?_toList, Array.getElem?_eq_getElem ha1, hv, ← e3, List.map_map, List.getElem?_map, ex]; rfl
    · rw [List.getElem?_eq_none (by rw [Array.length_toList, hacc.1]; omega), List.getElem?_eq_none (by simp; omega)]
  have hz : acc.toList.length ≤ sizeLine := by rw [Array.length_toList, hacc.1, hes, ← hl]; exact z
  refine wpAny_bind (wpAny_newList ?_ hz)
  generalize hvv : acc.toList = vs at *
  have hoL : (h'.push (seqObj "list" vs.toArray 0)).get? h'.objs.size = some (seqObj "list" vs.toArray 0) := Heap.get?_push_size _ rfl
  have hpair : ∀ v ∈ vs, Srt.IsPair h' v (kOf H v).1 (kOf H v).2 := by
    intro v hv
    rw [hvs] at hv
    obtain ⟨b, hb, rfl⟩ := List.mem_map.mp hv
    obtain ⟨i, hi, e⟩ := List.getElem_of_mem hb
    have hi' : (xs'.map (·.2.1))[i]? = some b := List.getElem?_eq_some_iff.mpr ⟨hi, e⟩
    obtain ⟨p, hp, hb2⟩ := paired_get pr hi'
    have ek : kOf H (.ref b) = (p.1, p.2) := by show (match H b with | some (.tup [.int i, .int j]) => (i, j) | _ => (0, 0)) = _; rw [hb2]
    rw [ek]
    obtain ⟨_, its2, r2, o2, ho2, hc2, n2, hd2⟩ := I.hok _ _ hb2
    obtain ⟨u1, u2, rfl, ri, rj⟩ := vals2 r2
    obtain ⟨t1, rfl⟩ := ri
    obtain ⟨t2, rfl⟩ := rj
    exact ⟨b, o2, t1, t2, n2, rfl, hk' _ _ ho2, hc2, hd2⟩
  have hstrict : vs.Pairwise (fun x y => SrtO.lexB (kOf H x) (kOf H y) = true) := by
    rw [hvs]
    have gen : ∀ (as : List Addr) (ps : List (Int × Int)), Paired (fun b q => H b = some (.tup [.int q.1, .int q.2])) as ps → ps.Pairwise (fun p q => SrtO.lexB p q = true) → (as.map Value.ref).Pairwise (fun x y => SrtO.lexB (kOf H x) (kOf H y) = true) := by
      intro as ps pr
      have ek : ∀ (b : Addr) (q : Int × Int), H b = some (.tup [.int q.1, .int q.2]) → kOf H (.ref b) = q := fun b q hb => by
        show (match H b with | some (.tup [.int i, .int j]) => (i, j) | _ => (0, 0)) = _; rw [hb]
      induction pr with
      | nil => intro _; exact .nil
      | @cons b q as ps h t ih =>
        intro hs
        obtain ⟨s1, s2⟩ := List.pairwise_cons.mp hs
        refine List.pairwise_cons.mpr ⟨fun v hv => ?_, ih s2⟩
        obtain ⟨c, hcm, rfl⟩ := List.mem_map.mp hv
        obtain ⟨i, hi, e⟩ := List.getElem_of_mem hcm
        have hi' : as[i]? = some c := List.getElem?_eq_some_iff.mpr ⟨hi, e⟩
        obtain ⟨p, hp, hb2⟩ := paired_get t hi'
        rw [ek b q h, ek c p hb2]
        exact s1 p (List.mem_of_getElem? hp)
    exact gen _ _ pr hso
  show wpAny _ _ _ _ _ { s with heap := h'.push (seqObj "list" vs.toArray 0), toks := tk }
  refine wpAny_bind (wpAny_holding (wpAny_call_entry slot_list_sort ⟨_, hoL, rfl⟩ entry_list_sort (SrtO.list_sort_ord (SrtO.swo_lex (kOf H)) hoL hz (fun h2 => SrtO.pairs_sortableO (by omega) (fun v hv => (hpair v hv).keeps fun b o e _ => Heap.get?_push_of_some _ e) fun o e => ?_) fun out hs hb => ⟨_, rfl, ?_⟩) (args_list_sort _)))
  · rw [hoL] at e; cases e
    exact fun c => absurd (Value.type.inj c) (by decide)
  · have eo := srt_same vs out hstrict hs hb.perm
    subst eo
    have old : ∀ b ob, s.heap.get? b = some ob → (sortedHeap (h'.push (seqObj "list" out.toArray 0)) h'.objs.size out out.toArray).get? b = some ob := fun b ob e => by
      have h1 := hk' b ob e
      have hlt := Heap.lt_size h1
      rw [sortedHeap_old (Nat.ne_of_lt hlt) (by rw [Heap.size_push]; exact Nat.lt_succ_of_lt hlt)]
      exact Heap.get?_push_of_some _ h1
    obtain ⟨n, hn⟩ := sortedHeap_at (out := out.toArray) hoL
    have hge : s.heap.objs.size ≤ h'.objs.size := Nat.le_of_lt hgr
    refine wpAny_pure ⟨_, rfl, .ref h'.objs.size, _, I.laid (t' := tk) (o := .lst ((xs'.map (·.2.1)).map V.ref)) old hge ⟨?_, out, n, ?_, hn⟩, rfl, q _ _ (I.hok.fresh hge) pr⟩
    · simp; rw [← hl]; exact z
    · rw [hvs]
      induction xs'.map (·.2.1) with
      | nil => exact .nil
      | cons b l ih => exact .cons rfl ih
theorem KR.keys {κ : Type} {K : PySem.W.Frag} {ρ : Rho} {H : Hp} : ∀ {vs : List (κ × V)} {ds : List (κ × D)}, KR K ρ H vs ds → vs.map (·.1) = ds.map (·.1)
  | _, _, .nil => rfl
  | _, _, .cons h t => by rw [List.map_cons, List.map_cons, KR.keys t]
def tup2 (p : Int × Int) : D := .tup [.int p.1, .int p.2]
def dSortT (n : LO → Store → QD → Prop) : DA := fun ds S Q => ∃ (rg : Nat) (fl : Fld) (kvs : List (List Key × D)) (ps : List (Int × Int)), ds = [.loc rg fl] ∧ S rg fl = some (.dT kvs) ∧ kvs.map (·.1) = ps.map pairK ∧ ps.Pairwise (fun p q => SrtO.lexB p q = true) ∧ n (.lst (ps.map tup2)) S Q
theorem refs_vr {K : PySem.W.Frag} {ρ : Rho} {H : Hp} : ∀ {as : List Addr} {ps : List (Int × Int)}, Paired (fun b q => H b = some (.tup [.int q.1, .int q.2])) as ps → VRs K ρ H (as.map V.ref) (ps.map tup2)
  | _, _, .nil => .nil
  | _, _, .cons h t => .cons (.tup h (.cons (.int _) (.cons (.int _) .nil))) (refs_vr t)
theorem dSortT_l {K : PySem.W.Frag} {n : LO → Store → QD → Prop} (hn : NewOk n) : CaL K rSortDT (dSortT n) := by
  rintro ρ H S vs ds Q' Q s r0 ⟨rg, fl, kvs, ps, rfl, hS, hk, hso, q⟩ po
  obtain ⟨v, rfl, r⟩ := r0.one
  obtain ⟨a, kws, rfl, _, h2, kr⟩ := dT_of s hS r
  exact ⟨a, kws, ps, rfl, h2, by rw [kr.keys]; exact hk, hso, fun p as np pr => hn s q po (ho := .lst (as.map V.ref)) ⟨_, rfl, refs_vr pr⟩ p np⟩
theorem r65 {k : Nat} {A : Around} (r : Room k A) : A.units + 65 < cLine := by have := r.un; omega
end SS
namespace SS
open PySem L2
/-- the classes of the text -/
structure Cl where
  (m s e : Addr)
  (noCoins noEvent noPicture notDone shotError : Addr)
/-! ### the market, by hand -/
inductive Par where
  | coins (a : Int) (num : Option Nat)
  | mark (k : Nat)
structure Ev where
  give : Bool
  one : Nat
  other : Nat
  amt : Int
structure Sh where
  written : List (Option Int)
  cut : List (Option Int)
  watched : List (Nat × Nat)
  lying : Nat → Nat → List Int
structure Mkt where
  n : Nat
  purses : List Int
  roads : Nat → Nat → List Par
  told : List Ev
  stamps : List (List Int)
  times : List Int
  last : List (Option Nat)
  shots : List Sh
def up2 {α : Type} (g : Nat → Nat → α) (a b : Nat) (x : α) : Nat → Nat → α := fun a' b' => if a' = a ∧ b' = b then x else g a' b'
theorem up2_same {α : Type} {g : Nat → Nat → α} {a b : Nat} {x : α} : up2 g a b x a b = x := if_pos ⟨rfl, rfl⟩
theorem up2_ne {α : Type} {g : Nat → Nat → α} {a b a' b' : Nat} {x : α} (h : ¬ (a' = a ∧ b' = b)) : up2 g a b x a' b' = g a' b' := if_neg h
def row (n a : Nat) : List (Nat × Nat) := ((List.range n).filter fun b => decide (a ≠ b)).map fun b => (a, b)
def pairs (n : Nat) : List (Nat × Nat) := (List.range n).flatMap (row n)
theorem mem_row {n a x y : Nat} : (x, y) ∈ row n a ↔ x = a ∧ y < n ∧ a ≠ y := by
  unfold row
  simp only [List.mem_map, List.mem_filter, List.mem_range, Prod.mk.injEq, decide_eq_true_eq]
  constructor
  · rintro ⟨b, ⟨h1, h2⟩, rfl, rfl⟩; exact ⟨rfl, h1, h2⟩
  · rintro ⟨rfl, h1, h2⟩; exact ⟨y, ⟨h1, h2⟩, rfl, rfl⟩
theorem mem_pairs {n x y : Nat} : (x, y) ∈ pairs n ↔ x < n ∧ y < n ∧ x ≠ y := by
  unfold pairs
  simp only [List.mem_flatMap, List.mem_range, mem_row]
  constructor
  · rintro ⟨a, h1, rfl, h2, h3⟩; exact ⟨h1, h2, h3⟩
  · rintro ⟨h1, h2, h3⟩; exact ⟨x, h1, rfl, h2, h3⟩
/-- the key of a pair -/
def pk (p : Nat × Nat) : List Key := [.inl (p.1 : Int), .inl (p.2 : Int)]
theorem pk_inj {p q : Nat × Nat} (h : pk p = pk q) : p = q := by
  obtain ⟨a, b⟩ := p; obtain ⟨c, d⟩ := q
  unfold pk at h
  injection h with h1 h2
  injection h2 with h2 _
  have e1 : ((a : Int)) = c := Sum.inl.inj h1
  have e2 : ((b : Int)) = d := Sum.inl.inj h2
  rw [Int.ofNat.inj e1, Int.ofNat.inj e2]
theorem pk_kD (a b : Nat) : (pk (a, b)).map kD = [.int a, .int b] := rfl
theorem dget_map {α : Type} (g : Nat × Nat → α) {p : Nat × Nat} : ∀ {l : List (Nat × Nat)}, p ∈ l → dget (l.map fun q => (pk q, g q)) (pk p) = some (g p)
  | [], h => by cases h
  | q :: l, h => by
    unfold dget
    rw [List.map_cons]
    by_cases e : q = p
    · subst e
      rw [List.find?_cons_of_pos (by simp)]; rfl
    · rw [List.find?_cons_of_neg (by simpa using fun z => e (pk_inj z))]
      rcases List.mem_cons.mp h with z | z
      · exact absurd z.symm e
      · exact dget_map g z
theorem dget_none {α : Type} (g : Nat × Nat → α) {p : Nat × Nat} : ∀ {l : List (Nat × Nat)}, p ∉ l → dget (l.map fun q => (pk q, g q)) (pk p) = none
  | [], h => rfl
  | q :: l, h => by
    unfold dget
    rw [List.map_cons]
    have e : q ≠ p := fun z => h (z ▸ List.mem_cons_self)
    rw [List.find?_cons_of_neg (by simpa using fun z => e (pk_inj z))]
    exact dget_none g fun z => h (List.mem_cons_of_mem _ z)
theorem dput_new {α : Type} (g : Nat × Nat → α) {p : Nat × Nat} {l : List (Nat × Nat)} (h : p ∉ l) (x : α) : dput (l.map fun q => (pk q, g q)) (pk p) x = (l.map fun q => (pk q, g q)) ++ [(pk p, x)] := by
  unfold dput
  rw [if_neg]
  intro z
  rw [List.any_map, List.any_eq_true] at z
  obtain ⟨q, hq, e⟩ := z
  have : pk q = pk p := by simpa using e
  exact h (pk_inj this ▸ hq)
theorem nd_row (n a : Nat) : (row n a).Nodup := by
  unfold row
  refine List.Pairwise.map _ (fun x y h z => h (congrArg Prod.snd z)) (List.Pairwise.filter _ List.nodup_range)
theorem nd_flat : ∀ (l : List Nat) (n : Nat), l.Nodup → (l.flatMap (row n)).Nodup
  | [], n, _ => by simp
  | a :: l, n, h => by
    rw [List.flatMap_cons]
    refine List.nodup_append.mpr ⟨nd_row n a, nd_flat l n (List.nodup_cons.mp h).2, ?_⟩
    rintro ⟨x, y⟩ h1 z h2 rfl
    obtain ⟨b, hb, hr⟩ := List.mem_flatMap.mp h2
    have e1 := (mem_row.mp h1).1
    have e2 := (mem_row.mp hr).1
    exact (List.nodup_cons.mp h).1 (e1 ▸ e2 ▸ hb)
theorem nd_pairs (n : Nat) : (pairs n).Nodup := nd_flat _ n List.nodup_range
/-! ### how it lies in a region -/
def encO : Option Nat → D
  | none => .non
  | some k => .int k
def encOI : Option Int → D
  | none => .non
  | some k => .int k
def encPar : Par → D
  | .coins a num => .tup [.str "coins", .int a, encO num]
  | .mark k => .tup [.str "mark", .int k, .non]
def encEv (e : Ev) : D := .tup [.str (if e.give then "give" else "take"), .int e.one, .int e.other, .int e.amt]
def lints (l : List Int) : LO := .lst (l.map D.int)
def mFs (r n : Nat) : List (Str × D) := [("many", .int n), ("purses", .loc r .mP), ("roads", .loc r .mR), ("events", .loc r .eI), ("shots", .loc r .mS)]
def eFs (r n : Nat) : List (Str × D) := [("many", .int n), ("told", .loc r .eTold), ("stamps", .loc r .eSt), ("times", .loc r .eTi), ("last", .loc r .eLa)]
def sFs (r n k : Nat) : List (Str × D) := [("many", .int n), ("written", .loc r (.sW k)), ("cut", .loc r (.sC k)), ("watched", .loc r (.sWa k)), ("lying", .loc r (.sLy k))]
def roadsD (r n : Nat) : LO := .dT ((pairs n).map fun p => (pk p, .loc r (.mRo p.1 p.2)))
def lyingD (r n k : Nat) : LO := .dT ((pairs n).map fun p => (pk p, .loc r (.sLi k p.1 p.2)))
def watchD (l : List (Nat × Nat)) : LO := .dT (l.map fun p => (pk p, .bl true))
/-- the first v shots are in the list -/
def encV (C : Cl) (r : Nat) (m : Mkt) (v : Nat) : Reg
  | .mI => some (.ins C.m (mFs r m.n))
  | .mP => some (lints m.purses)
  | .mR => some (roadsD r m.n)
  | .mRo a b => if a < m.n ∧ b < m.n ∧ a ≠ b then some (.lst ((m.roads a b).map encPar)) else none
  | .eI => some (.ins C.e (eFs r m.n))
  | .eTold => some (.lst (m.told.map encEv))
  | .eSt => some (.lst (m.stamps.map fun s => .tup (s.map D.int)))
  | .eTi => some (lints m.times)
  | .eLa => some (.lst (m.last.map encO))
  | .mS => some (.lst ((List.range v).map fun k => .loc r (.sI k)))
  | .sI k => if k < m.shots.length then some (.ins C.s (sFs r m.n k)) else none
  | .sW k => (m.shots[k]?).map fun s => .lst (s.written.map encOI)
  | .sC k => (m.shots[k]?).map fun s => .lst (s.cut.map encOI)
  | .sWa k => (m.shots[k]?).map fun s => watchD s.watched
  | .sLy k => if k < m.shots.length then some (lyingD r m.n k) else none
  | .sLi k a b => if a < m.n ∧ b < m.n ∧ a ≠ b then (m.shots[k]?).map fun s => lints (s.lying a b) else none
  | _ => none
def encM (C : Cl) (r : Nat) (m : Mkt) : Reg := encV C r m m.shots.length
section
variable {C : Cl} {r : Nat} {m : Mkt} {v : Nat}
theorem enc_mP (ps : List Int) : fset (encV C r m v) .mP (lints ps) = encV C r { m with purses := ps } v := by
  funext f; cases f <;> simp [fset, encV]
theorem enc_mRo {a b : Nat} (h : a < m.n ∧ b < m.n ∧ a ≠ b) (ps : List Par) : fset (encV C r m v) (.mRo a b) (.lst (ps.map encPar)) = encV C r { m with roads := up2 m.roads a b ps } v := by
  funext f; cases f <;> simp only [fset, encV, reduceCtorEq, if_false, Fld.mRo.injEq]
  rename_i x y
  by_cases e : x = a ∧ y = b
  · obtain ⟨rfl, rfl⟩ := e
    rw [if_pos ⟨rfl, rfl⟩, if_pos h, up2_same]
  · rw [if_neg e, up2_ne e]
theorem enc_eTold (l : List Ev) : fset (encV C r m v) .eTold (.lst (l.map encEv)) = encV C r { m with told := l } v := by
  funext f; cases f <;> simp [fset, encV]
theorem enc_eSt (l : List (List Int)) : fset (encV C r m v) .eSt (.lst (l.map fun s => .tup (s.map D.int))) = encV C r { m with stamps := l } v := by
  funext f; cases f <;> simp [fset, encV]
theorem enc_eTi (l : List Int) : fset (encV C r m v) .eTi (lints l) = encV C r { m with times := l } v := by
  funext f; cases f <;> simp [fset, encV]
theorem enc_eLa (l : List (Option Nat)) : fset (encV C r m v) .eLa (.lst (l.map encO)) = encV C r { m with last := l } v := by
  funext f; cases f <;> simp [fset, encV]
end
/-! ### what is done -/
def mx (i j : Int) : Int := if j > i then j else i
/-- one cause's part -/
def cause (m : Mkt) : List Int × Int → Option Nat → List Int × Int
  | st, none => st
  | (s, t), some c => (List.zipWith mx s (m.stamps.getD c []), mx t (m.times.getD c 0 + 1))
def stampOf (m : Mkt) (member : Nat) (causes : List (Option Nat)) : List Int × Int :=
  (m.last.getD member none :: causes).foldl (cause m) (List.replicate m.n 0, 1)
def addEv (m : Mkt) (e : Ev) (member : Nat) (causes : List (Option Nat)) : Mkt :=
  let st := stampOf m member causes
  { m with told := m.told ++ [e], stamps := m.stamps ++ [st.1.set member (st.1.getD member 0 + 1)], times := m.times ++ [st.2], last := m.last.set member (some m.told.length) }
def giveM (m : Mkt) (one other : Nat) (a : Int) : Mkt :=
  let m1 := { m with purses := m.purses.set one (m.purses.getD one 0 - a) }
  let m2 := addEv m1 ⟨true, one, other, a⟩ one []
  { m2 with roads := up2 m2.roads one other (m2.roads one other ++ [.coins a (some m.told.length)]) }
structure WF (m : Mkt) : Prop where
  n2 : 2 ≤ m.n
  n5 : m.n ≤ 5
  pl : m.purses.length = m.n
  ll : m.last.length = m.n
  sl : m.stamps.length = m.told.length
  tl : m.times.length = m.told.length
  se : ∀ (k : Nat) (s : List Int), m.stamps[k]? = some s → s.length = m.n
  lv : ∀ (i k : Nat), m.last[i]? = some (some k) → k < m.told.length
  rv : ∀ a b x k, Par.coins x (some k) ∈ m.roads a b → k < m.told.length
/-- small enough for lists -/
structure Small (m : Mkt) (B : Nat) : Prop where
  told : m.told.length ≤ B
  roads : ∀ a b, (m.roads a b).length ≤ B
  shots : m.shots.length ≤ B
end SS
namespace SS
open PySem L2
/-! ### what the law draws -/
def mix (c p m : Int) : Int := c * 48271 % p % m
def manyOf (ns : List Int) : Nat := (2 + mix (ns.getD 0 0) 9973 4).toNat
def coinsOf (ns : List Int) : List Int := (List.range (manyOf ns)).map fun k : Nat => mix (ns.getD 1 0 + 7 * (k : Int)) 9967 60
inductive Act where
  | give (a b : Nat) (x : Int)
  | take (a b : Nat)
  | begin (a : Nat)
def encAct : Act → D
  | .give a b x => .tup [.str "give", .int a, .int b, .int x]
  | .take a b => .tup [.str "take", .int a, .int b]
  | .begin a => .tup [.str "begin", .int a]
def oneOf (c : Int) (n : Nat) : Nat := (mix c 9949 n).toNat
def otherOf (c : Int) (n : Nat) : Nat := ((mix c 9949 n + 1 + mix c 9941 (n - 1)) % n).toNat
def actOf (b : Bool) (n : Nat) (c : Int) : Act :=
  if mix c 9931 11 < 5 then .give (oneOf c n) (otherOf c n) (1 + mix c 9929 30)
  else if mix c 9931 11 < 10 ∨ b = false then .take (oneOf c n) (otherOf c n)
  else .begin (oneOf c n)
def actsOf (ns : List Int) (b : Bool) : List Act :=
  .give 0 1 (1 + mix (ns.getD 1 0) 9923 9) :: ((ns.drop 2).take 60).map (actOf b (manyOf ns))
/-! ### promises -/
def sp_law_cell (C : Cl) : LSp := fun ds S Q _ => ∃ (ns : List Int) (k : Nat), ds = [.rol ns, .int k] ∧ ns.length ≤ 63 ∧ Q (.int (ns.getD k 0)) S
def sp_law_mix (C : Cl) : LSp := fun ds S Q _ => ∃ c p m : Int, ds = [.int c, .int p, .int m] ∧ 0 < p ∧ 0 < m ∧ Q (.int (mix c p m)) S
def sp_law_whole (C : Cl) : LSp := fun ds S Q _ => ∃ i : Int, ds = [.int i] ∧ Q (.bl true) S
def sp_law_coins (C : Cl) : LSp := fun ds S Q _ => ∃ ns : List Int, ds = [.rol ns] ∧ ns.length ≤ 63 ∧ Q (.tup ((coinsOf ns).map D.int)) S
def sp_law_act (C : Cl) : LSp := fun ds S Q _ => ∃ (c : Int) (n : Nat) (b : Bool), ds = [.int c, .int n, .bl b] ∧ 2 ≤ n ∧ n ≤ 5 ∧ Q (encAct (actOf b n c)) S
/-- a new list -/
def newTmp (ds : List D) (S : Store) (Q : QD) : Prop := ∀ r, (∀ f, S r f = none) → Q (.loc r .tmp) (S.setR r (tmpR (.lst ds)))
def sp_law_acts (C : Cl) : LSp := fun ds S Q _ => ∃ (ns : List Int) (b : Bool), ds = [.rol ns, .bl b] ∧ ns.length ≤ 63 ∧ newTmp ((actsOf ns b).map encAct) S Q
def pairD2 (p : Nat × Nat) : D := .tup [.int p.1, .int p.2]
def sp_law_pairs (C : Cl) : LSp := fun ds S Q _ => ∃ n : Nat, ds = [.int n] ∧ n ≤ 5 ∧ newTmp ((pairs n).map pairD2) S Q
/-- the fields of new events -/
def evR (C : Cl) (r n : Nat) (g : Reg) : Reg :=
  fset (fset (fset (fset (fset g .eI (.ins C.e (eFs r n))) .eTold (.lst [])) .eSt (.lst [])) .eTi (.lst [])) .eLa (.lst (List.replicate n .non))
def sp_Events_init (C : Cl) : LSp := fun ds S Q _ => ∃ (r n : Nat), ds = [.loc r .eI, .int n] ∧ n ≤ 5 ∧ S r .eI = some (.ins C.e []) ∧ S r .eTold = none ∧ S r .eSt = none ∧ S r .eTi = none ∧ S r .eLa = none ∧ Q .non (S.setR r (evR C r n (S r)))
def newM (coins : List Int) : Mkt := ⟨coins.length, coins, fun _ _ => [], [], [], [], List.replicate coins.length none, []⟩
def oneR (f : Fld) (o : LO) : Reg := fun f' => if f' = f then some o else none
def sp_Market_init (C : Cl) : LSp := fun ds S Q _ => ∃ (r : Nat) (coins : List Int), ds = [.loc r .mI, .tup (coins.map D.int)] ∧ S r = oneR .mI (.ins C.m []) ∧ 2 ≤ coins.length ∧ coins.length ≤ 5 ∧ Q .non (S.setR r (encM C r (newM coins)))
def Ok (m : Mkt) : Prop := WF m ∧ Small m 100000
def sp_Events_add (C : Cl) : LSp := fun ds S Q _ => ∃ (r : Nat) (m : Mkt) (v : Nat) (e : Ev) (member : Nat) (rc : Nat) (causes : List (Option Nat)), ds = [.loc r .eI, encEv e, .int member, .loc rc .tmp] ∧ rc ≠ r ∧ S r = encV C r m v ∧ Ok m ∧ member < m.n ∧
  S rc .tmp = some (.lst (causes.map encO)) ∧ causes.length ≤ 5 ∧ (∀ k, some k ∈ causes → k < m.told.length) ∧ Q (.int m.told.length) (S.setR r (encV C r (addEv m e member causes) v))
def sp_Market_give (C : Cl) : LSp := fun ds S Q Ex => ∃ (r : Nat) (m : Mkt) (one other : Nat) (a : Int), ds = [.loc r .mI, .int one, .int other, .int a] ∧ S r = encM C r m ∧ Ok m ∧ one < m.n ∧ other < m.n ∧ one ≠ other ∧
  (a > m.purses.getD one 0 → Ex (.ref C.noCoins) S) ∧ (a ≤ m.purses.getD one 0 → Q .non (S.setR r (encM C r (giveM m one other a))))
end SS
namespace SS
open PySem L2
/-- _law_cell: slots 0 script 1 k -/
def r_law_cell (K : PySem.W.Frag) (C : Cl) : LTS :=
  (rSeq (rIf (rTest (rOp oLt (rVar 1) (rCall dLen (rCons (rVar 0) rNil)))) (rRet (rOp ixD (rVar 0) (rVar 1))) rNext) (rRet (rC (.int 0))))
/-- _law_mix: slots 0 cell 1 prime 2 many -/
def r_law_mix (K : PySem.W.Frag) (C : Cl) : LTS :=
  (rRet (rOp oMod (rOp oMod (rOp oMul (rVar 0) (rC (.int 48271))) (rVar 1)) (rVar 2)))
/-- _law_whole: slots 0 found -/
def r_law_whole (K : PySem.W.Frag) (C : Cl) : LTS :=
  (rRet (rAndV (rCall (dIsi K (.ty "int") (.type "int")) (rCons (rVar 0) (rCons (rC (.raw (.ty "int"))) rNil))) (rNotV (rCall (dIsi K (.ty "bool") (.type "bool")) (rCons (rVar 0) (rCons (rC (.raw (.ty "bool"))) rNil))))))
/-- _law_coins: slots 0 script 1 many 2 k -/
def r_law_coins (K : PySem.W.Frag) (C : Cl) : LTS :=
  (rSeq (rSet 1 (rOp oAdd (rC (.int 2)) (rDef (sp_law_mix C) (rCons (rDef (sp_law_cell C) (rCons (rVar 0) (rCons (rC (.int 0)) rNil))) (rCons (rC (.int 9973)) (rCons (rC (.int 4)) rNil)))))) (rRet (rCall dTuple (rCons (rLc (newF .tmp) (iRng (rCons (rVar 1) rNil)) (.nm 2) rYes (rDef (sp_law_mix C) (rCons (rOp oAdd (rDef (sp_law_cell C) (rCons (rVar 0) (rCons (rC (.int 1)) rNil))) (rOp oMul (rC (.int 7)) (rVar 2))) (rCons (rC (.int 9967)) (rCons (rC (.int 60)) rNil))))) rNil))))
/-- _law_act: slots 0 cell 1 many 2 begins 3 one 4 other 5 turn -/
def r_law_act (K : PySem.W.Frag) (C : Cl) : LTS :=
  (rSeq (rSet 3 (rDef (sp_law_mix C) (rCons (rVar 0) (rCons (rC (.int 9949)) (rCons (rVar 1) rNil))))) (rSeq (rSet 4 (rOp oMod (rOp oAdd (rOp oAdd (rVar 3) (rC (.int 1))) (rDef (sp_law_mix C) (rCons (rVar 0) (rCons (rC (.int 9941)) (rCons (rOp oSub (rVar 1) (rC (.int 1))) rNil))))) (rVar 1))) (rSeq (rSet 5 (rDef (sp_law_mix C) (rCons (rVar 0) (rCons (rC (.int 9931)) (rCons (rC (.int 11)) rNil))))) (rSeq (rIf (rTest (rOp oLt (rVar 5) (rC (.int 5)))) (rRet (rTup (rCons (rC (.str "give")) (rCons (rVar 3) (rCons (rVar 4) (rCons (rOp oAdd (rC (.int 1)) (rDef (sp_law_mix C) (rCons (rVar 0) (rCons (rC (.int 9929)) (rCons (rC (.int 30)) rNil))))) rNil)))))) rNext) (rSeq (rIf (rOr (rTest (rOp oLt (rVar 5) (rC (.int 10)))) (rNot (rTest (rVar 2)))) (rRet (rTup (rCons (rC (.str "take")) (rCons (rVar 3) (rCons (rVar 4) rNil))))) rNext) (rRet (rTup (rCons (rC (.str "begin")) (rCons (rVar 3) rNil)))))))))
/-- _law_acts: slots 0 script 1 begins 2 many 3 found 4 cell -/
def r_law_acts (K : PySem.W.Frag) (C : Cl) : LTS :=
  (rSeq (rSet 2 (rCall dLen (rCons (rDef (sp_law_coins C) (rCons (rVar 0) rNil)) rNil))) (rSeq (rSet 3 (rLst (newF .tmp) (rCons (rTup (rCons (rC (.str "give")) (rCons (rC (.int 0)) (rCons (rC (.int 1)) (rCons (rOp oAdd (rC (.int 1)) (rDef (sp_law_mix C) (rCons (rDef (sp_law_cell C) (rCons (rVar 0) (rCons (rC (.int 1)) rNil))) (rCons (rC (.int 9923)) (rCons (rC (.int 9)) rNil))))) rNil))))) rNil))) (rSeq (rFor (iLst (rSliceL (newF .tmp) (rVar 0) (rPart (rC (.int 2))) (rPart (rC (.int 62))))) (.nm 4) (rDrop (rBM isL mAppend (rVar 3) (rCons (rDef (sp_law_act C) (rCons (rVar 4) (rCons (rVar 2) (rCons (rVar 1) rNil)))) rNil)))) (rRet (rVar 3)))))
/-- _law_pairs: slots 0 many 1 found 2 one 3 other -/
def r_law_pairs (K : PySem.W.Frag) (C : Cl) : LTS :=
  (rSeq (rSet 1 (rLst (newF .tmp) rNil)) (rSeq (rFor (iRng (rCons (rVar 0) rNil)) (.nm 2) (rSet 1 (rOp (oCat (newF .tmp)) (rVar 1) (rLc (newF .tmp) (iRng (rCons (rVar 0) rNil)) (.nm 3) (rTest (rOp oNe (rVar 3) (rVar 2))) (rTup (rCons (rVar 2) (rCons (rVar 3) rNil))))))) (rRet (rVar 1))))
/-- Events.__init__: slots 0 self 1 many 2 k -/
def r_Events_init (K : PySem.W.Frag) (C : Cl) : LTS :=
  (rSeq (rFld C.e (rVar 0) "many" (rVar 1)) (rSeq (rFld C.e (rVar 0) "told" (rLst (newA) rNil)) (rSeq (rFld C.e (rVar 0) "stamps" (rLst (newA) rNil)) (rSeq (rFld C.e (rVar 0) "times" (rLst (newA) rNil)) (rFld C.e (rVar 0) "last" (rLc (newA) (iRng (rCons (rVar 1) rNil)) (.nm 2) rYes (rC .non)))))))
/-- Events.add: slots 0 self 1 event 2 member 3 causes 4 k 5 stamp 6 time 7 cause 8 one 9 other -/
def r_Events_add (K : PySem.W.Frag) (C : Cl) : LTS :=
  (rSeq (rSet 5 (rLc (newF .tmp) (iRng (rCons (rAttr C.e (rVar 0) "many") rNil)) (.nm 4) rYes (rC (.int 0)))) (rSeq (rSet 6 (rC (.int 1))) (rSeq (rFor (iLst (rOp (oCat (newF .tmp)) (rLst (newF .tmp) (rCons (rOp ixD (rAttr C.e (rVar 0) "last") (rVar 2)) rNil)) (rVar 3))) (.nm 7) (rIf (rTest (rOp oIsNot (rVar 7) (rC .non))) (rSeq (rSet 5 (rLc (newF .tmp) (iZp (rCons (rVar 5) (rCons (rOp ixD (rAttr C.e (rVar 0) "stamps") (rVar 7)) rNil))) (.tp [8, 9]) rYes (rCall dMax2 (rCons (rVar 8) (rCons (rVar 9) rNil))))) (rSet 6 (rCall dMax2 (rCons (rVar 6) (rCons (rOp oAdd (rOp ixD (rAttr C.e (rVar 0) "times") (rVar 7)) (rC (.int 1))) rNil))))) rNext)) (rSeq (rSub (rVar 5) (rVar 2) (rOp oAdd (rOp ixD (rVar 5) (rVar 2)) (rC (.int 1)))) (rSeq (rDrop (rBM isL mAppend (rAttr C.e (rVar 0) "told") (rCons (rVar 1) rNil))) (rSeq (rDrop (rBM isL mAppend (rAttr C.e (rVar 0) "stamps") (rCons (rCall dTuple (rCons (rVar 5) rNil)) rNil))) (rSeq (rDrop (rBM isL mAppend (rAttr C.e (rVar 0) "times") (rCons (rVar 6) rNil))) (rSeq (rSub (rAttr C.e (rVar 0) "last") (rVar 2) (rOp oSub (rCall dLen (rCons (rAttr C.e (rVar 0) "told") rNil)) (rC (.int 1)))) (rRet (rOp oSub (rCall dLen (rCons (rAttr C.e (rVar 0) "told") rNil)) (rC (.int 1))))))))))))
/-- Market.__init__: slots 0 self 1 coins 2 one 3 other -/
def r_Market_init (K : PySem.W.Frag) (C : Cl) : LTS :=
  (rSeq (rFld C.m (rVar 0) "many" (rCall dLen (rCons (rVar 1) rNil))) (rSeq (rFld C.m (rVar 0) "purses" (rCall (dList (newA)) (rCons (rVar 1) rNil))) (rSeq (rFld C.m (rVar 0) "roads" (rDct (newA) (.dT []))) (rSeq (rFld C.m (rVar 0) "events" (rMake (newA) C.e (sp_Events_init C) (rCons (rAttr C.m (rVar 0) "many") rNil))) (rSeq (rFld C.m (rVar 0) "shots" (rLst (newA) rNil)) (rFor (iRng (rCons (rAttr C.m (rVar 0) "many") rNil)) (.nm 2) (rFor (iRng (rCons (rAttr C.m (rVar 0) "many") rNil)) (.nm 3) (rIf (rTest (rOp oNe (rVar 2) (rVar 3))) (rSub (rAttr C.m (rVar 0) "roads") (rTup (rCons (rVar 2) (rCons (rVar 3) rNil))) (rLst (newA) rNil)) rNext))))))))
/-- Market.give: slots 0 self 1 one 2 other 3 amount 4 number -/
def r_Market_give (K : PySem.W.Frag) (C : Cl) : LTS :=
  (rSeq (rIf (rTest (rOp oGt (rVar 3) (rOp ixD (rAttr C.m (rVar 0) "purses") (rVar 1)))) (rRaise C.noCoins) rNext) (rSeq (rSub (rAttr C.m (rVar 0) "purses") (rVar 1) (rOp oSub (rOp ixD (rAttr C.m (rVar 0) "purses") (rVar 1)) (rVar 3))) (rSeq (rSet 4 (rMeth C.e "add" (sp_Events_add C) (rAttr C.m (rVar 0) "events") (rCons (rTup (rCons (rC (.str "give")) (rCons (rVar 1) (rCons (rVar 2) (rCons (rVar 3) rNil))))) (rCons (rVar 1) (rCons (rLst (newF .tmp) rNil) rNil))))) (rDrop (rBM isL mAppend (rOp ixD (rAttr C.m (rVar 0) "roads") (rTup (rCons (rVar 1) (rCons (rVar 2) rNil)))) (rCons (rTup (rCons (rC (.str "coins")) (rCons (rVar 3) (rCons (rVar 4) rNil)))) rNil))))))
end SS
namespace SS
open PySem L2
theorem sz (n : Nat) (h : n ≤ 1000000) : n ≤ sizeLine := Nat.le_trans h (by decide)
theorem szl (n : Nat) (h : n ≤ 1000000) : n < sizeLine := Nat.lt_of_le_of_lt h (by decide)
theorem ifD {c : Prop} [Decidable c] {A B : Prop} (h1 : c → A) (h2 : ¬ c → B) : if decide c = true then A else B := by
  by_cases h : c
  · rw [if_pos (by simpa using h)]; exact h1 h
  · rw [if_neg (by simpa using h)]; exact h2 h
theorem ifB {b : Bool} {A B : Prop} (h1 : b = true → A) (h2 : ¬ b = true → B) : if b = true then A else B := by
  by_cases h : b = true
  · rw [if_pos h]; exact h1 h
  · rw [if_neg h]; exact h2 h
theorem yes_i {env : LEnv} {S : Store} {P N : Store → Prop} {Ex : XD} (h : P S) : rYes env S (fun k S3 => if k = true then P S3 else N S3) Ex := by
  show (if true = true then P S else N S)
  rw [if_pos rfl]; exact h
theorem t0 : ([] : List D).length ≤ sizeLine := by show 0 ≤ sizeLine; decide
theorem t1 {a : D} : [a].length ≤ sizeLine := by show 1 ≤ sizeLine; decide
theorem t2 {a b : D} : [a, b].length ≤ sizeLine := by show 2 ≤ sizeLine; decide
theorem t3 {a b c : D} : [a, b, c].length ≤ sizeLine := by show 3 ≤ sizeLine; decide
theorem t4 {a b c d : D} : [a, b, c, d].length ≤ sizeLine := by show 4 ≤ sizeLine; decide
theorem rng_at {n i : Nat} {x : D} (hx : ((List.range n).map fun i : Nat => D.int (i : Int))[i]? = some x) : ∃ k : Nat, k < n ∧ x = .int k := by
  rw [List.getElem?_map] at hx
  cases e : (List.range n)[i]? with
  | none => rw [e] at hx; cases hx
  | some k => rw [e] at hx; cases hx; exact ⟨k, by have := List.mem_of_getElem? e; simpa using this, rfl⟩
theorem read_law_cell {K : PySem.W.Frag} {C : Cl} (ds : List D) (S : Store) (Q : QD) (Ex : Value → Store → Prop) (h : sp_law_cell C ds S Q Ex) : r_law_cell K C (ends0 Q) (start ["script", "k"] ds) S := by
  obtain ⟨ns, k, rfl, hl, q⟩ := h
  refine ⟨_, rfl, _, rfl, _, _, rfl, rfl, _, _, rfl, rfl, _, rfl, ifD (fun hk => ?_) fun hk => ?_⟩
  · refine ⟨_, rfl, _, rfl, .inl ⟨_, _, _, rfl, rfl, atI_nat (v := .int (ns.getD k 0)) ?_, .here q⟩⟩
    rw [List.length_map] at hk
    have : k < ns.length := by omega
    simp [this]
  · rw [List.length_map] at hk
    have e : ns.getD k 0 = 0 := by
      have : ns.length ≤ k := by omega
      simp [this]
    rw [e] at q
    exact .here (.here q)
theorem read_law_mix {K : PySem.W.Frag} {C : Cl} (ds : List D) (S : Store) (Q : QD) (Ex : Value → Store → Prop) (h : sp_law_mix C ds S Q Ex) : r_law_mix K C (ends0 Q) (start ["cell", "prime", "many"] ds) S := by
  obtain ⟨c, p, m, rfl, hp, hm, q⟩ := h
  exact ⟨_, rfl, _, _, rfl, rfl, .inr ⟨by decide, by decide⟩, _, rfl, _, _, rfl, rfl, hp, _, rfl, _, _, rfl, rfl, hm, .here q⟩
theorem many_ge (ns : List Int) : 2 ≤ manyOf ns ∧ manyOf ns ≤ 5 ∧ (2 : Int) + mix (ns.getD 0 0) 9973 4 = manyOf ns := by
  unfold manyOf
  have h1 : 0 ≤ mix (ns.getD 0 0) 9973 4 := Int.emod_nonneg _ (by decide)
  have h2 : mix (ns.getD 0 0) 9973 4 < 4 := Int.emod_lt_of_pos _ (by decide)
  omega
theorem read_law_coins {K : PySem.W.Frag} {C : Cl} (ds : List D) (S : Store) (Q : QD) (Ex : Value → Store → Prop) (h : sp_law_coins C ds S Q Ex) : r_law_coins K C (ends0 Q) (start ["script", "many", "k"] ds) S := by
  obtain ⟨ns, rfl, hl, q⟩ := h
  obtain ⟨m2, m5, em⟩ := many_ge ns
  refine ⟨_, rfl, ns, 0, rfl, hl, _, _, _, rfl, by decide, by decide, _, _, rfl, rfl, ?_⟩
  dsimp only
  rw [em]
  refine .here ?_
  refine lc_map ((List.range (manyOf ns)).map fun i : Nat => D.int (i : Int)) (fun _ => True) S (fun d => match d with | .int k => .int (mix (ns.getD 1 0 + 7 * k) 9967 60) | _ => .non) ?_ ?_ ?_ ?_ ?_
  · intro Q' hq
    exact ⟨_, rfl, _, rfl, by omega, by omega, by simpa using hq⟩
  · simp; exact szl _ (by omega)
  · intros; trivial
  · intro r hr i x ds P hx h1
    obtain ⟨k, hk, rfl⟩ := rng_at hx
    exact ⟨_, rfl, ns, 1, rfl, hl, _, rfl, _, _, rfl, rfl, .inl ⟨by decide, by decide⟩, _, _, rfl, rfl, _, _, _, rfl, by decide, by decide, h1 _ .refl⟩
  · intro r hr
    refine ⟨_, _, rfl, by rw [SeqD]; rw [setR_same, tmpR_tmp], S, sub_drop hr, ?_⟩
    rw [List.map_map]
    unfold coinsOf at q
    rw [List.map_map] at q
    exact q
theorem read_law_whole {K : PySem.W.Frag} {C : Cl} (hk : PySem.W.kitOne K (.type "int") (.type "int") = some true ∧ PySem.W.kitOne K (.type "int") (.type "bool") = some false) (ds : List D) (S : Store) (Q : QD) (Ex : Value → Store → Prop) (h : sp_law_whole C ds S Q Ex) : r_law_whole K C (ends0 Q) (start ["found"] ds) S := by
  obtain ⟨i, rfl, q⟩ := h
  refine ⟨_, rfl, _, _, _, rfl, rfl, fun C h => (nomatch h), hk.1, _, rfl, iteT ?_⟩
  exact ⟨_, rfl, _, _, _, rfl, rfl, fun C h => (nomatch h), hk.2, _, rfl, .here q⟩
theorem mix_nn (c p m : Int) (h : 0 < m) : 0 ≤ mix c p m := Int.emod_nonneg _ (by omega)
theorem mix_lt (c p m : Int) (h : 0 < m) : mix c p m < m := Int.emod_lt_of_pos _ h
theorem one_eq (c : Int) {n : Nat} (h : 2 ≤ n) : mix c 9949 n = oneOf c n := by
  unfold oneOf; have := mix_nn c 9949 n (by omega); omega
theorem one_lt (c : Int) {n : Nat} (h : 2 ≤ n) : oneOf c n < n := by
  unfold oneOf; have := mix_lt c 9949 n (by omega); have := mix_nn c 9949 n (by omega); omega
theorem other_eq (c : Int) {n : Nat} (h : 2 ≤ n) : (mix c 9949 n + 1 + mix c 9941 (n - 1)) % n = otherOf c n := by
  unfold otherOf
  have : 0 ≤ (mix c 9949 n + 1 + mix c 9941 (n - 1)) % n := Int.emod_nonneg _ (by omega)
  omega
theorem other_lt (c : Int) {n : Nat} (h : 2 ≤ n) : otherOf c n < n := by
  have h1 : (mix c 9949 n + 1 + mix c 9941 (n - 1)) % n < n := Int.emod_lt_of_pos _ (by omega)
  rw [other_eq c h] at h1; omega
theorem other_ne (c : Int) {n : Nat} (h : 2 ≤ n) : oneOf c n ≠ otherOf c n := by
  intro e
  have h1 := other_eq c h
  have h2 := one_eq c h
  have h3 := mix_nn c 9941 (n - 1) (by omega)
  have h4 := mix_lt c 9941 (n - 1) (by omega)
  have h5 := one_lt c h
  rw [h2] at h1
  generalize mix c 9941 (n - 1) = k at *
  rw [← e] at h1
  by_cases hc : (oneOf c n : Int) + 1 + k < n
  · rw [Int.emod_eq_of_lt (by omega) hc] at h1; omega
  · have : ((oneOf c n : Int) + 1 + k) % n = (oneOf c n : Int) + 1 + k - n := by
      rw [← Int.sub_emod_right, Int.emod_eq_of_lt (by omega) (by omega)]
    omega
theorem read_law_act {K : PySem.W.Frag} {C : Cl} (ds : List D) (S : Store) (Q : QD) (Ex : Value → Store → Prop) (h : sp_law_act C ds S Q Ex) : r_law_act K C (ends0 Q) (start ["cell", "many", "begins", "one", "other", "turn"] ds) S := by
  obtain ⟨c, n, b, rfl, h2, h5, q⟩ := h
  refine ⟨_, rfl, _, rfl, _, _, _, rfl, by decide, by omega, .here ?_⟩
  refine ⟨_, rfl, _, _, rfl, rfl, _, rfl, _, rfl, _, _, rfl, rfl, _, _, _, rfl, by decide, by omega, _, _, rfl, rfl, _, rfl, _, _, rfl, rfl, by omega, .here ?_⟩
  refine ⟨_, rfl, _, _, _, rfl, by decide, by decide, .here ?_⟩
  dsimp only
  rw [one_eq c h2, show ((oneOf c n : Int) + 1 + mix c 9941 (n - 1)) % n = otherOf c n by rw [← one_eq c h2]; exact other_eq c h2]
  unfold actOf at q
  refine ⟨_, rfl, _, _, rfl, rfl, _, rfl, ifD (fun ht => ?_) fun ht => ?_⟩
  · rw [if_pos ht] at q
    exact ⟨_, rfl, _, rfl, _, rfl, _, _, _, rfl, by decide, by decide, _, _, rfl, rfl, t4, .here q⟩
  · rw [if_neg ht] at q
    refine .here ⟨_, rfl, _, _, rfl, rfl, _, rfl, ifD (fun hu => ?_) fun hu => ?_⟩
    · rw [if_pos (.inl hu)] at q
      exact iteT ⟨_, rfl, _, rfl, t3, .here q⟩
    · refine ⟨_, rfl, b, rfl, ?_⟩
      cases b with
      | false =>
        rw [if_pos (.inr rfl)] at q
        exact iteT ⟨_, rfl, _, rfl, t3, .here q⟩
      | true =>
        rw [if_neg (by simp; omega)] at q
        exact iteF (.here ⟨_, rfl, t2, .here q⟩)
end SS
namespace SS
open PySem L2
theorem cut_2_62 {α : Type} (xs : List α) : cutD xs (some 2) (some 62) = (xs.drop 2).take 60 := by
  unfold cutD
  rw [show (some (2 : Int)) = some ((2 : Nat) : Int) from rfl, show (some (62 : Int)) = some ((62 : Nat) : Int) from rfl, HT.sIx_nat, HT.sIx_nat]
  by_cases h : xs.length ≤ 2
  · rw [List.drop_of_length_le (by omega), List.drop_of_length_le h]; simp
  · rw [Nat.min_eq_left (by omega : 2 ≤ xs.length)]
    by_cases h2 : xs.length ≤ 62
    · rw [Nat.min_eq_right h2, List.take_of_length_le (by simp), List.take_of_length_le (by simp; omega)]
    · rw [Nat.min_eq_left (by omega)]
theorem ne_fresh {S : Store} {r q : Nat} {f : Fld} (h : ∀ f, S r f = none) (h2 : S q f ≠ none) : q ≠ r := by rintro rfl; exact h2 (h f)
theorem setR_at {S : Store} {r : Nat} {g : Reg} {f : Fld} : S.setR r g r f = g f := by rw [setR_same]
theorem tmp_at {S : Store} {r : Nat} {o : LO} : S.setR r (tmpR o) r .tmp = some o := by rw [setR_same, tmpR_tmp]
theorem setR_ne_at {S : Store} {r q : Nat} {g : Reg} {f : Fld} (h : q ≠ r) : S.setR r g q f = S q f := by rw [setR_ne h]
/-- two fresh regions, one after the other -/
theorem fresh2 {S : Store} {r q : Nat} {o : LO} (h : ∀ f, S.setR r (tmpR o) q f = none) : q ≠ r ∧ ∀ f, S q f = none := by
  have e : q ≠ r := by
    rintro rfl
    have := h .tmp
    rw [tmp_at] at this; cases this
  exact ⟨e, fun f => by rw [← h f, setR_ne e]⟩
theorem rng_is {n i : Nat} {x : D} (hx : ((List.range n).map fun i : Nat => D.int (i : Int))[i]? = some x) : i < n ∧ x = .int i := by
  have hil := (List.getElem?_eq_some_iff.mp hx).1
  simp at hil
  simp [hil] at hx
  exact ⟨hil, hx.symm⟩
theorem acts_len (ns : List Int) (b : Bool) (h : ns.length ≤ 63) : (actsOf ns b).length ≤ 61 := by
  unfold actsOf; simp; omega
theorem read_law_acts {K : PySem.W.Frag} {C : Cl} (ds : List D) (S : Store) (Q : QD) (Ex : Value → Store → Prop) (h : sp_law_acts C ds S Q Ex) : r_law_acts K C (ends0 Q) (start ["script", "begins", "many", "found", "cell"] ds) S := by
  obtain ⟨ns, b, rfl, hl, q⟩ := h
  obtain ⟨m2, m5, em⟩ := many_ge ns
  refine ⟨_, rfl, ns, rfl, hl, _, _, rfl, rfl, ?_⟩
  dsimp only
  rw [List.length_map, show (coinsOf ns).length = manyOf ns by simp [coinsOf]]
  refine .here ⟨_, rfl, ns, 1, rfl, hl, _, _, _, rfl, by decide, by decide, _, _, rfl, rfl, t4, t1, fun r3 h3 => ?_⟩
  dsimp only
  rw [set_tmp h3]
  refine .here ?_
  refine ⟨_, rfl, _, rfl, _, rfl, _, rfl, fun r4 h4 => ?_⟩
  obtain ⟨n43, h4'⟩ := fresh2 h4
  dsimp only
  rw [set_tmp h4, cut_2_62]
  refine ⟨_, rfl.trans (by rw [tmp_at]), ?_⟩
  have hcells : ((ns.map D.int).drop 2).take 60 = ((ns.drop 2).take 60).map D.int := by rw [← List.map_drop, ← List.map_take]
  rw [hcells]
  generalize hcs : (ns.drop 2).take 60 = cs
  have hcl : cs.length ≤ 60 := by rw [← hcs]; simp; omega
  refine ⟨fun i env S' => ∃ v, env = [some (.rol ns), some (.bl b), some (.int (manyOf ns)), some (.loc r3 .tmp), v] ∧ S' = (S.setR r3 (tmpR (.lst (((actsOf ns b).take (i + 1)).map encAct)))).setR r4 (tmpR (.lst (cs.map D.int))), .here ⟨none, rfl, ?_⟩, ?_, ?_⟩
  · unfold actsOf; rfl
  · rintro i d env S' hd ⟨v, rfl, rfl⟩
    obtain ⟨c, hc, rfl⟩ : ∃ c, cs[i]? = some c ∧ d = .int c := by
      rw [List.getElem?_map] at hd
      cases e : cs[i]? with
      | none => rw [e] at hd; cases hd
      | some c => rw [e] at hd; cases hd; exact ⟨c, rfl, rfl⟩
    have hil : i < cs.length := (List.getElem?_eq_some_iff.mp hc).1
    refine ⟨by show _ = _; rw [tmp_at], ?_⟩
    have e3 : (S.setR r3 (tmpR (.lst (((actsOf ns b).take (i + 1)).map encAct)))).setR r4 (tmpR (.lst (cs.map D.int))) r3 .tmp = some (.lst (((actsOf ns b).take (i + 1)).map encAct)) := by rw [setR_ne (Ne.symm n43), tmp_at]
    refine ⟨_, rfl, ⟨_, e3⟩, _, rfl, _, rfl, _, rfl, c, manyOf ns, b, rfl, m2, m5, _, _, _, _, rfl, rfl, e3, ?_, ?_⟩
    · have := acts_len ns b hl
      simp; exact szl _ (by omega)
    · refine .here ⟨_, rfl, ?_⟩
      rw [setR_comm (Ne.symm n43), set_tmp2, setR_comm n43]
      congr 4
      have e : (actsOf ns b).take (i + 1 + 1) = (actsOf ns b).take (i + 1) ++ [actOf b (manyOf ns) c] := by
        rw [List.take_succ]
        congr 1
        unfold actsOf
        rw [List.getElem?_cons_succ, List.getElem?_map, hcs, hc]; rfl
      rw [e, List.map_append]; rfl
  · rintro env S' ⟨v, rfl, rfl⟩
    refine ⟨by show _ = _; rw [tmp_at], .here ?_⟩
    refine ⟨_, rfl, S.setR r3 (tmpR (.lst ((actsOf ns b).map encAct))), ?_, q r3 h3⟩
    have e : (actsOf ns b).take ((cs.map D.int).length + 1) = actsOf ns b := by
      rw [List.take_of_length_le]
      unfold actsOf; rw [hcs]; simp
    rw [e]
    refine sub_drop fun f => ?_
    rw [setR_ne n43]; exact h4' f
theorem row_eq (n a : Nat) : ((List.range n).map fun i : Nat => D.int (i : Int)).filterMap (fun d => match d with | .int k => if (!decide (V.int k = V.int a)) = true then some (D.tup [.int a, .int k]) else none | _ => none) = (row n a).map pairD2 := by
  unfold row
  rw [List.filterMap_map]
  induction List.range n with
  | nil => rfl
  | cons b l ih =>
    rw [List.filterMap_cons]
    by_cases e : a = b
    · subst e
      rw [List.filter_cons_of_neg (by simp)]
      simp only [Function.comp, decide_true, Bool.not_true, Bool.false_eq_true, if_false]
      exact ih
    · rw [List.filter_cons_of_pos (by simpa using e)]
      have e2 : ¬ (V.int (b : Int) = V.int (a : Int)) := fun z => e (by have := V.int.inj z; omega)
      simp only [Function.comp, e2, decide_false, Bool.not_false, if_true]
      rw [List.map_cons, List.map_cons, ← ih]; rfl
theorem read_law_pairs {K : PySem.W.Frag} {C : Cl} (ds : List D) (S : Store) (Q : QD) (Ex : Value → Store → Prop) (h : sp_law_pairs C ds S Q Ex) : r_law_pairs K C (ends0 Q) (start ["many", "found", "one", "other"] ds) S := by
  obtain ⟨n, rfl, h5, q⟩ := h
  refine ⟨t0, fun r0 h0 => ?_⟩
  dsimp only
  rw [set_tmp h0]
  refine .here ?_
  refine ⟨_, rfl, _, rfl, by omega, by omega, ?_⟩
  refine ⟨fun i env S' => ∃ v w r, env = [some (.int n), some (.loc r .tmp), v, w] ∧ (∀ f, S r f = none) ∧ S' = S.setR r (tmpR (.lst (((List.range i).flatMap (row n)).map pairD2))), .here ⟨none, none, r0, rfl, h0, rfl⟩, ?_, ?_⟩
  · rintro a d env S' hd ⟨v, w, r, rfl, hr, rfl⟩
    obtain ⟨ha, rfl⟩ := rng_is (n := n) hd
    refine ⟨trivial, ?_⟩
    refine ⟨_, rfl, ?_⟩
    refine lc_tmp ((List.range n).map fun i : Nat => D.int (i : Int)) (fun _ => True) (S.setR r (tmpR (.lst (((List.range a).flatMap (row n)).map pairD2)))) (fun d => match d with | .int k => if (!decide (V.int k = V.int a)) = true then some (D.tup [.int a, .int k]) else none | _ => none) ?_ ?_ ?_ ?_ ?_
    · intro Q' hq
      exact ⟨_, rfl, _, rfl, by omega, by omega, by simpa using hq⟩
    · simp; exact szl _ (by omega)
    · intros; trivial
    · intro r2 hr2 i x ds P N hx h1 h2
      obtain ⟨k, hk, rfl⟩ := rng_at hx
      refine ⟨_, rfl, _, rfl, _, rfl, _, rfl, ?_⟩
      exact ifB (fun e => ⟨_, rfl, _, rfl, t2, h1 _ _ (if_pos e) .refl⟩) fun e => h2 (if_neg e)
    · intro r2 hr2
      obtain ⟨n2, hr2'⟩ := fresh2 hr2
      rw [row_eq]
      have hl : ∀ (l : List Nat), (∀ x ∈ l, True) → (l.flatMap (row n)).length ≤ l.length * 5 := by
        intro l _
        induction l with
        | nil => simp
        | cons x l ih =>
          rw [List.flatMap_cons, List.length_append, List.length_cons]
          have : (row n x).length ≤ 5 := by
            unfold row; rw [List.length_map]
            have := List.length_filter_le (fun b => decide (x ≠ b)) (List.range n)
            simp at this ⊢; omega
          have := ih (fun _ _ => trivial)
          omega
      have hl1 := hl (List.range a) fun _ _ => trivial
      have hl2 : (row n a).length ≤ 5 := by
        have := hl [a] fun _ _ => trivial
        simpa using this
      refine ⟨_, _, _, _, _, _, rfl, rfl, by rw [setR_ne (Ne.symm n2), tmp_at], by rw [tmp_at], ?_, fun r3 h3 => ?_⟩
      · simp only [List.length_map, List.length_range] at hl1 ⊢
        exact sz _ (by omega)
      · obtain ⟨n32, h3'⟩ := fresh2 h3
        obtain ⟨n31, h3''⟩ := fresh2 h3'
        rw [set_tmp h3]
        refine ⟨S.setR r3 (tmpR (.lst (((List.range (a + 1)).flatMap (row n)).map pairD2))), ?_, _, _, r3, rfl, h3'', rfl⟩
        have e : ((List.range (a + 1)).flatMap (row n)).map pairD2 = ((List.range a).flatMap (row n)).map pairD2 ++ (row n a).map pairD2 := by
          rw [List.range_succ, List.flatMap_append, List.map_append]; simp
        rw [e]
        refine sub_set ?_
        exact (sub_drop hr).trans (sub_drop fun f => by rw [setR_ne n2]; exact hr2' f)
  · rintro env S' ⟨v, w, r, rfl, hr, rfl⟩
    refine ⟨trivial, .here ⟨_, rfl, .here ?_⟩⟩
    simp only [List.length_map, List.length_range]
    exact q r hr
end SS
namespace SS
open PySem L2
theorem setR_set {S : Store} {r : Nat} {g : Reg} {f : Fld} {o : LO} : (S.setR r g).set r f o = S.setR r (fset g f o) := by
  rw [set_R, setR_setR, setR_same]
theorem read_Events_init {K : PySem.W.Frag} {C : Cl} (ds : List D) (S : Store) (Q : QD) (Ex : Value → Store → Prop) (h : sp_Events_init C ds S Q Ex) : r_Events_init K C (ends0 Q) (start ["self", "many", "k"] ds) S := by
  obtain ⟨r, n, rfl, h5, hI, h1, h2, h3, h4, q⟩ := h
  refine ⟨_, rfl, _, rfl, r, .eI, [], rfl, hI, by decide, .here ?_⟩
  try dsimp only
  rw [set_R]
  refine ⟨t0, r, .eTold, by simp [setR_at, fset, h1], ⟨.eI, by simp [setR_at, fset]⟩, _, rfl, r, .eI, _, rfl, by simp [setR_at, setR_set, fset]; rfl, (by show (1 : Nat) < 1000; decide), .here ?_⟩
  try dsimp only
  rw [setR_set, setR_set]
  refine ⟨t0, r, .eSt, by simp [setR_at, fset, h2], ⟨.eI, by simp [setR_at, fset]⟩, _, rfl, r, .eI, _, rfl, by simp [setR_at, setR_set, fset]; rfl, (by show (2 : Nat) < 1000; decide), .here ?_⟩
  try dsimp only
  rw [setR_set, setR_set]
  refine ⟨t0, r, .eTi, by simp [setR_at, fset, h3], ⟨.eI, by simp [setR_at, fset]⟩, _, rfl, r, .eI, _, rfl, by simp [setR_at, setR_set, fset]; rfl, (by show (3 : Nat) < 1000; decide), .here ?_⟩
  try dsimp only
  rw [setR_set, setR_set]
  refine lc_mapA ((List.range n).map fun i : Nat => D.int (i : Int)) (fun _ => True) (S.setR r (fset (fset (fset (fset (fset (fset (fset (S r) .eI (.ins C.e [("many", .int n)])) .eTold (.lst [])) .eI (.ins C.e [("many", .int n), ("told", .loc r .eTold)])) .eSt (.lst [])) .eI (.ins C.e [("many", .int n), ("told", .loc r .eTold), ("stamps", .loc r .eSt)])) .eTi (.lst [])) .eI (.ins C.e [("many", .int n), ("told", .loc r .eTold), ("stamps", .loc r .eSt), ("times", .loc r .eTi)]))) (fun d => D.non) r .eLa ?_ ?_ ?_ ?_ ?_ ?_ ?_
  · intro Q' hq
    exact ⟨_, rfl, _, rfl, by omega, by omega, hq⟩
  · simp; exact szl _ (by omega)
  · simp [setR_at, fset, h4]
  · exact ⟨.eI, by simp [setR_at, fset]⟩
  · intros; trivial
  · intro i x ds P hx h1
    exact h1 _ .refl
  · rw [setR_set]
    refine ⟨_, rfl, r, .eI, _, rfl, by simp [setR_at, fset]; rfl, (by show (4 : Nat) < 1000; decide), .here ?_⟩
    rw [setR_set]
    have e : fset (fset (fset (fset (fset (fset (fset (fset (fset (S r) .eI (.ins C.e [("many", .int n)])) .eTold (.lst [])) .eI (.ins C.e [("many", .int n), ("told", .loc r .eTold)])) .eSt (.lst [])) .eI (.ins C.e [("many", .int n), ("told", .loc r .eTold), ("stamps", .loc r .eSt)])) .eTi (.lst [])) .eI (.ins C.e [("many", .int n), ("told", .loc r .eTold), ("stamps", .loc r .eSt), ("times", .loc r .eTi)])) .eLa (.lst (((List.range n).map fun i : Nat => D.int (i : Int)).map fun _ => .non))) .eI (.ins C.e (eFs r n)) = evR C r n (S r) := by
      unfold evR
      funext f
      cases f <;> simp [fset]
      show (List.range n).map (fun _ => D.non) = _
      rw [List.map_const', List.length_range]
    exact e ▸ q
end SS
namespace SS
open PySem L2
theorem getD_at {α : Type} {l : List α} {i : Nat} (h : i < l.length) (d : α) : l[i]? = some (l.getD i d) := by simp [h]
theorem ixN_nat {n k : Nat} (h : k < n) : ixN n (k : Int) = some k := by
  unfold ixN; rw [if_pos (by omega), if_pos (by omega)]; simp
theorem len_cause (m : Mkt) (hw : WF m) (st : List Int × Int) (c : Option Nat) (hc : ∀ k, c = some k → k < m.told.length) (h : st.1.length = m.n) : (cause m st c).1.length = m.n := by
  cases c with
  | none => exact h
  | some k =>
    obtain ⟨s, t⟩ := st
    have hk := hc k rfl
    have e : m.stamps[k]? = some (m.stamps.getD k []) := getD_at (by rw [hw.sl]; exact hk) _
    have := hw.se k _ e
    show (List.zipWith mx s (m.stamps.getD k [])).length = m.n
    rw [List.length_zipWith, this]
    have : s.length = m.n := h
    omega
theorem len_fold (m : Mkt) (hw : WF m) : ∀ (cs : List (Option Nat)) (st : List Int × Int), (∀ k, some k ∈ cs → k < m.told.length) → st.1.length = m.n → (cs.foldl (cause m) st).1.length = m.n
  | [], st, _, h => h
  | c :: cs, st, hc, h => len_fold m hw cs _ (fun k hk => hc k (List.mem_cons_of_mem _ hk)) (len_cause m hw st c (fun k e => hc k (e ▸ List.mem_cons_self)) h)
theorem setR_ne' {S : Store} {r q : Nat} {g : Reg} {f : Fld} (h : ∀ f, S r f = none) (h2 : S q f ≠ none) : S.setR r g q = S q := setR_ne (ne_fresh h h2)
theorem pair_zip (a b : List Int) : pairD (a.map D.int) (b.map D.int) = (a.zip b).map fun p => .tup [.int p.1, .int p.2] := by
  unfold pairD
  rw [List.zip_map, List.map_map]; rfl
theorem zip_mx : ∀ (a b : List Int), (List.zipWith mx a b).map D.int = (a.zip b).map fun p => D.int (mx p.1 p.2)
  | [], _ => by simp
  | _ :: _, [] => by simp
  | x :: a, y :: b => by rw [List.zipWith_cons_cons, List.zip_cons_cons, List.map_cons, List.map_cons, zip_mx a b]
theorem read_Events_add {K : PySem.W.Frag} {C : Cl} (ds : List D) (S : Store) (Q : QD) (Ex : Value → Store → Prop) (h : sp_Events_add C ds S Q Ex) : r_Events_add K C (ends0 Q) (start ["self", "event", "member", "causes", "k", "stamp", "time", "cause", "one", "other"] ds) S := by
  obtain ⟨r, m, v, e, member, rc, causes, rfl, hrc, hS, ⟨hw, hsm⟩, hm, hC, hcl, hcs, q⟩ := h
  have h5 := hw.n5
  have hI : S r .eI = some (.ins C.e (eFs r m.n)) := by rw [hS]; rfl
  have hLa : S r .eLa = some (.lst (m.last.map encO)) := by rw [hS]; rfl
  have hSt : S r .eSt = some (.lst (m.stamps.map fun s => .tup (s.map D.int))) := by rw [hS]; rfl
  have hTi : S r .eTi = some (lints m.times) := by rw [hS]; rfl
  -- stamp = [0 for k in range(self.many)]
  refine lc_map ((List.range m.n).map fun i : Nat => D.int (i : Int)) (fun _ => True) S (fun _ => D.int 0) ?_ ?_ ?_ ?_ ?_
  · intro Q' hq
    exact ⟨_, rfl, r, .eI, _, _, rfl, hI, rfl, _, rfl, by omega, by omega, hq⟩
  · simp; exact szl _ (by omega)
  · intros; trivial
  · intro r hr i x ds P hx h1
    exact h1 _ .refl
  intro rs hrs
  have e0 : ((List.range m.n).map fun i : Nat => D.int (i : Int)).map (fun _ => D.int 0) = (List.replicate m.n (0 : Int)).map D.int := by
    rw [List.map_map, List.map_replicate]
    show (List.range m.n).map (fun _ => D.int 0) = _
    rw [List.map_const', List.length_range]
  rw [e0]
  -- time = 1
  refine .here (.here ?_)
  -- for cause in [self.last[member]] + causes
  have nrs : r ≠ rs := ne_fresh hrs (f := .eI) (by rw [hI]; simp)
  have ncs : rc ≠ rs := ne_fresh hrs (f := .tmp) (by rw [hC]; simp)
  refine ⟨_, rfl, r, .eI, _, _, rfl, by rw [setR_ne nrs]; exact hI, rfl, _, rfl, .inl ⟨_, _, encO (m.last.getD member none), by show _ = _; rw [setR_ne nrs]; exact hLa, rfl, atI_nat (by rw [List.getElem?_map, getD_at (by rw [hw.ll]; exact hm) none]; rfl), t1, fun rl hrl => ?_⟩⟩
  rw [set_tmp hrl]
  obtain ⟨nls, hrl'⟩ := fresh2 hrl
  have nlr : r ≠ rl := ne_fresh hrl' (f := .eI) (by rw [hI]; simp)
  have nlc : rc ≠ rl := ne_fresh hrl' (f := .tmp) (by rw [hC]; simp)
  refine ⟨_, rfl, rl, .tmp, rc, .tmp, _, _, rfl, rfl, by rw [tmp_at], by rw [setR_ne nlc, setR_ne ncs]; exact hC, by simp; exact sz _ (by omega), fun rk hrk => ?_⟩
  rw [set_tmp hrk]
  obtain ⟨nkl, hrk'⟩ := fresh2 hrk
  obtain ⟨nks, hrk''⟩ := fresh2 hrk'
  have nkr : r ≠ rk := ne_fresh hrk'' (f := .eI) (by rw [hI]; simp)
  generalize hcc : m.last.getD member none :: causes = cs
  have ecs : [encO (m.last.getD member none)] ++ causes.map encO = cs.map encO := by rw [← hcc]; rfl
  have hcv : ∀ k, some k ∈ cs → k < m.told.length := by
    intro k hk
    rw [← hcc] at hk
    rcases List.mem_cons.mp hk with z | z
    · exact hw.lv member k (by rw [getD_at (by rw [hw.ll]; exact hm) none, ← z])
    · exact hcs k z
  rw [ecs]
  refine ⟨cs.map encO, by show _ = _; rw [tmp_at], ?_⟩
  refine ⟨fun i env S' => ∃ (rs : Nat) (v7 : Option D), env = [some (.loc r .eI), some (encEv e), some (.int member), some (.loc rc .tmp), none, some (.loc rs .tmp), some (.int ((cs.take i).foldl (cause m) (List.replicate m.n 0, 1)).2), v7, none, none] ∧ (∀ f, S rs f = none) ∧ rs ≠ rk ∧
    S' = (S.setR rs (tmpR (lints ((cs.take i).foldl (cause m) (List.replicate m.n 0, 1)).1))).setR rk (tmpR (.lst (cs.map encO))), ?_, ?_, ?_⟩
  · refine ⟨_, ?_, rs, none, rfl, hrs, Ne.symm nks, rfl⟩
    exact sub_set (sub_drop fun f => hrl f)
  · rintro i d env S' hd ⟨rs, v7, rfl, hrs, nsk, rfl⟩
    obtain ⟨c, hc, rfl⟩ : ∃ c, cs[i]? = some c ∧ d = encO c := by
      rw [List.getElem?_map] at hd
      cases e : cs[i]? with
      | none => rw [e] at hd; cases hd
      | some c => rw [e] at hd; cases hd; exact ⟨c, rfl, rfl⟩
    have hcm : c ∈ cs := List.mem_of_getElem? hc
    have efold : (cs.take (i + 1)).foldl (cause m) (List.replicate m.n 0, 1) = cause m ((cs.take i).foldl (cause m) (List.replicate m.n 0, 1)) c := by
      rw [List.take_succ, hc, List.foldl_append]; rfl
    have hslen := len_fold m hw (cs.take i) (List.replicate m.n 0, 1) (fun k hk => hcv k (List.mem_of_mem_take hk)) (by simp)
    generalize hst : (cs.take i).foldl (cause m) (List.replicate m.n 0, 1) = st at *
    refine ⟨by show _ = _; rw [tmp_at], ?_⟩
    have nrs : r ≠ rs := ne_fresh hrs (f := .eI) (by rw [hI]; simp)
    have ncs : rc ≠ rs := ne_fresh hrs (f := .tmp) (by rw [hC]; simp)
    cases c with
    | none =>
      refine ⟨_, rfl, rfl, _, rfl, _, rfl, iteF (.here ⟨rs, some .non, ?_, hrs, nsk, ?_⟩)⟩
      · rw [efold]; rfl
      · rw [efold]; rfl
    | some c =>
      have hcl := hcv c hcm
      refine ⟨_, rfl, rfl, _, rfl, _, rfl, iteT ?_⟩
      obtain ⟨s, t⟩ := st
      have hstm : m.stamps[c]? = some (m.stamps.getD c []) := getD_at (by rw [hw.sl]; exact hcl) _
      have hstl := hw.se c _ hstm
      have L : ∀ f, (S.setR rs (tmpR (lints s))).setR rk (tmpR (.lst (cs.map encO))) r f = S r f := fun f => by rw [setR_ne nkr, setR_ne nrs]
      refine lc_map (pairD (s.map D.int) ((m.stamps.getD c []).map D.int)) (fun S' => SeqD S' (.loc rs .tmp) (s.map D.int) ∧ SeqD S' (.tup ((m.stamps.getD c []).map D.int)) ((m.stamps.getD c []).map D.int)) ((S.setR rs (tmpR (lints s))).setR rk (tmpR (.lst (cs.map encO)))) (fun d => match d with | .tup [.int a, .int b] => .int (mx a b) | _ => .non) ?_ ?_ ?_ ?_ ?_
      · intro Q' hq
        exact ⟨_, rfl, _, rfl, r, .eI, _, _, rfl, (L _).trans hI, rfl, _, rfl, .inl ⟨_, _, .tup ((m.stamps.getD c []).map D.int), (L _).trans hSt, rfl, atI_nat (by rw [List.getElem?_map, hstm]; rfl), _, _, _, _, rfl, by show _ = _; rw [setR_ne nsk, tmp_at]; rfl, rfl, hq⟩⟩
      · have : s.length = m.n := hslen
        rw [pair_zip, List.length_map, List.length_zip, hstl]; exact szl _ (by omega)
      · intro r2 hr2 ds
        have : rs ≠ r2 := ne_fresh hr2 (f := .tmp) (by rw [setR_ne nsk, tmp_at]; simp)
        exact ⟨by show _ = _; rw [setR_ne this, setR_ne nsk, tmp_at]; rfl, rfl⟩
      · intro r2 hr2 j x ds P hx h1
        rw [pair_zip, List.getElem?_map] at hx
        cases ez : (s.zip (m.stamps.getD c []))[j]? with
        | none => rw [ez] at hx; cases hx
        | some ab =>
          rw [ez] at hx; cases hx
          exact ⟨_, rfl, rfl, _, rfl, _, rfl, _, _, rfl, h1 _ .refl⟩
      · intro r2 hr2
        obtain ⟨n2k, hr2'⟩ := fresh2 hr2
        obtain ⟨n2s, hr2''⟩ := fresh2 hr2'
        have n2r : r ≠ r2 := ne_fresh hr2'' (f := .eI) (by rw [hI]; simp)
        have ez : (pairD (s.map D.int) ((m.stamps.getD c []).map D.int)).map (fun d => match d with | .tup [.int a, .int b] => .int (mx a b) | _ => .non) = (List.zipWith mx s (m.stamps.getD c [])).map D.int := by
          rw [pair_zip, List.map_map, zip_mx]; rfl
        rw [ez]
        refine ⟨(S.setR r2 (tmpR (lints (List.zipWith mx s (m.stamps.getD c []))))).setR rk (tmpR (.lst (cs.map encO))), ?_, ?_⟩
        · rw [setR_comm (Ne.symm n2k)]
          exact sub_set (sub_set (sub_drop hrs))
        have L2 : ∀ f, (S.setR r2 (tmpR (lints (List.zipWith mx s (m.stamps.getD c []))))).setR rk (tmpR (.lst (cs.map encO))) r f = S r f := fun f => by rw [setR_ne nkr, setR_ne n2r]
        have htm : m.times[c]? = some (m.times.getD c 0) := getD_at (by rw [hw.tl]; exact hcl) _
        refine ⟨_, rfl, _, rfl, r, .eI, _, _, rfl, (L2 _).trans hI, rfl, _, rfl, .inl ⟨_, _, _, (L2 _).trans hTi, rfl, atI_nat (by rw [List.getElem?_map, htm]; rfl), _, _, rfl, rfl, _, _, rfl, .here ⟨r2, some (.int c), ?_, hr2'', n2k, ?_⟩⟩⟩
        · rw [efold]; rfl
        · rw [efold]; rfl
  · rintro env S' ⟨rs, v7, rfl, hrs, nsk, rfl⟩
    have hlen : (cs.map encO).length = cs.length := List.length_map ..
    rw [hlen, List.take_length] at *
    refine ⟨by show _ = _; rw [tmp_at], ?_⟩
    have nrs : r ≠ rs := ne_fresh hrs (f := .eI) (by rw [hI]; simp)
    have est : cs.foldl (cause m) (List.replicate m.n 0, 1) = stampOf m member causes := by rw [← hcc]; rfl
    have hslen : (stampOf m member causes).1.length = m.n := by rw [← est]; exact len_fold m hw cs (List.replicate m.n 0, 1) hcv (by simp)
    rw [est]
    generalize hst : stampOf m member causes = st at hslen ⊢
    obtain ⟨s, t⟩ := st
    -- the list of causes is forgotten
    refine ⟨S.setR rs (tmpR (lints s)), sub_drop fun f => by rw [setR_ne (Ne.symm nsk)]; exact hrk'' f, ?_⟩
    -- stamp[member] = stamp[member] + 1
    have hsm' : s[member]? = some (s.getD member 0) := getD_at (by have : s.length = m.n := hslen; omega) _
    refine ⟨_, rfl, _, rfl, .inl ⟨_, _, _, by show _ = _; rw [tmp_at]; rfl, rfl, atI_nat (by rw [List.getElem?_map, hsm']; rfl), _, _, rfl, rfl, _, rfl, _, rfl, _, .l (by rw [tmp_at]; rfl) (ixN_nat (by rw [List.length_map]; have : s.length = m.n := hslen; omega)), .here ?_⟩⟩
    rw [set_tmp2, ← List.map_set]
    generalize hs' : s.set member (s.getD member 0 + 1) = s'
    generalize hX : S.setR rs (tmpR (.lst (s'.map D.int))) = X
    have hXr : X r = encV C r m v := by rw [← hX, setR_ne nrs]; exact hS
    have hXs : X rs .tmp = some (.lst (s'.map D.int)) := by rw [← hX, tmp_at]
    have hb : m.told.length ≤ 100000 := hsm.told
    -- self.told.append(event)
    refine ⟨_, rfl, r, .eI, _, _, rfl, by rw [hXr]; rfl, rfl, ⟨_, by show _ = _; rw [hXr]; rfl⟩, _, rfl, _, _, m.told.map encEv, _, rfl, rfl, by rw [hXr]; rfl, by rw [List.length_map]; exact szl _ (by omega), .here ?_⟩
    rw [show m.told.map encEv ++ [encEv e] = (m.told ++ [e]).map encEv by rw [List.map_append]; rfl, set_R, hXr, enc_eTold]
    -- self.stamps.append(tuple(stamp))
    refine ⟨_, rfl, r, .eI, _, _, rfl, by rw [setR_same]; rfl, rfl, ⟨_, by show _ = _; rw [setR_same]; rfl⟩, _, rfl, _, _, rfl, by show _ = _; rw [setR_ne (Ne.symm nrs)]; exact hXs, _, _, m.stamps.map fun s => .tup (s.map D.int), _, rfl, rfl, by rw [setR_same]; rfl, by rw [List.length_map, hw.sl]; exact szl _ (by omega), .here ?_⟩
    rw [show (m.stamps.map fun s => D.tup (s.map D.int)) ++ [D.tup (s'.map D.int)] = (m.stamps ++ [s']).map fun s => D.tup (s.map D.int) by rw [List.map_append]; rfl, setR_set, enc_eSt]
    -- self.times.append(time)
    refine ⟨_, rfl, r, .eI, _, _, rfl, by rw [setR_same]; rfl, rfl, ⟨_, by show _ = _; rw [setR_same]; rfl⟩, _, rfl, _, _, m.times.map D.int, _, rfl, rfl, by rw [setR_same]; rfl, by rw [List.length_map, hw.tl]; exact szl _ (by omega), .here ?_⟩
    rw [show m.times.map D.int ++ [D.int t] = (m.times ++ [t]).map D.int by rw [List.map_append]; rfl, setR_set, show LO.lst ((m.times ++ [t]).map D.int) = lints (m.times ++ [t]) from rfl, enc_eTi]
    dsimp only
    -- self.last[member] = len(self.told) - 1
    have eln : (((m.told ++ [e]).map encEv).length : Int) - 1 = (m.told.length : Nat) := by simp
    refine ⟨_, rfl, r, .eI, _, _, rfl, by rw [setR_same]; rfl, rfl, _, (m.told ++ [e]).map encEv, rfl, by show _ = _; rw [setR_same]; rfl, _, _, rfl, rfl, _, rfl, r, .eI, _, _, rfl, by rw [setR_same]; rfl, rfl, _, rfl, _, .l (ds := m.last.map encO) (by rw [setR_same]; rfl) (ixN_nat (by rw [List.length_map, hw.ll]; exact hm)), .here ?_⟩
    dsimp only
    rw [eln, show (m.last.map encO).set member (.int (m.told.length : Nat)) = (m.last.set member (some m.told.length)).map encO by rw [List.map_set]; rfl, setR_set, enc_eLa]
    dsimp only
    refine ⟨_, rfl, r, .eI, _, _, rfl, by rw [setR_same]; rfl, rfl, _, (m.told ++ [e]).map encEv, rfl, by show _ = _; rw [setR_same]; rfl, _, _, rfl, rfl, ?_⟩
    dsimp only
    rw [eln]
    refine ⟨S.setR r (encV C r (addEv m e member causes) v), ?_, q⟩
    have ea : addEv m e member causes = { m with told := m.told ++ [e], stamps := m.stamps ++ [s'], times := m.times ++ [t], last := m.last.set member (some m.told.length) } := by
      unfold addEv; rw [hst, ← hs']
    rw [ea, ← hX]
    exact sub_set (sub_drop hrs)
end SS
namespace SS
open PySem L2
/-- a market that has the roads l so far -/
def encB (C : Cl) (r : Nat) (coins : List Int) (l : List (Nat × Nat)) : Reg
  | .mI => some (.ins C.m (mFs r coins.length))
  | .mP => some (lints coins)
  | .mR => some (.dT (l.map fun p => (pk p, .loc r (.mRo p.1 p.2))))
  | .mRo a b => if (a, b) ∈ l then some (.lst []) else none
  | .eI => some (.ins C.e (eFs r coins.length))
  | .eTold => some (.lst [])
  | .eSt => some (.lst [])
  | .eTi => some (.lst [])
  | .eLa => some (.lst (List.replicate coins.length .non))
  | .mS => some (.lst [])
  | _ => none
theorem encB_all (C : Cl) (r : Nat) (coins : List Int) : encB C r coins (pairs coins.length) = encM C r (newM coins) := by
  funext f
  cases f <;> simp [encB, encM, encV, newM, lints, roadsD, mem_pairs, encO]
def rowP (i j : Nat) : List (Nat × Nat) := ((List.range j).filter fun b => decide (i ≠ b)).map fun b => (i, b)
theorem mem_rowP {i j x y : Nat} : (x, y) ∈ rowP i j ↔ x = i ∧ y < j ∧ i ≠ y := mem_row
theorem encB_put {C : Cl} {r : Nat} {coins : List Int} {l : List (Nat × Nat)} {a b : Nat} (h : (a, b) ∉ l) :
    fset (fset (encB C r coins l) (.mRo a b) (.lst [])) .mR (.dT (dput (l.map fun p => (pk p, D.loc r (.mRo p.1 p.2))) (pk (a, b)) (.loc r (.mRo a b)))) = encB C r coins (l ++ [(a, b)]) := by
  rw [dput_new _ h]
  funext f
  cases f <;> simp [fset, encB]
  rename_i x y
  by_cases e : x = a ∧ y = b
  · simp [e]
  · rw [if_neg e]
    have : ((x, y) ∈ l ∨ x = a ∧ y = b) ↔ (x, y) ∈ l := ⟨fun z => z.resolve_right e, .inl⟩
    simp [this]
theorem vne {i j : Nat} : ((!decide (V.int (i : Int) = V.int (j : Int))) = true) ↔ i ≠ j := by
  by_cases h : i = j
  · subst h; simp
  · simp [h]; omega
theorem len_row (n a : Nat) : (row n a).length ≤ n := by
  unfold row; rw [List.length_map]
  have := List.length_filter_le (fun b => decide (a ≠ b)) (List.range n)
  simp at this ⊢; omega
theorem len_flat (n : Nat) : ∀ l : List Nat, (l.flatMap (row n)).length ≤ l.length * n
  | [] => by simp
  | a :: l => by
    rw [List.flatMap_cons, List.length_append, List.length_cons]
    have := len_row n a
    have := len_flat n l
    rw [Nat.add_mul]; omega
theorem read_Market_init {K : PySem.W.Frag} {C : Cl} (ds : List D) (S : Store) (Q : QD) (Ex : Value → Store → Prop) (h : sp_Market_init C ds S Q Ex) : r_Market_init K C (ends0 Q) (start ["self", "coins", "one", "other"] ds) S := by
  obtain ⟨r, coins, rfl, hS, h2, h5, q⟩ := h
  have hln : (coins.map D.int).length = coins.length := List.length_map ..
  have eS : S = S.setR r (oneR .mI (.ins C.m [])) := (setR_self hS).symm
  rw [eS]
  refine ⟨_, rfl, _, _, rfl, rfl, _, rfl, r, .mI, [], rfl, by rw [setR_same]; rfl, by decide, .here ?_⟩
  rw [hln, setR_set]
  refine ⟨_, rfl, _, _, rfl, rfl, r, .mP, by rw [setR_same]; rfl, ⟨.mI, by rw [setR_same]; simp [fset]⟩, _, rfl, r, .mI, _, rfl, by rw [setR_set, setR_same]; rfl, (by show (1 : Nat) < 1000; decide), .here ?_⟩
  rw [setR_set, setR_set]
  refine ⟨r, .mR, by rw [setR_same]; rfl, ⟨.mI, by rw [setR_same]; simp [fset]⟩, _, rfl, r, .mI, _, rfl, by rw [setR_set, setR_same]; rfl, (by show (2 : Nat) < 1000; decide), .here ?_⟩
  rw [setR_set, setR_set]
  refine ⟨_, rfl, r, .mI, _, _, rfl, by rw [setR_same]; rfl, rfl, r, .eI, by rw [setR_same]; rfl, ⟨.mI, by rw [setR_same]; simp [fset]⟩, r, coins.length, rfl, h5, by rw [setR_set, setR_same]; rfl, by rw [setR_set, setR_same]; rfl, by rw [setR_set, setR_same]; rfl, by rw [setR_set, setR_same]; rfl, by rw [setR_set, setR_same]; rfl, rfl, _, rfl, r, .mI, _, rfl, by rw [setR_set, setR_same, setR_same]; rfl, (by show (3 : Nat) < 1000; decide), .here ?_⟩
  simp only [setR_set, setR_setR, setR_same]
  refine ⟨t0, r, .mS, by rw [setR_same]; rfl, ⟨.mI, by rw [setR_same]; simp [fset]⟩, _, rfl, r, .mI, _, rfl, by rw [setR_set, setR_same]; rfl, (by show (4 : Nat) < 1000; decide), .here ?_⟩
  rw [setR_set, setR_set]
  generalize hg : fset _ Fld.mI _ = g
  have eg : g = encB C r coins [] := by
    rw [← hg]
    funext f
    cases f <;> simp [fset, encB, evR, oneR, lints] <;> rfl
  rw [eg]
  have hI : ∀ (l : List (Nat × Nat)), (S.setR r (encB C r coins l)) r .mI = some (.ins C.m (mFs r coins.length)) := fun l => by rw [setR_same]; rfl
  refine ⟨_, rfl, r, .mI, _, _, rfl, hI _, rfl, _, rfl, by omega, by omega, ?_⟩
  refine ⟨fun i env S' => ∃ v w, env = [some (.loc r .mI), some (.tup (coins.map D.int)), v, w] ∧ S' = S.setR r (encB C r coins ((List.range i).flatMap (row coins.length))), .here ⟨none, none, rfl, rfl⟩, ?_, ?_⟩
  · rintro i d env S' hd ⟨v, w, rfl, rfl⟩
    obtain ⟨hi, rfl⟩ := rng_is (n := coins.length) hd
    refine ⟨trivial, ?_⟩
    refine ⟨_, rfl, r, .mI, _, _, rfl, hI _, rfl, _, rfl, by omega, by omega, ?_⟩
    refine ⟨fun j env S' => ∃ w, env = [some (.loc r .mI), some (.tup (coins.map D.int)), some (.int i), w] ∧ S' = S.setR r (encB C r coins ((List.range i).flatMap (row coins.length) ++ rowP i j)), .here ⟨w, rfl, by simp [rowP]⟩, ?_, ?_⟩
    · rintro j d env S' hd ⟨w, rfl, rfl⟩
      obtain ⟨hj, rfl⟩ := rng_is (n := coins.length) hd
      refine ⟨trivial, ?_⟩
      refine ⟨_, rfl, _, rfl, _, rfl, _, rfl, ifB (fun e => ?_) fun e => ?_⟩
      · have hij : i ≠ j := vne.mp e
        have hno : (i, j) ∉ (List.range i).flatMap (row coins.length) ++ rowP i j := by
          intro z
          rcases List.mem_append.mp z with z | z
          · obtain ⟨a, ha, hr⟩ := List.mem_flatMap.mp z
            have := (mem_row.mp hr).1
            simp at ha; omega
          · have := (mem_rowP.mp z).2.1; omega
        refine ⟨t0, r, .mRo i j, by rw [setR_same]; simp only [encB]; rw [if_neg hno], ⟨.mI, by rw [hI]; simp⟩, _, rfl, r, .mI, _, _, rfl, by rw [setR_set, setR_same]; rfl, rfl, _, rfl, _, rfl, t2, _, .t (ks := pk (i, j)) (kvs := ((List.range i).flatMap (row coins.length) ++ rowP i j).map fun p => (pk p, .loc r (.mRo p.1 p.2))) (by rw [setR_set, setR_same]; rfl) ?_, .here ⟨_, rfl, ?_⟩⟩
        · rw [List.length_map, List.length_append]
          have h1 := len_flat coins.length (List.range i)
          have h2 := len_row j i
          have : (rowP i j).length ≤ j := h2
          rw [List.length_range] at h1
          have : i * coins.length ≤ 5 * 5 := Nat.mul_le_mul (by omega) (by omega)
          exact szl _ (by omega)
        · rw [setR_set, setR_set, encB_put hno, List.append_assoc]
          congr 3
          unfold rowP
          rw [List.range_succ, List.filter_append, List.map_append]
          congr 1
          simp [hij]
      · have hij : i = j := Classical.byContradiction fun z => e (vne.mpr z)
        refine .here ⟨_, rfl, ?_⟩
        congr 3
        unfold rowP
        rw [List.range_succ, List.filter_append, List.map_append]
        simp [hij]
    · rintro env S' ⟨w, rfl, rfl⟩
      refine ⟨trivial, .here ⟨_, _, rfl, ?_⟩⟩
      congr 2
      simp only [List.length_map, List.length_range]
      rw [List.range_succ, List.flatMap_append]
      simp [rowP, row]
  · rintro env S' ⟨v, w, rfl, rfl⟩
    refine ⟨trivial, .here ?_⟩
    simp only [List.length_map, List.length_range]
    rw [← encB_all] at q
    exact q
end SS
namespace SS
open PySem L2
def causesOf : Option Nat → List (Option Nat)
  | none => []
  | some k => [some k]
def shotParcel (one other : Nat) (a : Int) (s : Sh) : Sh :=
  if (one, other) ∈ s.watched then { s with lying := up2 s.lying one other (s.lying one other ++ [a]) } else s
def parcelM (m : Mkt) (one other : Nat) (a : Int) (num : Option Nat) : Mkt :=
  addEv { m with shots := m.shots.map (shotParcel one other a), purses := m.purses.set other (m.purses.getD other 0 + a) } ⟨false, one, other, a⟩ other (causesOf num)
/-- a take where no mark is met -/
def take1 (m : Mkt) (one other : Nat) : Mkt := match m.roads one other with
  | .coins a num :: rest => parcelM { m with roads := up2 m.roads one other rest } one other a num
  | _ => m
def isCoins : Par → Prop
  | .coins _ _ => True
  | .mark _ => False
def encPar2 : Par → D
  | .coins a _ => .tup [.str "coins", .int a]
  | .mark k => .tup [.str "mark", .int k]
def amt : Par → Option Int
  | .coins a _ => some a
  | .mark _ => none
def onRoad (l : List Par) : Int := (l.filterMap amt).sum
def totalM (m : Mkt) : Int := m.purses.sum + ((pairs m.n).map fun p => onRoad (m.roads p.1 p.2)).sum
def sp_Market_parcel1 (C : Cl) : LSp := fun ds S Q _ => ∃ (r : Nat) (m : Mkt) (one other : Nat) (a : Int) (num : Option Nat), ds = [.loc r .mI, .int one, .int other, .int a, encO num] ∧ S r = encM C r m ∧ Ok m ∧ m.shots = [] ∧ other < m.n ∧
  (∀ k, num = some k → k < m.told.length) ∧ Q .non (S.setR r (encM C r (parcelM m one other a num)))
def sp_Market_take1 (C : Cl) : LSp := fun ds S Q _ => ∃ (r : Nat) (m : Mkt) (one other : Nat), ds = [.loc r .mI, .int one, .int other] ∧ S r = encM C r m ∧ Ok m ∧ m.shots = [] ∧ one < m.n ∧ other < m.n ∧ one ≠ other ∧
  (∀ p ∈ m.roads one other, isCoins p) ∧ Q .non (S.setR r (encM C r (take1 m one other)))
def sp_Market_coins (C : Cl) : LSp := fun ds S Q _ => ∃ (r : Nat) (m : Mkt), ds = [.loc r .mI] ∧ S r = encM C r m ∧ Q (.tup (m.purses.map D.int)) S
def sp_Market_road (C : Cl) : LSp := fun ds S Q _ => ∃ (r : Nat) (m : Mkt) (one other : Nat), ds = [.loc r .mI, .int one, .int other] ∧ S r = encM C r m ∧ Ok m ∧ one < m.n ∧ other < m.n ∧ one ≠ other ∧ Q (.tup ((m.roads one other).map encPar2)) S
def sp_Market_total (C : Cl) : LSp := fun ds S Q _ => ∃ (r : Nat) (m : Mkt), ds = [.loc r .mI] ∧ S r = encM C r m ∧ Ok m ∧ Q (.int (totalM m)) S
def sp_Market_log (C : Cl) : LSp := fun ds S Q _ => ∃ (r : Nat) (m : Mkt), ds = [.loc r .mI] ∧ S r = encM C r m ∧ Q (.tup (m.told.map encEv)) S
end SS
namespace SS
open PySem L2
/-- Market.parcel: slots 0 self 1 one 2 other 3 amount 4 number 5 shot 6 causes -/
def r_Market_parcel1 (K : PySem.W.Frag) (C : Cl) : LTS :=
  (rSeq (rFor (iLst (rAttr C.m (rVar 0) "shots")) (.nm 5) rNever) (rSeq (rSub (rAttr C.m (rVar 0) "purses") (rVar 2) (rOp oAdd (rOp ixD (rAttr C.m (rVar 0) "purses") (rVar 2)) (rVar 3))) (rSeq (rSet 6 (rLst (newF .tmp) (rCons (rVar 4) rNil))) (rSeq (rIf (rTest (rOp oIs (rVar 4) (rC .non))) (rSet 6 (rLst (newF .tmp) rNil)) rNext) (rDrop (rMeth C.e "add" (sp_Events_add C) (rAttr C.m (rVar 0) "events") (rCons (rTup (rCons (rC (.str "take")) (rCons (rVar 1) (rCons (rVar 2) (rCons (rVar 3) rNil))))) (rCons (rVar 2) (rCons (rVar 6) rNil)))))))))
/-- Market.take: slots 0 self 1 one 2 other 3 first -/
def r_Market_take1 (K : PySem.W.Frag) (C : Cl) : LTS :=
  (rIf (rTru (rOp ixD (rAttr C.m (rVar 0) "roads") (rTup (rCons (rVar 1) (rCons (rVar 2) rNil))))) (rSeq (rSet 3 (rBM isL mPop0 (rOp ixD (rAttr C.m (rVar 0) "roads") (rTup (rCons (rVar 1) (rCons (rVar 2) rNil)))) (rCons (rC (.int 0)) rNil))) (rIf (rTest (rOp oEq (rOp ixD (rVar 3) (rC (.int 0))) (rC (.str "mark")))) rNever (rDrop (rMeth C.m "parcel" (sp_Market_parcel1 C) (rVar 0) (rCons (rVar 1) (rCons (rVar 2) (rCons (rOp ixD (rVar 3) (rC (.int 1))) (rCons (rOp ixD (rVar 3) (rC (.int 2))) rNil)))))))) rNext)
/-- Market.coins: slots 0 self -/
def r_Market_coins (K : PySem.W.Frag) (C : Cl) : LTS :=
  (rRet (rCall dTuple (rCons (rAttr C.m (rVar 0) "purses") rNil)))
/-- Market.road: slots 0 self 1 one 2 other 3 lying -/
def r_Market_road (K : PySem.W.Frag) (C : Cl) : LTS :=
  (rRet (rCall dTuple (rCons (rLc (newF .tmp) (iLst (rOp ixD (rAttr C.m (rVar 0) "roads") (rTup (rCons (rVar 1) (rCons (rVar 2) rNil))))) (.nm 3) rYes (rSliceT (rVar 3) rNoPart (rPart (rC (.int 2))))) rNil)))
/-- Market.total: slots 0 self 1 amount 2 row 3 lying -/
def r_Market_total (K : PySem.W.Frag) (C : Cl) : LTS :=
  (rSeq (rSet 1 (rCall dSum (rCons (rAttr C.m (rVar 0) "purses") rNil))) (rSeq (rLock (rFor (iValT (rAttr C.m (rVar 0) "roads")) (.nm 2) (rSet 1 (rOp oAdd (rVar 1) (rCall dSum (rCons (rLc (newF .tmp) (iLst (rVar 2)) (.nm 3) (rTest (rOp oEq (rOp ixD (rVar 3) (rC (.int 0))) (rC (.str "coins")))) (rOp ixD (rVar 3) (rC (.int 1)))) rNil)))))) (rRet (rVar 1))))
/-- Market.log: slots 0 self -/
def r_Market_log (K : PySem.W.Frag) (C : Cl) : LTS :=
  (rRet (rCall dTuple (rCons (rAttr C.e (rAttr C.m (rVar 0) "events") "told") rNil)))
end SS
namespace SS
open PySem L2
theorem ok_purses {m : Mkt} (h : Ok m) (i : Nat) (x : Int) : Ok { m with purses := m.purses.set i x } :=
  ⟨⟨h.1.n2, h.1.n5, by simp [h.1.pl], h.1.ll, h.1.sl, h.1.tl, h.1.se, h.1.lv, h.1.rv⟩, ⟨h.2.told, h.2.roads, h.2.shots⟩⟩
theorem purse_at {m : Mkt} (h : Ok m) {i : Nat} (hi : i < m.n) : m.purses[i]? = some (m.purses.getD i 0) := getD_at (by rw [h.1.pl]; exact hi) _
theorem road_at {C : Cl} {r : Nat} {m : Mkt} {v a b : Nat} (h : a < m.n ∧ b < m.n ∧ a ≠ b) : encV C r m v (.mRo a b) = some (.lst ((m.roads a b).map encPar)) := if_pos h
theorem roads_at {r n a b : Nat} (h : a < n ∧ b < n ∧ a ≠ b) : dget ((pairs n).map fun p => (pk p, D.loc r (.mRo p.1 p.2))) (pk (a, b)) = some (.loc r (.mRo a b)) :=
  dget_map (fun p => D.loc r (.mRo p.1 p.2)) (mem_pairs.mpr h)
/-- what stands at self.roads[(a, b)] -/
theorem at_roads {C : Cl} {r : Nat} {m : Mkt} {v a b : Nat} {S : Store} (hS : S r = encV C r m v) (h : a < m.n ∧ b < m.n ∧ a ≠ b) : DAt S (.loc r .mR) (.tup [.int a, .int b]) (some (.loc r (.mRo a b))) := by
  have := DAt.t (S := S) (r := r) (f := .mR) (ks := pk (a, b)) (kvs := (pairs m.n).map fun p => (pk p, D.loc r (.mRo p.1 p.2))) (.inl (by rw [hS]; rfl))
  rw [roads_at h] at this
  exact this
theorem read_Market_give {K : PySem.W.Frag} {C : Cl} (ds : List D) (S : Store) (Q : QD) (Ex : Value → Store → Prop) (h : sp_Market_give C ds S Q Ex) : r_Market_give K C (endsX Q Ex) (start ["self", "one", "other", "amount", "number"] ds) S := by
  obtain ⟨r, m, one, other, a, rfl, hS, ok, h1, h2, hne, hx, q⟩ := h
  refine ⟨_, rfl, _, rfl, r, .mI, _, _, rfl, by rw [hS]; rfl, rfl, _, rfl, .inl ⟨m.purses.map D.int, _, .int (m.purses.getD one 0), by show _ = _; rw [hS]; rfl, rfl, atI_nat (by rw [List.getElem?_map, purse_at ok h1]; rfl), _, _, rfl, rfl, _, rfl, ifD (fun hlt => .here (hx hlt)) fun hlt => .here ?_⟩⟩
  refine ⟨_, rfl, r, .mI, _, _, rfl, by rw [hS]; rfl, rfl, _, rfl, .inl ⟨m.purses.map D.int, _, .int (m.purses.getD one 0), by show _ = _; rw [hS]; rfl, rfl, atI_nat (by rw [List.getElem?_map, purse_at ok h1]; rfl), _, rfl, _, _, rfl, rfl, _, rfl, r, .mI, _, _, rfl, by rw [hS]; rfl, rfl, _, rfl, _, .l (ds := m.purses.map D.int) (by rw [hS]; rfl) (ixN_nat (by rw [List.length_map, ok.1.pl]; exact h1)), .here ?_⟩⟩
  rw [← List.map_set, set_R, hS, show LO.lst ((m.purses.set one (m.purses.getD one 0 - a)).map D.int) = lints (m.purses.set one (m.purses.getD one 0 - a)) from rfl, encM, enc_mP]
  generalize hm1 : ({ m with purses := m.purses.set one (m.purses.getD one 0 - a) } : Mkt) = m1
  have ok1 : Ok m1 := hm1 ▸ ok_purses ok one _
  have en : m1.n = m.n := by rw [← hm1]
  have et : m1.told = m.told := by rw [← hm1]
  refine ⟨_, rfl, r, .mI, _, _, rfl, by rw [setR_same]; rfl, rfl, r, .eI, _, rfl, by rw [setR_same]; rfl, rfl, _, rfl, _, rfl, _, rfl, t4, _, rfl, t0, fun rl hrl => ?_⟩
  have nrl : r ≠ rl := ne_fresh hrl (f := .mI) (by rw [setR_same]; simp [encV])
  rw [set_tmp hrl]
  refine ⟨r, m1, m.shots.length, ⟨true, one, other, a⟩, one, rl, [], rfl, Ne.symm nrl, by rw [setR_ne nrl, setR_same], ok1, by rw [en]; exact h1, by rw [tmp_at]; rfl, by decide, by simp, ?_⟩
  rw [et]
  refine ⟨S.setR r (encV C r (addEv m1 ⟨true, one, other, a⟩ one []) m.shots.length), ?_, ?_⟩
  · rw [setR_comm (Ne.symm nrl), setR_setR]
    exact sub_drop fun f => by have := hrl f; rwa [setR_ne (Ne.symm nrl)] at this ⊢
  generalize hm2 : addEv m1 ⟨true, one, other, a⟩ one [] = m2
  have en2 : m2.n = m.n := by rw [← hm2]; exact en
  have er2 : m2.roads = m.roads := by rw [← hm2, addEv]; rw [← hm1]
  have hr : one < m2.n ∧ other < m2.n ∧ one ≠ other := by rw [en2]; exact ⟨h1, h2, hne⟩
  refine ⟨_, rfl, r, .mI, _, _, rfl, by rw [setR_same]; rfl, rfl, _, rfl, _, rfl, t2, .inr ⟨_, at_roads (by rw [setR_same]) hr, ⟨_, by show _ = _; rw [setR_same]; exact road_at hr⟩, _, rfl, _, rfl, t3, _, _, _, _, rfl, rfl, by rw [setR_same]; exact road_at hr, ?_, ?_⟩⟩
  · rw [List.length_map, er2]; have := ok.2.roads one other; exact szl _ (by omega)
  · refine .here ?_
    have e3 : (m2.roads one other).map encPar ++ [.tup [.str "coins", .int a, .int m.told.length]] = (m2.roads one other ++ [Par.coins a (some m.told.length)]).map encPar := by rw [List.map_append]; rfl
    rw [e3, setR_set, enc_mRo hr]
    have := q (by omega)
    have eg : giveM m one other a = { m2 with roads := up2 m2.roads one other (m2.roads one other ++ [.coins a (some m.told.length)]) } := by
      rw [← hm2, ← hm1]; rfl
    rw [eg, encM] at this
    have esh : m2.shots.length = m.shots.length := by rw [← hm2, addEv, ← hm1]
    rw [show ({ m2 with roads := up2 m2.roads one other (m2.roads one other ++ [.coins a (some m.told.length)]) } : Mkt).shots.length = m.shots.length from esh] at this
    exact this
theorem read_Market_coins {K : PySem.W.Frag} {C : Cl} (ds : List D) (S : Store) (Q : QD) (Ex : Value → Store → Prop) (h : sp_Market_coins C ds S Q Ex) : r_Market_coins K C (ends0 Q) (start ["self"] ds) S := by
  obtain ⟨r, m, rfl, hS, q⟩ := h
  exact ⟨_, rfl, r, .mI, _, _, rfl, by rw [hS]; rfl, rfl, _, m.purses.map D.int, rfl, by show _ = _; rw [hS]; rfl, .here q⟩
theorem read_Market_log {K : PySem.W.Frag} {C : Cl} (ds : List D) (S : Store) (Q : QD) (Ex : Value → Store → Prop) (h : sp_Market_log C ds S Q Ex) : r_Market_log K C (ends0 Q) (start ["self"] ds) S := by
  obtain ⟨r, m, rfl, hS, q⟩ := h
  exact ⟨_, rfl, r, .mI, _, _, rfl, by rw [hS]; rfl, rfl, r, .eI, _, _, rfl, by rw [hS]; rfl, rfl, _, m.told.map encEv, rfl, by show _ = _; rw [hS]; rfl, .here q⟩
theorem cut3 {a b c : D} : ¬ (HT.sIx [a, b, c].length 0 none = 0 ∧ HT.sIx [a, b, c].length [a, b, c].length (some 2) = [a, b, c].length) := by
  show ¬ (HT.sIx 3 0 none = 0 ∧ HT.sIx 3 3 (some 2) = 3)
  decide
theorem cut_2 {α : Type} (a b c : α) : cutD [a, b, c] none (some 2) = [a, b] := rfl
theorem read_Market_road {K : PySem.W.Frag} {C : Cl} (ds : List D) (S : Store) (Q : QD) (Ex : Value → Store → Prop) (h : sp_Market_road C ds S Q Ex) : r_Market_road K C (ends0 Q) (start ["self", "one", "other", "lying"] ds) S := by
  obtain ⟨r, m, one, other, rfl, hS, ok, h1, h2, hne, q⟩ := h
  have hr : one < m.n ∧ other < m.n ∧ one ≠ other := ⟨h1, h2, hne⟩
  have hL : S r (.mRo one other) = some (.lst ((m.roads one other).map encPar)) := by rw [hS]; exact road_at hr
  refine lc_map ((m.roads one other).map encPar) (fun S' => LstD S' (.loc r (.mRo one other)) ((m.roads one other).map encPar)) S (fun d => match d with | .tup [a, b, _] => .tup [a, b] | _ => .non) ?_ ?_ ?_ ?_ ?_
  · intro Q' hq
    exact ⟨_, rfl, r, .mI, _, _, rfl, by rw [hS]; rfl, rfl, _, rfl, _, rfl, t2, .inr ⟨_, at_roads hS hr, _, hL, hq⟩⟩
  · rw [List.length_map]; have := ok.2.roads one other; exact szl _ (by omega)
  · intro r2 hr2 ds
    show _ = _
    rw [setR_ne' hr2 (f := .mRo one other) (by rw [hL]; simp)]; exact hL
  · intro r2 hr2 i x ds P hx h1
    rw [List.getElem?_map] at hx
    cases e : (m.roads one other)[i]? with
    | none => rw [e] at hx; cases hx
    | some p =>
      rw [e] at hx; cases hx
      cases p with
      | coins a num => exact ⟨_, rfl, _, rfl, _, rfl, cut3, h1 _ .refl⟩
      | mark k => exact ⟨_, rfl, _, rfl, _, rfl, cut3, h1 _ .refl⟩
  · intro r2 hr2
    refine ⟨_, _, rfl, by show _ = _; rw [tmp_at], S, sub_drop hr2, ?_⟩
    have e : ((m.roads one other).map encPar).map (fun d => match d with | .tup [a, b, _] => D.tup [a, b] | _ => .non) = (m.roads one other).map encPar2 := by
      rw [List.map_map]
      congr 1
      funext p
      cases p <;> rfl
    rw [e]; exact q
theorem onRoad_rev : ∀ (l : List Par), (l.map encPar).filterMap (fun d => match d with | .tup [.str x, .int a, _] => if decide (V.str x = V.str "coins") = true then some (D.int a) else none | _ => none) = (l.filterMap amt).map D.int
  | [] => rfl
  | .coins a num :: l => by
    rw [List.map_cons, List.filterMap_cons, List.filterMap_cons, onRoad_rev l]; rfl
  | .mark k :: l => by
    rw [List.map_cons, List.filterMap_cons, List.filterMap_cons, onRoad_rev l]; rfl
theorem read_Market_total {K : PySem.W.Frag} {C : Cl} (ds : List D) (S : Store) (Q : QD) (Ex : Value → Store → Prop) (h : sp_Market_total C ds S Q Ex) : r_Market_total K C (ends0 Q) (start ["self", "amount", "row", "lying"] ds) S := by
  obtain ⟨r, m, rfl, hS, ok, q⟩ := h
  refine ⟨_, rfl, r, .mI, _, _, rfl, by rw [hS]; rfl, rfl, _, m.purses, rfl, by show _ = _; rw [hS]; rfl, .here ?_⟩
  have hR : S r .mR = some (roadsD r m.n) := by rw [hS]; rfl
  refine ⟨r, .mR, _, hR, .inl ⟨_, rfl⟩, ?_⟩
  generalize hX : S.set r .mR (.frz (roadsD r m.n)) = X
  have hXR : X r .mR = some (.frz (roadsD r m.n)) := by rw [← hX, set_same]
  have hXI : X r .mI = some (.ins C.m (mFs r m.n)) := by rw [← hX, set_nf (by simp), hS]; rfl
  have hXr : ∀ a b, X r (.mRo a b) = encM C r m (.mRo a b) := fun a b => by rw [← hX, set_nf (by simp), hS]
  refine ⟨_, rfl, r, .mI, _, _, rfl, hXI, rfl, r, .mR, _, rfl, hXR, ?_⟩
  have hitems : (((pairs m.n).map fun p => (pk p, D.loc r (.mRo p.1 p.2))).map (·.2)) = (pairs m.n).map fun p => D.loc r (.mRo p.1 p.2) := by rw [List.map_map]; rfl
  rw [hitems]
  refine ⟨fun i env S' => ∃ v, env = [some (.loc r .mI), some (.int (m.purses.sum + (((pairs m.n).take i).map fun p => onRoad (m.roads p.1 p.2)).sum)), v, none] ∧ S' = X, .here ⟨none, by simp; rfl, rfl⟩, ?_, ?_⟩
  · rintro i d env S' hd ⟨v, rfl, rfl⟩
    rw [List.getElem?_map] at hd
    cases e : (pairs m.n)[i]? with
    | none => rw [e] at hd; cases hd
    | some p =>
      rw [e] at hd; cases hd
      obtain ⟨a, b⟩ := p
      have hp := mem_pairs.mp (List.mem_of_getElem? e)
      refine ⟨hXR, ?_⟩
      have hL : S' r (.mRo a b) = some (.lst ((m.roads a b).map encPar)) := (hXr a b).trans (road_at hp)
      refine ⟨_, rfl, ?_⟩
      refine lc_tmp ((m.roads a b).map encPar) (fun S'' => LstD S'' (.loc r (.mRo a b)) ((m.roads a b).map encPar)) S' (fun d => match d with | .tup [.str x, .int a, _] => if decide (V.str x = V.str "coins") = true then some (D.int a) else none | _ => none) ?_ ?_ ?_ ?_ ?_
      · intro Q' hq
        exact ⟨_, rfl, _, hL, hq⟩
      · rw [List.length_map]; have := ok.2.roads a b; exact szl _ (by omega)
      · intro r2 hr2 ds
        show _ = _
        rw [setR_ne' hr2 (f := .mRo a b) (by rw [hL]; simp)]; exact hL
      · intro r2 hr2 j x ds P N hx h1 h2
        rw [List.getElem?_map] at hx
        cases e : (m.roads a b)[j]? with
        | none => rw [e] at hx; cases hx
        | some p =>
          rw [e] at hx; cases hx
          cases p with
          | coins c num => exact ⟨_, rfl, .inl ⟨_, _, _, rfl, rfl, rfl, _, rfl, _, rfl, iteT ⟨_, rfl, .inl ⟨_, _, _, rfl, rfl, rfl, h1 _ _ rfl .refl⟩⟩⟩⟩
          | mark k => exact ⟨_, rfl, .inl ⟨_, _, _, rfl, rfl, rfl, _, rfl, _, rfl, iteF (h2 rfl)⟩⟩
      · intro r2 hr2
        refine ⟨_, (m.roads a b).filterMap amt, rfl, by show _ = _; rw [tmp_at, onRoad_rev], _, _, rfl, rfl, S', sub_drop hr2, some (.loc r (.mRo a b)), ?_, rfl⟩
        have es : (((pairs m.n).take (i + 1)).map fun p => onRoad (m.roads p.1 p.2)).sum = (((pairs m.n).take i).map fun p => onRoad (m.roads p.1 p.2)).sum + onRoad (m.roads a b) := by
          rw [List.take_succ, e, List.map_append, List.sum_append]; simp
        rw [es, ← Int.add_assoc]; rfl
  · rintro env S' ⟨v, rfl, rfl⟩
    refine ⟨hXR, hXR, .here ⟨_, rfl, .here ?_⟩⟩
    have e1 : S'.set r .mR (roadsD r m.n) = S := by
      rw [← hX, set_set, set_R, setR_self]
      rw [hS]; funext f; unfold fset; split
      · next h => subst h; rfl
      · rfl
    rw [e1]
    rw [List.length_map, List.take_length]
    exact q
theorem enc_take {e : Ev} (h : e.give = false) : encEv e = .tup [.str "take", .int e.one, .int e.other, .int e.amt] := by unfold encEv; rw [h]; rfl
theorem read_Market_parcel1 {K : PySem.W.Frag} {C : Cl} (ds : List D) (S : Store) (Q : QD) (Ex : Value → Store → Prop) (h : sp_Market_parcel1 C ds S Q Ex) : r_Market_parcel1 K C (ends0 Q) (start ["self", "one", "other", "amount", "number", "shot", "causes"] ds) S := by
  obtain ⟨r, m, one, other, a, num, rfl, hS, ok, hsh, h2, hn, q⟩ := h
  have hsl : m.shots.length = 0 := by rw [hsh]; rfl
  refine ⟨_, rfl, r, .mI, _, _, rfl, by rw [hS]; rfl, rfl, [], by show _ = _; rw [hS]; simp [encM, encV, hsl], ?_⟩
  refine ⟨fun i env S' => env = [some (.loc r .mI), some (.int one), some (.int other), some (.int a), some (encO num), none, none] ∧ S' = S, .here ⟨rfl, rfl⟩, ?_, ?_⟩
  · intro i d env S' hd; cases hd
  rintro env S' ⟨rfl, rfl⟩
  refine ⟨by show _ = _; rw [hS]; simp [encM, encV, hsl], .here ?_⟩
  refine ⟨_, rfl, r, .mI, _, _, rfl, by rw [hS]; rfl, rfl, _, rfl, .inl ⟨m.purses.map D.int, _, .int (m.purses.getD other 0), by show _ = _; rw [hS]; rfl, rfl, atI_nat (by rw [List.getElem?_map, purse_at ok h2]; rfl), _, rfl, _, _, rfl, rfl, _, rfl, r, .mI, _, _, rfl, by rw [hS]; rfl, rfl, _, rfl, _, .l (ds := m.purses.map D.int) (by rw [hS]; rfl) (ixN_nat (by rw [List.length_map, ok.1.pl]; exact h2)), .here ?_⟩⟩
  rw [← List.map_set, set_R, hS, show LO.lst ((m.purses.set other (m.purses.getD other 0 + a)).map D.int) = lints (m.purses.set other (m.purses.getD other 0 + a)) from rfl, encM, enc_mP]
  generalize hm1 : ({ m with purses := m.purses.set other (m.purses.getD other 0 + a) } : Mkt) = m1
  have ok1 : Ok m1 := hm1 ▸ ok_purses ok other _
  have en : m1.n = m.n := by rw [← hm1]
  have et : m1.told = m.told := by rw [← hm1]
  have fin : ∀ (v5 : Option D) (rl : Nat) (X : Store), (∀ f, (S'.setR r (encV C r m1 m.shots.length)) rl f = none) → X = (S'.setR r (encV C r m1 m.shots.length)).setR rl (tmpR (.lst ((causesOf num).map encO))) →
      rDrop (rMeth C.e "add" (sp_Events_add C) (rAttr C.m (rVar 0) "events") (rCons (rTup (rCons (rC (.str "take")) (rCons (rVar 1) (rCons (rVar 2) (rCons (rVar 3) rNil))))) (rCons (rVar 2) (rCons (rVar 6) rNil)))) (ends0 Q) [some (.loc r .mI), some (.int one), some (.int other), some (.int a), some (encO num), v5, some (.loc rl .tmp)] X := by
    rintro v5 rl X hrl rfl
    have nrl : r ≠ rl := ne_fresh hrl (f := .mI) (by rw [setR_same]; simp [encV])
    refine ⟨_, rfl, r, .mI, _, _, rfl, by rw [setR_ne nrl, setR_same]; rfl, rfl, r, .eI, _, rfl, by rw [setR_ne nrl, setR_same]; rfl, rfl, _, rfl, _, rfl, _, rfl, t4, _, rfl, _, rfl, ?_⟩
    refine ⟨r, m1, m.shots.length, ⟨false, one, other, a⟩, other, rl, causesOf num, rfl, Ne.symm nrl, by rw [setR_ne nrl, setR_same], ok1, by rw [en]; exact h2, by rw [tmp_at], ?_, ?_, ?_⟩
    · cases num <;> simp [causesOf]
    · intro k hk
      rw [et]
      cases num with
      | none => cases hk
      | some j =>
        simp [causesOf] at hk
        exact hn k (by rw [hk])
    · refine ⟨S'.setR r (encM C r (parcelM m one other a num)), ?_, q⟩
      have ep : encM C r (parcelM m one other a num) = encV C r (addEv m1 ⟨false, one, other, a⟩ other (causesOf num)) m.shots.length := by
        unfold parcelM encM
        rw [← hm1, hsh]; rfl
      rw [ep, setR_comm (Ne.symm nrl), setR_setR]
      exact sub_drop fun f => by have := hrl f; rwa [setR_ne (Ne.symm nrl)] at this ⊢
  refine ⟨_, rfl, t1, fun rl hrl => ?_⟩
  rw [set_tmp hrl]
  cases num with
  | none =>
    refine ⟨_, sub_drop hrl, ?_⟩
    refine ⟨_, rfl, rfl, _, rfl, _, rfl, iteT ⟨t0, fun r2 hr2 => ?_⟩⟩
    rw [set_tmp hr2]
    exact .here (fin _ _ _ hr2 rfl)
  | some k =>
    refine .here ⟨_, rfl, rfl, _, rfl, _, rfl, iteF (.here (fin _ _ _ hrl rfl))⟩
theorem ok_roads {m : Mkt} (h : Ok m) {one other : Nat} {p : Par} {rest : List Par} (e : m.roads one other = p :: rest) : Ok { m with roads := up2 m.roads one other rest } := by
  refine ⟨⟨h.1.n2, h.1.n5, h.1.pl, h.1.ll, h.1.sl, h.1.tl, h.1.se, h.1.lv, fun a b x k hx => ?_⟩, ⟨h.2.told, fun a b => ?_, h.2.shots⟩⟩
  · dsimp only at hx ⊢
    by_cases z : a = one ∧ b = other
    · obtain ⟨rfl, rfl⟩ := z
      rw [up2_same] at hx
      exact h.1.rv a b x k (by rw [e]; exact List.mem_cons_of_mem _ hx)
    · rw [up2_ne z] at hx; exact h.1.rv a b x k hx
  · by_cases z : a = one ∧ b = other
    · obtain ⟨rfl, rfl⟩ := z
      show (up2 m.roads a b rest a b).length ≤ _
      rw [up2_same]; have := h.2.roads a b; rw [e] at this; simp at this; omega
    · show (up2 m.roads one other rest a b).length ≤ _
      rw [up2_ne z]; exact h.2.roads a b
theorem read_Market_take1 {K : PySem.W.Frag} {C : Cl} (ds : List D) (S : Store) (Q : QD) (Ex : Value → Store → Prop) (h : sp_Market_take1 C ds S Q Ex) : r_Market_take1 K C (ends0 Q) (start ["self", "one", "other", "first"] ds) S := by
  obtain ⟨r, m, one, other, rfl, hS, ok, hsh, h1, h2, hne, hcoins, q⟩ := h
  have hr : one < m.n ∧ other < m.n ∧ one ≠ other := ⟨h1, h2, hne⟩
  have hL : S r (.mRo one other) = some (.lst ((m.roads one other).map encPar)) := by rw [hS]; exact road_at hr
  refine ⟨_, rfl, r, .mI, _, _, rfl, by rw [hS]; rfl, rfl, _, rfl, _, rfl, t2, .inr ⟨_, at_roads hS hr, _, .seq (ds := (m.roads one other).map encPar) hL, ?_⟩⟩
  cases e : m.roads one other with
  | nil =>
    have et : take1 m one other = m := by unfold take1; rw [e]
    rw [et, setR_self hS] at q
    exact iteF (.here q)
  | cons p rest =>
    cases p with
    | mark k => exact (hcoins (.mark k) (by rw [e]; exact List.mem_cons_self)).elim
    | coins a num =>
      refine iteT ?_
      rw [e, List.map_cons] at hL
      refine ⟨_, rfl, r, .mI, _, _, rfl, by rw [hS]; rfl, rfl, _, rfl, _, rfl, t2, .inr ⟨_, at_roads hS hr, ⟨_, hL⟩, _, _, _, _, rfl, rfl, hL, .here ?_⟩⟩
      rw [set_R, hS, encM, enc_mRo hr]
      refine ⟨_, rfl, .inl ⟨_, _, _, rfl, rfl, rfl, _, rfl, _, rfl, iteF ?_⟩⟩
      refine ⟨_, rfl, r, .mI, _, rfl, by rw [setR_same]; rfl, rfl, _, rfl, _, rfl, _, rfl, .inl ⟨_, _, _, rfl, rfl, rfl, _, rfl, .inl ⟨_, _, _, rfl, rfl, rfl, ?_⟩⟩⟩
      refine ⟨r, { m with roads := up2 m.roads one other rest }, one, other, a, num, rfl, by rw [setR_same]; rfl, ok_roads ok e, hsh, h2, fun k hk => ?_, ?_⟩
      · subst hk
        exact ok.1.rv one other a k (by rw [e]; exact List.mem_cons_self)
      · have et : take1 m one other = parcelM { m with roads := up2 m.roads one other rest } one other a num := by unfold take1; rw [e]
        rw [setR_setR, ← et]
        exact .here q
end SS
namespace SS
open PySem L2
/-! ### the law's market by hand -/
structure Hd where
  n : Nat
  coins : List Int
  roads : Nat → Nat → List Par
  log : List Ev
  shots : List Sh
  counts : List Int
def who (e : Ev) : Nat := if e.give then e.one else e.other
def cnt (l : List Ev) (i : Nat) : Int := ((l.countP fun e => decide (who e = i) : Nat) : Int)
def cnts (n : Nat) (l : List Ev) : List Int := (List.range n).map (cnt l)
def absH (m : Mkt) : Hd := ⟨m.n, m.purses, m.roads, m.told, m.shots, cnts m.n m.told⟩
def hFs (r : Nat) : List (Key × D) := [(.inr "coins", .loc r .hC), (.inr "roads", .loc r .hR), (.inr "log", .loc r .hL), (.inr "shots", .loc r .hS), (.inr "counts", .loc r .hN)]
def gFs (r k : Nat) : List (Key × D) := [(.inr "coins", .loc r (.gC k)), (.inr "cut", .loc r (.gCut k)), (.inr "watch", .loc r (.gWa k)), (.inr "lying", .loc r (.gLy k))]
def hroadsD (r n : Nat) : LO := .dT ((pairs n).map fun p => (pk p, .loc r (.hRo p.1 p.2)))
def glyingD (r n k : Nat) : LO := .dT ((pairs n).map fun p => (pk p, .loc r (.gLi k p.1 p.2)))
def encG (r : Nat) (h : Hd) (v : Nat) : Reg
  | .hT => some (.dK (hFs r))
  | .hC => some (lints h.coins)
  | .hR => some (hroadsD r h.n)
  | .hRo a b => if a < h.n ∧ b < h.n ∧ a ≠ b then some (.lst ((h.roads a b).map encPar2)) else none
  | .hL => some (.lst (h.log.map encEv))
  | .hN => some (lints h.counts)
  | .hS => some (.lst ((List.range v).map fun k => .loc r (.gT k)))
  | .gT k => if k < h.shots.length then some (.dK (gFs r k)) else none
  | .gC k => (h.shots[k]?).map fun s => .lst (s.written.map encOI)
  | .gCut k => (h.shots[k]?).map fun s => .lst (s.cut.map encOI)
  | .gWa k => (h.shots[k]?).map fun s => watchD s.watched
  | .gLy k => if k < h.shots.length then some (glyingD r h.n k) else none
  | .gLi k a b => if a < h.n ∧ b < h.n ∧ a ≠ b then (h.shots[k]?).map fun s => lints (s.lying a b) else none
  | _ => none
def encH (r : Nat) (m : Mkt) : Reg := encG r (absH m) m.shots.length
section
variable {r : Nat} {h : Hd} {v : Nat}
theorem enc_hC (ps : List Int) : fset (encG r h v) .hC (lints ps) = encG r { h with coins := ps } v := by
  funext f; cases f <;> simp [fset, encG]
theorem enc_hRo {a b : Nat} (hr : a < h.n ∧ b < h.n ∧ a ≠ b) (ps : List Par) : fset (encG r h v) (.hRo a b) (.lst (ps.map encPar2)) = encG r { h with roads := up2 h.roads a b ps } v := by
  funext f; cases f <;> simp only [fset, encG, reduceCtorEq, if_false, Fld.hRo.injEq]
  rename_i x y
  by_cases e : x = a ∧ y = b
  · obtain ⟨rfl, rfl⟩ := e
    rw [if_pos ⟨rfl, rfl⟩, if_pos hr, up2_same]
  · rw [if_neg e, up2_ne e]
theorem enc_hL (l : List Ev) : fset (encG r h v) .hL (.lst (l.map encEv)) = encG r { h with log := l } v := by
  funext f; cases f <;> simp [fset, encG]
theorem enc_hN (l : List Int) : fset (encG r h v) .hN (lints l) = encG r { h with counts := l } v := by
  funext f; cases f <;> simp [fset, encG]
end
/-- numbers of events are not there by hand -/
theorem encG_congr {r v : Nat} {h h' : Hd} (e1 : h.n = h'.n) (e2 : h.coins = h'.coins) (e3 : ∀ a b, (h.roads a b).map encPar2 = (h'.roads a b).map encPar2) (e4 : h.log = h'.log) (e5 : h.shots = h'.shots) (e6 : h.counts = h'.counts) : encG r h v = encG r h' v := by
  obtain ⟨n, c, ro, l, s, k⟩ := h
  obtain ⟨n', c', ro', l', s', k'⟩ := h'
  dsimp only at e1 e2 e3 e4 e5 e6
  subst e1 e2 e4 e5 e6
  funext f
  cases f <;> simp only [encG]
  rw [e3]
/-! ### an act, as it ends -/
def step1 (m : Mkt) : Act → D × Mkt
  | .give a b x => if x > m.purses.getD a 0 then (.str "no coins", m) else (.non, giveM m a b x)
  | .take a b => (.non, take1 m a b)
  | .begin _ => (.non, m)
def ActOk (n : Nat) : Act → Prop
  | .give a b _ => a < n ∧ b < n ∧ a ≠ b
  | .take a b => a < n ∧ b < n ∧ a ≠ b
  | .begin a => a < n
def NoBegin : Act → Prop
  | .begin _ => False
  | _ => True
/-- no picture, no mark -/
def Plain (m : Mkt) : Prop := m.shots = [] ∧ ∀ a b, ∀ p ∈ m.roads a b, isCoins p
def sp_law_new (C : Cl) : LSp := fun ds S Q _ => ∃ coins : List Int, ds = [.tup (coins.map D.int)] ∧ 2 ≤ coins.length ∧ coins.length ≤ 5 ∧ ∀ r, (∀ f, S r f = none) → Q (.loc r .hT) (S.setR r (encH r (newM coins)))
def sp_law_event (C : Cl) : LSp := fun ds S Q _ => ∃ (r v : Nat) (h : Hd) (e : Ev) (i : Nat), ds = [.loc r .hT, encEv e, .int i] ∧ S r = encG r h v ∧ i < h.counts.length ∧ h.log.length < 100000 ∧
  Q .non (S.setR r (encG r { h with log := h.log ++ [e], counts := h.counts.set i (h.counts.getD i 0 + 1) } v))
def sp_law_take1 (C : Cl) : LSp := fun ds S Q _ => ∃ (r : Nat) (m : Mkt) (one other : Nat), ds = [.loc r .hT, .int one, .int other] ∧ S r = encH r m ∧ WF m ∧ Small m 1000 ∧ Plain m ∧ one < m.n ∧ other < m.n ∧ one ≠ other ∧ Q .non (S.setR r (encH r (take1 m one other)))
def sp_law_by_hand1 (C : Cl) : LSp := fun ds S Q _ => ∃ (r : Nat) (m : Mkt) (act : Act), ds = [.loc r .hT, encAct act] ∧ S r = encH r m ∧ WF m ∧ Small m 1000 ∧ Plain m ∧ ActOk m.n act ∧ NoBegin act ∧ Q (step1 m act).1 (S.setR r (encH r (step1 m act).2))
def sp_law_do1 (C : Cl) : LSp := fun ds S Q _ => ∃ (r : Nat) (m : Mkt) (act : Act), ds = [.loc r .mI, encAct act] ∧ S r = encM C r m ∧ WF m ∧ Small m 1000 ∧ Plain m ∧ ActOk m.n act ∧ NoBegin act ∧ Q (step1 m act).1 (S.setR r (encM C r (step1 m act).2))
def roadsOf (m : Mkt) : List D := (pairs m.n).map fun p => .tup ((m.roads p.1 p.2).map encPar2)
def sp_law_roads (C : Cl) : LSp := fun ds S Q _ => ∃ (r : Nat) (m : Mkt), ds = [.loc r .mI, .int m.n] ∧ S r = encM C r m ∧ Ok m ∧ newTmp (roadsOf m) S Q
def sp_law1 (C : Cl) : LSp := fun ds S Q _ => ∃ ns : List Int, ds = [.rol ns] ∧ ns.length ≤ 63 ∧ Q (.bl true) S
end SS
namespace SS
open PySem L2
/-- _law_new: slots 0 coins 1 roads 2 pair 3 coin -/
def r_law_new (K : PySem.W.Frag) (C : Cl) : LTS :=
  (rSeq (rSet 1 (rDct (newF .hR) (.dT []))) (rSeq (rFor (iLst (rDef (sp_law_pairs C) (rCons (rCall dLen (rCons (rVar 0) rNil)) rNil))) (.nm 2) (rSub (rVar 1) (rVar 2) (rLst (newA) rNil))) (rRet (rDisp (newA) [((rC (.str "coins")), (rCall (dList (newA)) (rCons (rVar 0) rNil))), ((rC (.str "roads")), (rVar 1)), ((rC (.str "log")), (rLst (newA) rNil)), ((rC (.str "shots")), (rLst (newA) rNil)), ((rC (.str "counts")), (rLc (newA) (iTp (rVar 0)) (.nm 3) rYes (rC (.int 0))))]))))
/-- _law_event: slots 0 hand 1 event 2 member -/
def r_law_event (K : PySem.W.Frag) (C : Cl) : LTS :=
  (rSeq (rDrop (rBM isL mAppend (rOp ixD (rVar 0) (rC (.str "log"))) (rCons (rVar 1) rNil))) (rSub (rOp ixD (rVar 0) (rC (.str "counts"))) (rVar 2) (rOp oAdd (rOp ixD (rOp ixD (rVar 0) (rC (.str "counts"))) (rVar 2)) (rC (.int 1)))))
/-- _law_take: slots 0 hand 1 one 2 other 3 kind 4 amount 5 shot -/
def r_law_take1 (K : PySem.W.Frag) (C : Cl) : LTS :=
  (rSeq (rIf (rNot (rTru (rOp ixD (rOp ixD (rVar 0) (rC (.str "roads"))) (rTup (rCons (rVar 1) (rCons (rVar 2) rNil)))))) (rRet (rC .non)) rNext) (rSeq (rUnp (.tp [3, 4]) (rBM isL mPop0 (rOp ixD (rOp ixD (rVar 0) (rC (.str "roads"))) (rTup (rCons (rVar 1) (rCons (rVar 2) rNil)))) (rCons (rC (.int 0)) rNil))) (rSeq (rIf (rTest (rOp oEq (rVar 3) (rC (.str "coins")))) (rSeq (rSub (rOp ixD (rVar 0) (rC (.str "coins"))) (rVar 2) (rOp oAdd (rOp ixD (rOp ixD (rVar 0) (rC (.str "coins"))) (rVar 2)) (rVar 4))) (rSeq (rDrop (rDef (sp_law_event C) (rCons (rVar 0) (rCons (rTup (rCons (rC (.str "take")) (rCons (rVar 1) (rCons (rVar 2) (rCons (rVar 4) rNil))))) (rCons (rVar 2) rNil))))) (rFor (iLst (rOp ixD (rVar 0) (rC (.str "shots")))) (.nm 5) rNever))) rNever) (rRet (rC .non)))))
/-- _law_by_hand: slots 0 hand 1 act -/
def r_law_by_hand1 (K : PySem.W.Frag) (C : Cl) : LTS :=
  (rSeq (rIf (rTest (rOp oEq (rOp ixD (rVar 1) (rC (.int 0))) (rC (.str "begin")))) rNever rNext) (rSeq (rIf (rTest (rOp oEq (rOp ixD (rVar 1) (rC (.int 0))) (rC (.str "take")))) (rRet (rDef (sp_law_take1 C) (rCons (rVar 0) (rCons (rOp ixD (rVar 1) (rC (.int 1))) (rCons (rOp ixD (rVar 1) (rC (.int 2))) rNil))))) rNext) (rSeq (rIf (rTest (rOp oGt (rOp ixD (rVar 1) (rC (.int 3))) (rOp ixD (rOp ixD (rVar 0) (rC (.str "coins"))) (rOp ixD (rVar 1) (rC (.int 1)))))) (rRet (rC (.str "no coins"))) rNext) (rSeq (rSub (rOp ixD (rVar 0) (rC (.str "coins"))) (rOp ixD (rVar 1) (rC (.int 1))) (rOp oSub (rOp ixD (rOp ixD (rVar 0) (rC (.str "coins"))) (rOp ixD (rVar 1) (rC (.int 1)))) (rOp ixD (rVar 1) (rC (.int 3))))) (rSeq (rDrop (rBM isL mAppend (rOp ixD (rOp ixD (rVar 0) (rC (.str "roads"))) (rTup (rCons (rOp ixD (rVar 1) (rC (.int 1))) (rCons (rOp ixD (rVar 1) (rC (.int 2))) rNil)))) (rCons (rTup (rCons (rC (.str "coins")) (rCons (rOp ixD (rVar 1) (rC (.int 3))) rNil))) rNil))) (rSeq (rDrop (rDef (sp_law_event C) (rCons (rVar 0) (rCons (rTup (rCons (rC (.str "give")) (rCons (rOp ixD (rVar 1) (rC (.int 1))) (rCons (rOp ixD (rVar 1) (rC (.int 2))) (rCons (rOp ixD (rVar 1) (rC (.int 3))) rNil))))) (rCons (rOp ixD (rVar 1) (rC (.int 1))) rNil))))) (rRet (rC .non))))))))
/-- _law_do: slots 0 market 1 act 2 told -/
def r_law_do1 (K : PySem.W.Frag) (C : Cl) : LTS :=
  (rSeq (rSet 2 (rC .non)) (rSeq (rTry K (.ref C.noCoins) (rIf (rTest (rOp oEq (rOp ixD (rVar 1) (rC (.int 0))) (rC (.str "give")))) (rSet 2 (rMethX C.m "give" (sp_Market_give C) (rVar 0) (rCons (rOp ixD (rVar 1) (rC (.int 1))) (rCons (rOp ixD (rVar 1) (rC (.int 2))) (rCons (rOp ixD (rVar 1) (rC (.int 3))) rNil))))) (rIf (rTest (rOp oEq (rOp ixD (rVar 1) (rC (.int 0))) (rC (.str "take")))) (rSet 2 (rMeth C.m "take" (sp_Market_take1 C) (rVar 0) (rCons (rOp ixD (rVar 1) (rC (.int 1))) (rCons (rOp ixD (rVar 1) (rC (.int 2))) rNil)))) rNever)) (rSet 2 (rC (.str "no coins")))) (rRet (rVar 2))))
/-- _law_roads: slots 0 market 1 many 2 one 3 other -/
def r_law_roads (K : PySem.W.Frag) (C : Cl) : LTS :=
  (rRet (rLc (newF .tmp) (iLst (rDef (sp_law_pairs C) (rCons (rVar 1) rNil))) (.tp [2, 3]) rYes (rMeth C.m "road" (sp_Market_road C) (rVar 0) (rCons (rVar 2) (rCons (rVar 3) rNil)))))
/-- law: slots 0 script 1 coins 2 market 3 hand 4 many 5 act 6 found 7 one 8 pair -/
def r_law1 (K : PySem.W.Frag) (C : Cl) : LTS :=
  (rSeq (rSet 1 (rDef (sp_law_coins C) (rCons (rVar 0) rNil))) (rSeq (rSet 2 (rMake (newF .mI) C.m (sp_Market_init C) (rCons (rVar 1) rNil))) (rSeq (rSet 3 (rDef (sp_law_new C) (rCons (rVar 1) rNil))) (rSeq (rSet 4 (rCall dLen (rCons (rVar 1) rNil))) (rSeq (rFor (iLst (rDef (sp_law_acts C) (rCons (rVar 0) (rCons (rC (.bl false)) rNil)))) (.nm 5) (rSeq (rIf (rTest (rOp oNeD (rDef (sp_law_do1 C) (rCons (rVar 2) (rCons (rVar 5) rNil))) (rDef (sp_law_by_hand1 C) (rCons (rVar 3) (rCons (rVar 5) rNil))))) (rRet (rC (.bl false))) rNext) (rSeq (rSet 6 (rMeth0 C.m "coins" (sp_Market_coins C) (rVar 2))) (rSeq (rIf (rOr (rNot (rTest (rCall (dIsi K (.ty "tuple") (.type "tuple")) (rCons (rVar 6) (rCons (rC (.raw (.ty "tuple"))) rNil))))) (rOr (rTest (rOp oNeD (rCall (dList (newF .tmp)) (rCons (rVar 6) rNil)) (rOp ixD (rVar 3) (rC (.str "coins"))))) (rNot (rTest (rCall dAll (rCons (rLc (newF .tmp) (iTp (rVar 6)) (.nm 7) rYes (rDef (sp_law_whole C) (rCons (rVar 7) rNil))) rNil)))))) (rRet (rC (.bl false))) rNext) (rSeq (rIf (rTest (rOp oNeD (rDef (sp_law_roads C) (rCons (rVar 2) (rCons (rVar 4) rNil))) (rLc (newF .tmp) (iLst (rDef (sp_law_pairs C) (rCons (rVar 4) rNil))) (.nm 8) rYes (rCall dTuple (rCons (rOp ixD (rOp ixD (rVar 3) (rC (.str "roads"))) (rVar 8)) rNil))))) (rRet (rC (.bl false))) rNext) (rIf (rOr (rNot (rTest (rDef (sp_law_whole C) (rCons (rMeth0 C.m "total" (sp_Market_total C) (rVar 2)) rNil)))) (rTest (rOp oNe (rMeth0 C.m "total" (sp_Market_total C) (rVar 2)) (rCall dSum (rCons (rVar 1) rNil))))) (rRet (rC (.bl false))) rNext)))))) (rRet (rC (.bl true))))))))
end SS
namespace SS
open PySem L2
section
variable {S : Store} {r v : Nat} {h : Hd}
theorem at_hC (hS : S r = encG r h v) : DAt S (.loc r .hT) (.str "coins") (some (.loc r .hC)) := DAt.k (k := .inr "coins") (kvs := hFs r) (.inl (by rw [hS]; rfl))
theorem at_hR (hS : S r = encG r h v) : DAt S (.loc r .hT) (.str "roads") (some (.loc r .hR)) := DAt.k (k := .inr "roads") (kvs := hFs r) (.inl (by rw [hS]; rfl))
theorem at_hL (hS : S r = encG r h v) : DAt S (.loc r .hT) (.str "log") (some (.loc r .hL)) := DAt.k (k := .inr "log") (kvs := hFs r) (.inl (by rw [hS]; rfl))
theorem at_hS (hS : S r = encG r h v) : DAt S (.loc r .hT) (.str "shots") (some (.loc r .hS)) := DAt.k (k := .inr "shots") (kvs := hFs r) (.inl (by rw [hS]; rfl))
theorem at_hN (hS : S r = encG r h v) : DAt S (.loc r .hT) (.str "counts") (some (.loc r .hN)) := DAt.k (k := .inr "counts") (kvs := hFs r) (.inl (by rw [hS]; rfl))
theorem hroads_at {r n a b : Nat} (hr : a < n ∧ b < n ∧ a ≠ b) : dget ((pairs n).map fun p => (pk p, D.loc r (.hRo p.1 p.2))) (pk (a, b)) = some (.loc r (.hRo a b)) :=
  dget_map (fun p => D.loc r (.hRo p.1 p.2)) (mem_pairs.mpr hr)
theorem at_hroads {a b : Nat} (hS : S r = encG r h v) (hr : a < h.n ∧ b < h.n ∧ a ≠ b) : DAt S (.loc r .hR) (.tup [.int a, .int b]) (some (.loc r (.hRo a b))) := by
  have := DAt.t (S := S) (r := r) (f := .hR) (ks := pk (a, b)) (kvs := (pairs h.n).map fun p => (pk p, D.loc r (.hRo p.1 p.2))) (.inl (by rw [hS]; rfl))
  rw [hroads_at hr] at this
  exact this
theorem hroad_at {a b : Nat} (hr : a < h.n ∧ b < h.n ∧ a ≠ b) : encG r h v (.hRo a b) = some (.lst ((h.roads a b).map encPar2)) := if_pos hr
end
theorem read_law_event {K : PySem.W.Frag} {C : Cl} (ds : List D) (S : Store) (Q : QD) (Ex : Value → Store → Prop) (h : sp_law_event C ds S Q Ex) : r_law_event K C (ends0 Q) (start ["hand", "event", "member"] ds) S := by
  obtain ⟨r, v, h, e, i, rfl, hS, hi, hl, q⟩ := h
  have hL : S r .hL = some (.lst (h.log.map encEv)) := by rw [hS]; rfl
  refine ⟨_, rfl, .inr ⟨_, at_hL hS, ⟨_, hL⟩, _, rfl, _, _, _, _, rfl, rfl, hL, by rw [List.length_map]; exact szl _ (by omega), .here ?_⟩⟩
  rw [set_R, hS, show h.log.map encEv ++ [encEv e] = (h.log ++ [e]).map encEv by rw [List.map_append]; rfl, enc_hL]
  generalize hh : ({ h with log := h.log ++ [e] } : Hd) = h1
  have ec : h1.counts = h.counts := by rw [← hh]
  have hS1 : (S.setR r (encG r h1 v)) r = encG r h1 v := setR_same
  have hc : h1.counts[i]? = some (h1.counts.getD i 0) := getD_at (by rw [ec]; exact hi) _
  refine ⟨_, rfl, .inr ⟨_, at_hN hS1, _, rfl, .inl ⟨h1.counts.map D.int, _, .int (h1.counts.getD i 0), by show _ = _; rw [hS1]; rfl, rfl, atI_nat (by rw [List.getElem?_map, hc]; rfl), _, _, rfl, rfl, _, rfl, .inr ⟨_, at_hN hS1, _, rfl, _, .l (ds := h1.counts.map D.int) (by rw [hS1]; rfl) (ixN_nat (by rw [List.length_map, ec]; exact hi)), ?_⟩⟩⟩⟩
  rw [← List.map_set, setR_set, show LO.lst ((h1.counts.set i (h1.counts.getD i 0 + 1)).map D.int) = lints (h1.counts.set i (h1.counts.getD i 0 + 1)) from rfl, enc_hN]
  rw [← hh]
  exact .here q
theorem cnts_step (n : Nat) (l : List Ev) (e : Ev) (h : who e < n) : (cnts n l).set (who e) ((cnts n l).getD (who e) 0 + 1) = cnts n (l ++ [e]) := by
  unfold cnts
  refine List.ext_getElem? fun j => ?_
  rw [List.getElem?_set, List.length_map, List.length_range]
  by_cases hj : who e = j
  · subst hj
    rw [if_pos rfl, if_pos h, List.getD_eq_getElem?_getD, List.getElem?_map, List.getElem?_map, List.getElem?_range h]
    simp [cnt, List.countP_append]
  · rw [if_neg hj, List.getElem?_map, List.getElem?_map]
    by_cases hn : j < n
    · rw [List.getElem?_range hn]
      simp [cnt, List.countP_append, hj]
    · rw [List.getElem?_eq_none (by simp; omega)]; rfl
theorem absH_n (m : Mkt) : (absH m).n = m.n := rfl
theorem cnts_len (n : Nat) (l : List Ev) : (cnts n l).length = n := by simp [cnts]
theorem read_law_take1 {K : PySem.W.Frag} {C : Cl} (ds : List D) (S : Store) (Q : QD) (Ex : Value → Store → Prop) (h : sp_law_take1 C ds S Q Ex) : r_law_take1 K C (ends0 Q) (start ["hand", "one", "other", "kind", "amount", "shot"] ds) S := by
  obtain ⟨r, m, one, other, rfl, hS, hw, hsm, ⟨hsh, hco⟩, h1, h2, hne, q⟩ := h
  have hr : one < (absH m).n ∧ other < (absH m).n ∧ one ≠ other := ⟨h1, h2, hne⟩
  have hL : S r (.hRo one other) = some (.lst ((m.roads one other).map encPar2)) := by rw [hS]; exact hroad_at hr
  have hsl : m.shots.length = 0 := by rw [hsh]; rfl
  refine ⟨_, rfl, .inr ⟨_, at_hR hS, _, rfl, _, rfl, t2, .inr ⟨_, at_hroads hS hr, _, .seq (ds := (m.roads one other).map encPar2) hL, ?_⟩⟩⟩
  cases e : m.roads one other with
  | nil =>
    have et : take1 m one other = m := by unfold take1; rw [e]
    rw [et, setR_self hS] at q
    exact iteT (.here q)
  | cons p rest =>
    cases p with
    | mark k => exact (hco one other (.mark k) (by rw [e]; exact List.mem_cons_self)).elim
    | coins a num =>
      refine iteF (.here ?_)
      rw [e, List.map_cons] at hL
      refine ⟨_, rfl, .inr ⟨_, at_hR hS, _, rfl, _, rfl, t2, .inr ⟨_, at_hroads hS hr, ⟨_, hL⟩, _, _, _, _, rfl, rfl, hL, ?_⟩⟩⟩
      rw [set_R, hS, encH, enc_hRo hr]
      refine ⟨_, rfl, rfl, .here ?_⟩
      refine ⟨_, rfl, _, rfl, _, rfl, iteT ?_⟩
      generalize hh : ({ absH m with roads := up2 (absH m).roads one other rest } : Hd) = h1'
      have hS1 : (S.setR r (encG r h1' m.shots.length)) r = encG r h1' m.shots.length := setR_same
      have ec : h1'.coins = m.purses := by rw [← hh]; rfl
      have hc : h1'.coins[other]? = some (m.purses.getD other 0) := by rw [ec]; exact getD_at (by rw [hw.pl]; exact h2) _
      refine ⟨_, rfl, .inr ⟨_, at_hC hS1, _, rfl, .inl ⟨h1'.coins.map D.int, _, .int (m.purses.getD other 0), by show _ = _; rw [hS1]; rfl, rfl, atI_nat (by rw [List.getElem?_map, hc]; rfl), _, rfl, _, _, rfl, rfl, _, rfl, .inr ⟨_, at_hC hS1, _, rfl, _, .l (ds := h1'.coins.map D.int) (by rw [hS1]; rfl) (ixN_nat (by rw [List.length_map, ec, hw.pl]; exact h2)), .here ?_⟩⟩⟩⟩
      rw [← List.map_set, setR_set, show LO.lst ((h1'.coins.set other (m.purses.getD other 0 + a)).map D.int) = lints (h1'.coins.set other (m.purses.getD other 0 + a)) from rfl, enc_hC]
      refine ⟨_, rfl, _, rfl, _, rfl, _, rfl, t4, _, rfl, ?_⟩
      refine ⟨r, m.shots.length, _, ⟨false, one, other, a⟩, other, rfl, setR_same, ?_, ?_, .here ?_⟩
      · rw [← hh]; show other < (cnts m.n m.told).length; rw [cnts_len]; exact h2
      · rw [← hh]; show m.told.length < _; have := hsm.told; omega
      rw [setR_setR]
      have eF : encG r { h1' with coins := h1'.coins.set other (m.purses.getD other 0 + a), log := h1'.log ++ [⟨false, one, other, a⟩], counts := h1'.counts.set other (h1'.counts.getD other 0 + 1) } m.shots.length = encH r (take1 m one other) := by
        have et : take1 m one other = parcelM { m with roads := up2 m.roads one other rest } one other a num := by unfold take1; rw [e]
        have en : (parcelM { m with roads := up2 m.roads one other rest } one other a num).shots.length = m.shots.length := by
          show (m.shots.map _).length = _; rw [List.length_map]
        rw [et, encH, en, ← hh]
        refine encG_congr rfl rfl (fun _ _ => rfl) rfl ?_ (cnts_step m.n m.told ⟨false, one, other, a⟩ h2)
        show m.shots = m.shots.map _
        rw [hsh]; rfl
      rw [eF]
      have hz : ∀ m' : Mkt, m'.shots.length = 0 → encH r m' .hS = some (.lst []) := fun m' h => by
        show some (LO.lst ((List.range m'.shots.length).map _)) = _
        rw [h]; rfl
      have hz' : (take1 m one other).shots.length = 0 := by
        have et : take1 m one other = parcelM { m with roads := up2 m.roads one other rest } one other a num := by unfold take1; rw [e]
        rw [et]; show (m.shots.map _).length = _; rw [List.length_map]; exact hsl
      have hS2 : (S.setR r (encH r (take1 m one other))) r = encG r (absH (take1 m one other)) (take1 m one other).shots.length := setR_same
      refine ⟨_, rfl, .inr ⟨_, at_hS hS2, [], by show _ = _; rw [setR_same]; exact hz _ hz', ?_⟩⟩
      refine ⟨fun i env S' => S' = S.setR r (encH r (take1 m one other)), .here rfl, ?_, ?_⟩
      · intro i d env S' hd; cases hd
      rintro env S' rfl
      refine ⟨by show _ = _; rw [setR_same]; exact hz _ hz', .here (.here q)⟩
end SS
namespace SS
open PySem L2
theorem small_ok {m : Mkt} (h : WF m) (s : Small m 1000) : Ok m := ⟨h, ⟨by have := s.told; omega, fun a b => by have := s.roads a b; omega, by have := s.shots; omega⟩⟩
theorem read_law_by_hand1 {K : PySem.W.Frag} {C : Cl} (ds : List D) (S : Store) (Q : QD) (Ex : Value → Store → Prop) (h : sp_law_by_hand1 C ds S Q Ex) : r_law_by_hand1 K C (ends0 Q) (start ["hand", "act"] ds) S := by
  obtain ⟨r, m, act, rfl, hS, hw, hsm, hp, hact, hnb, q⟩ := h
  cases act with
  | begin a => exact hnb.elim
  | take a b =>
    refine ⟨_, rfl, .inl ⟨_, _, _, rfl, rfl, rfl, _, rfl, _, rfl, iteF (.here ?_)⟩⟩
    refine ⟨_, rfl, .inl ⟨_, _, _, rfl, rfl, rfl, _, rfl, _, rfl, iteT ?_⟩⟩
    refine ⟨_, rfl, _, rfl, .inl ⟨_, _, _, rfl, rfl, rfl, _, rfl, .inl ⟨_, _, _, rfl, rfl, rfl, ?_⟩⟩⟩
    exact ⟨r, m, a, b, rfl, hS, hw, hsm, hp, hact.1, hact.2.1, hact.2.2, .here q⟩
  | give a b x =>
    obtain ⟨h1, h2, hne⟩ := hact
    have hr : a < (absH m).n ∧ b < (absH m).n ∧ a ≠ b := ⟨h1, h2, hne⟩
    refine ⟨_, rfl, .inl ⟨_, _, _, rfl, rfl, rfl, _, rfl, _, rfl, iteF (.here ?_)⟩⟩
    refine ⟨_, rfl, .inl ⟨_, _, _, rfl, rfl, rfl, _, rfl, _, rfl, iteF (.here ?_)⟩⟩
    have hc : m.purses[a]? = some (m.purses.getD a 0) := getD_at (by rw [hw.pl]; exact h1) _
    refine ⟨_, rfl, .inl ⟨_, _, _, rfl, rfl, rfl, _, rfl, .inr ⟨_, at_hC hS, _, rfl, .inl ⟨_, _, _, rfl, rfl, rfl, .inl ⟨m.purses.map D.int, _, .int (m.purses.getD a 0), by show _ = _; rw [hS]; rfl, rfl, atI_nat (by rw [List.getElem?_map, hc]; rfl), _, _, rfl, rfl, _, rfl, ifD (fun hgt => ?_) fun hgt => .here ?_⟩⟩⟩⟩⟩
    · have e : step1 m (.give a b x) = (.str "no coins", m) := if_pos hgt
      rw [e, setR_self hS] at q
      exact .here q
    have e : step1 m (.give a b x) = (.non, giveM m a b x) := if_neg hgt
    rw [e] at q
    refine ⟨_, rfl, .inr ⟨_, at_hC hS, _, rfl, .inl ⟨_, _, _, rfl, rfl, rfl, .inl ⟨m.purses.map D.int, _, .int (m.purses.getD a 0), by show _ = _; rw [hS]; rfl, rfl, atI_nat (by rw [List.getElem?_map, hc]; rfl), _, rfl, .inl ⟨_, _, _, rfl, rfl, rfl, _, _, rfl, rfl, _, rfl, .inr ⟨_, at_hC hS, _, rfl, .inl ⟨_, _, _, rfl, rfl, rfl, _, .l (ds := m.purses.map D.int) (by rw [hS]; rfl) (ixN_nat (by rw [List.length_map, hw.pl]; exact h1)), .here ?_⟩⟩⟩⟩⟩⟩⟩
    rw [← List.map_set, set_R, hS, show LO.lst ((m.purses.set a (m.purses.getD a 0 - x)).map D.int) = lints (m.purses.set a (m.purses.getD a 0 - x)) from rfl, encH, enc_hC]
    generalize hh : ({ absH m with coins := m.purses.set a (m.purses.getD a 0 - x) } : Hd) = h1'
    have hS1 : (S.setR r (encG r h1' m.shots.length)) r = encG r h1' m.shots.length := setR_same
    have hr' : a < h1'.n ∧ b < h1'.n ∧ a ≠ b := by rw [← hh]; exact hr
    have hL : (S.setR r (encG r h1' m.shots.length)) r (.hRo a b) = some (.lst ((m.roads a b).map encPar2)) := by rw [hS1, ← hh]; exact hroad_at hr
    refine ⟨_, rfl, .inr ⟨_, at_hR hS1, _, rfl, .inl ⟨_, _, _, rfl, rfl, rfl, _, rfl, .inl ⟨_, _, _, rfl, rfl, rfl, t2, .inr ⟨_, at_hroads hS1 hr', ⟨_, hL⟩, _, rfl, .inl ⟨_, _, _, rfl, rfl, rfl, t2, _, _, _, _, rfl, rfl, hL, ?_, .here ?_⟩⟩⟩⟩⟩⟩
    · rw [List.length_map]; have := hsm.roads a b; exact szl _ (by omega)
    have e3 : (m.roads a b).map encPar2 ++ [.tup [.str "coins", .int x]] = (m.roads a b ++ [Par.coins x none]).map encPar2 := by rw [List.map_append]; rfl
    rw [e3, setR_set, enc_hRo hr']
    refine ⟨_, rfl, _, rfl, .inl ⟨_, _, _, rfl, rfl, rfl, _, rfl, .inl ⟨_, _, _, rfl, rfl, rfl, _, rfl, .inl ⟨_, _, _, rfl, rfl, rfl, t4, _, rfl, .inl ⟨_, _, _, rfl, rfl, rfl, ?_⟩⟩⟩⟩⟩
    refine ⟨r, m.shots.length, _, ⟨true, a, b, x⟩, a, rfl, setR_same, ?_, ?_, .here (.here ?_)⟩
    · rw [← hh]; show a < (cnts m.n m.told).length; rw [cnts_len]; exact h1
    · rw [← hh]; show m.told.length < _; have := hsm.told; omega
    rw [setR_setR]
    have eF : encG r { h1' with roads := up2 h1'.roads a b (m.roads a b ++ [Par.coins x none]), log := h1'.log ++ [⟨true, a, b, x⟩], counts := h1'.counts.set a (h1'.counts.getD a 0 + 1) } m.shots.length = encH r (giveM m a b x) := by
      rw [encH, ← hh]
      refine encG_congr rfl rfl (fun c d => ?_) rfl rfl (cnts_step m.n m.told ⟨true, a, b, x⟩ h1)
      show (up2 m.roads a b _ c d).map encPar2 = (up2 m.roads a b _ c d).map encPar2
      by_cases z : c = a ∧ d = b
      · obtain ⟨rfl, rfl⟩ := z
        rw [up2_same, up2_same, List.map_append, List.map_append]; rfl
      · rw [up2_ne z, up2_ne z]
    rw [← eF] at q
    exact q
theorem read_law_do1 {K : PySem.W.Frag} {C : Cl} (hk : PySem.W.exmOne K (.ref C.noCoins) (.ref C.noCoins) = some true) (ds : List D) (S : Store) (Q : QD) (Ex : Value → Store → Prop) (h : sp_law_do1 C ds S Q Ex) : r_law_do1 K C (ends0 Q) (start ["market", "act", "told"] ds) S := by
  obtain ⟨r, m, act, rfl, hS, hw, hsm, ⟨hsh, hco⟩, hact, hnb, q⟩ := h
  refine .here ?_
  cases act with
  | begin a => exact hnb.elim
  | take a b =>
    obtain ⟨h1, h2, hne⟩ := hact
    refine ⟨_, rfl, .inl ⟨_, _, _, rfl, rfl, rfl, _, rfl, _, rfl, iteF ?_⟩⟩
    refine ⟨_, rfl, .inl ⟨_, _, _, rfl, rfl, rfl, _, rfl, _, rfl, iteT ?_⟩⟩
    refine ⟨_, rfl, r, .mI, _, rfl, by rw [hS]; rfl, rfl, _, rfl, .inl ⟨_, _, _, rfl, rfl, rfl, _, rfl, .inl ⟨_, _, _, rfl, rfl, rfl, ?_⟩⟩⟩
    exact ⟨r, m, a, b, rfl, hS, small_ok hw hsm, hsh, h1, h2, hne, hco a b, .here ⟨_, rfl, .here q⟩⟩
  | give a b x =>
    obtain ⟨h1, h2, hne⟩ := hact
    refine ⟨_, rfl, .inl ⟨_, _, _, rfl, rfl, rfl, _, rfl, _, rfl, iteT ?_⟩⟩
    refine ⟨_, rfl, r, .mI, _, rfl, by rw [hS]; rfl, rfl, _, rfl, .inl ⟨_, _, _, rfl, rfl, rfl, _, rfl, .inl ⟨_, _, _, rfl, rfl, rfl, _, rfl, .inl ⟨_, _, _, rfl, rfl, rfl, ?_⟩⟩⟩⟩
    refine ⟨r, m, a, b, x, rfl, hS, small_ok hw hsm, h1, h2, hne, fun hgt => ?_, fun hle => ?_⟩
    · have e : step1 m (.give a b x) = (.str "no coins", m) := if_pos hgt
      rw [e, setR_self hS] at q
      exact ⟨true, hk, fun _ => .here ⟨_, rfl, .here q⟩, fun z => nomatch z⟩
    · have e : step1 m (.give a b x) = (.non, giveM m a b x) := if_neg (by omega)
      rw [e] at q
      exact .here ⟨_, rfl, .here q⟩
theorem pair_at {n i : Nat} {x : D} (hx : ((pairs n).map pairD2)[i]? = some x) : ∃ a b : Nat, (a < n ∧ b < n ∧ a ≠ b) ∧ (pairs n)[i]? = some (a, b) ∧ x = .tup [.int a, .int b] := by
  rw [List.getElem?_map] at hx
  cases e : (pairs n)[i]? with
  | none => rw [e] at hx; cases hx
  | some p =>
    rw [e] at hx; cases hx
    exact ⟨p.1, p.2, mem_pairs.mp (List.mem_of_getElem? e), rfl, rfl⟩
theorem pairs_len (n : Nat) (h : n ≤ 5) : (pairs n).length ≤ 25 := by
  have := len_flat n (List.range n)
  rw [List.length_range] at this
  have h2 : n * n ≤ 5 * 5 := Nat.mul_le_mul h h
  unfold pairs; omega
theorem read_law_roads {K : PySem.W.Frag} {C : Cl} (ds : List D) (S : Store) (Q : QD) (Ex : Value → Store → Prop) (h : sp_law_roads C ds S Q Ex) : r_law_roads K C (ends0 Q) (start ["market", "many", "one", "other"] ds) S := by
  obtain ⟨r, m, rfl, hS, ok, q⟩ := h
  have n5 := ok.1.n5
  refine ⟨_, rfl, m.n, rfl, n5, fun rp hrp => ?_⟩
  have nrp : r ≠ rp := ne_fresh hrp (f := .mI) (by rw [hS]; simp [encM, encV])
  refine ⟨_, by show _ = _; rw [tmp_at], ?_⟩
  refine lcb_map (fun d => match d with | .tup [.int a, .int b] => .tup ((m.roads a.toNat b.toNat).map encPar2) | _ => .non) ?_ ?_ ?_ ?_
  · rw [List.length_map]; have := pairs_len m.n n5; exact szl _ (by omega)
  · intro r2 hr2 ds
    obtain ⟨n2, _⟩ := fresh2 hr2
    show _ = _
    rw [setR_ne (Ne.symm n2), tmp_at]
  · intro r2 hr2 i x ds P hx hP
    obtain ⟨n2, hr2'⟩ := fresh2 hr2
    obtain ⟨a, b, hr, _, rfl⟩ := pair_at hx
    have nr2 : r ≠ r2 := ne_fresh hr2' (f := .mI) (by rw [hS]; simp [encM, encV])
    refine ⟨_, rfl, rfl, ?_⟩
    refine ⟨_, rfl, r, .mI, _, rfl, by rw [setR_ne nr2, setR_ne nrp, hS]; rfl, rfl, _, rfl, _, rfl, ?_⟩
    exact ⟨r, m, a, b, rfl, by rw [setR_ne nr2, setR_ne nrp, hS], ok, hr.1, hr.2.1, hr.2.2, hP _ .refl⟩
  · intro r2 hr2
    obtain ⟨n2, hr2'⟩ := fresh2 hr2
    have e : ((pairs m.n).map pairD2).map (fun d => match d with | .tup [.int a, .int b] => D.tup ((m.roads a.toNat b.toNat).map encPar2) | _ => .non) = roadsOf m := by
      unfold roadsOf
      rw [List.map_map]
      congr 1
    rw [e]
    refine ⟨_, sub_set (sub_drop hrp), q r2 hr2'⟩
end SS
namespace SS
open PySem L2
def encHB (r : Nat) (l : List (Nat × Nat)) : Reg
  | .hR => some (.dT (l.map fun p => (pk p, .loc r (.hRo p.1 p.2))))
  | .hRo a b => if (a, b) ∈ l then some (.lst []) else none
  | _ => none
theorem encHB_put {r : Nat} {l : List (Nat × Nat)} {a b : Nat} (h : (a, b) ∉ l) :
    fset (fset (encHB r l) (.hRo a b) (.lst [])) .hR (.dT (dput (l.map fun p => (pk p, D.loc r (.hRo p.1 p.2))) (pk (a, b)) (.loc r (.hRo a b)))) = encHB r (l ++ [(a, b)]) := by
  rw [dput_new _ h]
  funext f
  cases f <;> simp [fset, encHB]
  rename_i x y
  by_cases e : x = a ∧ y = b
  · simp [e]
  · rw [if_neg e]
    have : ((x, y) ∈ l ∨ x = a ∧ y = b) ↔ (x, y) ∈ l := ⟨fun z => z.resolve_right e, .inl⟩
    simp [this]
theorem take_nd {α : Type} {l : List α} {i : Nat} {x : α} (h : l.Nodup) (hx : l[i]? = some x) : x ∉ l.take i := by
  intro z
  obtain ⟨j, hj, e⟩ := List.getElem_of_mem z
  have hi := (List.getElem?_eq_some_iff.mp hx).1
  have hj' : j < i := by simp at hj; omega
  rw [List.getElem_take] at e
  have e3 : l[i] = x := (List.getElem?_eq_some_iff.mp hx).2
  have := List.pairwise_iff_getElem.mp h j i (by omega) hi hj'
  exact this (e.trans e3.symm)
theorem take_one {α : Type} {l : List α} {i : Nat} {x : α} (hx : l[i]? = some x) : l.take (i + 1) = l.take i ++ [x] := by
  rw [List.take_succ, hx]; rfl
theorem read_law_new {K : PySem.W.Frag} {C : Cl} (ds : List D) (S : Store) (Q : QD) (Ex : Value → Store → Prop) (h : sp_law_new C ds S Q Ex) : r_law_new K C (ends0 Q) (start ["coins", "roads", "pair", "coin"] ds) S := by
  obtain ⟨coins, rfl, h2, h5, q⟩ := h
  have hln : (coins.map D.int).length = coins.length := List.length_map ..
  intro r hr
  have e0 : S.set r .hR (.dT []) = S.setR r (encHB r []) := by
    rw [set_R]; congr 1; funext f; cases f <;> simp [fset, encHB, hr]
  show Wk _ (S.set r .hR (.dT []))
  rw [e0]
  refine .here ?_
  refine ⟨_, rfl, _, _, rfl, rfl, coins.length, by rw [hln], h5, fun rp hrp => ?_⟩
  have nrp : r ≠ rp := ne_fresh hrp (f := .hR) (by rw [setR_same]; simp [encHB])
  refine ⟨_, by show _ = _; rw [tmp_at], ?_⟩
  have hrp' : ∀ f, S rp f = none := fun f => by have := hrp f; rwa [setR_ne (Ne.symm nrp)] at this
  refine ⟨fun i env S' => ∃ v, env = [some (.tup (coins.map D.int)), some (.loc r .hR), v, none] ∧ S' = (S.setR r (encHB r ((pairs coins.length).take i))).setR rp (tmpR (.lst ((pairs coins.length).map pairD2))), .here ⟨none, rfl, rfl⟩, ?_, ?_⟩
  · rintro i d env S' hd ⟨v, rfl, rfl⟩
    obtain ⟨a, b, hab, hp, rfl⟩ := pair_at hd
    refine ⟨by show _ = _; rw [tmp_at], ?_⟩
    have hno := take_nd (nd_pairs coins.length) hp
    have hreg : ∀ f, ((S.setR r (encHB r ((pairs coins.length).take i))).setR rp (tmpR (.lst ((pairs coins.length).map pairD2)))) r f = encHB r ((pairs coins.length).take i) f := fun f => by rw [setR_ne nrp, setR_same]
    refine ⟨t0, r, .hRo a b, by rw [hreg]; simp only [encHB]; rw [if_neg hno], ⟨.hR, by rw [hreg]; simp [encHB]⟩, _, rfl, _, rfl, _, .t (ks := pk (a, b)) (kvs := ((pairs coins.length).take i).map fun p => (pk p, .loc r (.hRo p.1 p.2))) (by rw [set_nf (by simp), hreg]; rfl) ?_, .here ⟨_, rfl, ?_⟩⟩
    · rw [List.length_map]; have := pairs_len coins.length h5; simp; exact szl _ (by omega)
    · rw [setR_comm nrp, setR_set, setR_set, encHB_put hno, ← take_one hp, setR_comm (Ne.symm nrp)]
  · rintro env S' ⟨v, rfl, rfl⟩
    refine ⟨by show _ = _; rw [tmp_at], ?_⟩
    rw [List.length_map, List.take_length]
    refine ⟨S.setR r (encHB r (pairs coins.length)), sub_drop fun f => by rw [setR_ne (Ne.symm nrp)]; exact hrp' f, ?_⟩
    have lv : ∀ g, ∃ f, (S.setR r (fset (encHB r (pairs coins.length)) .hT g)) r f ≠ none := fun g => ⟨.hT, by rw [setR_same, fset_same]; simp⟩
    refine ⟨r, .hT, by rw [setR_same]; rfl, ⟨.hR, by rw [setR_same]; simp [encHB]⟩, r, .hT, rfl, ?_⟩
    rw [setR_set]
    refine ⟨_, rfl, _, _, rfl, rfl, r, .hC, by rw [setR_same]; rfl, lv _, ?_⟩
    rw [setR_set]
    refine ⟨_, rfl, t0, r, .hL, by rw [setR_same]; rfl, ⟨.hT, by rw [setR_same]; simp [fset]⟩, ?_⟩
    rw [setR_set]
    refine ⟨t0, r, .hS, by rw [setR_same]; rfl, ⟨.hT, by rw [setR_same]; simp [fset]⟩, ?_⟩
    rw [setR_set]
    refine lc_mapA (coins.map D.int) (fun _ => True) (S.setR r (fset (fset (fset (fset (encHB r (pairs coins.length)) .hT (.dK [])) .hC (.lst (coins.map D.int))) .hL (.lst [])) .hS (.lst []))) (fun _ => .int 0) r .hN ?_ ?_ ?_ ?_ ?_ ?_ ?_
    · intro Q' hq
      exact ⟨_, rfl, _, rfl, hq⟩
    · rw [hln]; exact szl _ (by omega)
    · rw [setR_same]; rfl
    · exact ⟨.hT, by rw [setR_same]; simp [fset]⟩
    · intro _; trivial
    · intro i x ds P hx hP
      exact hP _ .refl
    · rw [setR_set]
      refine ⟨by rw [setR_same]; rfl, [(.inr "coins", .loc r .hC), (.inr "roads", .loc r .hR), (.inr "log", .loc r .hL), (.inr "shots", .loc r .hS), (.inr "counts", .loc r .hN)], rfl, (by show (5 : Nat) ≤ 15; decide), .here ?_⟩
      rw [setR_set]
      have em : dmerge [(.inr "coins", .loc r .hC), (.inr "roads", .loc r .hR), (.inr "log", .loc r .hL), (.inr "shots", .loc r .hS), (.inr "counts", .loc r .hN)] = hFs r := rfl
      rw [em]
      have eF : fset (fset (fset (fset (fset (fset (encHB r (pairs coins.length)) .hT (.dK [])) .hC (.lst (coins.map D.int))) .hL (.lst [])) .hS (.lst [])) .hN (.lst ((coins.map D.int).map fun _ => .int 0))) .hT (.dK (hFs r)) = encH r (newM coins) := by
        funext f
        cases f <;> simp [fset, encHB, encH, encG, newM, absH, lints, hroadsD, mem_pairs, cnts]
        refine List.ext_getElem? fun j => ?_
        rw [List.getElem?_map, List.getElem?_map]
        by_cases hj : j < coins.length
        · rw [List.getElem?_range hj, List.getElem?_eq_getElem hj]; rfl
        · rw [List.getElem?_eq_none (by omega), List.getElem?_eq_none (by simp; omega)]; rfl
      rw [eF]
      exact q r hr
end SS
namespace SS
open PySem L2
/-! ### what stays -/
theorem wf_addEv {m : Mkt} (h : WF m) {e : Ev} {i : Nat} {cs : List (Option Nat)} (hi : i < m.n) (hc : ∀ k, some k ∈ cs → k < m.told.length) : WF (addEv m e i cs) := by
  have hlen : (stampOf m i cs).1.length = m.n := by
    unfold stampOf
    refine len_fold m h _ _ (fun k hk => ?_) (by simp)
    rcases List.mem_cons.mp hk with z | z
    · exact h.lv i k (by rw [getD_at (by rw [h.ll]; exact hi) none, ← z])
    · exact hc k z
  refine ⟨h.n2, h.n5, h.pl, ?_, ?_, ?_, ?_, ?_, ?_⟩
  · show (m.last.set i _).length = m.n; rw [List.length_set]; exact h.ll
  · show (m.stamps ++ [_]).length = (m.told ++ [e]).length; rw [List.length_append, List.length_append, h.sl]; rfl
  · show (m.times ++ [_]).length = (m.told ++ [e]).length; rw [List.length_append, List.length_append, h.tl]; rfl
  · intro k s hk
    have hk' : (m.stamps ++ [(stampOf m i cs).1.set i ((stampOf m i cs).1.getD i 0 + 1)])[k]? = some s := hk
    rcases Nat.lt_or_ge k m.stamps.length with z | z
    · rw [List.getElem?_append_left z] at hk'; exact h.se k s hk'
    · rw [List.getElem?_append_right z] at hk'
      have : s = (stampOf m i cs).1.set i ((stampOf m i cs).1.getD i 0 + 1) := by
        cases e : k - m.stamps.length with
        | zero => rw [e] at hk'; simpa using hk'.symm
        | succ j => rw [e] at hk'; simp at hk'
      rw [this, List.length_set]; exact hlen
  · intro j k hk
    have hk' : (m.last.set i (some m.told.length))[j]? = some (some k) := hk
    show k < (m.told ++ [e]).length
    rw [List.length_append]
    rw [List.getElem?_set] at hk'
    split at hk'
    · split at hk'
      · cases hk'; simp
      · cases hk'
    · have := h.lv j k hk'; omega
  · intro a b x k hk
    have := h.rv a b x k hk
    show k < (m.told ++ [e]).length
    rw [List.length_append]; omega
theorem wf_purses {m : Mkt} (h : WF m) (i : Nat) (x : Int) : WF { m with purses := m.purses.set i x } :=
  ⟨h.n2, h.n5, by simp [h.pl], h.ll, h.sl, h.tl, h.se, h.lv, h.rv⟩
theorem wf_roads {m : Mkt} (h : WF m) {a b : Nat} {l : List Par} (hl : ∀ x k, Par.coins x (some k) ∈ l → k < m.told.length) : WF { m with roads := up2 m.roads a b l } := by
  refine ⟨h.n2, h.n5, h.pl, h.ll, h.sl, h.tl, h.se, h.lv, fun c d x k hx => ?_⟩
  dsimp only at hx ⊢
  by_cases z : c = a ∧ d = b
  · obtain ⟨rfl, rfl⟩ := z
    rw [up2_same] at hx; exact hl x k hx
  · rw [up2_ne z] at hx; exact h.rv c d x k hx
theorem wf_shots {m : Mkt} (h : WF m) (s : List Sh) : WF { m with shots := s } := ⟨h.n2, h.n5, h.pl, h.ll, h.sl, h.tl, h.se, h.lv, h.rv⟩
theorem wf_give {m : Mkt} (h : WF m) {a b : Nat} {x : Int} (ha : a < m.n) : WF (giveM m a b x) := by
  have h2 : WF (addEv { m with purses := m.purses.set a (m.purses.getD a 0 - x) } ⟨true, a, b, x⟩ a []) := wf_addEv (wf_purses h _ _) ha (by simp)
  refine wf_roads h2 fun y k hk => ?_
  show k < (m.told ++ [_]).length
  rw [List.length_append]
  rcases List.mem_append.mp hk with z | z
  · have := h.rv a b y k z; omega
  · simp at z; obtain ⟨_, rfl⟩ := z; simp
theorem wf_parcel {m : Mkt} (h : WF m) {a b : Nat} {x : Int} {num : Option Nat} (hb : b < m.n) (hn : ∀ k, num = some k → k < m.told.length) : WF (parcelM m a b x num) := by
  unfold parcelM
  refine wf_addEv (m := { m with shots := m.shots.map (shotParcel a b x), purses := m.purses.set b (m.purses.getD b 0 + x) }) (wf_shots (wf_purses h b _) _) hb fun k hk => ?_
  cases num with
  | none => cases hk
  | some j => simp [causesOf] at hk; exact hn k (by rw [hk])
theorem wf_take1 {m : Mkt} (h : WF m) {a b : Nat} (hb : b < m.n) : WF (take1 m a b) := by
  unfold take1
  cases e : m.roads a b with
  | nil => exact h
  | cons p rest =>
    cases p with
    | mark k => exact h
    | coins x num =>
      refine wf_parcel (wf_roads h fun y k hk => h.rv a b y k (by rw [e]; exact List.mem_cons_of_mem _ hk)) hb fun k hk => ?_
      subst hk
      exact h.rv a b x k (by rw [e]; exact List.mem_cons_self)
theorem sum_set : ∀ (l : List Int) (i : Nat) (x : Int), i < l.length → (l.set i x).sum = l.sum - l.getD i 0 + x
  | [], i, x, h => by simp at h
  | y :: l, 0, x, _ => by simp; omega
  | y :: l, i + 1, x, h => by
    have := sum_set l i x (by simpa using h)
    rw [List.set_cons_succ, List.sum_cons, this, List.sum_cons, List.getD_cons_succ]; omega
theorem sum_up {α : Type} (p : α) (g g' : α → Int) : ∀ (l : List α), l.Nodup → p ∈ l → (∀ q, q ≠ p → g' q = g q) → (l.map g').sum = (l.map g).sum - g p + g' p
  | [], _, h, _ => by cases h
  | q :: l, hn, h, hg => by
    obtain ⟨h1, h2⟩ := List.nodup_cons.mp hn
    rw [List.map_cons, List.map_cons, List.sum_cons, List.sum_cons]
    rcases List.mem_cons.mp h with z | z
    · subst z
      have : l.map g' = l.map g := List.map_congr_left fun q hq => hg q fun e => h1 (e ▸ hq)
      rw [this]; omega
    · have := sum_up p g g' l h2 z hg
      rw [this, hg q fun e => h1 (e ▸ z)]; omega
def roadSum (n : Nat) (ro : Nat → Nat → List Par) : Int := ((pairs n).map fun p => onRoad (ro p.1 p.2)).sum
theorem roadSum_up {n : Nat} {ro : Nat → Nat → List Par} {a b : Nat} {l : List Par} (h : a < n ∧ b < n ∧ a ≠ b) : roadSum n (up2 ro a b l) = roadSum n ro - onRoad (ro a b) + onRoad l := by
  unfold roadSum
  have := sum_up (a, b) (fun p => onRoad (ro p.1 p.2)) (fun p => onRoad (up2 ro a b l p.1 p.2)) (pairs n) (nd_pairs n) (mem_pairs.mpr h) fun q hq => by
    have : ¬ (q.1 = a ∧ q.2 = b) := fun z => hq (Prod.ext z.1 z.2)
    rw [up2_ne this]
  rw [this]; dsimp only; rw [up2_same]
theorem onRoad_app (l : List Par) (x : Int) (num : Option Nat) : onRoad (l ++ [.coins x num]) = onRoad l + x := by
  unfold onRoad; rw [List.filterMap_append, List.sum_append]; simp [amt]
theorem onRoad_cons (l : List Par) (x : Int) (num : Option Nat) : onRoad (.coins x num :: l) = x + onRoad l := by
  unfold onRoad; rw [List.filterMap_cons]; simp [amt]
theorem total_give {m : Mkt} (h : WF m) {a b : Nat} {x : Int} (hr : a < m.n ∧ b < m.n ∧ a ≠ b) : totalM (giveM m a b x) = totalM m := by
  show (m.purses.set a (m.purses.getD a 0 - x)).sum + roadSum m.n (up2 m.roads a b (m.roads a b ++ [.coins x _])) = m.purses.sum + roadSum m.n m.roads
  rw [sum_set _ _ _ (by rw [h.pl]; exact hr.1), roadSum_up hr, onRoad_app]; omega
theorem total_take1 {m : Mkt} (h : WF m) {a b : Nat} (hr : a < m.n ∧ b < m.n ∧ a ≠ b) : totalM (take1 m a b) = totalM m := by
  unfold take1
  cases e : m.roads a b with
  | nil => rfl
  | cons p rest =>
    cases p with
    | mark k => rfl
    | coins x num =>
      show (m.purses.set b (m.purses.getD b 0 + x)).sum + roadSum m.n (up2 m.roads a b rest) = m.purses.sum + roadSum m.n m.roads
      rw [sum_set _ _ _ (by rw [h.pl]; exact hr.2.1), roadSum_up hr, e, onRoad_cons]; omega
structure Inv1 (n : Nat) (T : Int) (i : Nat) (m : Mkt) : Prop where
  wf : WF m
  en : m.n = n
  tot : totalM m = T
  told : m.told.length ≤ i
  roads : ∀ a b, (m.roads a b).length ≤ i
  plain : Plain m
theorem Inv1.small {n : Nat} {T : Int} {i : Nat} {m : Mkt} (h : Inv1 n T i m) (hi : i ≤ 1000) : Small m 1000 :=
  ⟨by have := h.told; omega, fun a b => by have := h.roads a b; omega, by rw [h.plain.1]; simp⟩
theorem up2_len {ro : Nat → Nat → List Par} {a b c d k : Nat} {l : List Par} (h : ∀ a b, (ro a b).length ≤ k) (hl : l.length ≤ k) : (up2 ro a b l c d).length ≤ k := by
  by_cases z : c = a ∧ d = b
  · obtain ⟨rfl, rfl⟩ := z; rw [up2_same]; exact hl
  · rw [up2_ne z]; exact h c d
theorem up2_all {ro : Nat → Nat → List Par} {a b : Nat} {l : List Par} {P : Par → Prop} (h : ∀ a b, ∀ p ∈ ro a b, P p) (hl : ∀ p ∈ l, P p) : ∀ c d, ∀ p ∈ up2 ro a b l c d, P p := by
  intro c d p hp
  by_cases z : c = a ∧ d = b
  · obtain ⟨rfl, rfl⟩ := z; rw [up2_same] at hp; exact hl p hp
  · rw [up2_ne z] at hp; exact h c d p hp
theorem inv1_step {n : Nat} {T : Int} {i : Nat} {m : Mkt} (h : Inv1 n T i m) {act : Act} (ha : ActOk n act) (hb : NoBegin act) : Inv1 n T (i + 1) (step1 m act).2 := by
  have same : Inv1 n T (i + 1) m := ⟨h.wf, h.en, h.tot, by have := h.told; omega, fun a b => by have := h.roads a b; omega, h.plain⟩
  cases act with
  | begin a => exact hb.elim
  | give a b x =>
    rw [← h.en] at ha
    show Inv1 n T (i + 1) (if x > m.purses.getD a 0 then (D.str "no coins", m) else (D.non, giveM m a b x)).2
    split
    · exact same
    · refine ⟨wf_give h.wf ha.1, h.en, (total_give h.wf ha).trans h.tot, ?_, fun c d => ?_, h.plain.1, ?_⟩
      · show (m.told ++ [_]).length ≤ _; rw [List.length_append]; have := h.told; simp; omega
      · show (up2 m.roads a b _ c d).length ≤ _
        exact up2_len same.roads (by rw [List.length_append]; have := h.roads a b; show (m.roads a b).length + 1 ≤ _; omega)
      · show ∀ c d, ∀ p ∈ up2 m.roads a b _ c d, isCoins p
        exact up2_all h.plain.2 fun p hp => by
          rcases List.mem_append.mp hp with z | z
          · exact h.plain.2 a b p z
          · simp at z; subst z; trivial
  | take a b =>
    rw [← h.en] at ha
    show Inv1 n T (i + 1) (take1 m a b)
    have hw := wf_take1 (a := a) h.wf ha.2.1
    have ht := total_take1 h.wf ha
    unfold take1 at hw ht ⊢
    cases e : m.roads a b with
    | nil => exact same
    | cons p rest =>
      rw [e] at hw ht
      cases p with
      | mark k => exact same
      | coins x num =>
        refine ⟨hw, h.en, ht.trans h.tot, ?_, fun c d => ?_, ?_, ?_⟩
        · show (m.told ++ [_]).length ≤ _; rw [List.length_append]; have := h.told; simp; omega
        · show (up2 m.roads a b rest c d).length ≤ _
          exact up2_len same.roads (by have := h.roads a b; rw [e] at this; simp at this; omega)
        · show m.shots.map _ = []; rw [h.plain.1]; rfl
        · show ∀ c d, ∀ p ∈ up2 m.roads a b rest c d, isCoins p
          exact up2_all h.plain.2 fun p hp => h.plain.2 a b p (by rw [e]; exact List.mem_cons_of_mem _ hp)
theorem wf_new {coins : List Int} (h2 : 2 ≤ coins.length) (h5 : coins.length ≤ 5) : WF (newM coins) := by
  refine ⟨h2, h5, rfl, by simp [newM], rfl, rfl, ?_, ?_, ?_⟩
  · intro k s h; simp [newM] at h
  · intro i k h; simp [newM, List.getElem?_replicate] at h
  · intro a b x k h; simp [newM] at h
theorem zeros_sum {α : Type} : ∀ l : List α, (l.map fun _ => (0 : Int)).sum = 0
  | [] => rfl
  | _ :: l => by rw [List.map_cons, List.sum_cons, zeros_sum l]; rfl
theorem inv1_new {coins : List Int} (h2 : 2 ≤ coins.length) (h5 : coins.length ≤ 5) : Inv1 coins.length coins.sum 0 (newM coins) := by
  refine ⟨wf_new h2 h5, rfl, ?_, by simp [newM], by simp [newM], rfl, by simp [newM]⟩
  show coins.sum + ((pairs coins.length).map fun _ => onRoad []).sum = coins.sum
  have : onRoad [] = 0 := rfl
  rw [this, zeros_sum]; omega
theorem act_ok (ns : List Int) (b : Bool) : ∀ a ∈ actsOf ns b, ActOk (manyOf ns) a := by
  obtain ⟨m2, m5, _⟩ := many_ge ns
  intro a ha
  unfold actsOf at ha
  rcases List.mem_cons.mp ha with z | z
  · subst z; exact ⟨by omega, by omega, by decide⟩
  · obtain ⟨c, _, rfl⟩ := List.mem_map.mp z
    unfold actOf
    split
    · exact ⟨one_lt c m2, other_lt c m2, other_ne c m2⟩
    · split
      · exact ⟨one_lt c m2, other_lt c m2, other_ne c m2⟩
      · exact one_lt c m2
theorem act_nb (ns : List Int) : ∀ a ∈ actsOf ns false, NoBegin a := by
  intro a ha
  unfold actsOf at ha
  rcases List.mem_cons.mp ha with z | z
  · subst z; trivial
  · obtain ⟨c, _, rfl⟩ := List.mem_map.mp z
    unfold actOf
    split
    · trivial
    · rw [if_pos (.inr rfl)]; trivial
theorem pureK_encPar2 (p : Par) : PureK 1 (encPar2 p) := by
  cases p with
  | coins a n =>
    refine .tup fun d hd => ?_
    simp at hd
    rcases hd with rfl | rfl
    · exact .str _ (by decide +kernel)
    · exact .int _
  | mark k =>
    refine .tup fun d hd => ?_
    simp at hd
    rcases hd with rfl | rfl
    · exact .str _ (by decide +kernel)
    · exact .int _
theorem pureK_roads (m : Mkt) : ∀ d ∈ roadsOf m, PureK 2 d := by
  intro d hd
  unfold roadsOf at hd
  obtain ⟨p, _, rfl⟩ := List.mem_map.mp hd
  refine .tup fun d hd => ?_
  obtain ⟨q, _, rfl⟩ := List.mem_map.mp hd
  exact pureK_encPar2 q
theorem pureK_ints (l : List Int) : ∀ d ∈ l.map D.int, PureK 0 d := by
  intro d hd
  obtain ⟨q, _, rfl⟩ := List.mem_map.mp hd
  exact .int q
theorem pureK_step1 (m : Mkt) (a : Act) : PureK 0 (step1 m a).1 := by
  cases a with
  | begin _ => exact .non
  | take _ _ => exact .non
  | give a b x =>
    show PureK 0 (if x > m.purses.getD a 0 then (D.str "no coins", m) else (D.non, giveM m a b x)).1
    split
    · exact .str _ (by decide +kernel)
    · exact .non
end SS
namespace SS
open PySem L2
/-- three regions -/
def X3 (S : Store) (a b c : Nat) (ga gb gc : Reg) : Store := ((S.setR a ga).setR b gb).setR c gc
section
variable {S : Store} {a b c : Nat} {ga gb gc g : Reg}
theorem x3_a (h1 : a ≠ b) (h2 : a ≠ c) : X3 S a b c ga gb gc a = ga := by unfold X3; rw [setR_ne h2, setR_ne h1, setR_same]
theorem x3_b (h3 : b ≠ c) : X3 S a b c ga gb gc b = gb := by unfold X3; rw [setR_ne h3, setR_same]
theorem x3_c : X3 S a b c ga gb gc c = gc := by unfold X3; rw [setR_same]
theorem x3_pa (h1 : a ≠ b) (h2 : a ≠ c) : (X3 S a b c ga gb gc).setR a g = X3 S a b c g gb gc := by
  unfold X3; rw [setR_comm (Ne.symm h2), setR_comm (Ne.symm h1), setR_setR]
theorem x3_pb (h3 : b ≠ c) : (X3 S a b c ga gb gc).setR b g = X3 S a b c ga g gc := by
  unfold X3; rw [setR_comm (Ne.symm h3), setR_setR]
end
theorem encM_live {C : Cl} {r : Nat} {m : Mkt} : encM C r m .mI ≠ none := by simp [encM, encV]
theorem encH_live {r : Nat} {m : Mkt} : encH r m .hT ≠ none := by simp [encH, encG]
theorem read_law1 {K : PySem.W.Frag} {C : Cl} (hk : PySem.W.kitOne K (.type "tuple") (.type "tuple") = some true) (ds : List D) (S : Store) (Q : QD) (Ex : Value → Store → Prop) (h : sp_law1 C ds S Q Ex) : r_law1 K C (ends0 Q) (start ["script", "coins", "market", "hand", "many", "act", "found", "one", "pair"] ds) S := by
  obtain ⟨ns, rfl, hl, q⟩ := h
  obtain ⟨m2, m5, em⟩ := many_ge ns
  have hcl : (coinsOf ns).length = manyOf ns := by simp [coinsOf]
  refine ⟨_, rfl, ns, rfl, hl, .here ?_⟩
  generalize hcs : coinsOf ns = coins at *
  have hln : (coins.map D.int).length = coins.length := List.length_map ..
  have c2 : 2 ≤ coins.length := by omega
  have c5 : coins.length ≤ 5 := by omega
  refine ⟨_, rfl, fun rm hrm => ⟨rm, coins, rfl, ?_, c2, c5, rfl, .here ?_⟩⟩
  · funext f
    by_cases e : f = .mI
    · subst e; rw [set_same]; simp [oneR]
    · rw [set_nf e, hrm f]; simp [oneR, e]
  rw [set_R, setR_setR]
  refine ⟨_, rfl, coins, rfl, c2, c5, fun rh hrh => .here ?_⟩
  have nmh : rm ≠ rh := ne_fresh hrh (f := .mI) (by rw [setR_same]; exact encM_live)
  refine ⟨_, rfl, _, _, rfl, rfl, .here ?_⟩
  rw [hln]
  refine ⟨_, rfl, ns, false, rfl, hl, fun ra hra => ?_⟩
  have nma : rm ≠ ra := ne_fresh hra (f := .mI) (by rw [setR_ne nmh, setR_same]; exact encM_live)
  have nha : rh ≠ ra := ne_fresh hra (f := .hT) (by rw [setR_same]; exact encH_live)
  generalize hac : actsOf ns false = acts
  have ha1 : ∀ a ∈ acts, ActOk coins.length a := by rw [hcl, ← hac]; exact act_ok ns false
  have ha2 : ∀ a ∈ acts, NoBegin a := by rw [← hac]; exact act_nb ns
  have ha3 : acts.length ≤ 61 := by rw [← hac]; exact acts_len ns false hl
  refine ⟨acts.map encAct, by show _ = _; rw [tmp_at], ?_⟩
  refine ⟨fun i env S' => ∃ v5 v6 m, env = [some (.rol ns), some (.tup (coins.map D.int)), some (.loc rm .mI), some (.loc rh .hT), some (.int coins.length), v5, v6, none, none] ∧ Inv1 coins.length coins.sum i m ∧ S' = X3 S rm rh ra (encM C rm m) (encH rh m) (tmpR (.lst (acts.map encAct))), .here ⟨none, none, newM coins, rfl, inv1_new c2 c5, rfl⟩, ?_, ?_⟩
  · rintro i d env S' hd ⟨v5, v6, m, rfl, iv, rfl⟩
    rw [List.getElem?_map] at hd
    cases ea : acts[i]? with
    | none => rw [ea] at hd; cases hd
    | some act =>
    rw [ea] at hd; cases hd
    have hmem := List.mem_of_getElem? ea
    have hi : i < acts.length := (List.getElem?_eq_some_iff.mp ea).1
    have hA : ActOk m.n act := by rw [iv.en]; exact ha1 _ hmem
    have hB := ha2 _ hmem
    refine ⟨by show _ = _; rw [x3_c, tmpR_tmp], ?_⟩
    -- both do it
    refine ⟨_, rfl, _, rfl, rm, m, act, rfl, x3_a nmh nma, iv.wf, iv.small (by omega), iv.plain, hA, hB, ?_⟩
    rw [x3_pa nmh nma]
    refine ⟨_, rfl, _, rfl, rh, m, act, rfl, x3_b nha, iv.wf, iv.small (by omega), iv.plain, hA, hB, ?_⟩
    rw [x3_pb nha]
    have iv' := inv1_step iv (ha1 _ hmem) hB
    refine ne_same (pureK_step1 m act) (by decide) ⟨_, rfl, iteF (.here ?_)⟩
    generalize hm' : (step1 m act).2 = m' at iv' ⊢
    have hw := iv'.wf
    have hok : Ok m' := small_ok hw (iv'.small (by omega))
    generalize hX : X3 S rm rh ra (encM C rm m') (encH rh m') (tmpR (.lst (acts.map encAct))) = X
    have Xm : X rm = encM C rm m' := by rw [← hX]; exact x3_a nmh nma
    have Xh : X rh = encG rh (absH m') m'.shots.length := by rw [← hX]; exact x3_b nha
    -- found = market.coins()
    refine ⟨_, rfl, rm, .mI, _, rfl, by rw [Xm]; rfl, rfl, rm, m', rfl, Xm, .here ?_⟩
    refine ⟨_, rfl, _, _, _, rfl, rfl, fun C h => (nomatch h), hk, _, rfl, iteF ?_⟩
    refine ⟨_, rfl, _, _, rfl, rfl, fun r1 hr1 => ?_⟩
    rw [set_tmp hr1]
    have n1h : rh ≠ r1 := ne_fresh hr1 (f := .hT) (by rw [Xh]; simp [encG])
    have n1m : rm ≠ r1 := ne_fresh hr1 (f := .mI) (by rw [Xm]; exact encM_live)
    refine ⟨_, rfl, .inr ⟨_, at_hC (v := m'.shots.length) (h := absH m') (by rw [setR_ne n1h, Xh]), ne_sameL (pureK_ints m'.purses) (by decide) (by rw [tmp_at]) (by rw [setR_ne n1h, Xh]; rfl) ⟨_, rfl, iteF ?_⟩⟩⟩
    refine lc_map (m'.purses.map D.int) (fun _ => True) (X.setR r1 (tmpR (.lst (m'.purses.map D.int)))) (fun _ => .bl true) ?_ ?_ ?_ ?_ ?_
    · intro Q' hq
      exact ⟨_, rfl, _, rfl, hq⟩
    · rw [List.length_map, hw.pl]; have := hw.n5; exact szl _ (by omega)
    · intros; trivial
    · intro r2 hr2 j x ds P hx hP
      rw [List.getElem?_map] at hx
      cases ep : m'.purses[j]? with
      | none => rw [ep] at hx; cases hx
      | some c =>
        rw [ep] at hx; cases hx
        exact ⟨_, rfl, c, rfl, hP _ .refl⟩
    intro r2 hr2
    obtain ⟨n21, hr2'⟩ := fresh2 hr2
    have eb : (m'.purses.map D.int).map (fun _ => D.bl true) = (m'.purses.map fun _ => true).map D.bl := by rw [List.map_map, List.map_map]; rfl
    rw [eb]
    refine ⟨_, m'.purses.map (fun _ => true), rfl, by show _ = _; rw [tmp_at], ?_⟩
    have eall : (m'.purses.map (fun _ => true)).all id = true := by simp
    rw [eall]
    refine ⟨_, rfl, iteF ⟨X, (sub_drop hr1).trans (sub_drop hr2), ?_⟩⟩
    -- roads
    refine ⟨_, rfl, _, rfl, rm, m', by rw [iv'.en], Xm, hok, fun r3 hr3 => ?_⟩
    have n3h : rh ≠ r3 := ne_fresh hr3 (f := .hT) (by rw [Xh]; simp [encG])
    have n3m : rm ≠ r3 := ne_fresh hr3 (f := .mI) (by rw [Xm]; exact encM_live)
    refine ⟨_, rfl, m'.n, by rw [iv'.en], hw.n5, fun r4 hr4 => ?_⟩
    obtain ⟨n43, hr4'⟩ := fresh2 hr4
    have n4h : rh ≠ r4 := ne_fresh hr4' (f := .hT) (by rw [Xh]; simp [encG])
    refine ⟨_, by show _ = _; rw [tmp_at], ?_⟩
    refine lcb_map (fun d => match d with | .tup [.int a, .int b] => .tup ((m'.roads a.toNat b.toNat).map encPar2) | _ => .non) ?_ ?_ ?_ ?_
    · rw [List.length_map]; have := pairs_len m'.n hw.n5; exact szl _ (by omega)
    · intro r5 hr5 ds
      obtain ⟨n54, _⟩ := fresh2 hr5
      show _ = _
      rw [setR_ne (Ne.symm n54), tmp_at]
    · intro r5 hr5 j x ds P hx hP
      obtain ⟨n54, hr5'⟩ := fresh2 hr5
      obtain ⟨n53, hr5''⟩ := fresh2 hr5'
      have n5h : rh ≠ r5 := ne_fresh hr5'' (f := .hT) (by rw [Xh]; simp [encG])
      obtain ⟨a, b, hr, _, rfl⟩ := pair_at hx
      have hh : ((X.setR r3 (tmpR (.lst (roadsOf m')))).setR r4 (tmpR (.lst ((pairs m'.n).map pairD2)))).setR r5 (tmpR (.lst ds)) rh = encG rh (absH m') m'.shots.length := by rw [setR_ne n5h, setR_ne n4h, setR_ne n3h, Xh]
      exact ⟨_, rfl, .inr ⟨_, at_hR hh, _, rfl, .inr ⟨_, at_hroads hh hr, _, (m'.roads a b).map encPar2, rfl, by show _ = _; rw [hh]; exact hroad_at hr, hP _ .refl⟩⟩⟩
    intro r5 hr5
    obtain ⟨n54, hr5'⟩ := fresh2 hr5
    obtain ⟨n53, hr5''⟩ := fresh2 hr5'
    have er : ((pairs m'.n).map pairD2).map (fun d => match d with | .tup [.int a, .int b] => D.tup ((m'.roads a.toNat b.toNat).map encPar2) | _ => .non) = roadsOf m' := by
      unfold roadsOf
      rw [List.map_map]
      congr 1
    rw [er]
    refine ne_sameL (pureK_roads m') (by decide) (by rw [setR_ne (Ne.symm n53), setR_ne (Ne.symm n43), tmp_at]) (by rw [tmp_at]) ⟨_, rfl, iteF ⟨X, ((sub_drop hr3).trans (sub_drop hr4)).trans (sub_drop hr5), ?_⟩⟩
    -- total
    have hXm : X rm .mI = some (.ins C.m (mFs rm m'.n)) := by rw [Xm]; rfl
    refine ⟨_, rfl, rm, .mI, _, rfl, hXm, rfl, rm, m', rfl, Xm, hok, totalM m', rfl, _, rfl, iteF ?_⟩
    refine ⟨_, rfl, rm, .mI, _, rfl, hXm, rfl, rm, m', rfl, Xm, hok, _, rfl, _, coins, rfl, rfl, _, rfl, _, rfl, ?_⟩
    rw [iv'.tot]
    simp only [decide_true, Bool.not_true, Bool.false_eq_true, if_false]
    exact .here ⟨_, _, m', rfl, iv', hX.symm⟩
  · rintro env S' ⟨v5, v6, m, rfl, iv, rfl⟩
    refine ⟨by show _ = _; rw [x3_c, tmpR_tmp], ⟨S, ?_, .here q⟩⟩
    refine ((sub_drop (g := encM C rm m) hrm).trans ?_).trans (sub_drop fun f => ?_)
    · refine sub_drop fun f => ?_
      have := hrh f; rw [setR_ne (Ne.symm nmh)] at this ⊢; exact this
    · have := hra f
      rw [setR_ne (Ne.symm nha), setR_ne (Ne.symm nma)] at this ⊢; exact this
end SS
namespace SS
open PySem L2
/-- the law's promise, at the heap behind the top -/
theorem law_start {K : PySem.W.Frag} {H : Hp} {a : Addr} {ns : List Int} {sp : LSp} (hO : Only H) (hS : SqL K H a (ns.map V.int)) (h : sp [.rol ns] (fun _ _ => none) (fun d _ => d = .bl true) (fun _ _ => False)) :
    liftSp K sp [.ref a] H (fun v _ => v = .bl true) fun _ _ _ => False := by
  refine ⟨fun _ _ => none, fun _ _ => none, [.rol ns], _, _, ⟨fun _ _ _ _ _ h => (nomatch h), fun _ _ _ h => (nomatch h), fun _ _ _ h => (nomatch h), fun _ _ _ h => (nomatch h), ⟨0, fun _ _ _ => rfl⟩⟩, .cons (.rol ?_) .nil, h, ?_, ?_⟩
  · rcases hS with (h | ⟨o, h⟩) | h
    · rcases hO a with z | ⟨o, xs, z⟩
      · rw [z] at h; cases h
      · rw [z] at h; cases h
    · exact .inl ⟨o, h⟩
    · exact .inr h
  · rintro ρ' v d H' S' _ _ r rfl
    cases r; rfl
  · exact fun _ _ _ _ _ _ z => z
end SS
namespace SS
open PySem
/-- a class's j-th statement -/
def clsSt (s : Stmt) (j : Nat) : Stmt := match s with
  | .ClassDef (body := b) .. => b.getD j (.Pass ⟨0, 0, 0, 0⟩)
  | _ => .Pass ⟨0, 0, 0, 0⟩
end SS
namespace SS
open PySem L2
/-! ### marks and pictures -/
def wput (w : List (Nat × Nat)) (p : Nat × Nat) : List (Nat × Nat) := if p ∈ w then w else w ++ [p]
def watchTo (i : Nat) (but : Option Nat) (w : List (Nat × Nat)) (j : Nat) : List (Nat × Nat) :=
  (List.range j).foldl (fun w o => if o ≠ i ∧ some o ≠ but then wput w (o, i) else w) w
def shWrite (n : Nat) (s : Sh) (i : Nat) (c e : Int) (but : Option Nat) : Sh :=
  { s with written := s.written.set i (some c), cut := s.cut.set i (some e), watched := watchTo i but s.watched n }
def shLeave (s : Sh) (a b : Nat) : Sh := { s with watched := s.watched.filter fun p => decide (p ≠ (a, b)) }
def markTo (ro : Nat → Nat → List Par) (i k j : Nat) : Nat → Nat → List Par := fun a b => if a = i ∧ b < j ∧ b ≠ i then ro a b ++ [.mark k] else ro a b
def writeM (m : Mkt) (k i : Nat) (but : Option Nat) : Mkt := match m.shots[k]? with
  | none => m
  | some s => { m with shots := m.shots.set k (shWrite m.n s i (m.purses.getD i 0) (cnt m.told i) but), roads := markTo m.roads i k m.n }
def markM (m : Mkt) (k a b : Nat) : Mkt := match m.shots[k]? with
  | none => m
  | some s => if (s.written.getD b none).isSome = true then { m with shots := m.shots.set k (shLeave s a b) } else writeM m k b (some a)
def takeM (m : Mkt) (a b : Nat) : Mkt := match m.roads a b with
  | [] => m
  | .coins x num :: rest => parcelM { m with roads := up2 m.roads a b rest } a b x num
  | .mark k :: rest => markM { m with roads := up2 m.roads a b rest } k a b
def newSh (n : Nat) : Sh := ⟨List.replicate n none, List.replicate n none, [], fun _ _ => []⟩
def beginM (m : Mkt) (i : Nat) : Mkt := writeM { m with shots := m.shots ++ [newSh m.n] } m.shots.length i none
def stepM (m : Mkt) : Act → D × Mkt
  | .give a b x => if x > m.purses.getD a 0 then (.str "no coins", m) else (.non, giveM m a b x)
  | .take a b => (.non, takeM m a b)
  | .begin a => (.int m.shots.length, beginM m a)
def marks (k : Nat) (l : List Par) : Nat := l.countP fun p => match p with | .mark j => decide (j = k) | _ => false
structure SInv (m : Mkt) : Prop where
  wl : ∀ (k : Nat) (s : Sh), m.shots[k]? = some s → s.written.length = m.n
  cl : ∀ (k : Nat) (s : Sh), m.shots[k]? = some s → s.cut.length = m.n
  nd : ∀ (k : Nat) (s : Sh), m.shots[k]? = some s → s.watched.Nodup
  wat : ∀ (k : Nat) (s : Sh) (x y : Nat), m.shots[k]? = some s → (x, y) ∈ s.watched → (x < m.n ∧ y < m.n ∧ x ≠ y) ∧ (s.written.getD y none).isSome = true
  unw : ∀ (k : Nat) (s : Sh) (o b : Nat), m.shots[k]? = some s → o < m.n → b < m.n → b ≠ o → (s.written.getD o none).isSome = true → (s.written.getD b none).isSome = false → (b, o) ∈ s.watched
  mks : ∀ (k : Nat) (s : Sh) (a b : Nat), m.shots[k]? = some s → a < m.n → b < m.n → a ≠ b → marks k (m.roads a b) = if (s.written.getD a none).isSome = true ∧ ((s.written.getD b none).isSome = false ∨ (a, b) ∈ s.watched) then 1 else 0
  fr : ∀ a b k, Par.mark k ∈ m.roads a b → k < m.shots.length
structure CntOk (m : Mkt) : Prop where
  no : ∀ i, m.last[i]? = some none → cnt m.told i = 0
  at_ : ∀ (i q : Nat), m.last[i]? = some (some q) → (m.stamps.getD q []).getD i 0 = cnt m.told i
  le : ∀ (q : Nat) (s : List Int) (i : Nat), m.stamps[q]? = some s → s.getD i 0 ≤ cnt m.told i
def SmallS (m : Mkt) (B : Nat) : Prop := ∀ (k : Nat) (s : Sh) (a b : Nat), m.shots[k]? = some s → (s.lying a b).length ≤ B
structure GOk (m : Mkt) : Prop where
  wf : WF m
  sm : Small m 90000
  si : SInv m
  co : CntOk m
  ss : SmallS m 90000
/-! ### promises -/
def sp_Shot_init (C : Cl) : LSp := fun ds S Q _ => ∃ (r : Nat) (m : Mkt), ds = [.loc r (.sI m.shots.length), .int m.n] ∧ m.n ≤ 5 ∧ S r = fset (encM C r m) (.sI m.shots.length) (.ins C.s []) ∧
  Q .non (S.setR r (encV C r { m with shots := m.shots ++ [newSh m.n] } m.shots.length))
def sp_Shot_has_written (C : Cl) : LSp := fun ds S Q _ => ∃ (r : Nat) (m : Mkt) (v k : Nat) (s : Sh) (i : Nat), ds = [.loc r (.sI k), .int i] ∧ S r = encV C r m v ∧ m.shots[k]? = some s ∧ i < s.written.length ∧ Q (.bl (s.written.getD i none).isSome) S
def sp_Shot_write (C : Cl) : LSp := fun ds S Q _ => ∃ (r : Nat) (m : Mkt) (v k : Nat) (s : Sh) (i : Nat) (c e : Int) (but : Option Nat), ds = [.loc r (.sI k), .int i, .int c, .int e, encO but] ∧ S r = encV C r m v ∧ m.n ≤ 5 ∧ m.shots[k]? = some s ∧ i < s.written.length ∧ i < s.cut.length ∧ s.watched.length ≤ 1000 ∧
  Q .non (S.setR r (encV C r { m with shots := m.shots.set k (shWrite m.n s i c e but) } v))
def sp_Shot_parcel (C : Cl) : LSp := fun ds S Q _ => ∃ (r : Nat) (m : Mkt) (v k : Nat) (s : Sh) (one other : Nat) (a : Int), ds = [.loc r (.sI k), .int one, .int other, .int a] ∧ S r = encV C r m v ∧ m.shots[k]? = some s ∧ (one < m.n ∧ other < m.n ∧ one ≠ other) ∧ (s.lying one other).length ≤ 100000 ∧
  Q .non (S.setR r (encV C r { m with shots := m.shots.set k (shotParcel one other a s) } v))
def sp_Shot_leave (C : Cl) : LSp := fun ds S Q _ => ∃ (r : Nat) (m : Mkt) (v k : Nat) (s : Sh) (one other : Nat), ds = [.loc r (.sI k), .int one, .int other] ∧ S r = encV C r m v ∧ m.shots[k]? = some s ∧ (one, other) ∈ s.watched ∧
  Q .non (S.setR r (encV C r { m with shots := m.shots.set k (shLeave s one other) } v))
def sp_Events_count (C : Cl) : LSp := fun ds S Q _ => ∃ (r : Nat) (m : Mkt) (v i : Nat), ds = [.loc r .eI, .int i] ∧ S r = encV C r m v ∧ WF m ∧ CntOk m ∧ i < m.n ∧ Q (.int (cnt m.told i)) S
def sp_Market_parcel (C : Cl) : LSp := fun ds S Q _ => ∃ (r : Nat) (m : Mkt) (one other : Nat) (a : Int) (num : Option Nat), ds = [.loc r .mI, .int one, .int other, .int a, encO num] ∧ S r = encM C r m ∧ Ok m ∧ SmallS m 100000 ∧ (one < m.n ∧ other < m.n ∧ one ≠ other) ∧
  (∀ k, num = some k → k < m.told.length) ∧ Q .non (S.setR r (encM C r (parcelM m one other a num)))
def sp_Market_write (C : Cl) : LSp := fun ds S Q _ => ∃ (r : Nat) (m : Mkt) (k : Nat) (s : Sh) (i : Nat) (but : Option Nat), ds = [.loc r .mI, .int k, .int i, encO but] ∧ S r = encM C r m ∧ Ok m ∧ CntOk m ∧ m.shots[k]? = some s ∧ i < m.n ∧ s.written.length = m.n ∧ s.cut.length = m.n ∧ s.watched.length ≤ 1000 ∧
  Q .non (S.setR r (encM C r (writeM m k i but)))
def sp_Market_mark (C : Cl) : LSp := fun ds S Q _ => ∃ (r : Nat) (m : Mkt) (k : Nat) (s : Sh) (a b : Nat), ds = [.loc r .mI, .int k, .int a, .int b] ∧ S r = encM C r m ∧ Ok m ∧ CntOk m ∧ m.shots[k]? = some s ∧ b < m.n ∧ s.written.length = m.n ∧ s.cut.length = m.n ∧ s.watched.length ≤ 1000 ∧
  ((s.written.getD b none).isSome = true → (a, b) ∈ s.watched) ∧ Q .non (S.setR r (encM C r (markM m k a b)))
def sp_Market_take (C : Cl) : LSp := fun ds S Q _ => ∃ (r : Nat) (m : Mkt) (one other : Nat), ds = [.loc r .mI, .int one, .int other] ∧ S r = encM C r m ∧ GOk m ∧ (one < m.n ∧ other < m.n ∧ one ≠ other) ∧ Q .non (S.setR r (encM C r (takeM m one other)))
def sp_Market_begin (C : Cl) : LSp := fun ds S Q _ => ∃ (r : Nat) (m : Mkt) (i : Nat), ds = [.loc r .mI, .int i] ∧ S r = encM C r m ∧ GOk m ∧ i < m.n ∧ Q (.int m.shots.length) (S.setR r (encM C r (beginM m i)))
def sp_law_write (C : Cl) : LSp := fun ds S Q _ => ∃ (r : Nat) (m : Mkt) (k : Nat) (s : Sh) (i : Nat) (but : Option Nat), ds = [.loc r .hT, .int k, .int i, encO but] ∧ S r = encH r m ∧ Ok m ∧ m.shots[k]? = some s ∧ i < m.n ∧ s.written.length = m.n ∧ s.cut.length = m.n ∧ s.watched.length ≤ 1000 ∧
  Q .non (S.setR r (encH r (writeM m k i but)))
def sp_law_take (C : Cl) : LSp := fun ds S Q _ => ∃ (r : Nat) (m : Mkt) (one other : Nat), ds = [.loc r .hT, .int one, .int other] ∧ S r = encH r m ∧ GOk m ∧ (one < m.n ∧ other < m.n ∧ one ≠ other) ∧ Q .non (S.setR r (encH r (takeM m one other)))
def sp_law_begin (C : Cl) : LSp := fun ds S Q _ => ∃ (r : Nat) (m : Mkt) (i : Nat), ds = [.loc r .hT, .int i] ∧ S r = encH r m ∧ GOk m ∧ i < m.n ∧ Q (.int m.shots.length) (S.setR r (encH r (beginM m i)))
def sp_law_by_hand (C : Cl) : LSp := fun ds S Q _ => ∃ (r : Nat) (m : Mkt) (act : Act), ds = [.loc r .hT, encAct act] ∧ S r = encH r m ∧ GOk m ∧ ActOk m.n act ∧ Q (stepM m act).1 (S.setR r (encH r (stepM m act).2))
def sp_law_do (C : Cl) : LSp := fun ds S Q _ => ∃ (r : Nat) (m : Mkt) (act : Act), ds = [.loc r .mI, encAct act] ∧ S r = encM C r m ∧ GOk m ∧ ActOk m.n act ∧ Q (stepM m act).1 (S.setR r (encM C r (stepM m act).2))
end SS
namespace SS
open PySem L2
/-- Shot.__init__: slots 0 self 1 many 2 k 3 one 4 other -/
def r_Shot_init (K : PySem.W.Frag) (C : Cl) : LTS :=
  (rSeq (rFld C.s (rVar 0) "many" (rVar 1)) (rSeq (rFld C.s (rVar 0) "written" (rLc (newA) (iRng (rCons (rVar 1) rNil)) (.nm 2) rYes (rC .non))) (rSeq (rFld C.s (rVar 0) "cut" (rLc (newA) (iRng (rCons (rVar 1) rNil)) (.nm 2) rYes (rC .non))) (rSeq (rFld C.s (rVar 0) "watched" (rDct (newA) (.dT []))) (rSeq (rFld C.s (rVar 0) "lying" (rDct (newA) (.dT []))) (rFor (iRng (rCons (rVar 1) rNil)) (.nm 3) (rFor (iRng (rCons (rVar 1) rNil)) (.nm 4) (rIf (rTest (rOp oNe (rVar 3) (rVar 4))) (rSub (rAttr C.s (rVar 0) "lying") (rTup (rCons (rVar 3) (rCons (rVar 4) rNil))) (rLst (newA) rNil)) rNext))))))))
/-- Shot.has_written: slots 0 self 1 member -/
def r_Shot_has_written (K : PySem.W.Frag) (C : Cl) : LTS :=
  (rRet (rOp oIsNot (rOp ixD (rAttr C.s (rVar 0) "written") (rVar 1)) (rC .non)))
/-- Shot.write: slots 0 self 1 member 2 coins 3 events 4 but 5 one -/
def r_Shot_write (K : PySem.W.Frag) (C : Cl) : LTS :=
  (rSeq (rSub (rAttr C.s (rVar 0) "written") (rVar 1) (rVar 2)) (rSeq (rSub (rAttr C.s (rVar 0) "cut") (rVar 1) (rVar 3)) (rFor (iRng (rCons (rAttr C.s (rVar 0) "many") rNil)) (.nm 5) (rIf (rAnd (rTest (rOp oNe (rVar 5) (rVar 1))) (rTest (rOp oNe (rVar 5) (rVar 4)))) (rSub (rAttr C.s (rVar 0) "watched") (rTup (rCons (rVar 5) (rCons (rVar 1) rNil))) (rC (.bl true))) rNext))))
/-- Shot.parcel: slots 0 self 1 one 2 other 3 amount -/
def r_Shot_parcel (K : PySem.W.Frag) (C : Cl) : LTS :=
  (rIf (rTest (rOp oIn (rTup (rCons (rVar 1) (rCons (rVar 2) rNil))) (rAttr C.s (rVar 0) "watched"))) (rDrop (rBM isL mAppend (rOp ixD (rAttr C.s (rVar 0) "lying") (rTup (rCons (rVar 1) (rCons (rVar 2) rNil)))) (rCons (rVar 3) rNil))) rNext)
/-- Shot.leave: slots 0 self 1 one 2 other -/
def r_Shot_leave (K : PySem.W.Frag) (C : Cl) : LTS :=
  (rDrop (rBM isDT mPopT (rAttr C.s (rVar 0) "watched") (rCons (rTup (rCons (rVar 1) (rCons (rVar 2) rNil))) rNil)))
/-- Events.count: slots 0 self 1 member -/
def r_Events_count (K : PySem.W.Frag) (C : Cl) : LTS :=
  (rSeq (rIf (rTest (rOp oIs (rOp ixD (rAttr C.e (rVar 0) "last") (rVar 1)) (rC .non))) (rRet (rC (.int 0))) rNext) (rRet (rOp ixD (rOp ixD (rAttr C.e (rVar 0) "stamps") (rOp ixD (rAttr C.e (rVar 0) "last") (rVar 1))) (rVar 1))))
/-- Market.parcel: slots 0 self 1 one 2 other 3 amount 4 number 5 shot 6 causes -/
def r_Market_parcel (K : PySem.W.Frag) (C : Cl) : LTS :=
  (rSeq (rFor (iLst (rAttr C.m (rVar 0) "shots")) (.nm 5) (rDrop (rMeth C.s "parcel" (sp_Shot_parcel C) (rVar 5) (rCons (rVar 1) (rCons (rVar 2) (rCons (rVar 3) rNil)))))) (rSeq (rSub (rAttr C.m (rVar 0) "purses") (rVar 2) (rOp oAdd (rOp ixD (rAttr C.m (rVar 0) "purses") (rVar 2)) (rVar 3))) (rSeq (rSet 6 (rLst (newF .tmp) (rCons (rVar 4) rNil))) (rSeq (rIf (rTest (rOp oIs (rVar 4) (rC .non))) (rSet 6 (rLst (newF .tmp) rNil)) rNext) (rDrop (rMeth C.e "add" (sp_Events_add C) (rAttr C.m (rVar 0) "events") (rCons (rTup (rCons (rC (.str "take")) (rCons (rVar 1) (rCons (rVar 2) (rCons (rVar 3) rNil))))) (rCons (rVar 2) (rCons (rVar 6) rNil)))))))))
/-- Market.write: slots 0 self 1 k 2 member 3 but 4 other -/
def r_Market_write (K : PySem.W.Frag) (C : Cl) : LTS :=
  (rSeq (rDrop (rMeth C.s "write" (sp_Shot_write C) (rOp ixD (rAttr C.m (rVar 0) "shots") (rVar 1)) (rCons (rVar 2) (rCons (rOp ixD (rAttr C.m (rVar 0) "purses") (rVar 2)) (rCons (rMeth C.e "count" (sp_Events_count C) (rAttr C.m (rVar 0) "events") (rCons (rVar 2) rNil)) (rCons (rVar 3) rNil)))))) (rFor (iRng (rCons (rAttr C.m (rVar 0) "many") rNil)) (.nm 4) (rIf (rTest (rOp oNe (rVar 4) (rVar 2))) (rDrop (rBM isL mAppend (rOp ixD (rAttr C.m (rVar 0) "roads") (rTup (rCons (rVar 2) (rCons (rVar 4) rNil)))) (rCons (rTup (rCons (rC (.str "mark")) (rCons (rVar 1) (rCons (rC .non) rNil)))) rNil))) rNext)))
/-- Market.mark: slots 0 self 1 k 2 one 3 other -/
def r_Market_mark (K : PySem.W.Frag) (C : Cl) : LTS :=
  (rIf (rTest (rMeth C.s "has_written" (sp_Shot_has_written C) (rOp ixD (rAttr C.m (rVar 0) "shots") (rVar 1)) (rCons (rVar 3) rNil))) (rDrop (rMeth C.s "leave" (sp_Shot_leave C) (rOp ixD (rAttr C.m (rVar 0) "shots") (rVar 1)) (rCons (rVar 2) (rCons (rVar 3) rNil)))) (rDrop (rMeth C.m "write" (sp_Market_write C) (rVar 0) (rCons (rVar 1) (rCons (rVar 3) (rCons (rVar 2) rNil))))))
/-- Market.take: slots 0 self 1 one 2 other 3 first -/
def r_Market_take (K : PySem.W.Frag) (C : Cl) : LTS :=
  (rIf (rTru (rOp ixD (rAttr C.m (rVar 0) "roads") (rTup (rCons (rVar 1) (rCons (rVar 2) rNil))))) (rSeq (rSet 3 (rBM isL mPop0 (rOp ixD (rAttr C.m (rVar 0) "roads") (rTup (rCons (rVar 1) (rCons (rVar 2) rNil)))) (rCons (rC (.int 0)) rNil))) (rIf (rTest (rOp oEq (rOp ixD (rVar 3) (rC (.int 0))) (rC (.str "mark")))) (rDrop (rMeth C.m "mark" (sp_Market_mark C) (rVar 0) (rCons (rOp ixD (rVar 3) (rC (.int 1))) (rCons (rVar 1) (rCons (rVar 2) rNil))))) (rDrop (rMeth C.m "parcel" (sp_Market_parcel C) (rVar 0) (rCons (rVar 1) (rCons (rVar 2) (rCons (rOp ixD (rVar 3) (rC (.int 1))) (rCons (rOp ixD (rVar 3) (rC (.int 2))) rNil)))))))) rNext)
/-- Market.begin: slots 0 self 1 one -/
def r_Market_begin (K : PySem.W.Frag) (C : Cl) : LTS :=
  (rSeq (rDrop (rBM isL mAppend (rAttr C.m (rVar 0) "shots") (rCons (rMake (newA) C.s (sp_Shot_init C) (rCons (rAttr C.m (rVar 0) "many") rNil)) rNil))) (rSeq (rDrop (rMeth C.m "write" (sp_Market_write C) (rVar 0) (rCons (rOp oSub (rCall dLen (rCons (rAttr C.m (rVar 0) "shots") rNil)) (rC (.int 1))) (rCons (rVar 1) (rCons (rC .non) rNil))))) (rRet (rOp oSub (rCall dLen (rCons (rAttr C.m (rVar 0) "shots") rNil)) (rC (.int 1))))))
/-- _law_write: slots 0 hand 1 k 2 member 3 but 4 shot 5 other -/
def r_law_write (K : PySem.W.Frag) (C : Cl) : LTS :=
  (rSeq (rSet 4 (rOp ixD (rOp ixD (rVar 0) (rC (.str "shots"))) (rVar 1))) (rSeq (rSub (rOp ixD (rVar 4) (rC (.str "coins"))) (rVar 2) (rOp ixD (rOp ixD (rVar 0) (rC (.str "coins"))) (rVar 2))) (rSeq (rSub (rOp ixD (rVar 4) (rC (.str "cut"))) (rVar 2) (rOp ixD (rOp ixD (rVar 0) (rC (.str "counts"))) (rVar 2))) (rFor (iRng (rCons (rCall dLen (rCons (rOp ixD (rVar 0) (rC (.str "coins"))) rNil)) rNil)) (.nm 5) (rIf (rTest (rOp oNe (rVar 5) (rVar 2))) (rSeq (rDrop (rBM isL mAppend (rOp ixD (rOp ixD (rVar 0) (rC (.str "roads"))) (rTup (rCons (rVar 2) (rCons (rVar 5) rNil)))) (rCons (rTup (rCons (rC (.str "mark")) (rCons (rVar 1) rNil))) rNil))) (rIf (rTest (rOp oNe (rVar 5) (rVar 3))) (rSub (rOp ixD (rVar 4) (rC (.str "watch"))) (rTup (rCons (rVar 5) (rCons (rVar 2) rNil))) (rC (.bl true))) rNext)) rNext)))))
/-- _law_take: slots 0 hand 1 one 2 other 3 kind 4 amount 5 shot -/
def r_law_take (K : PySem.W.Frag) (C : Cl) : LTS :=
  (rSeq (rIf (rNot (rTru (rOp ixD (rOp ixD (rVar 0) (rC (.str "roads"))) (rTup (rCons (rVar 1) (rCons (rVar 2) rNil)))))) (rRet (rC .non)) rNext) (rSeq (rUnp (.tp [3, 4]) (rBM isL mPop0 (rOp ixD (rOp ixD (rVar 0) (rC (.str "roads"))) (rTup (rCons (rVar 1) (rCons (rVar 2) rNil)))) (rCons (rC (.int 0)) rNil))) (rSeq (rIf (rTest (rOp oEq (rVar 3) (rC (.str "coins")))) (rSeq (rSub (rOp ixD (rVar 0) (rC (.str "coins"))) (rVar 2) (rOp oAdd (rOp ixD (rOp ixD (rVar 0) (rC (.str "coins"))) (rVar 2)) (rVar 4))) (rSeq (rDrop (rDef (sp_law_event C) (rCons (rVar 0) (rCons (rTup (rCons (rC (.str "take")) (rCons (rVar 1) (rCons (rVar 2) (rCons (rVar 4) rNil))))) (rCons (rVar 2) rNil))))) (rFor (iLst (rOp ixD (rVar 0) (rC (.str "shots")))) (.nm 5) (rIf (rTest (rOp oIn (rTup (rCons (rVar 1) (rCons (rVar 2) rNil))) (rOp ixD (rVar 5) (rC (.str "watch"))))) (rDrop (rBM isL mAppend (rOp ixD (rOp ixD (rVar 5) (rC (.str "lying"))) (rTup (rCons (rVar 1) (rCons (rVar 2) rNil)))) (rCons (rVar 4) rNil))) rNext)))) (rIf (rTest (rOp oIs (rOp ixD (rOp ixD (rOp ixD (rOp ixD (rVar 0) (rC (.str "shots"))) (rVar 4)) (rC (.str "coins"))) (rVar 2)) (rC .non))) (rDrop (rDef (sp_law_write C) (rCons (rVar 0) (rCons (rVar 4) (rCons (rVar 2) (rCons (rVar 1) rNil)))))) (rDrop (rBM isDT mPopT (rOp ixD (rOp ixD (rOp ixD (rVar 0) (rC (.str "shots"))) (rVar 4)) (rC (.str "watch"))) (rCons (rTup (rCons (rVar 1) (rCons (rVar 2) rNil))) rNil))))) (rRet (rC .non)))))
/-- _law_begin: slots 0 hand 1 member 2 many 3 lying 4 pair 5 k 6 none -/
def r_law_begin (K : PySem.W.Frag) (C : Cl) : LTS :=
  (rSeq (rSet 2 (rCall dLen (rCons (rOp ixD (rVar 0) (rC (.str "coins"))) rNil))) (rSeq (rSet 3 (rDct (newA) (.dT []))) (rSeq (rFor (iLst (rDef (sp_law_pairs C) (rCons (rVar 2) rNil))) (.nm 4) (rSub (rVar 3) (rVar 4) (rLst (newA) rNil))) (rSeq (rSet 6 (rLc (newF .tmp) (iRng (rCons (rVar 2) rNil)) (.nm 5) rYes (rC .non))) (rSeq (rDrop (rBM isL mAppend (rOp ixD (rVar 0) (rC (.str "shots"))) (rCons (rDisp (newA) [((rC (.str "coins")), (rCall (dList (newA)) (rCons (rVar 6) rNil))), ((rC (.str "cut")), (rCall (dList (newA)) (rCons (rVar 6) rNil))), ((rC (.str "watch")), (rDct (newA) (.dT []))), ((rC (.str "lying")), (rVar 3))]) rNil))) (rSeq (rDrop (rDef (sp_law_write C) (rCons (rVar 0) (rCons (rOp oSub (rCall dLen (rCons (rOp ixD (rVar 0) (rC (.str "shots"))) rNil)) (rC (.int 1))) (rCons (rVar 1) (rCons (rC .non) rNil)))))) (rRet (rOp oSub (rCall dLen (rCons (rOp ixD (rVar 0) (rC (.str "shots"))) rNil)) (rC (.int 1))))))))))
/-- _law_by_hand: slots 0 hand 1 act -/
def r_law_by_hand (K : PySem.W.Frag) (C : Cl) : LTS :=
  (rSeq (rIf (rTest (rOp oEq (rOp ixD (rVar 1) (rC (.int 0))) (rC (.str "begin")))) (rRet (rDef (sp_law_begin C) (rCons (rVar 0) (rCons (rOp ixD (rVar 1) (rC (.int 1))) rNil)))) rNext) (rSeq (rIf (rTest (rOp oEq (rOp ixD (rVar 1) (rC (.int 0))) (rC (.str "take")))) (rRet (rDef (sp_law_take C) (rCons (rVar 0) (rCons (rOp ixD (rVar 1) (rC (.int 1))) (rCons (rOp ixD (rVar 1) (rC (.int 2))) rNil))))) rNext) (rSeq (rIf (rTest (rOp oGt (rOp ixD (rVar 1) (rC (.int 3))) (rOp ixD (rOp ixD (rVar 0) (rC (.str "coins"))) (rOp ixD (rVar 1) (rC (.int 1)))))) (rRet (rC (.str "no coins"))) rNext) (rSeq (rSub (rOp ixD (rVar 0) (rC (.str "coins"))) (rOp ixD (rVar 1) (rC (.int 1))) (rOp oSub (rOp ixD (rOp ixD (rVar 0) (rC (.str "coins"))) (rOp ixD (rVar 1) (rC (.int 1)))) (rOp ixD (rVar 1) (rC (.int 3))))) (rSeq (rDrop (rBM isL mAppend (rOp ixD (rOp ixD (rVar 0) (rC (.str "roads"))) (rTup (rCons (rOp ixD (rVar 1) (rC (.int 1))) (rCons (rOp ixD (rVar 1) (rC (.int 2))) rNil)))) (rCons (rTup (rCons (rC (.str "coins")) (rCons (rOp ixD (rVar 1) (rC (.int 3))) rNil))) rNil))) (rSeq (rDrop (rDef (sp_law_event C) (rCons (rVar 0) (rCons (rTup (rCons (rC (.str "give")) (rCons (rOp ixD (rVar 1) (rC (.int 1))) (rCons (rOp ixD (rVar 1) (rC (.int 2))) (rCons (rOp ixD (rVar 1) (rC (.int 3))) rNil))))) (rCons (rOp ixD (rVar 1) (rC (.int 1))) rNil))))) (rRet (rC .non))))))))
/-- _law_do: slots 0 market 1 act 2 told -/
def r_law_do (K : PySem.W.Frag) (C : Cl) : LTS :=
  (rSeq (rSet 2 (rC .non)) (rSeq (rTry K (.ref C.noCoins) (rIf (rTest (rOp oEq (rOp ixD (rVar 1) (rC (.int 0))) (rC (.str "give")))) (rSet 2 (rMethX C.m "give" (sp_Market_give C) (rVar 0) (rCons (rOp ixD (rVar 1) (rC (.int 1))) (rCons (rOp ixD (rVar 1) (rC (.int 2))) (rCons (rOp ixD (rVar 1) (rC (.int 3))) rNil))))) (rIf (rTest (rOp oEq (rOp ixD (rVar 1) (rC (.int 0))) (rC (.str "take")))) (rSet 2 (rMeth C.m "take" (sp_Market_take C) (rVar 0) (rCons (rOp ixD (rVar 1) (rC (.int 1))) (rCons (rOp ixD (rVar 1) (rC (.int 2))) rNil)))) (rSet 2 (rMeth C.m "begin" (sp_Market_begin C) (rVar 0) (rCons (rOp ixD (rVar 1) (rC (.int 1))) rNil))))) (rSet 2 (rC (.str "no coins")))) (rRet (rVar 2))))
end SS
namespace SS
open PySem L2
theorem set_map {α : Type} {l : List Sh} {k j : Nat} {s s' : Sh} {g : Sh → α} (h : l[k]? = some s) (e : g s' = g s) : ((l.set k s')[j]?).map g = (l[j]?).map g := by
  rw [List.getElem?_set]
  by_cases hk : k = j
  · subst hk
    have hl : k < l.length := (List.getElem?_eq_some_iff.mp h).1
    rw [if_pos rfl, if_pos hl, h, Option.map_some, Option.map_some, e]
  · rw [if_neg hk]
theorem set_at {l : List Sh} {k : Nat} {s s' : Sh} (h : l[k]? = some s) : (l.set k s')[k]? = some s' := by
  have hl : k < l.length := (List.getElem?_eq_some_iff.mp h).1
  rw [List.getElem?_set, if_pos rfl, if_pos hl]
theorem set_off {l : List Sh} {k j : Nat} {s' : Sh} (h : j ≠ k) : (l.set k s')[j]? = l[j]? := by
  rw [List.getElem?_set, if_neg (Ne.symm h)]
section
variable {C : Cl} {r : Nat} {m : Mkt} {v k : Nat} {s : Sh}
theorem enc_sW (h : m.shots[k]? = some s) (w : List (Option Int)) : fset (encV C r m v) (.sW k) (.lst (w.map encOI)) = encV C r { m with shots := m.shots.set k { s with written := w } } v := by
  funext f; cases f <;> simp only [fset, encV, reduceCtorEq, if_false, List.length_set, Fld.sW.injEq]
  · rename_i j
    by_cases e : j = k
    · subst e; rw [if_pos rfl, set_at h]; rfl
    · rw [if_neg e, set_off e]
  · rw [set_map h (by rfl)]
  · rw [set_map h (by rfl)]
  · rw [set_map (g := fun s => lints (s.lying _ _)) h (by rfl)]
theorem enc_sC (h : m.shots[k]? = some s) (w : List (Option Int)) : fset (encV C r m v) (.sC k) (.lst (w.map encOI)) = encV C r { m with shots := m.shots.set k { s with cut := w } } v := by
  funext f; cases f <;> simp only [fset, encV, reduceCtorEq, if_false, List.length_set, Fld.sC.injEq]
  · rw [set_map h (by rfl)]
  · rename_i j
    by_cases e : j = k
    · subst e; rw [if_pos rfl, set_at h]; rfl
    · rw [if_neg e, set_off e]
  · rw [set_map h (by rfl)]
  · rw [set_map (g := fun s => lints (s.lying _ _)) h (by rfl)]
theorem enc_sWa (h : m.shots[k]? = some s) (w : List (Nat × Nat)) : fset (encV C r m v) (.sWa k) (watchD w) = encV C r { m with shots := m.shots.set k { s with watched := w } } v := by
  funext f; cases f <;> simp only [fset, encV, reduceCtorEq, if_false, List.length_set, Fld.sWa.injEq]
  · rw [set_map h (by rfl)]
  · rw [set_map h (by rfl)]
  · rename_i j
    by_cases e : j = k
    · subst e; rw [if_pos rfl, set_at h]; rfl
    · rw [if_neg e, set_off e]
  · rw [set_map (g := fun s => lints (s.lying _ _)) h (by rfl)]
theorem enc_sLi (h : m.shots[k]? = some s) {a b : Nat} (hr : a < m.n ∧ b < m.n ∧ a ≠ b) (l : List Int) : fset (encV C r m v) (.sLi k a b) (lints l) = encV C r { m with shots := m.shots.set k { s with lying := up2 s.lying a b l } } v := by
  funext f; cases f <;> simp only [fset, encV, reduceCtorEq, if_false, List.length_set, Fld.sLi.injEq]
  · rw [set_map h (by rfl)]
  · rw [set_map h (by rfl)]
  · rw [set_map h (by rfl)]
  · rename_i j c d
    by_cases e : j = k ∧ c = a ∧ d = b
    · obtain ⟨rfl, rfl, rfl⟩ := e
      rw [if_pos ⟨rfl, rfl, rfl⟩, if_pos hr, set_at h, Option.map_some]; dsimp only; rw [up2_same]
    · rw [if_neg e]
      by_cases ej : j = k
      · subst ej
        have e2 : ¬ (c = a ∧ d = b) := fun z => e ⟨rfl, z⟩
        rw [set_at h, h, Option.map_some, Option.map_some]; dsimp only; rw [up2_ne e2]
      · rw [set_off ej]
theorem enc_sI (h : m.shots[k]? = some s) : encV C r m v (.sI k) = some (.ins C.s (sFs r m.n k)) := if_pos (List.getElem?_eq_some_iff.mp h).1
end
/-! the dict of what is watched -/
theorem watch_put (w : List (Nat × Nat)) (p : Nat × Nat) : dput (w.map fun p => (pk p, D.bl true)) (pk p) (.bl true) = (wput w p).map fun p => (pk p, D.bl true) := by
  unfold wput
  by_cases h : p ∈ w
  · rw [if_pos h]
    unfold dput
    rw [if_pos]
    · rw [List.map_map]
      refine List.map_congr_left fun q _ => ?_
      show (if pk q = pk p then (pk q, D.bl true) else (pk q, D.bl true)) = _
      split <;> rfl
    · rw [List.any_map, List.any_eq_true]
      exact ⟨p, h, by simp⟩
  · rw [if_neg h, dput_new _ h, List.map_append]; rfl
theorem watch_drop (w : List (Nat × Nat)) (p : Nat × Nat) : ddrop (w.map fun p => (pk p, D.bl true)) (pk p) = (w.filter fun q => decide (q ≠ p)).map fun p => (pk p, D.bl true) := by
  unfold ddrop
  rw [List.filter_map]
  congr 1
  refine List.filter_congr fun q _ => ?_
  show decide (pk q ≠ pk p) = decide (q ≠ p)
  by_cases h : q = p
  · subst h; simp
  · have : pk q ≠ pk p := fun z => h (pk_inj z)
    simp [h, this]
theorem watch_in (w : List (Nat × Nat)) (p : Nat × Nat) : (dget (w.map fun p => (pk p, D.bl true)) (pk p)).isSome = decide (p ∈ w) := by
  by_cases h : p ∈ w
  · rw [dget_map (fun _ => D.bl true) h]; simp [h]
  · rw [dget_none (fun _ => D.bl true) h]; simp [h]
theorem wput_len (w : List (Nat × Nat)) (p : Nat × Nat) : (wput w p).length ≤ w.length + 1 := by
  unfold wput; split
  · omega
  · rw [List.length_append]; simp
theorem watchTo_succ (i : Nat) (but : Option Nat) (w : List (Nat × Nat)) (j : Nat) : watchTo i but w (j + 1) = if j ≠ i ∧ some j ≠ but then wput (watchTo i but w j) (j, i) else watchTo i but w j := by
  unfold watchTo; rw [List.range_succ, List.foldl_append]; rfl
theorem watchTo_len (i : Nat) (but : Option Nat) (w : List (Nat × Nat)) : ∀ j, (watchTo i but w j).length ≤ w.length + j
  | 0 => by simp [watchTo]
  | j + 1 => by
    rw [watchTo_succ]
    have := watchTo_len i but w j
    split
    · have := wput_len (watchTo i but w j) (j, i); omega
    · omega
theorem written_at {s : Sh} {i : Nat} (h : i < s.written.length) : (s.written.map encOI)[i]? = some (encOI (s.written.getD i none)) := by
  rw [List.getElem?_map, getD_at h none]; rfl
theorem read_Shot_has_written {K : PySem.W.Frag} {C : Cl} (ds : List D) (S : Store) (Q : QD) (Ex : Value → Store → Prop) (h : sp_Shot_has_written C ds S Q Ex) : r_Shot_has_written K C (ends0 Q) (start ["self", "member"] ds) S := by
  obtain ⟨r, m, v, k, s, i, rfl, hS, hk, hi, q⟩ := h
  refine ⟨_, rfl, r, .sI k, _, _, rfl, by rw [hS]; exact enc_sI hk, rfl, _, rfl, .inl ⟨s.written.map encOI, _, encOI (s.written.getD i none), by show _ = _; rw [hS]; simp [encV, hk], rfl, atI_nat (written_at hi), rfl, !(s.written.getD i none).isSome, ?_, .here ?_⟩⟩
  · cases s.written.getD i none <;> rfl
  · rw [Bool.not_not]; exact q
theorem cut_set (s : Sh) (i : Nat) (e : Int) : (s.cut.map encOI).set i (.int e) = (s.cut.set i (some e)).map encOI := by rw [List.map_set]; rfl
theorem read_Shot_write {K : PySem.W.Frag} {C : Cl} (ds : List D) (S : Store) (Q : QD) (Ex : Value → Store → Prop) (h : sp_Shot_write C ds S Q Ex) : r_Shot_write K C (ends0 Q) (start ["self", "member", "coins", "events", "but", "one"] ds) S := by
  obtain ⟨r, m, v, k, s, i, c, e, but, rfl, hS, n5, hk, hi, hj, hw, q⟩ := h
  refine ⟨_, rfl, _, rfl, r, .sI k, _, _, rfl, by rw [hS]; exact enc_sI hk, rfl, _, rfl, _, .l (ds := s.written.map encOI) (by rw [hS]; simp [encV, hk]) (ixN_nat (by rw [List.length_map]; exact hi)), .here ?_⟩
  rw [set_R, hS, show (s.written.map encOI).set i (.int c) = (s.written.set i (some c)).map encOI by rw [List.map_set]; rfl, enc_sW hk]
  have h1 : ({ m with shots := m.shots.set k { s with written := s.written.set i (some c) } } : Mkt).shots[k]? = some { s with written := s.written.set i (some c) } := set_at hk
  refine ⟨_, rfl, _, rfl, r, .sI k, _, _, rfl, by rw [setR_same]; exact enc_sI h1, rfl, _, rfl, _, .l (ds := s.cut.map encOI) (by rw [setR_same]; simp [encV, h1]) (ixN_nat (by rw [List.length_map]; exact hj)), .here ?_⟩
  rw [cut_set, setR_set, enc_sC h1]
  have e2 : ∀ j, ({ m with shots := m.shots.set k { s with written := s.written.set i (some c), cut := s.cut.set i (some e), watched := watchTo i but s.watched j } } : Mkt).shots[k]? = some { s with written := s.written.set i (some c), cut := s.cut.set i (some e), watched := watchTo i but s.watched j } := fun j => set_at hk
  refine ⟨_, rfl, r, .sI k, _, _, rfl, by rw [setR_same]; exact enc_sI (set_at h1), rfl, _, rfl, by show -(2 ^ 62) ≤ (m.n : Int); omega, by show (m.n : Int) < 2 ^ 62; omega, ?_⟩
  refine ⟨fun j env S' => ∃ v5, env = [some (.loc r (.sI k)), some (.int i), some (.int c), some (.int e), some (encO but), v5] ∧ S' = S.setR r (encV C r { m with shots := m.shots.set k { s with written := s.written.set i (some c), cut := s.cut.set i (some e), watched := watchTo i but s.watched j } } v), .here ⟨none, rfl, ?_⟩, ?_, ?_⟩
  · show S.setR r (encV C r { m with shots := (m.shots.set k { s with written := s.written.set i (some c) }).set k { s with written := s.written.set i (some c), cut := s.cut.set i (some e) } } v) = _
    rw [List.set_set]; rfl
  · rintro j d env S' hd ⟨v5, rfl, rfl⟩
    obtain ⟨hjn, rfl⟩ := rng_is (n := m.n) hd
    refine ⟨trivial, ?_⟩
    have stay : ¬ (j ≠ i ∧ some j ≠ but) → watchTo i but s.watched (j + 1) = watchTo i but s.watched j := fun z => by rw [watchTo_succ, if_neg z]
    refine ⟨_, rfl, _, rfl, _, rfl, _, rfl, ifB (fun hne => ?_) fun hne => ?_⟩
    · have hji : j ≠ i := vne.mp hne
      have go : ∀ kk : Bool, (kk = true ↔ some j ≠ but) → if kk = true then _ else _ := fun kk hkk => by
        exact ifB (b := kk) (A := rSub (rAttr C.s (rVar 0) "watched") (rTup (rCons (rVar 5) (rCons (rVar 1) rNil))) (rC (.bl true)) { nx := fun e_1 s_1 => Wk ((fun j env S' => ∃ v5, env = [some (.loc r (.sI k)), some (.int i), some (.int c), some (.int e), some (encO but), v5] ∧ S' = S.setR r (encV C r { m with shots := m.shots.set k { s with written := s.written.set i (some c), cut := s.cut.set i (some e), watched := watchTo i but s.watched j } } v)) (j + 1) e_1) s_1, rt := fun d S' => Wk (Q d) S' } [some (.loc r (.sI k)), some (.int i), some (.int c), some (.int e), some (encO but), some (.int j)] (S.setR r (encV C r { m with shots := m.shots.set k { s with written := s.written.set i (some c), cut := s.cut.set i (some e), watched := watchTo i but s.watched j } } v)))
          (B := Wk ((fun j env S' => ∃ v5, env = [some (.loc r (.sI k)), some (.int i), some (.int c), some (.int e), some (encO but), v5] ∧ S' = S.setR r (encV C r { m with shots := m.shots.set k { s with written := s.written.set i (some c), cut := s.cut.set i (some e), watched := watchTo i but s.watched j } } v)) (j + 1) [some (.loc r (.sI k)), some (.int i), some (.int c), some (.int e), some (encO but), some (.int j)]) (S.setR r (encV C r { m with shots := m.shots.set k { s with written := s.written.set i (some c), cut := s.cut.set i (some e), watched := watchTo i but s.watched j } } v)))
          (fun hb => by
            refine ⟨_, rfl, r, .sI k, _, _, rfl, by rw [setR_same]; exact enc_sI (e2 j), rfl, _, rfl, _, rfl, t2, _, .t (ks := pk (j, i)) (kvs := (watchTo i but s.watched j).map fun p => (pk p, D.bl true)) (by rw [setR_same]; simp [encV, e2 j]; rfl) (by rw [List.length_map]; have := watchTo_len i but s.watched j; exact szl _ (by omega)), .here ⟨_, rfl, ?_⟩⟩
            rw [setR_set, watch_put, show LO.dT ((wput (watchTo i but s.watched j) (j, i)).map fun p => (pk p, D.bl true)) = watchD (wput (watchTo i but s.watched j) (j, i)) from rfl, enc_sWa (e2 j)]
            rw [watchTo_succ, if_pos ⟨hji, hkk.mp hb⟩]
            show S.setR r (encV C r { m with shots := (m.shots.set k _).set k _ } v) = _
            rw [List.set_set])
          (fun hb => .here ⟨_, rfl, by rw [stay fun z => hb (hkk.mpr z.2)]⟩)
      cases but with
      | none => exact ⟨_, rfl, _, rfl, _, rfl, _, rfl, go _ (by simp)⟩
      | some b => exact ⟨_, rfl, _, rfl, _, rfl, _, rfl, go _ (by rw [vne]; simp)⟩
    · have hji : j = i := Classical.byContradiction fun z => hne (vne.mpr z)
      exact .here ⟨_, rfl, by rw [stay fun z => z.1 hji]⟩
  · rintro env S' ⟨v5, rfl, rfl⟩
    refine ⟨trivial, .here ?_⟩
    rw [List.length_map, List.length_range]
    exact q
end SS
namespace SS
open PySem L2
section
variable {C : Cl} {r : Nat} {m : Mkt} {v k : Nat} {s : Sh} {S : Store}
theorem at_watch (hS : S r = encV C r m v) (h : m.shots[k]? = some s) (a b : Nat) : DAt S (.loc r (.sWa k)) (.tup [.int a, .int b]) (dget (s.watched.map fun p => (pk p, D.bl true)) (pk (a, b))) :=
  DAt.t (S := S) (r := r) (f := .sWa k) (ks := pk (a, b)) (.inl (by rw [hS]; simp [encV, h]; rfl))
theorem at_lying (hS : S r = encV C r m v) (h : m.shots[k]? = some s) {a b : Nat} (hr : a < m.n ∧ b < m.n ∧ a ≠ b) : DAt S (.loc r (.sLy k)) (.tup [.int a, .int b]) (some (.loc r (.sLi k a b))) := by
  have hl : k < m.shots.length := (List.getElem?_eq_some_iff.mp h).1
  have := DAt.t (S := S) (r := r) (f := .sLy k) (ks := pk (a, b)) (kvs := (pairs m.n).map fun p => (pk p, D.loc r (.sLi k p.1 p.2))) (.inl (by rw [hS]; simp [encV, hl]; rfl))
  rw [dget_map (fun p => D.loc r (.sLi k p.1 p.2)) (mem_pairs.mpr hr)] at this
  exact this
theorem lie_at (h : m.shots[k]? = some s) {a b : Nat} (hr : a < m.n ∧ b < m.n ∧ a ≠ b) : encV C r m v (.sLi k a b) = some (lints (s.lying a b)) := by
  simp only [encV]; rw [if_pos hr, h]; rfl
end
theorem read_Shot_parcel {K : PySem.W.Frag} {C : Cl} (ds : List D) (S : Store) (Q : QD) (Ex : Value → Store → Prop) (h : sp_Shot_parcel C ds S Q Ex) : r_Shot_parcel K C (ends0 Q) (start ["self", "one", "other", "amount"] ds) S := by
  obtain ⟨r, m, v, k, s, one, other, a, rfl, hS, hk, hr, hl, q⟩ := h
  refine ⟨_, rfl, _, rfl, t2, _, rfl, r, .sI k, _, _, rfl, by rw [hS]; exact enc_sI hk, rfl, _, at_watch hS hk one other, _, rfl, ?_⟩
  rw [watch_in]
  refine ifD (fun hin => ?_) fun hin => ?_
  · have hL : S r (.sLi k one other) = some (.lst ((s.lying one other).map D.int)) := by rw [hS]; exact lie_at hk hr
    refine ⟨_, rfl, r, .sI k, _, _, rfl, by rw [hS]; exact enc_sI hk, rfl, _, rfl, _, rfl, t2, .inr ⟨_, at_lying hS hk hr, ⟨_, hL⟩, _, rfl, _, _, _, _, rfl, rfl, hL, by rw [List.length_map]; exact szl _ (by omega), .here ?_⟩⟩
    rw [set_R, hS, show LO.lst ((s.lying one other).map D.int ++ [.int a]) = lints (s.lying one other ++ [a]) by unfold lints; rw [List.map_append]; rfl, enc_sLi hk hr]
    have e : shotParcel one other a s = { s with lying := up2 s.lying one other (s.lying one other ++ [a]) } := if_pos hin
    rw [e] at q; exact q
  · have e : shotParcel one other a s = s := if_neg hin
    rw [e] at q
    have e2 : m.shots.set k s = m.shots := by
      refine List.ext_getElem? fun j => ?_
      by_cases z : j = k
      · subst z; rw [set_at hk, hk]
      · rw [set_off z]
    rw [e2, setR_self hS] at q
    exact .here q
theorem read_Shot_leave {K : PySem.W.Frag} {C : Cl} (ds : List D) (S : Store) (Q : QD) (Ex : Value → Store → Prop) (h : sp_Shot_leave C ds S Q Ex) : r_Shot_leave K C (ends0 Q) (start ["self", "one", "other"] ds) S := by
  obtain ⟨r, m, v, k, s, one, other, rfl, hS, hk, hin, q⟩ := h
  have hW : S r (.sWa k) = some (.dT (s.watched.map fun p => (pk p, D.bl true))) := by rw [hS]; simp [encV, hk]; rfl
  refine ⟨_, rfl, r, .sI k, _, _, rfl, by rw [hS]; exact enc_sI hk, rfl, ⟨r, _, _, rfl, hW⟩, _, rfl, _, rfl, t2, r, _, _, pk (one, other), _, rfl, rfl, hW, dget_map (fun _ => D.bl true) hin, .here ?_⟩
  rw [watch_drop, set_R, hS, show LO.dT ((s.watched.filter fun q => decide (q ≠ (one, other))).map fun p => (pk p, D.bl true)) = watchD (s.watched.filter fun q => decide (q ≠ (one, other))) from rfl, enc_sWa hk]
  exact q
theorem read_Events_count {K : PySem.W.Frag} {C : Cl} (ds : List D) (S : Store) (Q : QD) (Ex : Value → Store → Prop) (h : sp_Events_count C ds S Q Ex) : r_Events_count K C (ends0 Q) (start ["self", "member"] ds) S := by
  obtain ⟨r, m, v, i, rfl, hS, hw, hc, hi, q⟩ := h
  have hI : S r .eI = some (.ins C.e (eFs r m.n)) := by rw [hS]; rfl
  have hla : m.last[i]? = some (m.last.getD i none) := getD_at (by rw [hw.ll]; exact hi) _
  have hL : SeqD S (.loc r .eLa) (m.last.map encO) := by show _ = _; rw [hS]; rfl
  refine ⟨_, rfl, r, .eI, _, _, rfl, hI, rfl, _, rfl, .inl ⟨m.last.map encO, _, encO (m.last.getD i none), hL, rfl, atI_nat (by rw [List.getElem?_map, hla]; rfl), rfl, !(m.last.getD i none).isSome, by cases m.last.getD i none <;> rfl, _, rfl, ?_⟩⟩
  cases e : m.last.getD i none with
  | none =>
    rw [e] at hla
    rw [hc.no i hla] at q
    exact iteT (.here q)
  | some j =>
    rw [e] at hla
    have hj := hw.lv i j hla
    have hsj : m.stamps[j]? = some (m.stamps.getD j []) := getD_at (by rw [hw.sl]; exact hj) _
    have hsl := hw.se j _ hsj
    refine iteF (.here ?_)
    refine ⟨_, rfl, r, .eI, _, _, rfl, hI, rfl, _, rfl, r, .eI, _, _, rfl, hI, rfl, _, rfl, .inl ⟨m.last.map encO, _, .int j, hL, rfl, atI_nat (by rw [List.getElem?_map, hla]; rfl), .inl ⟨m.stamps.map fun s => .tup (s.map D.int), _, .tup ((m.stamps.getD j []).map D.int), by show _ = _; rw [hS]; rfl, rfl, atI_nat (by rw [List.getElem?_map, hsj]; rfl), _, rfl, .inl ⟨_, _, .int ((m.stamps.getD j []).getD i 0), rfl, rfl, atI_nat (by rw [List.getElem?_map, getD_at (by rw [hsl]; exact hi) 0]; rfl), .here ?_⟩⟩⟩⟩
    rw [hc.at_ i j hla]; exact q
theorem parcel_shots (one other : Nat) (a : Int) (l : List Sh) (j : Nat) (s : Sh) (h : l[j]? = some s) : ((l.take j).map (shotParcel one other a) ++ l.drop j).set j (shotParcel one other a s) = (l.take (j + 1)).map (shotParcel one other a) ++ l.drop (j + 1) := by
  have hj : j < l.length := (List.getElem?_eq_some_iff.mp h).1
  have hlen : ((l.take j).map (shotParcel one other a)).length = j := by simp; omega
  rw [List.set_append_right _ _ (by rw [hlen]; exact Nat.le_refl _), hlen, Nat.sub_self, take_one h, List.map_append, List.append_assoc]
  congr 1
  rw [List.drop_eq_getElem_cons hj]
  rfl
theorem read_Market_parcel {K : PySem.W.Frag} {C : Cl} (ds : List D) (S : Store) (Q : QD) (Ex : Value → Store → Prop) (h : sp_Market_parcel C ds S Q Ex) : r_Market_parcel K C (ends0 Q) (start ["self", "one", "other", "amount", "number", "shot", "causes"] ds) S := by
  obtain ⟨r, m, one, other, a, num, rfl, hS, ok, hss, hr, hn, q⟩ := h
  have h2 := hr.2.1
  let mj : Nat → Mkt := fun j => { m with shots := (m.shots.take j).map (shotParcel one other a) ++ m.shots.drop j }
  have lj : ∀ j, j ≤ m.shots.length → (mj j).shots.length = m.shots.length := fun j hj => by
    show ((m.shots.take j).map _ ++ m.shots.drop j).length = _
    simp; omega
  have hmS : ∀ (X : Mkt), (S.setR r (encV C r X m.shots.length)) r .mS = some (.lst ((List.range m.shots.length).map fun k => .loc r (.sI k))) := fun X => by rw [setR_same]; rfl
  refine ⟨_, rfl, r, .mI, _, _, rfl, by rw [hS]; rfl, rfl, _, by show _ = _; rw [hS]; rfl, ?_⟩
  refine ⟨fun j env S' => ∃ v5, env = [some (.loc r .mI), some (.int one), some (.int other), some (.int a), some (encO num), v5, none] ∧ j ≤ m.shots.length ∧ S' = S.setR r (encV C r (mj j) m.shots.length), .here ⟨none, rfl, Nat.zero_le _, ?_⟩, ?_, ?_⟩
  · have e : mj 0 = m := by show ({ m with shots := (m.shots.take 0).map _ ++ m.shots.drop 0 } : Mkt) = m; simp
    rw [e]; exact (setR_self hS).symm
  · rintro j d env S' hd ⟨v5, rfl, hj, rfl⟩
    rw [List.getElem?_map] at hd
    cases ek : (List.range m.shots.length)[j]? with
    | none => rw [ek] at hd; cases hd
    | some k =>
    rw [ek] at hd; cases hd
    have hjl : j < m.shots.length := by
      have := (List.getElem?_eq_some_iff.mp ek).1; simpa using this
    have : k = j := by rw [List.getElem?_range hjl] at ek; exact (Option.some.inj ek).symm
    subst this
    obtain ⟨s, hs⟩ : ∃ s, m.shots[k]? = some s := ⟨m.shots[k], by simp [hjl]⟩
    have hsk : (mj k).shots[k]? = some s := by
      show ((m.shots.take k).map _ ++ m.shots.drop k)[k]? = some s
      rw [List.getElem?_append_right (by simp; omega)]
      simp [hs, Nat.min_eq_left (Nat.le_of_lt hjl)]
    refine ⟨hmS _, ?_⟩
    refine ⟨_, rfl, r, .sI k, _, rfl, by rw [setR_same]; exact enc_sI hsk, rfl, _, rfl, _, rfl, _, rfl, ?_⟩
    refine ⟨r, mj k, m.shots.length, k, s, one, other, a, rfl, setR_same, hsk, hr, hss k s one other hs, .here ⟨_, rfl, hjl, ?_⟩⟩
    rw [setR_setR]
    show S.setR r (encV C r { m with shots := ((m.shots.take k).map (shotParcel one other a) ++ m.shots.drop k).set k (shotParcel one other a s) } m.shots.length) = _
    rw [parcel_shots one other a m.shots k s hs]
  rintro env S' ⟨v5, rfl, hj, rfl⟩
  rw [List.length_map, List.length_range] at *
  refine ⟨hmS _, .here ?_⟩
  have em : mj m.shots.length = { m with shots := m.shots.map (shotParcel one other a) } := by
    show ({ m with shots := (m.shots.take m.shots.length).map _ ++ m.shots.drop m.shots.length } : Mkt) = _
    rw [List.take_length, List.drop_length, List.append_nil]
  rw [em]
  generalize hm0 : ({ m with shots := m.shots.map (shotParcel one other a) } : Mkt) = m0
  have ep0 : m0.purses = m.purses := by rw [← hm0]
  have hp0 : m0.purses[other]? = some (m.purses.getD other 0) := by rw [ep0]; exact purse_at ok h2
  have ok0 : Ok m0 := by rw [← hm0]; exact ⟨wf_shots ok.1 _, ⟨ok.2.told, ok.2.roads, by show (m.shots.map _).length ≤ _; rw [List.length_map]; exact ok.2.shots⟩⟩
  refine ⟨_, rfl, r, .mI, _, _, rfl, by rw [setR_same]; rfl, rfl, _, rfl, .inl ⟨m0.purses.map D.int, _, .int (m.purses.getD other 0), by show _ = _; rw [setR_same]; rfl, rfl, atI_nat (by rw [List.getElem?_map, hp0]; rfl), _, rfl, _, _, rfl, rfl, _, rfl, r, .mI, _, _, rfl, by rw [setR_same]; rfl, rfl, _, rfl, _, .l (ds := m0.purses.map D.int) (by rw [setR_same]; rfl) (ixN_nat (by rw [List.length_map, ep0, ok.1.pl]; exact h2)), .here ?_⟩⟩
  rw [← List.map_set, setR_set, show LO.lst ((m0.purses.set other (m.purses.getD other 0 + a)).map D.int) = lints (m0.purses.set other (m.purses.getD other 0 + a)) from rfl, enc_mP]
  generalize hm1 : ({ m0 with purses := m0.purses.set other (m.purses.getD other 0 + a) } : Mkt) = m1
  have ok1 : Ok m1 := hm1 ▸ ok_purses ok0 other _
  have en : m1.n = m.n := by rw [← hm1, ← hm0]
  have et : m1.told = m.told := by rw [← hm1, ← hm0]
  have fin : ∀ (v5 : Option D) (rl : Nat) (X : Store), (∀ f, (S.setR r (encV C r m1 m.shots.length)) rl f = none) → X = (S.setR r (encV C r m1 m.shots.length)).setR rl (tmpR (.lst ((causesOf num).map encO))) →
      rDrop (rMeth C.e "add" (sp_Events_add C) (rAttr C.m (rVar 0) "events") (rCons (rTup (rCons (rC (.str "take")) (rCons (rVar 1) (rCons (rVar 2) (rCons (rVar 3) rNil))))) (rCons (rVar 2) (rCons (rVar 6) rNil)))) (ends0 Q) [some (.loc r .mI), some (.int one), some (.int other), some (.int a), some (encO num), v5, some (.loc rl .tmp)] X := by
    rintro v5 rl X hrl rfl
    have nrl : r ≠ rl := ne_fresh hrl (f := .mI) (by rw [setR_same]; simp [encV])
    refine ⟨_, rfl, r, .mI, _, _, rfl, by rw [setR_ne nrl, setR_same]; rfl, rfl, r, .eI, _, rfl, by rw [setR_ne nrl, setR_same]; rfl, rfl, _, rfl, _, rfl, _, rfl, t4, _, rfl, _, rfl, ?_⟩
    refine ⟨r, m1, m.shots.length, ⟨false, one, other, a⟩, other, rl, causesOf num, rfl, Ne.symm nrl, by rw [setR_ne nrl, setR_same], ok1, by rw [en]; exact h2, by rw [tmp_at], ?_, ?_, ?_⟩
    · cases num <;> simp [causesOf]
    · intro k hk
      rw [et]
      cases num with
      | none => cases hk
      | some j =>
        simp [causesOf] at hk
        exact hn k (by rw [hk])
    · refine ⟨S.setR r (encM C r (parcelM m one other a num)), ?_, q⟩
      have ep : encM C r (parcelM m one other a num) = encV C r (addEv m1 ⟨false, one, other, a⟩ other (causesOf num)) m.shots.length := by
        unfold parcelM encM
        rw [← hm1, ← hm0]
        congr 1
        show (m.shots.map _).length = _
        rw [List.length_map]
      rw [ep, setR_comm (Ne.symm nrl), setR_setR]
      exact sub_drop fun f => by have := hrl f; rwa [setR_ne (Ne.symm nrl)] at this ⊢
  refine ⟨_, rfl, t1, fun rl hrl => ?_⟩
  rw [set_tmp hrl]
  cases num with
  | none =>
    refine ⟨_, sub_drop hrl, ?_⟩
    refine ⟨_, rfl, rfl, _, rfl, _, rfl, iteT ⟨t0, fun r2 hr2 => ?_⟩⟩
    rw [set_tmp hr2]
    exact .here (fin _ _ _ hr2 rfl)
  | some k =>
    refine .here ⟨_, rfl, rfl, _, rfl, _, rfl, iteF (.here (fin _ _ _ hrl rfl))⟩
end SS
namespace SS
open PySem L2
/-- a market whose newest picture has the roads l so far -/
def encSB (C : Cl) (r : Nat) (m : Mkt) (l : List (Nat × Nat)) : Reg := fun f => match f with
  | .sI j => if j = m.shots.length then some (.ins C.s (sFs r m.n j)) else encM C r m f
  | .sW j => if j = m.shots.length then some (.lst (List.replicate m.n .non)) else encM C r m f
  | .sC j => if j = m.shots.length then some (.lst (List.replicate m.n .non)) else encM C r m f
  | .sWa j => if j = m.shots.length then some (.dT []) else encM C r m f
  | .sLy j => if j = m.shots.length then some (.dT (l.map fun p => (pk p, .loc r (.sLi j p.1 p.2)))) else encM C r m f
  | .sLi j a b => if j = m.shots.length then (if (a, b) ∈ l then some (.lst []) else none) else encM C r m f
  | f => encM C r m f
theorem app_at {l : List Sh} {s : Sh} {j : Nat} : (l ++ [s])[j]? = if j = l.length then some s else l[j]? := by
  by_cases h : j = l.length
  · subst h; simp
  · rw [if_neg h]
    rcases Nat.lt_or_ge j l.length with z | z
    · rw [List.getElem?_append_left z]
    · rw [List.getElem?_eq_none (by simp; omega), List.getElem?_eq_none z]
theorem encSB_all (C : Cl) (r : Nat) (m : Mkt) : encSB C r m (pairs m.n) = encV C r { m with shots := m.shots ++ [newSh m.n] } m.shots.length := by
  funext f
  cases f <;> simp only [encSB, encM, encV, List.length_append, List.length_singleton]
  · rename_i j
    by_cases e : j = m.shots.length
    · subst e; rw [if_pos rfl, if_pos (by omega)]
    · rw [if_neg e]
      by_cases h : j < m.shots.length
      · rw [if_pos h, if_pos (by omega)]
      · rw [if_neg h, if_neg (by omega)]
  · rename_i j
    rw [app_at]
    by_cases e : j = m.shots.length
    · subst e; rw [if_pos rfl, if_pos rfl]; simp [newSh, encOI]
    · rw [if_neg e, if_neg e]
  · rename_i j
    rw [app_at]
    by_cases e : j = m.shots.length
    · subst e; rw [if_pos rfl, if_pos rfl]; simp [newSh, encOI]
    · rw [if_neg e, if_neg e]
  · rename_i j
    rw [app_at]
    by_cases e : j = m.shots.length
    · subst e; rw [if_pos rfl, if_pos rfl]; rfl
    · rw [if_neg e, if_neg e]
  · rename_i j
    by_cases e : j = m.shots.length
    · subst e; rw [if_pos rfl, if_pos (by omega)]; rfl
    · rw [if_neg e]
      by_cases h : j < m.shots.length
      · rw [if_pos h, if_pos (by omega)]
      · rw [if_neg h, if_neg (by omega)]
  · rename_i j a b
    rw [app_at]
    by_cases e : j = m.shots.length
    · subst e
      rw [if_pos rfl, if_pos rfl]
      simp only [mem_pairs]
      split <;> rfl
    · rw [if_neg e, if_neg e]
theorem encSB_put {C : Cl} {r : Nat} {m : Mkt} {l : List (Nat × Nat)} {a b : Nat} (h : (a, b) ∉ l) :
    fset (fset (encSB C r m l) (.sLi m.shots.length a b) (.lst [])) (.sLy m.shots.length) (.dT (dput (l.map fun p => (pk p, D.loc r (.sLi m.shots.length p.1 p.2))) (pk (a, b)) (.loc r (.sLi m.shots.length a b)))) = encSB C r m (l ++ [(a, b)]) := by
  rw [dput_new _ h]
  funext f
  cases f <;> simp only [fset, encSB, reduceCtorEq, if_false, Fld.sLy.injEq, Fld.sLi.injEq]
  · rename_i j
    by_cases e : j = m.shots.length
    · subst e; rw [if_pos rfl, if_pos rfl, List.map_append]; rfl
    · rw [if_neg e, if_neg e, if_neg e]
  · rename_i j x y
    by_cases e : j = m.shots.length
    · subst e
      simp only [true_and, if_true, List.mem_append, List.mem_singleton, Prod.mk.injEq]
      by_cases z : x = a ∧ y = b
      · rw [if_pos z, if_pos (.inr z)]
      · rw [if_neg z]
        have : ((x, y) ∈ l ∨ x = a ∧ y = b) ↔ (x, y) ∈ l := ⟨fun w => w.resolve_right z, .inl⟩
        simp only [this]
    · simp only [e, false_and, if_false]
theorem free_sh {C : Cl} {r : Nat} {m : Mkt} : encM C r m (.sI m.shots.length) = none ∧ encM C r m (.sW m.shots.length) = none ∧ encM C r m (.sC m.shots.length) = none ∧ encM C r m (.sWa m.shots.length) = none ∧ encM C r m (.sLy m.shots.length) = none ∧ ∀ a b, encM C r m (.sLi m.shots.length a b) = none := by
  have h : m.shots[m.shots.length]? = none := List.getElem?_eq_none (Nat.le_refl _)
  refine ⟨?_, ?_, ?_, ?_, ?_, fun a b => ?_⟩ <;> simp [encM, encV]
theorem rng_const (n : Nat) (d : D) : ((List.range n).map fun i : Nat => D.int (i : Int)).map (fun _ => d) = List.replicate n d := by
  rw [List.map_map]
  show (List.range n).map (fun _ => d) = _
  rw [List.map_const', List.length_range]
theorem read_Shot_init {K : PySem.W.Frag} {C : Cl} (ds : List D) (S : Store) (Q : QD) (Ex : Value → Store → Prop) (h : sp_Shot_init C ds S Q Ex) : r_Shot_init K C (ends0 Q) (start ["self", "many", "k", "one", "other"] ds) S := by
  obtain ⟨r, m, rfl, n5, hS, q⟩ := h
  obtain ⟨f1, f2, f3, f4, f5, f6⟩ := free_sh (C := C) (r := r) (m := m)
  generalize hk : m.shots.length = k at *
  have eS : S = S.setR r (fset (encM C r m) (.sI k) (.ins C.s [])) := (setR_self hS).symm
  rw [eS]
  refine ⟨_, rfl, _, rfl, r, .sI k, [], rfl, by rw [setR_same, fset_same], by decide, .here ?_⟩
  rw [setR_set, fset_fset]
  refine lc_mapA ((List.range m.n).map fun i : Nat => D.int (i : Int)) (fun _ => True) (S.setR r (fset (encM C r m) (.sI k) (.ins C.s [("many", .int m.n)]))) (fun _ => .non) r (.sW k) (fun Q' hq => ⟨_, rfl, _, rfl, by omega, by omega, hq⟩) (by simp; exact szl _ (by omega)) (by rw [setR_same, fset_ne (by simp)]; exact f2) ⟨.sI k, by rw [setR_same, fset_same]; simp⟩ (fun _ => trivial) (fun i x ds P hx hP => hP _ .refl) ?_
  rw [setR_set, rng_const]
  refine ⟨_, rfl, r, .sI k, _, rfl, by rw [setR_same, fset_ne (by simp), fset_same], by show (1 : Nat) < 1000; decide, .here ?_⟩
  rw [setR_set]
  refine lc_mapA ((List.range m.n).map fun i : Nat => D.int (i : Int)) (fun _ => True) (S.setR r (fset (fset (fset (encM C r m) (.sI k) (.ins C.s [("many", .int m.n)])) (.sW k) (.lst (List.replicate m.n .non))) (.sI k) (.ins C.s (fput "written" (.loc r (.sW k)) [("many", .int m.n)])))) (fun _ => .non) r (.sC k) (fun Q' hq => ⟨_, rfl, _, rfl, by omega, by omega, hq⟩) (by simp; exact szl _ (by omega)) (by rw [setR_same, fset_ne (by simp), fset_ne (by simp), fset_ne (by simp)]; exact f3) ⟨.sI k, by rw [setR_same, fset_same]; simp⟩ (fun _ => trivial) (fun i x ds P hx hP => hP _ .refl) ?_
  rw [setR_set, rng_const]
  refine ⟨_, rfl, r, .sI k, _, rfl, by rw [setR_same, fset_ne (by simp), fset_same], by show (2 : Nat) < 1000; decide, .here ?_⟩
  rw [setR_set]
  refine ⟨r, .sWa k, by rw [setR_same]; simp only [fset, reduceCtorEq, if_false]; exact f4, ⟨.sI k, by rw [setR_same, fset_same]; simp⟩, _, rfl, r, .sI k, _, rfl, by rw [setR_set, setR_same, fset_ne (by simp), fset_same], by show (3 : Nat) < 1000; decide, .here ?_⟩
  rw [setR_set, setR_set]
  refine ⟨r, .sLy k, by rw [setR_same]; simp only [fset, reduceCtorEq, if_false]; exact f5, ⟨.sI k, by rw [setR_same, fset_same]; simp⟩, _, rfl, r, .sI k, _, rfl, by rw [setR_set, setR_same, fset_ne (by simp), fset_same], by show (4 : Nat) < 1000; decide, .here ?_⟩
  rw [setR_set, setR_set]
  generalize hg : fset _ (Fld.sI k) _ = g
  have eg : g = encSB C r m [] := by
    rw [← hg]
    funext f
    cases f <;> simp only [fset, encSB, reduceCtorEq, if_false, Fld.sI.injEq, Fld.sW.injEq, Fld.sC.injEq, Fld.sWa.injEq, Fld.sLy.injEq, hk]
    · rename_i j
      by_cases e : j = k
      · subst e; simp only [if_true]; rfl
      · simp only [e, if_false]
    · rfl
    · rename_i j a b
      by_cases e : j = k
      · subst e; rw [if_pos rfl]; simp; exact f6 a b
      · rw [if_neg e]
  rw [eg]
  have hI : ∀ (l : List (Nat × Nat)), (S.setR r (encSB C r m l)) r (.sI k) = some (.ins C.s (sFs r m.n k)) := fun l => by rw [setR_same]; simp only [encSB]; rw [if_pos hk.symm]
  refine ⟨_, rfl, _, rfl, by omega, by omega, ?_⟩
  refine ⟨fun i env S' => ∃ v w, env = [some (.loc r (.sI k)), some (.int m.n), none, v, w] ∧ S' = S.setR r (encSB C r m ((List.range i).flatMap (row m.n))), .here ⟨none, none, rfl, rfl⟩, ?_, ?_⟩
  · rintro i d env S' hd ⟨v, w, rfl, rfl⟩
    obtain ⟨hi, rfl⟩ := rng_is (n := m.n) hd
    refine ⟨trivial, ?_⟩
    refine ⟨_, rfl, _, rfl, by omega, by omega, ?_⟩
    refine ⟨fun j env S' => ∃ w, env = [some (.loc r (.sI k)), some (.int m.n), none, some (.int i), w] ∧ S' = S.setR r (encSB C r m ((List.range i).flatMap (row m.n) ++ rowP i j)), .here ⟨w, rfl, by simp [rowP]⟩, ?_, ?_⟩
    · rintro j d env S' hd ⟨w, rfl, rfl⟩
      obtain ⟨hj, rfl⟩ := rng_is (n := m.n) hd
      refine ⟨trivial, ?_⟩
      refine ⟨_, rfl, _, rfl, _, rfl, _, rfl, ifB (fun e => ?_) fun e => ?_⟩
      · have hij : i ≠ j := vne.mp e
        have hno : (i, j) ∉ (List.range i).flatMap (row m.n) ++ rowP i j := by
          intro z
          rcases List.mem_append.mp z with z | z
          · obtain ⟨a, ha, hr⟩ := List.mem_flatMap.mp z
            have := (mem_row.mp hr).1
            simp at ha; omega
          · have := (mem_rowP.mp z).2.1; omega
        refine ⟨t0, r, .sLi k i j, by rw [setR_same]; simp only [encSB]; rw [if_pos hk.symm, if_neg hno], ⟨.sI k, by rw [hI]; simp⟩, _, rfl, r, .sI k, _, _, rfl, by rw [setR_set, setR_same, fset_ne (by simp)]; simp only [encSB]; rw [if_pos hk.symm], rfl, _, rfl, _, rfl, t2, _, .t (ks := pk (i, j)) (kvs := ((List.range i).flatMap (row m.n) ++ rowP i j).map fun p => (pk p, .loc r (.sLi k p.1 p.2))) (by rw [setR_set, setR_same, fset_ne (by simp)]; simp only [encSB]; rw [if_pos hk.symm]) ?_, .here ⟨_, rfl, ?_⟩⟩
        · rw [List.length_map, List.length_append]
          have h1 := len_flat m.n (List.range i)
          have h2 : (rowP i j).length ≤ j := len_row j i
          rw [List.length_range] at h1
          have : i * m.n ≤ 5 * 5 := Nat.mul_le_mul (by omega) (by omega)
          exact szl _ (by omega)
        · rw [setR_set, setR_set, ← hk, encSB_put hno, List.append_assoc]
          congr 3
          unfold rowP
          rw [List.range_succ, List.filter_append, List.map_append]
          congr 1
          simp [hij]
      · have hij : i = j := Classical.byContradiction fun z => e (vne.mpr z)
        refine .here ⟨_, rfl, ?_⟩
        congr 3
        unfold rowP
        rw [List.range_succ, List.filter_append, List.map_append]
        simp [hij]
    · rintro env S' ⟨w, rfl, rfl⟩
      refine ⟨trivial, .here ⟨_, _, rfl, ?_⟩⟩
      congr 2
      simp only [List.length_map, List.length_range]
      rw [List.range_succ, List.flatMap_append]
      simp [rowP, row]
  · rintro env S' ⟨v, w, rfl, rfl⟩
    refine ⟨trivial, .here ?_⟩
    simp only [List.length_map, List.length_range]
    subst hk
    rw [← encSB_all] at q
    exact q
end SS
namespace SS
open PySem L2
theorem markTo_zero (ro : Nat → Nat → List Par) (i k : Nat) : markTo ro i k 0 = ro := by
  funext a b; unfold markTo; rw [if_neg]; omega
theorem markTo_succ (ro : Nat → Nat → List Par) (i k j : Nat) (h : j ≠ i) : markTo ro i k (j + 1) = up2 (markTo ro i k j) i j (markTo ro i k j i j ++ [.mark k]) := by
  funext a b
  unfold markTo up2
  by_cases e : a = i ∧ b = j
  · obtain ⟨rfl, rfl⟩ := e
    rw [if_pos ⟨rfl, by omega, h⟩, if_pos ⟨rfl, rfl⟩, if_neg (by omega)]
  · rw [if_neg e]
    dsimp only
    by_cases z : a = i ∧ b < j ∧ b ≠ i
    · rw [if_pos z, if_pos ⟨z.1, by omega, z.2.2⟩]
    · rw [if_neg z, if_neg]
      rintro ⟨z1, z2, z3⟩
      by_cases zb : b = j
      · exact e ⟨z1, zb⟩
      · exact z ⟨z1, by omega, z3⟩
theorem markTo_same (ro : Nat → Nat → List Par) (i k : Nat) : markTo ro i k (i + 1) = markTo ro i k i := by
  funext a b
  unfold markTo
  by_cases z : a = i ∧ b < i ∧ b ≠ i
  · rw [if_pos z, if_pos ⟨z.1, by omega, z.2.2⟩]
  · rw [if_neg z, if_neg]
    rintro ⟨z1, z2, z3⟩
    exact z ⟨z1, by omega, z3⟩
theorem markTo_len (ro : Nat → Nat → List Par) (i k j a b B : Nat) (h : (ro a b).length ≤ B) : (markTo ro i k j a b).length ≤ B + 1 := by
  unfold markTo; split
  · rw [List.length_append]; simp; omega
  · omega
theorem shots_at {C : Cl} {r : Nat} {m : Mkt} {v k : Nat} {S : Store} (hS : S r = encV C r m v) (hk : k < v) : ∃ ds, SeqD S (.loc r .mS) ds ∧ atI ds (k : Int) = some (.loc r (.sI k)) := by
  refine ⟨(List.range v).map fun k => .loc r (.sI k), by show _ = _; rw [hS]; rfl, atI_nat ?_⟩
  rw [List.getElem?_map, List.getElem?_range hk]; rfl
theorem read_Market_write {K : PySem.W.Frag} {C : Cl} (ds : List D) (S : Store) (Q : QD) (Ex : Value → Store → Prop) (h : sp_Market_write C ds S Q Ex) : r_Market_write K C (ends0 Q) (start ["self", "k", "member", "but", "other"] ds) S := by
  obtain ⟨r, m, k, s, i, but, rfl, hS, ok, hco, hk, hi, hwl, hcl, hwa, q⟩ := h
  have hkl : k < m.shots.length := (List.getElem?_eq_some_iff.mp hk).1
  have n5 := ok.1.n5
  obtain ⟨ds, hd1, hd2⟩ := shots_at (C := C) (m := m) (v := m.shots.length) hS hkl
  have hI : S r .mI = some (.ins C.m (mFs r m.n)) := by rw [hS]; rfl
  refine ⟨_, rfl, r, .mI, _, _, rfl, hI, rfl, _, rfl, .inl ⟨ds, _, _, hd1, rfl, hd2, r, .sI k, _, rfl, by rw [hS]; exact enc_sI hk, rfl, _, rfl, ?_⟩⟩
  refine ⟨_, rfl, r, .mI, _, _, rfl, hI, rfl, _, rfl, .inl ⟨m.purses.map D.int, _, .int (m.purses.getD i 0), by show _ = _; rw [hS]; rfl, rfl, atI_nat (by rw [List.getElem?_map, purse_at ok hi]; rfl), ?_⟩⟩
  refine ⟨_, rfl, r, .mI, _, _, rfl, hI, rfl, r, .eI, _, rfl, by rw [hS]; rfl, rfl, _, rfl, r, m, m.shots.length, i, rfl, hS, ok.1, hco, hi, _, rfl, ?_⟩
  refine ⟨r, m, m.shots.length, k, s, i, _, _, but, rfl, hS, n5, hk, by rw [hwl]; exact hi, by rw [hcl]; exact hi, hwa, .here ?_⟩
  have ew : writeM m k i but = { m with shots := m.shots.set k (shWrite m.n s i (m.purses.getD i 0) (cnt m.told i) but), roads := markTo m.roads i k m.n } := by unfold writeM; rw [hk]
  rw [ew] at q
  generalize hm1 : ({ m with shots := m.shots.set k (shWrite m.n s i (m.purses.getD i 0) (cnt m.told i) but) } : Mkt) = m1
  have en : m1.n = m.n := by rw [← hm1]
  have er : m1.roads = m.roads := by rw [← hm1]
  refine ⟨_, rfl, r, .mI, _, _, rfl, by rw [setR_same]; rfl, rfl, _, rfl, by show -(2 ^ 62) ≤ (m1.n : Int); omega, by show (m1.n : Int) < 2 ^ 62; omega, ?_⟩
  refine ⟨fun j env S' => ∃ v, env = [some (.loc r .mI), some (.int k), some (.int i), some (encO but), v] ∧ S' = S.setR r (encV C r { m1 with roads := markTo m1.roads i k j } m.shots.length), .here ⟨none, rfl, by rw [markTo_zero]⟩, ?_, ?_⟩
  · rintro j d env S' hd ⟨v, rfl, rfl⟩
    obtain ⟨hj, rfl⟩ := rng_is (n := m1.n) hd
    refine ⟨trivial, ?_⟩
    refine ⟨_, rfl, _, rfl, _, rfl, _, rfl, ifB (fun hne => ?_) fun hne => ?_⟩
    · have hji : j ≠ i := vne.mp hne
      generalize hm2 : ({ m1 with roads := markTo m1.roads i k j } : Mkt) = m2
      have hr : i < m2.n ∧ j < m2.n ∧ i ≠ j := by rw [← hm2]; exact ⟨by show i < m1.n; omega, hj, Ne.symm hji⟩
      have hL : (S.setR r (encV C r m2 m.shots.length)) r (.mRo i j) = some (.lst ((m2.roads i j).map encPar)) := by rw [setR_same]; exact road_at hr
      refine ⟨_, rfl, r, .mI, _, _, rfl, by rw [setR_same]; rfl, rfl, _, rfl, _, rfl, t2, .inr ⟨_, at_roads (v := m.shots.length) (by rw [setR_same]) hr, ⟨_, hL⟩, _, rfl, t3, _, _, _, _, rfl, rfl, hL, ?_, .here ⟨_, rfl, ?_⟩⟩⟩
      · rw [List.length_map, ← hm2]
        have := markTo_len m1.roads i k j i j 100000 (by rw [er]; exact ok.2.roads i j)
        exact szl _ (by show (markTo m1.roads i k j i j).length ≤ _; omega)
      · have e3 : (m2.roads i j).map encPar ++ [.tup [.str "mark", .int k, .non]] = (m2.roads i j ++ [Par.mark k]).map encPar := by rw [List.map_append]; rfl
        rw [e3, setR_set, enc_mRo hr, markTo_succ _ _ _ _ hji, ← hm2]
    · have hji : j = i := Classical.byContradiction fun z => hne (vne.mpr z)
      subst hji
      exact .here ⟨_, rfl, by rw [markTo_same]⟩
  · rintro env S' ⟨v, rfl, rfl⟩
    refine ⟨trivial, .here ?_⟩
    have em : encM C r { m with shots := m.shots.set k (shWrite m.n s i (m.purses.getD i 0) (cnt m.told i) but), roads := markTo m.roads i k m.n } = encV C r { m1 with roads := markTo m1.roads i k m1.n } m.shots.length := by
      rw [← hm1]
      unfold encM
      congr 1
      show (m.shots.set k _).length = _
      rw [List.length_set]
    rw [em] at q
    rw [List.length_map, List.length_range]
    exact q
theorem read_Market_mark {K : PySem.W.Frag} {C : Cl} (ds : List D) (S : Store) (Q : QD) (Ex : Value → Store → Prop) (h : sp_Market_mark C ds S Q Ex) : r_Market_mark K C (ends0 Q) (start ["self", "k", "one", "other"] ds) S := by
  obtain ⟨r, m, k, s, a, b, rfl, hS, ok, hco, hk, hb, hwl, hcl, hwa, hin, q⟩ := h
  have hkl : k < m.shots.length := (List.getElem?_eq_some_iff.mp hk).1
  obtain ⟨ds, hd1, hd2⟩ := shots_at (C := C) (m := m) (v := m.shots.length) hS hkl
  have hI : S r .mI = some (.ins C.m (mFs r m.n)) := by rw [hS]; rfl
  refine ⟨_, rfl, r, .mI, _, _, rfl, hI, rfl, _, rfl, .inl ⟨ds, _, _, hd1, rfl, hd2, r, .sI k, _, rfl, by rw [hS]; exact enc_sI hk, rfl, _, rfl, ?_⟩⟩
  refine ⟨r, m, m.shots.length, k, s, b, rfl, hS, hk, by rw [hwl]; exact hb, _, rfl, ?_⟩
  unfold markM at q
  rw [hk] at q
  dsimp only at q
  refine ifB (fun hw => ?_) fun hw => ?_
  · rw [if_pos hw] at q
    refine ⟨_, rfl, r, .mI, _, _, rfl, hI, rfl, _, rfl, .inl ⟨ds, _, _, hd1, rfl, hd2, r, .sI k, _, rfl, by rw [hS]; exact enc_sI hk, rfl, _, rfl, _, rfl, ?_⟩⟩
    refine ⟨r, m, m.shots.length, k, s, a, b, rfl, hS, hk, hin hw, .here ?_⟩
    have e : encM C r { m with shots := m.shots.set k (shLeave s a b) } = encV C r { m with shots := m.shots.set k (shLeave s a b) } m.shots.length := by
      unfold encM
      congr 1
      show (m.shots.set k _).length = _
      rw [List.length_set]
    rw [e] at q; exact q
  · rw [if_neg hw] at q
    refine ⟨_, rfl, r, .mI, _, rfl, hI, rfl, _, rfl, _, rfl, _, rfl, ?_⟩
    exact ⟨r, m, k, s, b, some a, rfl, hS, ok, hco, hk, hb, hwl, hcl, hwa, .here q⟩
theorem nodup_le {α : Type} [DecidableEq α] : ∀ (l l' : List α), l.Nodup → (∀ x ∈ l, x ∈ l') → l.length ≤ l'.length
  | [], _, _, _ => Nat.zero_le _
  | a :: l, l', hn, h => by
    obtain ⟨h1, h2⟩ := List.nodup_cons.mp hn
    have ha := h a List.mem_cons_self
    have := nodup_le l (l'.erase a) h2 fun x hx => (List.mem_erase_of_ne (fun e => h1 (by rw [← e]; exact hx))).mpr (h x (List.mem_cons_of_mem _ hx))
    rw [List.length_erase_of_mem ha] at this
    have := List.length_pos_of_mem ha
    rw [List.length_cons]; omega
theorem watched_len {m : Mkt} (hw : WF m) (si : SInv m) {k : Nat} {s : Sh} (hk : m.shots[k]? = some s) : s.watched.length ≤ 25 := by
  have := nodup_le s.watched (pairs m.n) (si.nd k s hk) fun ⟨x, y⟩ hx => mem_pairs.mpr (si.wat k s x y hk hx).1
  have := pairs_len m.n hw.n5
  omega
theorem mark_pos {k : Nat} {l : List Par} : 0 < marks k (.mark k :: l) := by
  unfold marks; rw [List.countP_cons]; simp
theorem take_pre {m : Mkt} (g : GOk m) {one other : Nat} (hr : one < m.n ∧ other < m.n ∧ one ≠ other) {k : Nat} {rest : List Par} (e : m.roads one other = .mark k :: rest) : ∃ s, m.shots[k]? = some s ∧ ((s.written.getD other none).isSome = true → (one, other) ∈ s.watched) := by
  have hk := g.si.fr one other k (by rw [e]; exact List.mem_cons_self)
  have hs : m.shots[k]? = some m.shots[k] := by simp [hk]
  refine ⟨m.shots[k], hs, fun hw => ?_⟩
  have hm := g.si.mks k _ one other hs hr.1 hr.2.1 hr.2.2
  rw [e] at hm
  have hp : 0 < marks k (.mark k :: rest) := mark_pos
  rw [hm] at hp
  split at hp
  · next c =>
    rcases c.2 with z | z
    · rw [hw] at z; cases z
    · exact z
  · omega
theorem gok {m : Mkt} (g : GOk m) : Ok m := ⟨g.wf, ⟨by have := g.sm.told; omega, fun a b => by have := g.sm.roads a b; omega, by have := g.sm.shots; omega⟩⟩
theorem co_roads {m : Mkt} (h : CntOk m) (ro : Nat → Nat → List Par) : CntOk { m with roads := ro } := ⟨h.no, h.at_, h.le⟩
theorem read_Market_take {K : PySem.W.Frag} {C : Cl} (ds : List D) (S : Store) (Q : QD) (Ex : Value → Store → Prop) (h : sp_Market_take C ds S Q Ex) : r_Market_take K C (ends0 Q) (start ["self", "one", "other", "first"] ds) S := by
  obtain ⟨r, m, one, other, rfl, hS, g, hr, q⟩ := h
  have ok := gok g
  have hL : S r (.mRo one other) = some (.lst ((m.roads one other).map encPar)) := by rw [hS]; exact road_at hr
  refine ⟨_, rfl, r, .mI, _, _, rfl, by rw [hS]; rfl, rfl, _, rfl, _, rfl, t2, .inr ⟨_, at_roads hS hr, _, .seq (ds := (m.roads one other).map encPar) hL, ?_⟩⟩
  unfold takeM at q
  cases e : m.roads one other with
  | nil =>
    rw [e] at q; dsimp only at q
    rw [setR_self hS] at q
    exact iteF (.here q)
  | cons p rest =>
    rw [e] at q
    refine iteT ?_
    rw [e, List.map_cons] at hL
    refine ⟨_, rfl, r, .mI, _, _, rfl, by rw [hS]; rfl, rfl, _, rfl, _, rfl, t2, .inr ⟨_, at_roads hS hr, ⟨_, hL⟩, _, _, _, _, rfl, rfl, hL, .here ?_⟩⟩
    rw [set_R, hS, encM, enc_mRo hr]
    cases p with
    | coins a num =>
      dsimp only at q
      refine ⟨_, rfl, .inl ⟨_, _, _, rfl, rfl, rfl, _, rfl, _, rfl, iteF ?_⟩⟩
      refine ⟨_, rfl, r, .mI, _, rfl, by rw [setR_same]; rfl, rfl, _, rfl, _, rfl, _, rfl, .inl ⟨_, _, _, rfl, rfl, rfl, _, rfl, .inl ⟨_, _, _, rfl, rfl, rfl, ?_⟩⟩⟩
      refine ⟨r, { m with roads := up2 m.roads one other rest }, one, other, a, num, rfl, by rw [setR_same]; rfl, ok_roads ok e, fun k s c d hk => by have := g.ss k s c d hk; omega, hr, fun k hk => ?_, ?_⟩
      · subst hk
        exact ok.1.rv one other a k (by rw [e]; exact List.mem_cons_self)
      · rw [setR_setR]
        exact .here q
    | mark k =>
      dsimp only at q
      obtain ⟨s, hk, hin⟩ := take_pre g hr e
      refine ⟨_, rfl, .inl ⟨_, _, _, rfl, rfl, rfl, _, rfl, _, rfl, iteT ?_⟩⟩
      refine ⟨_, rfl, r, .mI, _, rfl, by rw [setR_same]; rfl, rfl, _, rfl, .inl ⟨_, _, _, rfl, rfl, rfl, _, rfl, _, rfl, ?_⟩⟩
      refine ⟨r, { m with roads := up2 m.roads one other rest }, k, s, one, other, rfl, by rw [setR_same]; rfl, ok_roads ok e, co_roads g.co _, hk, hr.2.1, g.si.wl k s hk, g.si.cl k s hk, by have := watched_len g.wf g.si hk; omega, hin, ?_⟩
      rw [setR_setR]
      exact .here q
theorem read_Market_begin {K : PySem.W.Frag} {C : Cl} (ds : List D) (S : Store) (Q : QD) (Ex : Value → Store → Prop) (h : sp_Market_begin C ds S Q Ex) : r_Market_begin K C (ends0 Q) (start ["self", "one"] ds) S := by
  obtain ⟨r, m, i, rfl, hS, g, hi, q⟩ := h
  have ok := gok g
  have hI : S r .mI = some (.ins C.m (mFs r m.n)) := by rw [hS]; rfl
  have hMS : S r .mS = some (.lst ((List.range m.shots.length).map fun k => .loc r (.sI k))) := by rw [hS]; rfl
  refine ⟨_, rfl, r, .mI, _, _, rfl, hI, rfl, ⟨_, hMS⟩, _, rfl, r, .mI, _, _, rfl, hI, rfl, r, .sI m.shots.length, by rw [hS]; exact free_sh.1, ⟨.mI, by rw [hI]; simp⟩, ?_⟩
  refine ⟨r, m, rfl, g.wf.n5, by rw [set_R, setR_same, hS], rfl, ?_⟩
  rw [set_R, setR_setR]
  generalize hm1 : ({ m with shots := m.shots ++ [newSh m.n] } : Mkt) = m1
  have hms : (S.setR r (encV C r m1 m.shots.length)) r .mS = some (.lst ((List.range m.shots.length).map fun k => .loc r (.sI k))) := by rw [setR_same]; rfl
  refine ⟨r, .mS, _, _, rfl, rfl, hms, by simp; have := g.sm.shots; exact szl _ (by omega), .here ?_⟩
  have hl1 : m1.shots.length = m.shots.length + 1 := by rw [← hm1]; simp
  have en : m1.n = m.n := by rw [← hm1]
  have e1 : fset (encV C r m1 m.shots.length) .mS (.lst ((List.range m.shots.length).map (fun k => D.loc r (.sI k)) ++ [.loc r (.sI m.shots.length)])) = encM C r m1 := by
    unfold encM
    rw [hl1]
    funext f
    cases f <;> simp only [fset, encV, reduceCtorEq, if_false, if_true]
    rw [List.range_succ, List.map_append]; rfl
  rw [setR_set, e1]
  have hI1 : (S.setR r (encM C r m1)) r .mI = some (.ins C.m (mFs r m1.n)) := by rw [setR_same]; rfl
  have hS1 : (S.setR r (encM C r m1)) r .mS = some (.lst ((List.range m1.shots.length).map fun k => .loc r (.sI k))) := by rw [setR_same]; rfl
  refine ⟨_, rfl, r, .mI, _, rfl, hI1, rfl, _, rfl, r, .mI, _, _, rfl, hI1, rfl, _, _, rfl, by show _ = _; exact hS1, _, _, rfl, rfl, ?_⟩
  have el : (((List.range m1.shots.length).map fun k => D.loc r (.sI k)).length : Int) - 1 = (m.shots.length : Int) := by
    rw [List.length_map, List.length_range, hl1]; omega
  dsimp only
  rw [el]
  have hk1 : m1.shots[m.shots.length]? = some (newSh m.n) := by rw [← hm1]; simp
  have ok1 : Ok m1 := by
    rw [← hm1]
    refine ⟨wf_shots g.wf _, ⟨ok.2.told, ok.2.roads, ?_⟩⟩
    show (m.shots ++ [_]).length ≤ _
    rw [List.length_append]; have := g.sm.shots; simp; omega
  have co1 : CntOk m1 := by rw [← hm1]; exact ⟨g.co.no, g.co.at_, g.co.le⟩
  refine ⟨_, rfl, r, m1, m.shots.length, newSh m.n, i, none, rfl, setR_same, ok1, co1, hk1, by rw [en]; exact hi, by rw [en]; simp [newSh], by rw [en]; simp [newSh], by simp [newSh], ?_⟩
  rw [setR_setR]
  have eb : writeM m1 m.shots.length i none = beginM m i := by rw [← hm1]; rfl
  rw [eb]
  refine .here ?_
  have hbl : (beginM m i).shots.length = m.shots.length + 1 := by
    rw [← eb]; unfold writeM; rw [hk1]
    show (m1.shots.set _ _).length = _
    rw [List.length_set, hl1]
  refine ⟨_, rfl, r, .mI, _, _, rfl, by rw [setR_same]; rfl, rfl, _, (List.range (beginM m i).shots.length).map (fun k => .loc r (.sI k)), rfl, by show _ = _; rw [setR_same]; rfl, _, _, rfl, rfl, .here ?_⟩
  have el : (((List.range (beginM m i).shots.length).map fun k => D.loc r (.sI k)).length : Int) - 1 = (m.shots.length : Int) := by
    rw [List.length_map, List.length_range, hbl]; omega
  dsimp only
  rw [el]; exact q
theorem read_law_do {K : PySem.W.Frag} {C : Cl} (hk : PySem.W.exmOne K (.ref C.noCoins) (.ref C.noCoins) = some true) (ds : List D) (S : Store) (Q : QD) (Ex : Value → Store → Prop) (h : sp_law_do C ds S Q Ex) : r_law_do K C (ends0 Q) (start ["market", "act", "told"] ds) S := by
  obtain ⟨r, m, act, rfl, hS, g, hact, q⟩ := h
  refine .here ?_
  cases act with
  | begin a =>
    refine ⟨_, rfl, .inl ⟨_, _, _, rfl, rfl, rfl, _, rfl, _, rfl, iteF ?_⟩⟩
    refine ⟨_, rfl, .inl ⟨_, _, _, rfl, rfl, rfl, _, rfl, _, rfl, iteF ?_⟩⟩
    refine ⟨_, rfl, r, .mI, _, rfl, by rw [hS]; rfl, rfl, _, rfl, .inl ⟨_, _, _, rfl, rfl, rfl, ?_⟩⟩
    exact ⟨r, m, a, rfl, hS, g, hact, .here ⟨_, rfl, .here q⟩⟩
  | take a b =>
    refine ⟨_, rfl, .inl ⟨_, _, _, rfl, rfl, rfl, _, rfl, _, rfl, iteF ?_⟩⟩
    refine ⟨_, rfl, .inl ⟨_, _, _, rfl, rfl, rfl, _, rfl, _, rfl, iteT ?_⟩⟩
    refine ⟨_, rfl, r, .mI, _, rfl, by rw [hS]; rfl, rfl, _, rfl, .inl ⟨_, _, _, rfl, rfl, rfl, _, rfl, .inl ⟨_, _, _, rfl, rfl, rfl, ?_⟩⟩⟩
    exact ⟨r, m, a, b, rfl, hS, g, hact, .here ⟨_, rfl, .here q⟩⟩
  | give a b x =>
    obtain ⟨h1, h2, hne⟩ := hact
    refine ⟨_, rfl, .inl ⟨_, _, _, rfl, rfl, rfl, _, rfl, _, rfl, iteT ?_⟩⟩
    refine ⟨_, rfl, r, .mI, _, rfl, by rw [hS]; rfl, rfl, _, rfl, .inl ⟨_, _, _, rfl, rfl, rfl, _, rfl, .inl ⟨_, _, _, rfl, rfl, rfl, _, rfl, .inl ⟨_, _, _, rfl, rfl, rfl, ?_⟩⟩⟩⟩
    refine ⟨r, m, a, b, x, rfl, hS, gok g, h1, h2, hne, fun hgt => ?_, fun hle => ?_⟩
    · have e : stepM m (.give a b x) = (.str "no coins", m) := if_pos hgt
      rw [e, setR_self hS] at q
      exact ⟨true, hk, fun _ => .here ⟨_, rfl, .here q⟩, fun z => nomatch z⟩
    · have e : stepM m (.give a b x) = (.non, giveM m a b x) := if_neg (by omega)
      rw [e] at q
      exact .here ⟨_, rfl, .here q⟩
end SS
namespace SS
open PySem L2
section
variable {r : Nat} {h : Hd} {v k : Nat} {s : Sh} {S : Store}
theorem enc_gC (hk : h.shots[k]? = some s) (w : List (Option Int)) : fset (encG r h v) (.gC k) (.lst (w.map encOI)) = encG r { h with shots := h.shots.set k { s with written := w } } v := by
  funext f; cases f <;> simp only [fset, encG, reduceCtorEq, if_false, List.length_set, Fld.gC.injEq]
  · rename_i j
    by_cases e : j = k
    · subst e; rw [if_pos rfl, set_at hk]; rfl
    · rw [if_neg e, set_off e]
  · rw [set_map hk (by rfl)]
  · rw [set_map hk (by rfl)]
  · rw [set_map (g := fun s => lints (s.lying _ _)) hk (by rfl)]
theorem enc_gCut (hk : h.shots[k]? = some s) (w : List (Option Int)) : fset (encG r h v) (.gCut k) (.lst (w.map encOI)) = encG r { h with shots := h.shots.set k { s with cut := w } } v := by
  funext f; cases f <;> simp only [fset, encG, reduceCtorEq, if_false, List.length_set, Fld.gCut.injEq]
  · rw [set_map hk (by rfl)]
  · rename_i j
    by_cases e : j = k
    · subst e; rw [if_pos rfl, set_at hk]; rfl
    · rw [if_neg e, set_off e]
  · rw [set_map hk (by rfl)]
  · rw [set_map (g := fun s => lints (s.lying _ _)) hk (by rfl)]
theorem enc_gWa (hk : h.shots[k]? = some s) (w : List (Nat × Nat)) : fset (encG r h v) (.gWa k) (watchD w) = encG r { h with shots := h.shots.set k { s with watched := w } } v := by
  funext f; cases f <;> simp only [fset, encG, reduceCtorEq, if_false, List.length_set, Fld.gWa.injEq]
  · rw [set_map hk (by rfl)]
  · rw [set_map hk (by rfl)]
  · rename_i j
    by_cases e : j = k
    · subst e; rw [if_pos rfl, set_at hk]; rfl
    · rw [if_neg e, set_off e]
  · rw [set_map (g := fun s => lints (s.lying _ _)) hk (by rfl)]
theorem enc_gLi (hk : h.shots[k]? = some s) {a b : Nat} (hr : a < h.n ∧ b < h.n ∧ a ≠ b) (l : List Int) : fset (encG r h v) (.gLi k a b) (lints l) = encG r { h with shots := h.shots.set k { s with lying := up2 s.lying a b l } } v := by
  funext f; cases f <;> simp only [fset, encG, reduceCtorEq, if_false, List.length_set, Fld.gLi.injEq]
  · rw [set_map hk (by rfl)]
  · rw [set_map hk (by rfl)]
  · rw [set_map hk (by rfl)]
  · rename_i j c d
    by_cases e : j = k ∧ c = a ∧ d = b
    · obtain ⟨rfl, rfl, rfl⟩ := e
      rw [if_pos ⟨rfl, rfl, rfl⟩, if_pos hr, set_at hk, Option.map_some]; dsimp only; rw [up2_same]
    · rw [if_neg e]
      by_cases ej : j = k
      · subst ej
        have e2 : ¬ (c = a ∧ d = b) := fun z => e ⟨rfl, z⟩
        rw [set_at hk, hk, Option.map_some, Option.map_some]; dsimp only; rw [up2_ne e2]
      · rw [set_off ej]
theorem gT_at (hS : S r = encG r h v) (hk : h.shots[k]? = some s) : S r (.gT k) = some (.dK (gFs r k)) := by
  rw [hS]; exact if_pos (List.getElem?_eq_some_iff.mp hk).1
theorem at_gC (hS : S r = encG r h v) (hk : h.shots[k]? = some s) : DAt S (.loc r (.gT k)) (.str "coins") (some (.loc r (.gC k))) := DAt.k (k := .inr "coins") (kvs := gFs r k) (.inl (gT_at hS hk))
theorem at_gCut (hS : S r = encG r h v) (hk : h.shots[k]? = some s) : DAt S (.loc r (.gT k)) (.str "cut") (some (.loc r (.gCut k))) := DAt.k (k := .inr "cut") (kvs := gFs r k) (.inl (gT_at hS hk))
theorem at_gWa (hS : S r = encG r h v) (hk : h.shots[k]? = some s) : DAt S (.loc r (.gT k)) (.str "watch") (some (.loc r (.gWa k))) := DAt.k (k := .inr "watch") (kvs := gFs r k) (.inl (gT_at hS hk))
theorem at_gLy (hS : S r = encG r h v) (hk : h.shots[k]? = some s) : DAt S (.loc r (.gT k)) (.str "lying") (some (.loc r (.gLy k))) := DAt.k (k := .inr "lying") (kvs := gFs r k) (.inl (gT_at hS hk))
theorem at_gwatch (hS : S r = encG r h v) (hk : h.shots[k]? = some s) (a b : Nat) : DAt S (.loc r (.gWa k)) (.tup [.int a, .int b]) (dget (s.watched.map fun p => (pk p, D.bl true)) (pk (a, b))) :=
  DAt.t (S := S) (r := r) (f := .gWa k) (ks := pk (a, b)) (.inl (by rw [hS]; simp [encG, hk]; rfl))
theorem at_glying (hS : S r = encG r h v) (hk : h.shots[k]? = some s) {a b : Nat} (hr : a < h.n ∧ b < h.n ∧ a ≠ b) : DAt S (.loc r (.gLy k)) (.tup [.int a, .int b]) (some (.loc r (.gLi k a b))) := by
  have hl : k < h.shots.length := (List.getElem?_eq_some_iff.mp hk).1
  have := DAt.t (S := S) (r := r) (f := .gLy k) (ks := pk (a, b)) (kvs := (pairs h.n).map fun p => (pk p, D.loc r (.gLi k p.1 p.2))) (.inl (by rw [hS]; simp [encG, hl]; rfl))
  rw [dget_map (fun p => D.loc r (.gLi k p.1 p.2)) (mem_pairs.mpr hr)] at this
  exact this
theorem glie_at (hk : h.shots[k]? = some s) {a b : Nat} (hr : a < h.n ∧ b < h.n ∧ a ≠ b) : encG r h v (.gLi k a b) = some (lints (s.lying a b)) := by
  simp only [encG]; rw [if_pos hr, hk]; rfl
theorem hshots_at (hS : S r = encG r h v) (hk : k < v) : ∃ ds, SeqD S (.loc r .hS) ds ∧ atI ds (k : Int) = some (.loc r (.gT k)) := by
  refine ⟨(List.range v).map fun k => .loc r (.gT k), by show _ = _; rw [hS]; rfl, atI_nat ?_⟩
  rw [List.getElem?_map, List.getElem?_range hk]; rfl
end
theorem hd_eq {h h' : Hd} (e1 : h.n = h'.n) (e2 : h.coins = h'.coins) (e3 : h.roads = h'.roads) (e4 : h.log = h'.log) (e5 : h.shots = h'.shots) (e6 : h.counts = h'.counts) : h = h' := by
  obtain ⟨_, _, _, _, _, _⟩ := h
  obtain ⟨_, _, _, _, _, _⟩ := h'
  dsimp only at e1 e2 e3 e4 e5 e6
  rw [e1, e2, e3, e4, e5, e6]
theorem cnts_at {n i : Nat} (l : List Ev) (h : i < n) : (cnts n l)[i]? = some (cnt l i) := by
  unfold cnts; rw [List.getElem?_map, List.getElem?_range h]; rfl
theorem read_law_write {K : PySem.W.Frag} {C : Cl} (ds : List D) (S : Store) (Q : QD) (Ex : Value → Store → Prop) (h : sp_law_write C ds S Q Ex) : r_law_write K C (ends0 Q) (start ["hand", "k", "member", "but", "shot", "other"] ds) S := by
  obtain ⟨r, m, k, s, i, but, rfl, hS, ok, hk, hi, hwl, hcl, hwa, q⟩ := h
  have n5 := ok.1.n5
  have hkl : k < m.shots.length := (List.getElem?_eq_some_iff.mp hk).1
  have hS' : S r = encG r (absH m) m.shots.length := hS
  have hk' : (absH m).shots[k]? = some s := hk
  obtain ⟨ds, hd1, hd2⟩ := hshots_at hS' hkl
  refine ⟨_, rfl, .inr ⟨_, at_hS hS', _, rfl, .inl ⟨ds, _, _, hd1, rfl, hd2, .here ?_⟩⟩⟩
  have hp : m.purses[i]? = some (m.purses.getD i 0) := purse_at ok hi
  refine ⟨_, rfl, .inr ⟨_, at_hC hS', _, rfl, .inl ⟨m.purses.map D.int, _, .int (m.purses.getD i 0), by show _ = _; rw [hS']; rfl, rfl, atI_nat (by rw [List.getElem?_map, hp]; rfl), _, rfl, .inr ⟨_, at_gC hS' hk', _, rfl, _, .l (ds := s.written.map encOI) (by rw [hS']; simp [encG, hk']) (ixN_nat (by rw [List.length_map, hwl]; exact hi)), .here ?_⟩⟩⟩⟩
  rw [set_R, hS', show (s.written.map encOI).set i (.int (m.purses.getD i 0)) = (s.written.set i (some (m.purses.getD i 0))).map encOI by rw [List.map_set]; rfl, enc_gC hk']
  generalize hh1 : ({ absH m with shots := (absH m).shots.set k { s with written := s.written.set i (some (m.purses.getD i 0)) } } : Hd) = h1
  have k1 : h1.shots[k]? = some { s with written := s.written.set i (some (m.purses.getD i 0)) } := by rw [← hh1]; exact set_at hk'
  have S1 : (S.setR r (encG r h1 m.shots.length)) r = encG r h1 m.shots.length := setR_same
  have c1 : h1.counts = cnts m.n m.told := by rw [← hh1]; rfl
  refine ⟨_, rfl, .inr ⟨_, at_hN S1, _, rfl, .inl ⟨h1.counts.map D.int, _, .int (cnt m.told i), by show _ = _; rw [S1]; rfl, rfl, atI_nat (by rw [List.getElem?_map, c1, cnts_at _ hi]; rfl), _, rfl, .inr ⟨_, at_gCut S1 k1, _, rfl, _, .l (ds := s.cut.map encOI) (by rw [S1]; simp [encG, k1]) (ixN_nat (by rw [List.length_map, hcl]; exact hi)), .here ?_⟩⟩⟩⟩
  rw [cut_set, setR_set, enc_gCut k1]
  generalize hh2 : ({ h1 with shots := h1.shots.set k { s with written := s.written.set i (some (m.purses.getD i 0)), cut := s.cut.set i (some (cnt m.told i)) } } : Hd) = h2
  have S2 : (S.setR r (encG r h2 m.shots.length)) r = encG r h2 m.shots.length := setR_same
  refine ⟨_, rfl, .inr ⟨_, at_hC S2, _, h2.coins.map D.int, rfl, by show _ = _; rw [S2]; rfl, _, rfl, ?_⟩⟩
  have c2 : h2.coins = m.purses := by rw [← hh2, ← hh1]; rfl
  rw [List.length_map, c2, ok.1.pl]
  refine ⟨by omega, by omega, ?_⟩
  let hj : Nat → Hd := fun j => { absH m with shots := m.shots.set k { s with written := s.written.set i (some (m.purses.getD i 0)), cut := s.cut.set i (some (cnt m.told i)), watched := watchTo i but s.watched j }, roads := markTo m.roads i k j }
  have kj : ∀ j, (hj j).shots[k]? = some { s with written := s.written.set i (some (m.purses.getD i 0)), cut := s.cut.set i (some (cnt m.told i)), watched := watchTo i but s.watched j } := fun j => set_at hk
  refine ⟨fun j env S' => ∃ v, env = [some (.loc r .hT), some (.int k), some (.int i), some (encO but), some (.loc r (.gT k)), v] ∧ S' = S.setR r (encG r (hj j) m.shots.length), .here ⟨none, rfl, ?_⟩, ?_, ?_⟩
  · have e : hj 0 = h2 := by
      rw [← hh2, ← hh1]
      refine hd_eq rfl rfl (markTo_zero _ _ _) rfl ?_ rfl
      show m.shots.set k _ = (m.shots.set k _).set k _
      rw [List.set_set]; rfl
    rw [e]
  · rintro j d env S' hd ⟨v, rfl, rfl⟩
    obtain ⟨hjn, rfl⟩ := rng_is (n := m.n) hd
    refine ⟨trivial, ?_⟩
    have stay : ¬ (j ≠ i ∧ some j ≠ but) → watchTo i but s.watched (j + 1) = watchTo i but s.watched j := fun z => by rw [watchTo_succ, if_neg z]
    refine ⟨_, rfl, _, rfl, _, rfl, _, rfl, ifB (fun hne => ?_) fun hne => ?_⟩
    · have hji : j ≠ i := vne.mp hne
      have Sj : (S.setR r (encG r (hj j) m.shots.length)) r = encG r (hj j) m.shots.length := setR_same
      have hr : i < (hj j).n ∧ j < (hj j).n ∧ i ≠ j := ⟨hi, hjn, Ne.symm hji⟩
      have hL : (S.setR r (encG r (hj j) m.shots.length)) r (.hRo i j) = some (.lst (((hj j).roads i j).map encPar2)) := by rw [setR_same]; exact hroad_at hr
      refine ⟨_, rfl, .inr ⟨_, at_hR Sj, _, rfl, _, rfl, t2, .inr ⟨_, at_hroads Sj hr, ⟨_, hL⟩, _, rfl, t2, _, _, _, _, rfl, rfl, hL, ?_, .here ?_⟩⟩⟩
      · rw [List.length_map]
        have := markTo_len m.roads i k j i j 100000 (ok.2.roads i j)
        exact szl _ (by show (markTo m.roads i k j i j).length ≤ _; omega)
      have e3 : ((hj j).roads i j).map encPar2 ++ [.tup [.str "mark", .int k]] = ((hj j).roads i j ++ [Par.mark k]).map encPar2 := by rw [List.map_append]; rfl
      rw [e3, setR_set, enc_hRo hr]
      have er : up2 (hj j).roads i j ((hj j).roads i j ++ [Par.mark k]) = markTo m.roads i k (j + 1) := (markTo_succ m.roads i k j hji).symm
      rw [er]
      have fin : ∀ kk : Bool, (kk = true ↔ some j ≠ but) → (kk = false → Wk ((fun j env S' => ∃ v, env = [some (.loc r .hT), some (.int k), some (.int i), some (encO but), some (.loc r (.gT k)), v] ∧ S' = S.setR r (encG r (hj j) m.shots.length)) (j + 1) [some (.loc r .hT), some (.int k), some (.int i), some (encO but), some (.loc r (.gT k)), some (.int j)]) (S.setR r (encG r { hj j with roads := markTo m.roads i k (j + 1) } m.shots.length))) ∧
          (kk = true → ∃ S4, PutD (S.setR r (encG r { hj j with roads := markTo m.roads i k (j + 1) } m.shots.length)) (.bl true) (.loc r (.gWa k)) (.tup [.int j, .int i]) S4 ∧ Wk ((fun j env S' => ∃ v, env = [some (.loc r .hT), some (.int k), some (.int i), some (encO but), some (.loc r (.gT k)), v] ∧ S' = S.setR r (encG r (hj j) m.shots.length)) (j + 1) [some (.loc r .hT), some (.int k), some (.int i), some (encO but), some (.loc r (.gT k)), some (.int j)]) S4) := by
        intro kk hkk
        have kj' : ({ hj j with roads := markTo m.roads i k (j + 1) } : Hd).shots[k]? = _ := kj j
        refine ⟨fun hb => .here ⟨_, rfl, ?_⟩, fun hb => ⟨_, .t (ks := pk (j, i)) (kvs := (watchTo i but s.watched j).map fun p => (pk p, D.bl true)) (by rw [setR_same]; simp [encG, kj']; rfl) (by rw [List.length_map]; have := watchTo_len i but s.watched j; exact szl _ (by omega)), .here ⟨_, rfl, ?_⟩⟩⟩
        · congr 2
          refine hd_eq rfl rfl rfl rfl ?_ rfl
          show m.shots.set k _ = m.shots.set k _
          rw [stay fun z => by rw [hkk.mpr z.2] at hb; cases hb]
        · rw [setR_set, watch_put, show LO.dT ((wput (watchTo i but s.watched j) (j, i)).map fun p => (pk p, D.bl true)) = watchD (wput (watchTo i but s.watched j) (j, i)) from rfl, enc_gWa kj']
          congr 2
          refine hd_eq rfl rfl rfl rfl ?_ rfl
          show (m.shots.set k _).set k _ = m.shots.set k _
          rw [List.set_set, watchTo_succ, if_pos ⟨hji, hkk.mp hb⟩]
      have kj' : ({ hj j with roads := markTo m.roads i k (j + 1) } : Hd).shots[k]? = _ := kj j
      have Sj' : (S.setR r (encG r { hj j with roads := markTo m.roads i k (j + 1) } m.shots.length)) r = encG r { hj j with roads := markTo m.roads i k (j + 1) } m.shots.length := setR_same
      cases but with
      | none =>
        have := fin true (by simp)
        exact ⟨_, rfl, _, rfl, _, rfl, _, rfl, iteT ⟨_, rfl, .inr ⟨_, at_gWa Sj' kj', _, rfl, _, rfl, t2, this.2 rfl⟩⟩⟩
      | some b =>
        have := fin (!decide (V.int (j : Int) = V.int (b : Int))) (by rw [vne]; simp)
        refine ⟨_, rfl, _, rfl, _, rfl, _, rfl, ifB (fun hb => ?_) fun hb => ?_⟩
        · exact ⟨_, rfl, .inr ⟨_, at_gWa Sj' kj', _, rfl, _, rfl, t2, this.2 hb⟩⟩
        · exact this.1 (by simpa using hb)
    · have hji : j = i := Classical.byContradiction fun z => hne (vne.mpr z)
      subst hji
      refine .here ⟨_, rfl, ?_⟩
      congr 2
      refine hd_eq rfl rfl (markTo_same _ _ _).symm rfl ?_ rfl
      show m.shots.set k _ = m.shots.set k _
      rw [stay fun z => z.1 rfl]
  · rintro env S' ⟨v, rfl, rfl⟩
    refine ⟨trivial, .here ?_⟩
    rw [List.length_map, List.length_range]
    have ew : writeM m k i but = { m with shots := m.shots.set k (shWrite m.n s i (m.purses.getD i 0) (cnt m.told i) but), roads := markTo m.roads i k m.n } := by unfold writeM; rw [hk]
    have e : encH r (writeM m k i but) = encG r (hj m.n) m.shots.length := by
      rw [ew]
      unfold encH
      show encG r (absH _) (m.shots.set k _).length = _
      rw [List.length_set]
      rfl
    rw [e] at q
    exact q
end SS
namespace SS
open PySem L2
theorem read_law_take {K : PySem.W.Frag} {C : Cl} (ds : List D) (S : Store) (Q : QD) (Ex : Value → Store → Prop) (h : sp_law_take C ds S Q Ex) : r_law_take K C (ends0 Q) (start ["hand", "one", "other", "kind", "amount", "shot"] ds) S := by
  obtain ⟨r, m, one, other, rfl, hS0, g, hr, q⟩ := h
  have hS : S r = encG r (absH m) m.shots.length := hS0
  have ok := gok g
  have hw := g.wf
  have hsm := g.sm
  have h2 := hr.2.1
  have hr' : one < (absH m).n ∧ other < (absH m).n ∧ one ≠ other := hr
  have hL : S r (.hRo one other) = some (.lst ((m.roads one other).map encPar2)) := by rw [hS]; exact hroad_at hr'
  refine ⟨_, rfl, .inr ⟨_, at_hR hS, _, rfl, _, rfl, t2, .inr ⟨_, at_hroads hS hr', _, .seq (ds := (m.roads one other).map encPar2) hL, ?_⟩⟩⟩
  unfold takeM at q
  cases e : m.roads one other with
  | nil =>
    rw [e] at q; dsimp only at q
    rw [setR_self hS0] at q
    exact iteT (.here q)
  | cons p rest =>
    rw [e] at q
    refine iteF (.here ?_)
    rw [e, List.map_cons] at hL
    refine ⟨_, rfl, .inr ⟨_, at_hR hS, _, rfl, _, rfl, t2, .inr ⟨_, at_hroads hS hr', ⟨_, hL⟩, _, _, _, _, rfl, rfl, hL, ?_⟩⟩⟩
    rw [set_R, hS, enc_hRo hr']
    generalize hh : ({ absH m with roads := up2 (absH m).roads one other rest } : Hd) = h1'
    have hS1 : (S.setR r (encG r h1' m.shots.length)) r = encG r h1' m.shots.length := setR_same
    cases p with
    | coins a num =>
      dsimp only at q
      refine ⟨_, rfl, rfl, .here ?_⟩
      refine ⟨_, rfl, _, rfl, _, rfl, iteT ?_⟩
      have ec : h1'.coins = m.purses := by rw [← hh]; rfl
      have hc : h1'.coins[other]? = some (m.purses.getD other 0) := by rw [ec]; exact getD_at (by rw [hw.pl]; exact h2) _
      refine ⟨_, rfl, .inr ⟨_, at_hC hS1, _, rfl, .inl ⟨h1'.coins.map D.int, _, .int (m.purses.getD other 0), by show _ = _; rw [hS1]; rfl, rfl, atI_nat (by rw [List.getElem?_map, hc]; rfl), _, rfl, _, _, rfl, rfl, _, rfl, .inr ⟨_, at_hC hS1, _, rfl, _, .l (ds := h1'.coins.map D.int) (by rw [hS1]; rfl) (ixN_nat (by rw [List.length_map, ec, hw.pl]; exact h2)), .here ?_⟩⟩⟩⟩
      rw [← List.map_set, setR_set, show LO.lst ((h1'.coins.set other (m.purses.getD other 0 + a)).map D.int) = lints (h1'.coins.set other (m.purses.getD other 0 + a)) from rfl, enc_hC]
      refine ⟨_, rfl, _, rfl, _, rfl, _, rfl, t4, _, rfl, ?_⟩
      refine ⟨r, m.shots.length, _, ⟨false, one, other, a⟩, other, rfl, setR_same, ?_, ?_, .here ?_⟩
      · rw [← hh]; show other < (cnts m.n m.told).length; rw [cnts_len]; exact h2
      · rw [← hh]; show m.told.length < _; have := hsm.told; omega
      rw [setR_setR]
      generalize hh2 : ({ h1' with coins := h1'.coins.set other (m.purses.getD other 0 + a), log := h1'.log ++ [⟨false, one, other, a⟩], counts := h1'.counts.set other (h1'.counts.getD other 0 + 1) } : Hd) = h2'
      have es : h2'.shots = m.shots := by rw [← hh2, ← hh]; rfl
      have en : h2'.n = m.n := by rw [← hh2, ← hh]; rfl
      let hj : Nat → Hd := fun j => { h2' with shots := (m.shots.take j).map (shotParcel one other a) ++ m.shots.drop j }
      have hSS : ∀ (X : Hd), (S.setR r (encG r X m.shots.length)) r .hS = some (.lst ((List.range m.shots.length).map fun k => .loc r (.gT k))) := fun X => by rw [setR_same]; rfl
      have hS2 : (S.setR r (encG r h2' m.shots.length)) r = encG r h2' m.shots.length := setR_same
      refine ⟨_, rfl, .inr ⟨_, at_hS hS2, _, hSS _, ?_⟩⟩
      refine ⟨fun j env S' => ∃ v5, env = [some (.loc r .hT), some (.int one), some (.int other), some (.str "coins"), some (.int a), v5] ∧ j ≤ m.shots.length ∧ S' = S.setR r (encG r (hj j) m.shots.length), .here ⟨none, rfl, Nat.zero_le _, ?_⟩, ?_, ?_⟩
      · have e : hj 0 = h2' := hd_eq rfl rfl rfl rfl (by show (m.shots.take 0).map _ ++ m.shots.drop 0 = h2'.shots; rw [es]; simp) rfl
        rw [e]
      · rintro j d env S' hd ⟨v5, rfl, hjl', rfl⟩
        rw [List.getElem?_map] at hd
        cases ek : (List.range m.shots.length)[j]? with
        | none => rw [ek] at hd; cases hd
        | some k =>
        rw [ek] at hd; cases hd
        have hjl : j < m.shots.length := by
          have := (List.getElem?_eq_some_iff.mp ek).1; simpa using this
        have : k = j := by rw [List.getElem?_range hjl] at ek; exact (Option.some.inj ek).symm
        subst this
        obtain ⟨s, hs⟩ : ∃ s, m.shots[k]? = some s := ⟨m.shots[k], by simp [hjl]⟩
        have hsk : (hj k).shots[k]? = some s := by
          show ((m.shots.take k).map _ ++ m.shots.drop k)[k]? = some s
          rw [List.getElem?_append_right (by simp; omega)]
          simp [hs, Nat.min_eq_left (Nat.le_of_lt hjl)]
        have Sk : (S.setR r (encG r (hj k) m.shots.length)) r = encG r (hj k) m.shots.length := setR_same
        have hrk : one < (hj k).n ∧ other < (hj k).n ∧ one ≠ other := by show one < h2'.n ∧ other < h2'.n ∧ _; rw [en]; exact hr
        refine ⟨hSS _, ?_⟩
        refine ⟨_, rfl, _, rfl, t2, _, rfl, .inr ⟨_, at_gWa Sk hsk, _, at_gwatch Sk hsk one other, _, rfl, ?_⟩⟩
        rw [watch_in]
        refine ifD (fun hin => ?_) fun hin => ?_
        · have hL : (S.setR r (encG r (hj k) m.shots.length)) r (.gLi k one other) = some (.lst ((s.lying one other).map D.int)) := by rw [Sk]; exact glie_at hsk hrk
          refine ⟨_, rfl, .inr ⟨_, at_gLy Sk hsk, _, rfl, _, rfl, t2, .inr ⟨_, at_glying Sk hsk hrk, ⟨_, hL⟩, _, rfl, _, _, _, _, rfl, rfl, hL, by rw [List.length_map]; have := g.ss k s one other hs; exact szl _ (by omega), .here ⟨_, rfl, hjl, ?_⟩⟩⟩⟩
          rw [setR_set, show LO.lst ((s.lying one other).map D.int ++ [.int a]) = lints (s.lying one other ++ [a]) by unfold lints; rw [List.map_append]; rfl, enc_gLi hsk hrk]
          congr 2
          refine hd_eq rfl rfl rfl rfl ?_ rfl
          show ((m.shots.take k).map (shotParcel one other a) ++ m.shots.drop k).set k _ = (m.shots.take (k + 1)).map (shotParcel one other a) ++ m.shots.drop (k + 1)
          rw [← parcel_shots one other a m.shots k s hs]
          have e : shotParcel one other a s = { s with lying := up2 s.lying one other (s.lying one other ++ [a]) } := if_pos hin
          rw [e]
        · refine .here ⟨_, rfl, hjl, ?_⟩
          congr 2
          refine hd_eq rfl rfl rfl rfl ?_ rfl
          show (m.shots.take k).map (shotParcel one other a) ++ m.shots.drop k = (m.shots.take (k + 1)).map (shotParcel one other a) ++ m.shots.drop (k + 1)
          rw [← parcel_shots one other a m.shots k s hs]
          have e : shotParcel one other a s = s := if_neg hin
          rw [e]
          refine (List.ext_getElem? fun j => ?_).symm
          have hsk' : ((m.shots.take k).map (shotParcel one other a) ++ m.shots.drop k)[k]? = some s := hsk
          by_cases z : j = k
          · subst z; rw [set_at hsk', hsk']
          · rw [set_off z]
      rintro env S' ⟨v5, rfl, _, rfl⟩
      rw [List.length_map, List.length_range] at *
      refine ⟨hSS _, .here (.here ?_)⟩
      have eF : encG r (hj m.shots.length) m.shots.length = encH r (parcelM { m with roads := up2 m.roads one other rest } one other a num) := by
        have ep : (parcelM { m with roads := up2 m.roads one other rest } one other a num).shots.length = m.shots.length := by
          show (m.shots.map _).length = _; rw [List.length_map]
        unfold encH
        rw [ep]
        refine encG_congr ?_ ?_ ?_ ?_ ?_ ?_
        · show h2'.n = m.n; exact en
        · show h2'.coins = m.purses.set other _; rw [← hh2, ← hh]; rfl
        · intro c d; show (h2'.roads c d).map _ = _; rw [← hh2, ← hh]; rfl
        · show h2'.log = m.told ++ [_]; rw [← hh2, ← hh]; rfl
        · show (m.shots.take m.shots.length).map _ ++ m.shots.drop m.shots.length = m.shots.map _
          rw [List.take_length, List.drop_length, List.append_nil]
        · show h2'.counts = cnts m.n (m.told ++ [_])
          rw [← hh2, ← hh]
          exact cnts_step m.n m.told ⟨false, one, other, a⟩ h2
      rw [eF]; exact q
    | mark k =>
      dsimp only at q
      obtain ⟨s, hk, hin⟩ := take_pre g hr e
      have hkl : k < m.shots.length := (List.getElem?_eq_some_iff.mp hk).1
      have hwl := g.si.wl k s hk
      generalize hm1 : ({ m with roads := up2 m.roads one other rest } : Mkt) = m1
      rw [hm1] at q
      have e1 : h1' = absH m1 := by rw [← hh, ← hm1]; rfl
      have el : m1.shots.length = m.shots.length := by rw [← hm1]
      have hk1 : m1.shots[k]? = some s := by rw [← hm1]; exact hk
      have hk1' : h1'.shots[k]? = some s := by rw [e1]; exact hk1
      obtain ⟨ds, hd1, hd2⟩ := hshots_at hS1 hkl
      unfold markM at q
      rw [hk1] at q
      dsimp only at q
      have hwa := written_at (s := s) (i := other) (by rw [hwl]; exact h2)
      have hw1 : (S.setR r (encG r h1' m.shots.length)) r (.gC k) = some (.lst (s.written.map encOI)) := by rw [hS1]; simp [encG, hk1']
      refine ⟨_, rfl, rfl, .here ?_⟩
      refine ⟨_, rfl, _, rfl, _, rfl, iteF ?_⟩
      refine ⟨_, rfl, .inr ⟨_, at_hS hS1, _, rfl, .inl ⟨ds, _, _, hd1, rfl, hd2, .inr ⟨_, at_gC hS1 hk1', _, rfl, .inl ⟨s.written.map encOI, _, _, hw1, rfl, atI_nat hwa, rfl, !(s.written.getD other none).isSome, by cases s.written.getD other none <;> rfl, _, rfl, ?_⟩⟩⟩⟩⟩
      refine ifB (fun hb => ?_) fun hb => ?_
      · have hb' : ¬ (s.written.getD other none).isSome = true := fun z => by rw [z] at hb; cases hb
        rw [if_neg hb'] at q
        refine ⟨_, rfl, _, rfl, _, rfl, _, rfl, ?_⟩
        have ok1 : Ok m1 := by rw [← hm1]; exact ok_roads ok e
        have en1 : m1.n = m.n := by rw [← hm1]
        refine ⟨r, m1, k, s, other, some one, rfl, by rw [setR_same, e1]; unfold encH; rw [el], ok1, hk1, by rw [en1]; exact h2, by rw [en1]; exact hwl, by rw [en1]; exact g.si.cl k s hk, by have := watched_len g.wf g.si hk; omega, ?_⟩
        rw [setR_setR]
        exact .here (.here q)
      · have hb' : (s.written.getD other none).isSome = true := by cases z : (s.written.getD other none).isSome with | true => rfl | false => rw [z] at hb; exact absurd rfl hb
        rw [if_pos hb'] at q
        have hW : (S.setR r (encG r h1' m.shots.length)) r (.gWa k) = some (.dT (s.watched.map fun p => (pk p, D.bl true))) := by rw [hS1]; simp [encG, hk1']; rfl
        refine ⟨_, rfl, .inr ⟨_, at_hS hS1, _, rfl, .inl ⟨ds, _, _, hd1, rfl, hd2, .inr ⟨_, at_gWa hS1 hk1', ⟨r, _, _, rfl, hW⟩, _, rfl, _, rfl, t2, r, _, _, pk (one, other), _, rfl, rfl, hW, dget_map (fun _ => D.bl true) (hin hb'), .here (.here ?_)⟩⟩⟩⟩
        rw [watch_drop, setR_set, show LO.dT ((s.watched.filter fun q => decide (q ≠ (one, other))).map fun p => (pk p, D.bl true)) = watchD (s.watched.filter fun q => decide (q ≠ (one, other))) from rfl, enc_gWa hk1']
        have eF : encH r { m1 with shots := m1.shots.set k (shLeave s one other) } = encG r { h1' with shots := h1'.shots.set k { s with watched := s.watched.filter fun q => decide (q ≠ (one, other)) } } m.shots.length := by
          unfold encH
          show encG r _ (m1.shots.set k _).length = _
          rw [List.length_set, el, e1]; rfl
        rw [eF] at q
        exact q
/-- the hand's newest picture, its roads l so far -/
def encGB (r : Nat) (h : Hd) (l : List (Nat × Nat)) : Reg := fun f => match f with
  | .gLy j => if j = h.shots.length then some (.dT (l.map fun p => (pk p, .loc r (.gLi j p.1 p.2)))) else encG r h h.shots.length f
  | .gLi j a b => if j = h.shots.length then (if (a, b) ∈ l then some (.lst []) else none) else encG r h h.shots.length f
  | f => encG r h h.shots.length f
theorem encGB_put {r : Nat} {h : Hd} {l : List (Nat × Nat)} {a b : Nat} (hn : (a, b) ∉ l) :
    fset (fset (encGB r h l) (.gLi h.shots.length a b) (.lst [])) (.gLy h.shots.length) (.dT (dput (l.map fun p => (pk p, D.loc r (.gLi h.shots.length p.1 p.2))) (pk (a, b)) (.loc r (.gLi h.shots.length a b)))) = encGB r h (l ++ [(a, b)]) := by
  rw [dput_new _ hn]
  funext f
  cases f <;> simp only [fset, encGB, reduceCtorEq, if_false, Fld.gLy.injEq, Fld.gLi.injEq]
  · rename_i j
    by_cases e : j = h.shots.length
    · subst e; rw [if_pos rfl, if_pos rfl, List.map_append]; rfl
    · rw [if_neg e, if_neg e, if_neg e]
  · rename_i j x y
    by_cases e : j = h.shots.length
    · subst e
      simp only [true_and, if_true, List.mem_append, List.mem_singleton, Prod.mk.injEq]
      by_cases z : x = a ∧ y = b
      · rw [if_pos z, if_pos (.inr z)]
      · rw [if_neg z]
        have : ((x, y) ∈ l ∨ x = a ∧ y = b) ↔ (x, y) ∈ l := ⟨fun w => w.resolve_right z, .inl⟩
        simp only [this]
    · simp only [e, false_and, if_false]
theorem free_g {r : Nat} {h : Hd} {v : Nat} : encG r h v (.gT h.shots.length) = none ∧ encG r h v (.gC h.shots.length) = none ∧ encG r h v (.gCut h.shots.length) = none ∧ encG r h v (.gWa h.shots.length) = none ∧ encG r h v (.gLy h.shots.length) = none ∧ ∀ a b, encG r h v (.gLi h.shots.length a b) = none := by
  refine ⟨?_, ?_, ?_, ?_, ?_, fun a b => ?_⟩ <;> simp [encG]
theorem encGB_all (r : Nat) (h : Hd) : fset (fset (fset (fset (fset (fset (encGB r h (pairs h.n)) (.gT h.shots.length) (.dK [])) (.gC h.shots.length) (.lst (List.replicate h.n .non))) (.gCut h.shots.length) (.lst (List.replicate h.n .non))) (.gWa h.shots.length) (.dT [])) (.gT h.shots.length) (.dK (gFs r h.shots.length))) .hS (.lst ((List.range h.shots.length).map (fun k => .loc r (.gT k)) ++ [.loc r (.gT h.shots.length)])) = encG r { h with shots := h.shots ++ [newSh h.n] } (h.shots.length + 1) := by
  funext f
  cases f <;> simp only [fset, encGB, encG, reduceCtorEq, if_false, if_true, Fld.gT.injEq, Fld.gC.injEq, Fld.gCut.injEq, Fld.gWa.injEq, Fld.gLy.injEq, List.length_append, List.length_singleton]
  · rw [List.range_succ, List.map_append]; rfl
  · rename_i j
    by_cases e : j = h.shots.length
    · subst e; rw [if_pos rfl, if_pos (by omega)]
    · rw [if_neg e, if_neg e]
      by_cases hl : j < h.shots.length
      · rw [if_pos hl, if_pos (by omega)]
      · rw [if_neg hl, if_neg (by omega)]
  · rename_i j
    rw [app_at]
    by_cases e : j = h.shots.length
    · subst e; rw [if_pos rfl, if_pos rfl]; simp [newSh, encOI]
    · rw [if_neg e, if_neg e]
  · rename_i j
    rw [app_at]
    by_cases e : j = h.shots.length
    · subst e; rw [if_pos rfl, if_pos rfl]; simp [newSh, encOI]
    · rw [if_neg e, if_neg e]
  · rename_i j
    rw [app_at]
    by_cases e : j = h.shots.length
    · subst e; rw [if_pos rfl, if_pos rfl]; rfl
    · rw [if_neg e, if_neg e]
  · rename_i j
    by_cases e : j = h.shots.length
    · subst e; rw [if_pos rfl, if_pos (by omega)]; rfl
    · rw [if_neg e]
      by_cases hl : j < h.shots.length
      · rw [if_pos hl, if_pos (by omega)]
      · rw [if_neg hl, if_neg (by omega)]
  · rename_i j a b
    rw [app_at]
    by_cases e : j = h.shots.length
    · subst e
      rw [if_pos rfl, if_pos rfl]
      simp only [mem_pairs]
      split <;> rfl
    · rw [if_neg e, if_neg e]
theorem encGB_nil (r : Nat) (h : Hd) : fset (encG r h h.shots.length) (.gLy h.shots.length) (.dT []) = encGB r h [] := by
  obtain ⟨f1, f2, f3, f4, f5, f6⟩ := free_g (r := r) (h := h) (v := h.shots.length)
  funext f
  cases f <;> simp only [fset, encGB, reduceCtorEq, if_false, Fld.gLy.injEq]
  · rename_i j
    by_cases e : j = h.shots.length
    · subst e; rw [if_pos rfl, if_pos rfl]; rfl
    · rw [if_neg e, if_neg e]
  · rename_i j a b
    by_cases e : j = h.shots.length
    · subst e; rw [if_pos rfl]; simp; exact f6 a b
    · rw [if_neg e]
theorem read_law_begin {K : PySem.W.Frag} {C : Cl} (ds : List D) (S : Store) (Q : QD) (Ex : Value → Store → Prop) (h : sp_law_begin C ds S Q Ex) : r_law_begin K C (ends0 Q) (start ["hand", "member", "many", "lying", "pair", "k", "none"] ds) S := by
  obtain ⟨r, m, i, rfl, hS0, g, hi, q⟩ := h
  have hS : S r = encG r (absH m) m.shots.length := hS0
  have ok := gok g
  have n5 := g.wf.n5
  obtain ⟨f1, f2, f3, f4, f5, f6⟩ := free_g (r := r) (h := absH m) (v := m.shots.length)
  have hln : (m.purses.map D.int).length = m.n := by rw [List.length_map]; exact g.wf.pl
  refine ⟨_, rfl, .inr ⟨_, at_hC hS, _, m.purses.map D.int, rfl, by show _ = _; rw [hS]; rfl, .here ?_⟩⟩
  rw [hln]
  have e0 : S.set r (.gLy m.shots.length) (.dT []) = S.setR r (encGB r (absH m) []) := by
    rw [set_R, hS]
    exact congrArg (S.setR r) (encGB_nil r (absH m))
  refine ⟨r, .gLy m.shots.length, by rw [hS]; exact f5, ⟨.hT, by rw [hS]; simp [encG]⟩, ?_⟩
  rw [e0]
  refine .here ?_
  have reg : ∀ (l : List (Nat × Nat)) (f : Fld), (S.setR r (encGB r (absH m) l)) r f = encGB r (absH m) l f := fun l f => by rw [setR_same]
  refine ⟨_, rfl, m.n, rfl, n5, fun rp hrp => ?_⟩
  have nrp : r ≠ rp := ne_fresh hrp (f := .hT) (by rw [reg]; simp [encGB, encG])
  have hrp' : ∀ f, S rp f = none := fun f => by have := hrp f; rwa [setR_ne (Ne.symm nrp)] at this
  refine ⟨_, by show _ = _; rw [tmp_at], ?_⟩
  refine ⟨fun j env S' => ∃ v, env = [some (.loc r .hT), some (.int i), some (.int m.n), some (.loc r (.gLy m.shots.length)), v, none, none] ∧ S' = (S.setR r (encGB r (absH m) ((pairs m.n).take j))).setR rp (tmpR (.lst ((pairs m.n).map pairD2))), .here ⟨none, rfl, rfl⟩, ?_, ?_⟩
  · rintro j d env S' hd ⟨v, rfl, rfl⟩
    obtain ⟨a, b, hab, hp, rfl⟩ := pair_at hd
    refine ⟨by show _ = _; rw [tmp_at], ?_⟩
    have hno := take_nd (nd_pairs m.n) hp
    have hreg : ∀ f, ((S.setR r (encGB r (absH m) ((pairs m.n).take j))).setR rp (tmpR (.lst ((pairs m.n).map pairD2)))) r f = encGB r (absH m) ((pairs m.n).take j) f := fun f => by rw [setR_ne nrp, setR_same]
    refine ⟨t0, r, .gLi m.shots.length a b, by rw [hreg]; show (if m.shots.length = m.shots.length then _ else _) = _; rw [if_pos rfl, if_neg hno], ⟨.hT, by rw [hreg]; simp [encGB, encG]⟩, _, rfl, _, rfl, _, .t (ks := pk (a, b)) (kvs := ((pairs m.n).take j).map fun p => (pk p, .loc r (.gLi m.shots.length p.1 p.2))) (by rw [set_nf (by simp), hreg]; show (if m.shots.length = m.shots.length then _ else _) = _; rw [if_pos rfl]) ?_, .here ⟨_, rfl, ?_⟩⟩
    · rw [List.length_map]; have := pairs_len m.n n5; simp; exact szl _ (by omega)
    · rw [setR_comm nrp, setR_set, setR_set]
      have := encGB_put (r := r) (h := absH m) hno
      rw [show (absH m).shots.length = m.shots.length from rfl] at this
      rw [this, ← take_one hp, setR_comm (Ne.symm nrp)]
  · rintro env S' ⟨v, rfl, rfl⟩
    refine ⟨by show _ = _; rw [tmp_at], ?_⟩
    rw [List.length_map, List.take_length]
    refine ⟨S.setR r (encGB r (absH m) (pairs m.n)), sub_drop fun f => by rw [setR_ne (Ne.symm nrp)]; exact hrp' f, ?_⟩
    refine lc_map ((List.range m.n).map fun i : Nat => D.int (i : Int)) (fun _ => True) (S.setR r (encGB r (absH m) (pairs m.n))) (fun _ => .non) ?_ ?_ ?_ ?_ ?_
    · intro Q' hq
      exact ⟨_, rfl, _, rfl, by omega, by omega, hq⟩
    · simp; exact szl _ (by omega)
    · intros; trivial
    · intro r2 hr2 j x ds P hx hP
      exact hP _ .refl
    intro rn hrn
    rw [rng_const]
    refine .here ?_
    have nrn : r ≠ rn := ne_fresh hrn (f := .hT) (by rw [reg]; simp [encGB, encG])
    have hrn' : ∀ f, S rn f = none := fun f => by have := hrn f; rwa [setR_ne (Ne.symm nrn)] at this
    rw [setR_comm nrn]
    generalize hX : S.setR rn (tmpR (.lst (List.replicate m.n .non))) = X
    have hXn : ∀ g, (X.setR r g) rn .tmp = some (.lst (List.replicate m.n .non)) := fun g => by rw [setR_ne (Ne.symm nrn), ← hX, tmp_at]
    have hhT : DAt (X.setR r (encGB r (absH m) (pairs m.n))) (.loc r .hT) (.str "shots") (some (.loc r .hS)) := DAt.k (k := .inr "shots") (kvs := hFs r) (.inl (by rw [setR_same]; rfl))
    have hhS : (X.setR r (encGB r (absH m) (pairs m.n))) r .hS = some (.lst ((List.range m.shots.length).map fun k => .loc r (.gT k))) := by rw [setR_same]; rfl
    refine ⟨_, rfl, .inr ⟨_, hhT, ⟨_, hhS⟩, r, .gT m.shots.length, by rw [setR_same]; exact f1, ⟨.hT, by rw [setR_same]; simp [encGB, encG]⟩, r, .gT m.shots.length, rfl, ?_⟩⟩
    rw [setR_set]
    refine ⟨_, rfl, _, _, rfl, by show _ = _; exact hXn _, r, .gC m.shots.length, by rw [setR_same, fset_ne (by simp)]; exact f2, ⟨.hT, by rw [setR_same]; simp [fset, encGB, encG]⟩, ?_⟩
    rw [setR_set]
    refine ⟨_, rfl, _, _, rfl, by show _ = _; exact hXn _, r, .gCut m.shots.length, by rw [setR_same, fset_ne (by simp), fset_ne (by simp)]; exact f3, ⟨.hT, by rw [setR_same]; simp [fset, encGB, encG]⟩, ?_⟩
    rw [setR_set]
    refine ⟨r, .gWa m.shots.length, by rw [setR_same, fset_ne (by simp), fset_ne (by simp), fset_ne (by simp)]; exact f4, ⟨.hT, by rw [setR_same]; simp [fset, encGB, encG]⟩, ?_⟩
    rw [setR_set]
    refine ⟨_, rfl, ?_⟩
    refine ⟨by rw [setR_same]; simp [fset], [(.inr "coins", .loc r (.gC m.shots.length)), (.inr "cut", .loc r (.gCut m.shots.length)), (.inr "watch", .loc r (.gWa m.shots.length)), (.inr "lying", .loc r (.gLy m.shots.length))], rfl, (by show (4 : Nat) ≤ 15; decide), ?_⟩
    rw [setR_set, show dmerge [(.inr "coins", .loc r (.gC m.shots.length)), (.inr "cut", .loc r (.gCut m.shots.length)), (.inr "watch", .loc r (.gWa m.shots.length)), (.inr "lying", .loc r (.gLy m.shots.length))] = gFs r m.shots.length from rfl]
    refine ⟨r, .hS, (List.range m.shots.length).map (fun k => .loc r (.gT k)), _, rfl, rfl, by rw [setR_same]; simp only [fset, reduceCtorEq, if_false]; rfl, by simp; have := g.sm.shots; exact szl _ (by omega), ?_⟩
    have eA := encGB_all r (absH m)
    rw [show (absH m).shots.length = m.shots.length from rfl, show (absH m).n = m.n from rfl] at eA
    generalize hm1 : ({ m with shots := m.shots ++ [newSh m.n] } : Mkt) = m1
    have hl1 : m1.shots.length = m.shots.length + 1 := by rw [← hm1]; simp
    have e1 := eA.trans (show _ = encH r m1 by unfold encH; rw [hl1, ← hm1]; rfl)
    rw [setR_set, e1]
    refine ⟨S.setR r (encH r m1), sub_set (by rw [← hX]; exact sub_drop hrn'), ?_⟩
    have hS1 : (S.setR r (encH r m1)) r = encG r (absH m1) m1.shots.length := setR_same
    have en : m1.n = m.n := by rw [← hm1]
    refine ⟨_, rfl, _, rfl, .inr ⟨_, at_hS hS1, _, (List.range m1.shots.length).map (fun k => .loc r (.gT k)), rfl, by show _ = _; rw [hS1]; rfl, _, _, rfl, rfl, ?_⟩⟩
    have el : (((List.range m1.shots.length).map fun k => D.loc r (.gT k)).length : Int) - 1 = (m.shots.length : Int) := by
      rw [List.length_map, List.length_range, hl1]; omega
    dsimp only
    rw [el]
    have hk1 : m1.shots[m.shots.length]? = some (newSh m.n) := by rw [← hm1]; simp
    have ok1 : Ok m1 := by
      rw [← hm1]
      refine ⟨wf_shots g.wf _, ⟨ok.2.told, ok.2.roads, ?_⟩⟩
      show (m.shots ++ [_]).length ≤ _
      rw [List.length_append]; have := g.sm.shots; simp; omega
    refine ⟨_, rfl, r, m1, m.shots.length, newSh m.n, i, none, rfl, setR_same, ok1, hk1, by rw [en]; exact hi, by rw [en]; simp [newSh], by rw [en]; simp [newSh], by simp [newSh], ?_⟩
    rw [setR_setR]
    have eb : writeM m1 m.shots.length i none = beginM m i := by rw [← hm1]; rfl
    rw [eb]
    refine .here ?_
    have hbl : (beginM m i).shots.length = m.shots.length + 1 := by
      rw [← eb]; unfold writeM; rw [hk1]
      show (m1.shots.set _ _).length = _
      rw [List.length_set, hl1]
    have hS2 : (S.setR r (encH r (beginM m i))) r = encG r (absH (beginM m i)) (beginM m i).shots.length := setR_same
    refine ⟨_, rfl, .inr ⟨_, at_hS hS2, _, (List.range (beginM m i).shots.length).map (fun k => .loc r (.gT k)), rfl, by show _ = _; rw [hS2]; rfl, _, _, rfl, rfl, .here ?_⟩⟩
    have el : (((List.range (beginM m i).shots.length).map fun k => D.loc r (.gT k)).length : Int) - 1 = (m.shots.length : Int) := by
      rw [List.length_map, List.length_range, hbl]; omega
    dsimp only
    rw [el]; exact q
end SS
namespace SS
open PySem L2
theorem read_law_by_hand {K : PySem.W.Frag} {C : Cl} (ds : List D) (S : Store) (Q : QD) (Ex : Value → Store → Prop) (h : sp_law_by_hand C ds S Q Ex) : r_law_by_hand K C (ends0 Q) (start ["hand", "act"] ds) S := by
  obtain ⟨r, m, act, rfl, hS, g, hact, q⟩ := h
  have hw := g.wf
  have hsm := g.sm
  cases act with
  | begin a =>
    refine ⟨_, rfl, .inl ⟨_, _, _, rfl, rfl, rfl, _, rfl, _, rfl, iteT ?_⟩⟩
    refine ⟨_, rfl, _, rfl, .inl ⟨_, _, _, rfl, rfl, rfl, ?_⟩⟩
    exact ⟨r, m, a, rfl, hS, g, hact, .here q⟩
  | take a b =>
    refine ⟨_, rfl, .inl ⟨_, _, _, rfl, rfl, rfl, _, rfl, _, rfl, iteF (.here ?_)⟩⟩
    refine ⟨_, rfl, .inl ⟨_, _, _, rfl, rfl, rfl, _, rfl, _, rfl, iteT ?_⟩⟩
    refine ⟨_, rfl, _, rfl, .inl ⟨_, _, _, rfl, rfl, rfl, _, rfl, .inl ⟨_, _, _, rfl, rfl, rfl, ?_⟩⟩⟩
    exact ⟨r, m, a, b, rfl, hS, g, hact, .here q⟩
  | give a b x =>
    obtain ⟨h1, h2, hne⟩ := hact
    have hr : a < (absH m).n ∧ b < (absH m).n ∧ a ≠ b := ⟨h1, h2, hne⟩
    refine ⟨_, rfl, .inl ⟨_, _, _, rfl, rfl, rfl, _, rfl, _, rfl, iteF (.here ?_)⟩⟩
    refine ⟨_, rfl, .inl ⟨_, _, _, rfl, rfl, rfl, _, rfl, _, rfl, iteF (.here ?_)⟩⟩
    have hc : m.purses[a]? = some (m.purses.getD a 0) := getD_at (by rw [hw.pl]; exact h1) _
    refine ⟨_, rfl, .inl ⟨_, _, _, rfl, rfl, rfl, _, rfl, .inr ⟨_, at_hC hS, _, rfl, .inl ⟨_, _, _, rfl, rfl, rfl, .inl ⟨m.purses.map D.int, _, .int (m.purses.getD a 0), by show _ = _; rw [hS]; rfl, rfl, atI_nat (by rw [List.getElem?_map, hc]; rfl), _, _, rfl, rfl, _, rfl, ifD (fun hgt => ?_) fun hgt => .here ?_⟩⟩⟩⟩⟩
    · have e : stepM m (.give a b x) = (.str "no coins", m) := if_pos hgt
      rw [e, setR_self hS] at q
      exact .here q
    have e : stepM m (.give a b x) = (.non, giveM m a b x) := if_neg hgt
    rw [e] at q
    refine ⟨_, rfl, .inr ⟨_, at_hC hS, _, rfl, .inl ⟨_, _, _, rfl, rfl, rfl, .inl ⟨m.purses.map D.int, _, .int (m.purses.getD a 0), by show _ = _; rw [hS]; rfl, rfl, atI_nat (by rw [List.getElem?_map, hc]; rfl), _, rfl, .inl ⟨_, _, _, rfl, rfl, rfl, _, _, rfl, rfl, _, rfl, .inr ⟨_, at_hC hS, _, rfl, .inl ⟨_, _, _, rfl, rfl, rfl, _, .l (ds := m.purses.map D.int) (by rw [hS]; rfl) (ixN_nat (by rw [List.length_map, hw.pl]; exact h1)), .here ?_⟩⟩⟩⟩⟩⟩⟩
    rw [← List.map_set, set_R, hS, show LO.lst ((m.purses.set a (m.purses.getD a 0 - x)).map D.int) = lints (m.purses.set a (m.purses.getD a 0 - x)) from rfl, encH, enc_hC]
    generalize hh : ({ absH m with coins := m.purses.set a (m.purses.getD a 0 - x) } : Hd) = h1'
    have hS1 : (S.setR r (encG r h1' m.shots.length)) r = encG r h1' m.shots.length := setR_same
    have hr' : a < h1'.n ∧ b < h1'.n ∧ a ≠ b := by rw [← hh]; exact hr
    have hL : (S.setR r (encG r h1' m.shots.length)) r (.hRo a b) = some (.lst ((m.roads a b).map encPar2)) := by rw [hS1, ← hh]; exact hroad_at hr
    refine ⟨_, rfl, .inr ⟨_, at_hR hS1, _, rfl, .inl ⟨_, _, _, rfl, rfl, rfl, _, rfl, .inl ⟨_, _, _, rfl, rfl, rfl, t2, .inr ⟨_, at_hroads hS1 hr', ⟨_, hL⟩, _, rfl, .inl ⟨_, _, _, rfl, rfl, rfl, t2, _, _, _, _, rfl, rfl, hL, ?_, .here ?_⟩⟩⟩⟩⟩⟩
    · rw [List.length_map]; have := hsm.roads a b; exact szl _ (by omega)
    have e3 : (m.roads a b).map encPar2 ++ [.tup [.str "coins", .int x]] = (m.roads a b ++ [Par.coins x none]).map encPar2 := by rw [List.map_append]; rfl
    rw [e3, setR_set, enc_hRo hr']
    refine ⟨_, rfl, _, rfl, .inl ⟨_, _, _, rfl, rfl, rfl, _, rfl, .inl ⟨_, _, _, rfl, rfl, rfl, _, rfl, .inl ⟨_, _, _, rfl, rfl, rfl, t4, _, rfl, .inl ⟨_, _, _, rfl, rfl, rfl, ?_⟩⟩⟩⟩⟩
    refine ⟨r, m.shots.length, _, ⟨true, a, b, x⟩, a, rfl, setR_same, ?_, ?_, .here (.here ?_)⟩
    · rw [← hh]; show a < (cnts m.n m.told).length; rw [cnts_len]; exact h1
    · rw [← hh]; show m.told.length < _; have := hsm.told; omega
    rw [setR_setR]
    have eF : encG r { h1' with roads := up2 h1'.roads a b (m.roads a b ++ [Par.coins x none]), log := h1'.log ++ [⟨true, a, b, x⟩], counts := h1'.counts.set a (h1'.counts.getD a 0 + 1) } m.shots.length = encH r (giveM m a b x) := by
      rw [encH, ← hh]
      refine encG_congr rfl rfl (fun c d => ?_) rfl rfl (cnts_step m.n m.told ⟨true, a, b, x⟩ h1)
      show (up2 m.roads a b _ c d).map encPar2 = (up2 m.roads a b _ c d).map encPar2
      by_cases z : c = a ∧ d = b
      · obtain ⟨rfl, rfl⟩ := z
        rw [up2_same, up2_same, List.map_append, List.map_append]; rfl
      · rw [up2_ne z, up2_ne z]
    rw [← eF] at q
    exact q
/-! ### the own entries of stamps -/
theorem cnt_app (l : List Ev) (e : Ev) (i : Nat) : cnt (l ++ [e]) i = cnt l i + if who e = i then 1 else 0 := by
  unfold cnt
  rw [List.countP_append, List.countP_singleton]
  by_cases h : who e = i <;> simp [h]
theorem cnt_nn (l : List Ev) (i : Nat) : 0 ≤ cnt l i := by unfold cnt; omega
theorem zip_getD : ∀ (a b : List Int) (i : Nat), a.length = b.length → (List.zipWith mx a b).getD i 0 = mx (a.getD i 0) (b.getD i 0)
  | [], [], i, _ => by simp [mx]
  | x :: a, y :: b, 0, _ => by simp
  | x :: a, y :: b, i + 1, h => by
    have := zip_getD a b i (by simpa using h)
    simpa using this
  | [], _ :: _, _, h => by simp at h
  | _ :: _, [], _, h => by simp at h
theorem mx_le {a b c : Int} (h1 : a ≤ c) (h2 : b ≤ c) : mx a b ≤ c := by unfold mx; split <;> assumption
theorem le_mx1 (a b : Int) : a ≤ mx a b := by unfold mx; split <;> omega
theorem le_mx2 (a b : Int) : b ≤ mx a b := by unfold mx; split <;> omega
theorem fold_bound (m : Mkt) (hw : WF m) (i : Nat) (B : Int) : ∀ (cs : List (Option Nat)) (st : List Int × Int), (∀ k, some k ∈ cs → k < m.told.length ∧ (m.stamps.getD k []).getD i 0 ≤ B) → st.1.length = m.n → st.1.getD i 0 ≤ B → (cs.foldl (cause m) st).1.getD i 0 ≤ B
  | [], st, _, _, h => h
  | c :: cs, st, hc, hl, h => by
    refine fold_bound m hw i B cs _ (fun k hk => hc k (List.mem_cons_of_mem _ hk)) (len_cause m hw st c (fun k e => (hc k (e ▸ List.mem_cons_self)).1) hl) ?_
    cases c with
    | none => exact h
    | some k =>
      obtain ⟨h1, h2⟩ := hc k List.mem_cons_self
      obtain ⟨s, t⟩ := st
      show (List.zipWith mx s (m.stamps.getD k [])).getD i 0 ≤ B
      have hsk : m.stamps[k]? = some (m.stamps.getD k []) := getD_at (by rw [hw.sl]; exact h1) _
      rw [zip_getD _ _ _ (hl.trans (hw.se k _ hsk).symm)]
      exact mx_le h h2
theorem fold_ge (m : Mkt) (hw : WF m) (i : Nat) (B : Int) : ∀ (cs : List (Option Nat)) (st : List Int × Int), (∀ k, some k ∈ cs → k < m.told.length) → st.1.length = m.n → (B ≤ st.1.getD i 0 ∨ ∃ k, some k ∈ cs ∧ B ≤ (m.stamps.getD k []).getD i 0) → B ≤ (cs.foldl (cause m) st).1.getD i 0
  | [], st, _, _, h => by
    rcases h with h | ⟨k, h, _⟩
    · exact h
    · cases h
  | c :: cs, st, hc, hl, h => by
    have hl' := len_cause m hw st c (fun k e => hc k (e ▸ List.mem_cons_self)) hl
    refine fold_ge m hw i B cs _ (fun k hk => hc k (List.mem_cons_of_mem _ hk)) hl' ?_
    cases c with
    | none =>
      rcases h with h | ⟨k, h, h'⟩
      · exact .inl h
      · rcases List.mem_cons.mp h with z | z
        · cases z
        · exact .inr ⟨k, z, h'⟩
    | some j =>
      obtain ⟨s, t⟩ := st
      have hj := hc j List.mem_cons_self
      have hsk : m.stamps[j]? = some (m.stamps.getD j []) := getD_at (by rw [hw.sl]; exact hj) _
      have ez : (cause m (s, t) (some j)).1.getD i 0 = mx (s.getD i 0) ((m.stamps.getD j []).getD i 0) := zip_getD _ _ _ (hl.trans (hw.se j _ hsk).symm)
      rw [ez]
      rcases h with h | ⟨k, h, h'⟩
      · exact .inl (Int.le_trans h (le_mx1 _ _))
      · rcases List.mem_cons.mp h with z | z
        · cases z; exact .inl (Int.le_trans h' (le_mx2 _ _))
        · exact .inr ⟨k, z, h'⟩
theorem rep_getD (n i : Nat) : (List.replicate n (0 : Int)).getD i 0 = 0 := by
  rw [List.getD_eq_getElem?_getD, List.getElem?_replicate]; split <;> rfl
theorem set_getD {α : Type} (l : List α) (i j : Nat) (x d : α) (h : i < l.length) : (l.set i x).getD j d = if j = i then x else l.getD j d := by
  rw [List.getD_eq_getElem?_getD, List.getD_eq_getElem?_getD, List.getElem?_set]
  by_cases e : i = j
  · subst e; rw [if_pos rfl, if_pos h, if_pos rfl]; rfl
  · rw [if_neg e, if_neg (Ne.symm e)]
theorem co_addEv {m : Mkt} (hw : WF m) (h : CntOk m) {e : Ev} {i : Nat} (hwho : who e = i) {cs : List (Option Nat)} (hi : i < m.n) (hc : ∀ k, some k ∈ cs → k < m.told.length) : CntOk (addEv m e i cs) := by
  have hla : m.last[i]? = some (m.last.getD i none) := getD_at (by rw [hw.ll]; exact hi) _
  have hcs : ∀ k, some k ∈ m.last.getD i none :: cs → k < m.told.length := fun k hk => by
    rcases List.mem_cons.mp hk with z | z
    · exact hw.lv i k (by rw [hla, ← z])
    · exact hc k z
  have hst : ∀ k, k < m.told.length → ∀ j, (m.stamps.getD k []).getD j 0 ≤ cnt m.told j := fun k hk j => h.le k _ j (getD_at (by rw [hw.sl]; exact hk) _)
  have hlen : (stampOf m i cs).1.length = m.n := len_fold m hw _ _ hcs (by simp)
  have hle : ∀ j, (stampOf m i cs).1.getD j 0 ≤ cnt m.told j := fun j => fold_bound m hw j _ _ _ (fun k hk => ⟨hcs k hk, hst k (hcs k hk) j⟩) (by simp) (by rw [rep_getD]; exact cnt_nn _ _)
  have heq : (stampOf m i cs).1.getD i 0 = cnt m.told i := by
    refine Int.le_antisymm (hle i) (fold_ge m hw i _ _ _ hcs (by simp) ?_)
    cases q : m.last.getD i none with
    | none =>
      rw [q] at hla
      left; rw [rep_getD, h.no i hla]; exact Int.le_refl _
    | some k =>
      rw [q] at hla
      right; exact ⟨k, List.mem_cons_self, by rw [h.at_ i k hla]; exact Int.le_refl _⟩
  have ct : ∀ j, cnt (m.told ++ [e]) j = cnt m.told j + if i = j then 1 else 0 := fun j => by rw [cnt_app, hwho]
  refine ⟨fun j hj => ?_, fun j q hq => ?_, fun q s j hq => ?_⟩
  · have hj' : (m.last.set i (some m.told.length))[j]? = some none := hj
    show cnt (m.told ++ [e]) j = 0
    rw [ct]
    rw [List.getElem?_set] at hj'
    by_cases z : i = j
    · subst z; rw [if_pos rfl] at hj'; split at hj' <;> cases hj'
    · rw [if_neg z] at hj' ⊢; rw [h.no j hj']; rfl
  · have hq' : (m.last.set i (some m.told.length))[j]? = some (some q) := hq
    show ((m.stamps ++ [(stampOf m i cs).1.set i ((stampOf m i cs).1.getD i 0 + 1)]).getD q []).getD j 0 = cnt (m.told ++ [e]) j
    rw [ct]
    rw [List.getElem?_set] at hq'
    by_cases z : i = j
    · subst z
      rw [if_pos rfl, if_pos (by rw [hw.ll]; exact hi)] at hq'
      cases hq'
      rw [List.getD_eq_getElem?_getD (l := m.stamps ++ _), List.getElem?_append_right (by rw [hw.sl]; exact Nat.le_refl _), hw.sl, Nat.sub_self]
      show ((stampOf m i cs).1.set i ((stampOf m i cs).1.getD i 0 + 1)).getD i 0 = _
      rw [set_getD _ _ _ _ _ (by rw [hlen]; exact hi), if_pos rfl, if_pos rfl, heq]
    · rw [if_neg z] at hq' ⊢
      have hk := hw.lv j q hq'
      rw [List.getD_eq_getElem?_getD (l := m.stamps ++ _), List.getElem?_append_left (by rw [hw.sl]; exact hk), ← List.getD_eq_getElem?_getD, h.at_ j q hq']; omega
  · have hq' : (m.stamps ++ [(stampOf m i cs).1.set i ((stampOf m i cs).1.getD i 0 + 1)])[q]? = some s := hq
    show s.getD j 0 ≤ cnt (m.told ++ [e]) j
    rw [ct]
    rcases Nat.lt_or_ge q m.stamps.length with z | z
    · rw [List.getElem?_append_left z] at hq'
      have := h.le q s j hq'
      split <;> omega
    · rw [List.getElem?_append_right z] at hq'
      have es : s = (stampOf m i cs).1.set i ((stampOf m i cs).1.getD i 0 + 1) := by
        cases w : q - m.stamps.length with
        | zero => rw [w] at hq'; simpa using hq'.symm
        | succ j => rw [w] at hq'; simp at hq'
      rw [es, set_getD _ _ _ _ _ (by rw [hlen]; exact hi), heq]
      have := hle j
      by_cases w : j = i
      · subst w; rw [if_pos rfl, if_pos rfl]; omega
      · rw [if_neg w, if_neg (Ne.symm w)]; omega
end SS
namespace SS
open PySem L2
theorem marks_app (k : Nat) (l l' : List Par) : marks k (l ++ l') = marks k l + marks k l' := by unfold marks; rw [List.countP_append]
theorem marks_coins (k : Nat) (a : Int) (n : Option Nat) (l : List Par) : marks k (.coins a n :: l) = marks k l := by unfold marks; rw [List.countP_cons]; simp
theorem marks_mark (k j : Nat) (l : List Par) : marks k (.mark j :: l) = marks k l + if j = k then 1 else 0 := by
  unfold marks; rw [List.countP_cons]; by_cases h : j = k <;> simp [h]
theorem marks_nil (k : Nat) : marks k [] = 0 := rfl
theorem marks_zero {k : Nat} {l : List Par} (h : Par.mark k ∉ l) : marks k l = 0 := by
  unfold marks
  rw [List.countP_eq_zero]
  intro p hp
  cases p with
  | coins a n => simp
  | mark j =>
    have : j ≠ k := fun e => h (e ▸ hp)
    simp [this]
theorem sinv_of {m m' : Mkt} (h : SInv m) (en : m'.n = m.n) (el : m'.shots.length = m.shots.length)
    (es : ∀ (k : Nat) (s' : Sh), m'.shots[k]? = some s' → ∃ s, m.shots[k]? = some s ∧ s'.written = s.written ∧ s'.cut = s.cut ∧ s'.watched = s.watched)
    (em : ∀ k a b, marks k (m'.roads a b) = marks k (m.roads a b)) (ef : ∀ a b k, Par.mark k ∈ m'.roads a b → Par.mark k ∈ m.roads a b) : SInv m' := by
  refine ⟨fun k s' hk => ?_, fun k s' hk => ?_, fun k s' hk => ?_, fun k s' x y hk hx => ?_, fun k s' o b hk ho hb hne h1 h2 => ?_, fun k s' a b hk ha hb hab => ?_, fun a b k hk => ?_⟩
  · obtain ⟨s, h1, h2, h3, h4⟩ := es k s' hk
    rw [h2, en]; exact h.wl k s h1
  · obtain ⟨s, h1, h2, h3, h4⟩ := es k s' hk
    rw [h3, en]; exact h.cl k s h1
  · obtain ⟨s, h1, h2, h3, h4⟩ := es k s' hk
    rw [h4]; exact h.nd k s h1
  · obtain ⟨s, h1, h2, h3, h4⟩ := es k s' hk
    rw [h4] at hx
    rw [h2, en]; exact h.wat k s x y h1 hx
  · obtain ⟨s, g1, g2, g3, g4⟩ := es k s' hk
    rw [en] at ho hb
    rw [g2] at h1 h2
    rw [g4]; exact h.unw k s o b g1 ho hb hne h1 h2
  · obtain ⟨s, g1, g2, g3, g4⟩ := es k s' hk
    rw [en] at ha hb
    rw [em, g2, g4]; exact h.mks k s a b g1 ha hb hab
  · rw [el]; exact h.fr a b k (ef a b k hk)
theorem map_shot {l : List Sh} {one other : Nat} {a : Int} (k : Nat) (s' : Sh) (h : (l.map (shotParcel one other a))[k]? = some s') : ∃ s, l[k]? = some s ∧ s'.written = s.written ∧ s'.cut = s.cut ∧ s'.watched = s.watched := by
  rw [List.getElem?_map] at h
  cases e : l[k]? with
  | none => rw [e] at h; cases h
  | some s =>
    rw [e] at h; cases h
    refine ⟨s, rfl, ?_⟩
    unfold shotParcel; split <;> exact ⟨rfl, rfl, rfl⟩
theorem sinv_give {m : Mkt} (h : SInv m) (a b : Nat) (x : Int) : SInv (giveM m a b x) := by
  refine sinv_of h rfl rfl (fun k s' hk => ⟨s', hk, rfl, rfl, rfl⟩) (fun k c d => ?_) (fun c d k hk => ?_)
  · show marks k (up2 m.roads a b _ c d) = _
    by_cases z : c = a ∧ d = b
    · obtain ⟨rfl, rfl⟩ := z
      rw [up2_same, marks_app, marks_coins, marks_nil]; rfl
    · rw [up2_ne z]
  · have hk' : Par.mark k ∈ up2 m.roads a b (m.roads a b ++ [.coins x (some m.told.length)]) c d := hk
    by_cases z : c = a ∧ d = b
    · obtain ⟨rfl, rfl⟩ := z
      rw [up2_same] at hk'
      rcases List.mem_append.mp hk' with w | w
      · exact w
      · simp at w
    · rw [up2_ne z] at hk'; exact hk'
theorem sinv_parcel {m : Mkt} (h : SInv m) {a b : Nat} {x : Int} {num : Option Nat} {rest : List Par} (e : m.roads a b = .coins x num :: rest) : SInv (parcelM { m with roads := up2 m.roads a b rest } a b x num) := by
  refine sinv_of h rfl (by show (m.shots.map _).length = _; rw [List.length_map]) (fun k s' hk => map_shot (l := m.shots) k s' hk) (fun k c d => ?_) (fun c d k hk => ?_)
  · show marks k (up2 m.roads a b rest c d) = _
    by_cases z : c = a ∧ d = b
    · obtain ⟨rfl, rfl⟩ := z
      rw [up2_same, e, marks_coins]
    · rw [up2_ne z]
  · have hk' : Par.mark k ∈ up2 m.roads a b rest c d := hk
    by_cases z : c = a ∧ d = b
    · obtain ⟨rfl, rfl⟩ := z
      rw [up2_same] at hk'
      rw [e]; exact List.mem_cons_of_mem _ hk'
    · rw [up2_ne z] at hk'; exact hk'
theorem mem_wput {w : List (Nat × Nat)} {p q : Nat × Nat} : q ∈ wput w p ↔ q ∈ w ∨ q = p := by
  unfold wput; split
  · next h => exact ⟨.inl, fun z => z.elim id fun e => e ▸ h⟩
  · rw [List.mem_append]; simp
theorem nd_wput {w : List (Nat × Nat)} {p : Nat × Nat} (h : w.Nodup) : (wput w p).Nodup := by
  unfold wput; split
  · exact h
  · next hn => exact List.nodup_append.mpr ⟨h, by simp, fun a ha b hb => by simp at hb; subst hb; exact fun e => hn (e ▸ ha)⟩
theorem mem_watch {i : Nat} {but : Option Nat} {w : List (Nat × Nat)} {x y : Nat} : ∀ {j : Nat}, (x, y) ∈ watchTo i but w j ↔ (x, y) ∈ w ∨ (y = i ∧ x < j ∧ x ≠ i ∧ some x ≠ but)
  | 0 => by simp [watchTo]
  | j + 1 => by
    rw [watchTo_succ]
    have ih := mem_watch (i := i) (but := but) (w := w) (x := x) (y := y) (j := j)
    split
    · next c =>
      rw [mem_wput, ih]
      constructor
      · rintro ((z | z) | z)
        · exact .inl z
        · exact .inr ⟨z.1, by omega, z.2.2⟩
        · obtain ⟨rfl, rfl⟩ := Prod.mk.inj z
          exact .inr ⟨rfl, by omega, c⟩
      · rintro (z | ⟨rfl, z2, z3⟩)
        · exact .inl (.inl z)
        · by_cases e : x = j
          · subst e; exact .inr rfl
          · exact .inl (.inr ⟨rfl, by omega, z3⟩)
    · next c =>
      rw [ih]
      constructor
      · rintro (z | z)
        · exact .inl z
        · exact .inr ⟨z.1, by omega, z.2.2⟩
      · rintro (z | ⟨rfl, z2, z3⟩)
        · exact .inl z
        · by_cases e : x = j
          · subst e; exact absurd z3 c
          · exact .inr ⟨rfl, by omega, z3⟩
theorem nd_watch {i : Nat} {but : Option Nat} {w : List (Nat × Nat)} (h : w.Nodup) : ∀ j, (watchTo i but w j).Nodup
  | 0 => h
  | j + 1 => by
    rw [watchTo_succ]; split
    · exact nd_wput (nd_watch h j)
    · exact nd_watch h j
theorem marks_markTo (ro : Nat → Nat → List Par) (i k j q a b : Nat) : marks q (markTo ro i k j a b) = marks q (ro a b) + if k = q ∧ a = i ∧ b < j ∧ b ≠ i then 1 else 0 := by
  unfold markTo
  by_cases h : a = i ∧ b < j ∧ b ≠ i
  · rw [if_pos h, marks_app, marks_mark, marks_nil]
    by_cases e : k = q
    · rw [if_pos e, if_pos ⟨e, h⟩]
    · rw [if_neg e, if_neg fun z => e z.1]
  · rw [if_neg h, if_neg fun z => h z.2]; rfl
theorem mem_markTo {ro : Nat → Nat → List Par} {i k j q a b : Nat} (h : Par.mark q ∈ markTo ro i k j a b) : Par.mark q ∈ ro a b ∨ q = k := by
  unfold markTo at h
  split at h
  · rcases List.mem_append.mp h with z | z
    · exact .inl z
    · simp at z; exact .inr z
  · exact .inl h
theorem get_set {l : List Sh} {k j : Nat} {s s' t : Sh} (hk : l[k]? = some s) (h : (l.set k s')[j]? = some t) : (j = k ∧ t = s') ∨ (j ≠ k ∧ l[j]? = some t) := by
  by_cases e : j = k
  · subst e; rw [set_at hk] at h; cases h; exact .inl ⟨rfl, rfl⟩
  · rw [set_off e] at h; exact .inr ⟨e, h⟩
/-- a mark is taken -/
theorem sinv_mark {m : Mkt} (h : SInv m) {a b k : Nat} {rest : List Par} (hr : a < m.n ∧ b < m.n ∧ a ≠ b) (e : m.roads a b = .mark k :: rest) : SInv (markM { m with roads := up2 m.roads a b rest } k a b) := by
  have hkl := h.fr a b k (by rw [e]; exact List.mem_cons_self)
  obtain ⟨s, hs⟩ : ∃ s, m.shots[k]? = some s := ⟨m.shots[k], by simp [hkl]⟩
  have hmk := h.mks k s a b hs hr.1 hr.2.1 hr.2.2
  rw [e, marks_mark, if_pos rfl] at hmk
  have hpos : (s.written.getD a none).isSome = true ∧ ((s.written.getD b none).isSome = false ∨ (a, b) ∈ s.watched) := by
    split at hmk
    · assumption
    · omega
  have hzero : marks k rest = 0 := by rw [if_pos hpos] at hmk; omega
  have hro : ∀ q c d, q ≠ k → marks q (up2 m.roads a b rest c d) = marks q (m.roads c d) := fun q c d hq => by
    by_cases z : c = a ∧ d = b
    · obtain ⟨rfl, rfl⟩ := z; rw [up2_same, e, marks_mark, if_neg (Ne.symm hq)]; rfl
    · rw [up2_ne z]
  have hfr : ∀ c d q, Par.mark q ∈ up2 m.roads a b rest c d → q < m.shots.length := fun c d q hq => by
    by_cases z : c = a ∧ d = b
    · obtain ⟨rfl, rfl⟩ := z; rw [up2_same] at hq; exact h.fr c d q (by rw [e]; exact List.mem_cons_of_mem _ hq)
    · rw [up2_ne z] at hq; exact h.fr c d q hq
  unfold markM
  rw [show ({ m with roads := up2 m.roads a b rest } : Mkt).shots[k]? = some s from hs]
  dsimp only
  by_cases hw : (s.written.getD b none).isSome = true
  · -- it leaves
    rw [if_pos hw]
    have hin : (a, b) ∈ s.watched := by
      rcases hpos.2 with z | z
      · rw [hw] at z; cases z
      · exact z
    refine ⟨fun q t hq => ?_, fun q t hq => ?_, fun q t hq => ?_, fun q t x y hq hx => ?_, fun q t o c hq ho hc hne h1 h2 => ?_, fun q t c d hq hc hd hcd => ?_, fun c d q hq => ?_⟩
    · rcases get_set hs hq with ⟨rfl, rfl⟩ | ⟨_, z⟩
      · exact h.wl q s hs
      · exact h.wl q t z
    · rcases get_set hs hq with ⟨rfl, rfl⟩ | ⟨_, z⟩
      · exact h.cl q s hs
      · exact h.cl q t z
    · rcases get_set hs hq with ⟨rfl, rfl⟩ | ⟨_, z⟩
      · exact (h.nd q s hs).filter _
      · exact h.nd q t z
    · rcases get_set hs hq with ⟨rfl, rfl⟩ | ⟨_, z⟩
      · exact h.wat q s x y hs (List.mem_filter.mp hx).1
      · exact h.wat q t x y z hx
    · rcases get_set hs hq with ⟨rfl, rfl⟩ | ⟨_, z⟩
      · refine List.mem_filter.mpr ⟨h.unw q s o c hs ho hc hne h1 h2, ?_⟩
        simp only [ne_eq, decide_not, Bool.not_eq_true', decide_eq_false_iff_not, Prod.mk.injEq]
        rintro ⟨rfl, _⟩
        have : (s.written.getD c none).isSome = false := h2
        rw [hpos.1] at this; cases this
      · exact h.unw q t o c z ho hc hne h1 h2
    · rcases get_set hs hq with ⟨rfl, rfl⟩ | ⟨w, z⟩
      · show marks q (up2 m.roads a b rest c d) = if (s.written.getD c none).isSome = true ∧ ((s.written.getD d none).isSome = false ∨ (c, d) ∈ s.watched.filter fun p => decide (p ≠ (a, b))) then 1 else 0
        by_cases z : c = a ∧ d = b
        · obtain ⟨rfl, rfl⟩ := z
          rw [up2_same, hzero, if_neg]
          rintro ⟨_, z | z⟩
          · rw [hw] at z; cases z
          · have := (List.mem_filter.mp z).2; simp at this
        · rw [up2_ne z, h.mks q s c d hs hc hd hcd]
          have : ((c, d) ∈ s.watched.filter fun p => decide (p ≠ (a, b))) ↔ (c, d) ∈ s.watched := by
            rw [List.mem_filter]
            refine ⟨fun w => w.1, fun w => ⟨w, ?_⟩⟩
            simp only [ne_eq, decide_not, Bool.not_eq_true', decide_eq_false_iff_not, Prod.mk.injEq]
            exact z
          simp only [this]
      · show marks q (up2 m.roads a b rest c d) = _
        rw [hro q c d w]; exact h.mks q t c d z hc hd hcd
    · show q < (m.shots.set k _).length
      rw [List.length_set]; exact hfr c d q hq
  · -- it writes
    rw [if_neg hw]
    have hwf : (s.written.getD b none).isSome = false := by simpa using hw
    have hwl := h.wl k s hs
    unfold writeM
    rw [show ({ m with roads := up2 m.roads a b rest } : Mkt).shots[k]? = some s from hs]
    dsimp only
    have hwr : ∀ o, ((s.written.set b (some (m.purses.getD b 0))).getD o none).isSome = if o = b then true else (s.written.getD o none).isSome := fun o => by
      rw [set_getD _ _ _ _ _ (by rw [hwl]; exact hr.2.1)]
      by_cases z : o = b
      · rw [if_pos z, if_pos z]; rfl
      · rw [if_neg z, if_neg z]
    refine ⟨fun q t hq => ?_, fun q t hq => ?_, fun q t hq => ?_, fun q t x y hq hx => ?_, fun q t o c hq ho hc hne h1 h2 => ?_, fun q t c d hq hc hd hcd => ?_, fun c d q hq => ?_⟩
    · rcases get_set hs hq with ⟨rfl, rfl⟩ | ⟨_, z⟩
      · show (s.written.set b _).length = _; rw [List.length_set]; exact h.wl q s hs
      · exact h.wl q t z
    · rcases get_set hs hq with ⟨rfl, rfl⟩ | ⟨_, z⟩
      · show (s.cut.set b _).length = _; rw [List.length_set]; exact h.cl q s hs
      · exact h.cl q t z
    · rcases get_set hs hq with ⟨rfl, rfl⟩ | ⟨_, z⟩
      · exact nd_watch (h.nd q s hs) _
      · exact h.nd q t z
    · rcases get_set hs hq with ⟨rfl, rfl⟩ | ⟨_, z⟩
      · show _ ∧ ((s.written.set b (some (m.purses.getD b 0))).getD y none).isSome = true
        rw [hwr]
        rcases mem_watch.mp hx with z | ⟨rfl, z2, z3, _⟩
        · obtain ⟨w1, w2⟩ := h.wat q s x y hs z
          refine ⟨w1, ?_⟩
          split
          · rfl
          · exact w2
        · exact ⟨⟨z2, hr.2.1, z3⟩, if_pos rfl⟩
      · exact h.wat q t x y z hx
    · rcases get_set hs hq with ⟨rfl, rfl⟩ | ⟨_, z⟩
      · have h1' : ((s.written.set b (some (m.purses.getD b 0))).getD o none).isSome = true := h1
        have h2' : ((s.written.set b (some (m.purses.getD b 0))).getD c none).isSome = false := h2
        rw [hwr] at h1' h2'
        have hcb : c ≠ b := fun z => by rw [if_pos z] at h2'; cases h2'
        rw [if_neg hcb] at h2'
        refine mem_watch.mpr ?_
        by_cases ob : o = b
        · subst ob
          refine .inr ⟨rfl, hc, hcb, ?_⟩
          intro z
          cases z
          rw [hpos.1] at h2'; cases h2'
        · rw [if_neg ob] at h1'
          exact .inl (h.unw q s o c hs ho hc hne h1' h2')
      · exact h.unw q t o c z ho hc hne h1 h2
    · show marks q (markTo (up2 m.roads a b rest) b k m.n c d) = _
      rw [marks_markTo]
      rcases get_set hs hq with ⟨rfl, rfl⟩ | ⟨w, z⟩
      · show _ = if ((s.written.set b (some (m.purses.getD b 0))).getD c none).isSome = true ∧ (((s.written.set b (some (m.purses.getD b 0))).getD d none).isSome = false ∨ (c, d) ∈ watchTo b (some a) s.watched m.n) then 1 else 0
        rw [hwr, hwr]; simp only [mem_watch]
        by_cases cb : c = b
        · subst cb
          have hn : ¬ (c = a ∧ d = c) := fun z => hr.2.2 z.1.symm
          rw [up2_ne hn, h.mks q s c d hs hc hd hcd, if_neg (by rw [hwf]; rintro ⟨z, _⟩; cases z), if_pos ⟨trivial, rfl, hd, Ne.symm hcd⟩, if_pos rfl, if_neg (Ne.symm hcd), if_pos]
          refine ⟨rfl, ?_⟩
          by_cases wd : (s.written.getD d none).isSome = true
          · exact .inr (.inl (h.unw q s d c hs hd hc hcd wd hwf))
          · exact .inl (by simpa using wd)
        · rw [if_neg (fun z => cb z.2.1), if_neg cb, Nat.add_zero]
          by_cases db : d = b
          · subst db
            rw [if_pos rfl]
            by_cases ca : c = a
            · subst ca
              rw [up2_same, hzero, if_neg]
              rintro ⟨_, z | z | z⟩
              · cases z
              · have := (h.wat q s c d hs z).2; rw [hwf] at this; cases this
              · exact z.2.2.2 rfl
            · rw [up2_ne fun z => ca z.1, h.mks q s c d hs hc hd hcd]
              by_cases wc : (s.written.getD c none).isSome = true
              · rw [if_pos ⟨wc, .inl hwf⟩, if_pos ⟨wc, .inr (.inr ⟨rfl, hc, cb, fun z => ca (Option.some.inj z)⟩)⟩]
              · rw [if_neg fun z => wc z.1, if_neg fun z => wc z.1]
          · rw [if_neg db, up2_ne fun z => db z.2, h.mks q s c d hs hc hd hcd]
            have : ((c, d) ∈ s.watched ∨ d = b ∧ c < m.n ∧ c ≠ b ∧ some c ≠ some a) ↔ (c, d) ∈ s.watched := ⟨fun z => z.elim id fun w => absurd w.1 db, .inl⟩
            simp only [this]
      · rw [if_neg fun z => w z.1.symm, Nat.add_zero, hro q c d w]; exact h.mks q t c d z hc hd hcd
    · show q < (m.shots.set k _).length
      rw [List.length_set]
      have hq' : Par.mark q ∈ markTo (up2 m.roads a b rest) b k m.n c d := hq
      rcases mem_markTo hq' with z | z
      · exact hfr c d q z
      · rw [z]; exact hkl
theorem sinv_begin {m : Mkt} (h : SInv m) {i : Nat} (hi : i < m.n) : SInv (beginM m i) := by
  unfold beginM writeM
  generalize hK : m.shots.length = K
  have hs : ({ m with shots := m.shots ++ [newSh m.n] } : Mkt).shots[K]? = some (newSh m.n) := by
    show (m.shots ++ [newSh m.n])[K]? = _
    rw [app_at, if_pos hK.symm]
  rw [hs]
  dsimp only
  have hs' : (m.shots ++ [newSh m.n])[K]? = some (newSh m.n) := hs
  have old : ∀ (q : Nat) (t : Sh), q ≠ K → (m.shots ++ [newSh m.n])[q]? = some t → m.shots[q]? = some t := fun q t hq ht => by
    rw [app_at, if_neg (by rw [hK]; exact hq)] at ht; exact ht
  have hwr : ∀ o, (((newSh m.n).written.set i (some (m.purses.getD i 0))).getD o none).isSome = if o = i then true else false := fun o => by
    have e0 : (newSh m.n).written = List.replicate m.n none := rfl
    rw [set_getD _ _ _ _ _ (by rw [e0]; simpa using hi)]
    by_cases z : o = i
    · rw [if_pos z, if_pos z]; rfl
    · rw [if_neg z, if_neg z, e0, List.getD_eq_getElem?_getD, List.getElem?_replicate]; split <;> rfl
  have nomark : ∀ a b, marks K (m.roads a b) = 0 := fun a b => marks_zero fun z => by have := h.fr a b K z; omega
  refine ⟨fun q t hq => ?_, fun q t hq => ?_, fun q t hq => ?_, fun q t x y hq hx => ?_, fun q t o c hq ho hc hne h1 h2 => ?_, fun q t c d hq hc hd hcd => ?_, fun c d q hq => ?_⟩
  · rcases get_set hs' hq with ⟨rfl, rfl⟩ | ⟨w, z⟩
    · show (List.set _ i _).length = _; simp [newSh]
    · exact h.wl q t (old q t w z)
  · rcases get_set hs' hq with ⟨rfl, rfl⟩ | ⟨w, z⟩
    · show (List.set _ i _).length = _; simp [newSh]
    · exact h.cl q t (old q t w z)
  · rcases get_set hs' hq with ⟨rfl, rfl⟩ | ⟨w, z⟩
    · exact nd_watch (by simp [newSh]) _
    · exact h.nd q t (old q t w z)
  · rcases get_set hs' hq with ⟨rfl, rfl⟩ | ⟨w, z⟩
    · show _ ∧ (((newSh m.n).written.set i (some (m.purses.getD i 0))).getD y none).isSome = true
      rcases mem_watch.mp hx with z | ⟨rfl, z2, z3, _⟩
      · simp [newSh] at z
      · exact ⟨⟨z2, hi, z3⟩, by rw [hwr, if_pos rfl]⟩
    · exact h.wat q t x y (old q t w z) hx
  · rcases get_set hs' hq with ⟨rfl, rfl⟩ | ⟨w, z⟩
    · have h1' : (((newSh m.n).written.set i (some (m.purses.getD i 0))).getD o none).isSome = true := h1
      rw [hwr] at h1'
      have ob : o = i := Classical.byContradiction fun z => by rw [if_neg z] at h1'; cases h1'
      subst ob
      exact mem_watch.mpr (.inr ⟨rfl, hc, hne, by simp⟩)
    · exact h.unw q t o c (old q t w z) ho hc hne h1 h2
  · show marks q (markTo m.roads i K m.n c d) = _
    rw [marks_markTo]
    rcases get_set hs' hq with ⟨rfl, rfl⟩ | ⟨w, z⟩
    · show _ = if (((newSh m.n).written.set i (some (m.purses.getD i 0))).getD c none).isSome = true ∧ ((((newSh m.n).written.set i (some (m.purses.getD i 0))).getD d none).isSome = false ∨ (c, d) ∈ watchTo i none [] m.n) then 1 else 0
      rw [hwr, hwr, nomark]
      by_cases ci : c = i
      · subst ci
        rw [if_pos ⟨rfl, rfl, hd, Ne.symm hcd⟩, if_pos rfl, if_neg (Ne.symm hcd), if_pos ⟨rfl, .inl rfl⟩]
      · rw [if_neg fun z => ci z.2.1, if_neg ci, if_neg (by simp)]
    · rw [if_neg fun z => w z.1.symm, Nat.add_zero]; exact h.mks q t c d (old q t w z) hc hd hcd
  · show q < ((m.shots ++ [newSh m.n]).set K _).length
    rw [List.length_set, List.length_append, List.length_singleton]
    have hq' : Par.mark q ∈ markTo m.roads i K m.n c d := hq
    rcases mem_markTo hq' with z | z
    · have := h.fr c d q z; omega
    · omega
end SS
namespace SS
open PySem L2
structure InvG (n : Nat) (T : Int) (i : Nat) (m : Mkt) : Prop where
  wf : WF m
  en : m.n = n
  tot : totalM m = T
  told : m.told.length ≤ i
  roads : ∀ a b, (m.roads a b).length ≤ i
  shots : m.shots.length ≤ i
  lie : SmallS m i
  si : SInv m
  co : CntOk m
theorem InvG.ok {n : Nat} {T : Int} {i : Nat} {m : Mkt} (h : InvG n T i m) (hi : i ≤ 90000) : GOk m :=
  ⟨h.wf, ⟨by have := h.told; omega, fun a b => by have := h.roads a b; omega, by have := h.shots; omega⟩, h.si, h.co, fun k s a b hk => by have := h.lie k s a b hk; omega⟩
theorem InvG.more {n : Nat} {T : Int} {i j : Nat} {m : Mkt} (h : InvG n T i m) (hj : i ≤ j) : InvG n T j m :=
  ⟨h.wf, h.en, h.tot, by have := h.told; omega, fun a b => by have := h.roads a b; omega, by have := h.shots; omega, fun k s a b hk => by have := h.lie k s a b hk; omega, h.si, h.co⟩
theorem onRoad_mark (l : List Par) (k : Nat) : onRoad (l ++ [.mark k]) = onRoad l := by
  unfold onRoad; rw [List.filterMap_append, List.sum_append, show List.filterMap amt [Par.mark k] = [] from rfl]; simp
theorem onRoad_markc (l : List Par) (k : Nat) : onRoad (.mark k :: l) = onRoad l := by
  unfold onRoad; rw [List.filterMap_cons]; simp [amt]
theorem roadSum_mark (n i k j : Nat) (ro : Nat → Nat → List Par) : roadSum n (markTo ro i k j) = roadSum n ro := by
  unfold roadSum
  congr 1
  refine List.map_congr_left fun p _ => ?_
  unfold markTo; split
  · exact onRoad_mark _ _
  · rfl
theorem wf_mark {m : Mkt} (h : WF m) (i k j : Nat) (ss : List Sh) : WF { m with roads := markTo m.roads i k j, shots := ss } := by
  refine ⟨h.n2, h.n5, h.pl, h.ll, h.sl, h.tl, h.se, h.lv, fun c d x q hx => ?_⟩
  have hx' : Par.coins x (some q) ∈ markTo m.roads i k j c d := hx
  unfold markTo at hx'
  split at hx'
  · rcases List.mem_append.mp hx' with z | z
    · exact h.rv c d x q z
    · simp at z
  · exact h.rv c d x q hx'
theorem wf_writeM {m : Mkt} (h : WF m) (k i : Nat) (but : Option Nat) : WF (writeM m k i but) := by
  unfold writeM; split
  · exact h
  · exact wf_mark h i k m.n _
theorem wf_markM {m : Mkt} (h : WF m) (k a b : Nat) : WF (markM m k a b) := by
  unfold markM; split
  · exact h
  · split
    · exact wf_shots h _
    · exact wf_writeM h k b _
theorem wf_take {m : Mkt} (h : WF m) {a b : Nat} (hb : b < m.n) : WF (takeM m a b) := by
  unfold takeM
  cases e : m.roads a b with
  | nil => exact h
  | cons p rest =>
    cases p with
    | mark k => exact wf_markM (wf_roads h fun y q hq => h.rv a b y q (by rw [e]; exact List.mem_cons_of_mem _ hq)) k a b
    | coins x num =>
      refine wf_parcel (wf_roads h fun y k hk => h.rv a b y k (by rw [e]; exact List.mem_cons_of_mem _ hk)) hb fun k hk => ?_
      subst hk
      exact h.rv a b x k (by rw [e]; exact List.mem_cons_self)
theorem total_writeM (m : Mkt) (k i : Nat) (but : Option Nat) : totalM (writeM m k i but) = totalM m := by
  unfold writeM; split
  · rfl
  · show m.purses.sum + roadSum m.n (markTo m.roads i k m.n) = m.purses.sum + roadSum m.n m.roads
    rw [roadSum_mark]
theorem total_markM (m : Mkt) (k a b : Nat) : totalM (markM m k a b) = totalM m := by
  unfold markM; split
  · rfl
  · split
    · rfl
    · exact total_writeM m k b _
theorem total_take {m : Mkt} (h : WF m) {a b : Nat} (hr : a < m.n ∧ b < m.n ∧ a ≠ b) : totalM (takeM m a b) = totalM m := by
  unfold takeM
  cases e : m.roads a b with
  | nil => rfl
  | cons p rest =>
    cases p with
    | mark k =>
      show totalM (markM _ k a b) = _
      rw [total_markM]
      show m.purses.sum + roadSum m.n (up2 m.roads a b rest) = m.purses.sum + roadSum m.n m.roads
      rw [roadSum_up hr, e, onRoad_markc]; omega
    | coins x num =>
      show (m.purses.set b (m.purses.getD b 0 + x)).sum + roadSum m.n (up2 m.roads a b rest) = m.purses.sum + roadSum m.n m.roads
      rw [sum_set _ _ _ (by rw [h.pl]; exact hr.2.1), roadSum_up hr, e, onRoad_cons]; omega
theorem co_same {m m' : Mkt} (h : CntOk m) (e1 : m'.told = m.told) (e2 : m'.last = m.last) (e3 : m'.stamps = m.stamps) : CntOk m' :=
  ⟨fun i hi => by rw [e1]; exact h.no i (by rw [← e2]; exact hi), fun i q hq => by rw [e1, e3]; exact h.at_ i q (by rw [← e2]; exact hq), fun q s i hq => by rw [e1]; exact h.le q s i (by rw [← e3]; exact hq)⟩
theorem writeM_same (m : Mkt) (k i : Nat) (but : Option Nat) : (writeM m k i but).told = m.told ∧ (writeM m k i but).last = m.last ∧ (writeM m k i but).stamps = m.stamps ∧ (writeM m k i but).n = m.n ∧ (writeM m k i but).times = m.times ∧ (writeM m k i but).purses = m.purses := by
  unfold writeM; split <;> exact ⟨rfl, rfl, rfl, rfl, rfl, rfl⟩
theorem markM_same (m : Mkt) (k a b : Nat) : (markM m k a b).told = m.told ∧ (markM m k a b).last = m.last ∧ (markM m k a b).stamps = m.stamps ∧ (markM m k a b).n = m.n ∧ (markM m k a b).times = m.times ∧ (markM m k a b).purses = m.purses := by
  unfold markM; split
  · exact ⟨rfl, rfl, rfl, rfl, rfl, rfl⟩
  · split
    · exact ⟨rfl, rfl, rfl, rfl, rfl, rfl⟩
    · exact writeM_same m k b _
theorem writeM_small {m : Mkt} {k i B : Nat} {but : Option Nat} (h1 : ∀ a b, (m.roads a b).length ≤ B) (h2 : SmallS m B) : (∀ a b, ((writeM m k i but).roads a b).length ≤ B + 1) ∧ SmallS (writeM m k i but) B ∧ (writeM m k i but).shots.length = m.shots.length := by
  unfold writeM
  cases hk : m.shots[k]? with
  | none => exact ⟨fun a b => by have := h1 a b; show (m.roads a b).length ≤ _; omega, h2, rfl⟩
  | some s =>
    refine ⟨fun a b => markTo_len m.roads i k m.n a b B (h1 a b), fun q t a b hq => ?_, by show (m.shots.set k _).length = _; rw [List.length_set]⟩
    rcases get_set hk hq with ⟨rfl, rfl⟩ | ⟨_, z⟩
    · exact h2 q s a b hk
    · exact h2 q t a b z
theorem markM_small {m : Mkt} {k a b B : Nat} (h1 : ∀ a b, (m.roads a b).length ≤ B) (h2 : SmallS m B) : (∀ c d, ((markM m k a b).roads c d).length ≤ B + 1) ∧ SmallS (markM m k a b) B ∧ (markM m k a b).shots.length = m.shots.length := by
  unfold markM
  cases hk : m.shots[k]? with
  | none => exact ⟨fun a b => by have := h1 a b; show (m.roads a b).length ≤ _; omega, h2, rfl⟩
  | some s =>
    dsimp only
    split
    · refine ⟨fun c d => by have := h1 c d; show (m.roads c d).length ≤ _; omega, fun q t c d hq => ?_, by show (m.shots.set k _).length = _; rw [List.length_set]⟩
      rcases get_set hk hq with ⟨rfl, rfl⟩ | ⟨_, z⟩
      · exact h2 q s c d hk
      · exact h2 q t c d z
    · exact writeM_small h1 h2
theorem parcel_small {l : List Sh} {one other B : Nat} {x : Int} (h : ∀ (k : Nat) (s : Sh) (a b : Nat), l[k]? = some s → (s.lying a b).length ≤ B) : ∀ (k : Nat) (s : Sh) (a b : Nat), (l.map (shotParcel one other x))[k]? = some s → (s.lying a b).length ≤ B + 1 := by
  intro k s a b hk
  rw [List.getElem?_map] at hk
  cases e : l[k]? with
  | none => rw [e] at hk; cases hk
  | some t =>
    rw [e] at hk; cases hk
    have := h k t a b e
    unfold shotParcel; split
    · by_cases z : a = one ∧ b = other
      · obtain ⟨rfl, rfl⟩ := z
        show (up2 t.lying a b _ a b).length ≤ _
        rw [up2_same, List.length_append]; simp; omega
      · show (up2 t.lying one other _ a b).length ≤ _
        rw [up2_ne z]; omega
    · omega
theorem up2_lenP {ro : Nat → Nat → List Par} {a b c d k : Nat} {l : List Par} (h : ∀ a b, (ro a b).length ≤ k) (hl : l.length ≤ k) : (up2 ro a b l c d).length ≤ k := up2_len h hl
theorem invG_take {n : Nat} {T : Int} {i : Nat} {m : Mkt} (h : InvG n T i m) {a b : Nat} (ha : a < n ∧ b < n ∧ a ≠ b) : InvG n T (i + 1) (takeM m a b) := by
  rw [← h.en] at ha
  have hw := wf_take (a := a) h.wf ha.2.1
  have ht := total_take h.wf ha
  unfold takeM at hw ht ⊢
  cases e : m.roads a b with
  | nil => exact h.more (by omega)
  | cons p rest =>
    rw [e] at hw ht
    have hrest : rest.length + 1 ≤ i := by have := h.roads a b; rw [e] at this; simpa using this
    have hro : ∀ c d, (up2 m.roads a b rest c d).length ≤ i := fun c d => up2_len h.roads (by omega)
    cases p with
    | mark k =>
      dsimp only at hw ht ⊢
      obtain ⟨s1, s2, s3, s4, s5, s6⟩ := markM_same { m with roads := up2 m.roads a b rest } k a b
      obtain ⟨b1, b2, b3⟩ := markM_small (m := { m with roads := up2 m.roads a b rest }) (k := k) (a := a) (b := b) (B := i) hro h.lie
      refine ⟨hw, s4.trans h.en, ht.trans h.tot, by rw [s1]; have := h.told; show m.told.length ≤ _; omega, b1, by rw [b3]; have := h.shots; show m.shots.length ≤ _; omega, fun q t c d hq => by have := b2 q t c d hq; omega, sinv_mark h.si ha e, co_same h.co s1 s2 s3⟩
    | coins x num =>
      dsimp only at hw ht ⊢
      have hsh := parcel_small (one := a) (other := b) (x := x) (B := i) h.lie
      refine ⟨hw, h.en, ht.trans h.tot, ?_, fun c d => ?_, ?_, hsh, sinv_parcel h.si e, ?_⟩
      · show (m.told ++ [_]).length ≤ _; rw [List.length_append]; have := h.told; simp; omega
      · have := hro c d; show (up2 m.roads a b rest c d).length ≤ _; omega
      · show (m.shots.map _).length ≤ _; rw [List.length_map]; have := h.shots; omega
      · refine co_addEv (m := { m with roads := up2 m.roads a b rest, shots := m.shots.map (shotParcel a b x), purses := m.purses.set b (m.purses.getD b 0 + x) }) (wf_shots (wf_purses (wf_roads h.wf fun y k hk => h.wf.rv a b y k (by rw [e]; exact List.mem_cons_of_mem _ hk)) b _) _) (co_same h.co rfl rfl rfl) rfl ha.2.1 fun k hk => ?_
        cases num with
        | none => cases hk
        | some j =>
          simp [causesOf] at hk
          subst hk
          exact h.wf.rv a b x k (by rw [e]; exact List.mem_cons_self)
theorem invG_step {n : Nat} {T : Int} {i : Nat} {m : Mkt} (h : InvG n T i m) {act : Act} (ha : ActOk n act) : InvG n T (i + 1) (stepM m act).2 := by
  cases act with
  | take a b => exact invG_take h ha
  | begin a =>
    rw [← h.en] at ha
    show InvG n T (i + 1) (beginM m a)
    have ha' : a < m.n := ha
    have hl : SmallS { m with shots := m.shots ++ [newSh m.n] } i := fun q t c d hq => by
      have hq' : (m.shots ++ [newSh m.n])[q]? = some t := hq
      rw [app_at] at hq'
      split at hq'
      · cases hq'; simp [newSh]
      · exact h.lie q t c d hq'
    obtain ⟨s1, s2, s3, s4, s5, s6⟩ := writeM_same { m with shots := m.shots ++ [newSh m.n] } m.shots.length a none
    obtain ⟨b1, b2, b3⟩ := writeM_small (m := { m with shots := m.shots ++ [newSh m.n] }) (k := m.shots.length) (i := a) (but := none) (B := i) h.roads hl
    have hw : WF (beginM m a) := wf_writeM (wf_shots h.wf _) _ _ _
    have ht : totalM (beginM m a) = totalM m := by unfold beginM; rw [total_writeM]; rfl
    refine ⟨hw, s4.trans h.en, ht.trans h.tot, ?_, b1, ?_, fun q t c d hq => ?_, sinv_begin h.si ha', co_same h.co s1 s2 s3⟩
    · unfold beginM; rw [s1]; have := h.told; show m.told.length ≤ _; omega
    · unfold beginM; rw [b3]; have := h.shots; show (m.shots ++ [_]).length ≤ _; rw [List.length_append]; simp; omega
    · have := b2 q t c d hq; omega
  | give a b x =>
    rw [← h.en] at ha
    show InvG n T (i + 1) (if x > m.purses.getD a 0 then (D.str "no coins", m) else (D.non, giveM m a b x)).2
    split
    · exact h.more (by omega)
    · refine ⟨wf_give h.wf ha.1, h.en, (total_give h.wf ha).trans h.tot, ?_, fun c d => ?_, by have := h.shots; show m.shots.length ≤ _; omega, fun q t c d hq => by have := h.lie q t c d hq; omega, sinv_give h.si a b x, ?_⟩
      · show (m.told ++ [_]).length ≤ _; rw [List.length_append]; have := h.told; simp; omega
      · show (up2 m.roads a b _ c d).length ≤ _
        exact up2_len (h.more (by omega : i ≤ i + 1)).roads (by rw [List.length_append]; have := h.roads a b; show (m.roads a b).length + 1 ≤ _; omega)
      · exact co_same (co_addEv (m := { m with purses := m.purses.set a (m.purses.getD a 0 - x) }) (e := ⟨true, a, b, x⟩) (cs := []) (wf_purses h.wf a _) (co_same h.co rfl rfl rfl) rfl ha.1 (by simp)) rfl rfl rfl
theorem invG_new {coins : List Int} (h2 : 2 ≤ coins.length) (h5 : coins.length ≤ 5) : InvG coins.length coins.sum 0 (newM coins) := by
  refine ⟨wf_new h2 h5, rfl, (inv1_new h2 h5).tot, by simp [newM], by simp [newM], by simp [newM], fun q t c d hq => by simp [newM] at hq, ?_, ?_⟩
  · refine ⟨fun k s hk => ?_, fun k s hk => ?_, fun k s hk => ?_, fun k s x y hk => ?_, fun k s o b hk => ?_, fun k s a b hk => ?_, fun a b k hk => ?_⟩ <;> simp [newM] at hk
  · refine ⟨fun i hi => rfl, fun i q hq => ?_, fun q s i hq => ?_⟩
    · simp [newM, List.getElem?_replicate] at hq
    · simp [newM] at hq
theorem pureK_stepM (m : Mkt) (a : Act) : PureK 0 (stepM m a).1 := by
  cases a with
  | begin _ => exact .int _
  | take _ _ => exact .non
  | give a b x =>
    show PureK 0 (if x > m.purses.getD a 0 then (D.str "no coins", m) else (D.non, giveM m a b x)).1
    split
    · exact .str _ (by decide +kernel)
    · exact .non
end SS
namespace SS
open PySem L2
def sp_law3 (C : Cl) : LSp := fun ds S Q _ => ∃ ns : List Int, ds = [.rol ns] ∧ ns.length ≤ 63 ∧ Q (.bl true) S
/-- law: slots 0 script 1 coins 2 market 3 hand 4 act 5 found -/
def r_law3 (K : PySem.W.Frag) (C : Cl) : LTS :=
  (rSeq (rSet 1 (rDef (sp_law_coins C) (rCons (rVar 0) rNil))) (rSeq (rSet 2 (rMake (newF .mI) C.m (sp_Market_init C) (rCons (rVar 1) rNil))) (rSeq (rSet 3 (rDef (sp_law_new C) (rCons (rVar 1) rNil))) (rSeq (rFor (iLst (rDef (sp_law_acts C) (rCons (rVar 0) (rCons (rC (.bl true)) rNil)))) (.nm 4) (rSeq (rIf (rTest (rOp oNeD (rDef (sp_law_do C) (rCons (rVar 2) (rCons (rVar 4) rNil))) (rDef (sp_law_by_hand C) (rCons (rVar 3) (rCons (rVar 4) rNil))))) (rRet (rC (.bl false))) rNext) (rSeq (rSet 5 (rMeth0 C.m "log" (sp_Market_log C) (rVar 2))) (rIf (rOr (rNot (rTest (rCall (dIsi K (.ty "tuple") (.type "tuple")) (rCons (rVar 5) (rCons (rC (.raw (.ty "tuple"))) rNil))))) (rTest (rOp oNeD (rCall (dList (newF .tmp)) (rCons (rVar 5) rNil)) (rOp ixD (rVar 3) (rC (.str "log")))))) (rRet (rC (.bl false))) rNext)))) (rRet (rC (.bl true)))))))
end SS
namespace SS
open PySem L2
theorem pureK_ev (e : Ev) : PureK 1 (encEv e) := by
  refine .tup fun d hd => ?_
  simp at hd
  rcases hd with rfl | rfl | rfl | rfl
  · cases e.give
    · exact .str _ (by decide +kernel)
    · exact .str _ (by decide +kernel)
  · exact .int _
  · exact .int _
  · exact .int _
theorem pureK_evs (l : List Ev) : ∀ d ∈ l.map encEv, PureK 1 d := by
  intro d hd
  obtain ⟨q, _, rfl⟩ := List.mem_map.mp hd
  exact pureK_ev q
theorem read_law3 {K : PySem.W.Frag} {C : Cl} (hk : PySem.W.kitOne K (.type "tuple") (.type "tuple") = some true) (ds : List D) (S : Store) (Q : QD) (Ex : Value → Store → Prop) (h : sp_law3 C ds S Q Ex) : r_law3 K C (ends0 Q) (start ["script", "coins", "market", "hand", "act", "found"] ds) S := by
  obtain ⟨ns, rfl, hl, q⟩ := h
  obtain ⟨m2, m5, em⟩ := many_ge ns
  have hcl : (coinsOf ns).length = manyOf ns := by simp [coinsOf]
  refine ⟨_, rfl, ns, rfl, hl, .here ?_⟩
  generalize hcs : coinsOf ns = coins at *
  have c2 : 2 ≤ coins.length := by omega
  have c5 : coins.length ≤ 5 := by omega
  refine ⟨_, rfl, fun rm hrm => ⟨rm, coins, rfl, ?_, c2, c5, rfl, .here ?_⟩⟩
  · funext f
    by_cases e : f = .mI
    · subst e; rw [set_same]; simp [oneR]
    · rw [set_nf e, hrm f]; simp [oneR, e]
  rw [set_R, setR_setR]
  refine ⟨_, rfl, coins, rfl, c2, c5, fun rh hrh => .here ?_⟩
  have nmh : rm ≠ rh := ne_fresh hrh (f := .mI) (by rw [setR_same]; exact encM_live)
  refine ⟨_, rfl, ns, true, rfl, hl, fun ra hra => ?_⟩
  have nma : rm ≠ ra := ne_fresh hra (f := .mI) (by rw [setR_ne nmh, setR_same]; exact encM_live)
  have nha : rh ≠ ra := ne_fresh hra (f := .hT) (by rw [setR_same]; exact encH_live)
  generalize hac : actsOf ns true = acts
  have ha1 : ∀ a ∈ acts, ActOk coins.length a := by rw [hcl, ← hac]; exact act_ok ns true
  have ha3 : acts.length ≤ 61 := by rw [← hac]; exact acts_len ns true hl
  refine ⟨acts.map encAct, by show _ = _; rw [tmp_at], ?_⟩
  refine ⟨fun i env S' => ∃ v5 v6 m, env = [some (.rol ns), some (.tup (coins.map D.int)), some (.loc rm .mI), some (.loc rh .hT), v5, v6] ∧ InvG coins.length coins.sum i m ∧ S' = X3 S rm rh ra (encM C rm m) (encH rh m) (tmpR (.lst (acts.map encAct))), .here ⟨none, none, newM coins, rfl, invG_new c2 c5, rfl⟩, ?_, ?_⟩
  · rintro i d env S' hd ⟨v5, v6, m, rfl, iv, rfl⟩
    rw [List.getElem?_map] at hd
    cases ea : acts[i]? with
    | none => rw [ea] at hd; cases hd
    | some act =>
    rw [ea] at hd; cases hd
    have hmem := List.mem_of_getElem? ea
    have hi : i < acts.length := (List.getElem?_eq_some_iff.mp ea).1
    have hA : ActOk m.n act := by rw [iv.en]; exact ha1 _ hmem
    refine ⟨by show _ = _; rw [x3_c, tmpR_tmp], ?_⟩
    refine ⟨_, rfl, _, rfl, rm, m, act, rfl, x3_a nmh nma, iv.ok (by omega), hA, ?_⟩
    rw [x3_pa nmh nma]
    refine ⟨_, rfl, _, rfl, rh, m, act, rfl, x3_b nha, iv.ok (by omega), hA, ?_⟩
    rw [x3_pb nha]
    have iv' := invG_step iv (ha1 _ hmem)
    refine ne_same (pureK_stepM m act) (by decide) ⟨_, rfl, iteF (.here ?_)⟩
    generalize hm' : (stepM m act).2 = m' at iv' ⊢
    generalize hX : X3 S rm rh ra (encM C rm m') (encH rh m') (tmpR (.lst (acts.map encAct))) = X
    have Xm : X rm = encM C rm m' := by rw [← hX]; exact x3_a nmh nma
    have Xh : X rh = encG rh (absH m') m'.shots.length := by rw [← hX]; exact x3_b nha
    refine ⟨_, rfl, rm, .mI, _, rfl, by rw [Xm]; rfl, rfl, rm, m', rfl, Xm, .here ?_⟩
    refine ⟨_, rfl, _, _, _, rfl, rfl, fun C h => (nomatch h), hk, _, rfl, iteF ?_⟩
    refine ⟨_, rfl, _, _, rfl, rfl, fun r1 hr1 => ?_⟩
    rw [set_tmp hr1]
    have n1h : rh ≠ r1 := ne_fresh hr1 (f := .hT) (by rw [Xh]; simp [encG])
    refine ⟨_, rfl, .inr ⟨_, at_hL (v := m'.shots.length) (h := absH m') (by rw [setR_ne n1h, Xh]), ne_sameL (pureK_evs m'.told) (by decide) (by rw [tmp_at]) (by rw [setR_ne n1h, Xh]; rfl) ⟨_, rfl, iteF ⟨X, sub_drop hr1, _, _, m', rfl, iv', hX.symm⟩⟩⟩⟩
  · rintro env S' ⟨v5, v6, m, rfl, iv, rfl⟩
    refine ⟨by show _ = _; rw [x3_c, tmpR_tmp], ⟨S, ?_, .here q⟩⟩
    refine ((sub_drop (g := encM C rm m) hrm).trans ?_).trans (sub_drop fun f => ?_)
    · refine sub_drop fun f => ?_
      have := hrh f; rw [setR_ne (Ne.symm nmh)] at this ⊢; exact this
    · have := hra f
      rw [setR_ne (Ne.symm nha), setR_ne (Ne.symm nma)] at this ⊢; exact this
end SS
namespace SS
open PySem L2
/-! ### pictures that are done -/
def doneS (s : Sh) : Bool := (s.written.all fun o => o.isSome) && s.watched.isEmpty
def picRoads (n : Nat) (s : Sh) : List D := (pairs n).map fun p => .tup [.int p.1, .int p.2, .tup ((s.lying p.1 p.2).map D.int)]
def picD (n : Nat) (s : Sh) : D := .tup [.tup (s.written.map encOI), .tup (picRoads n s)]
def cutD' (s : Sh) : D := .tup (s.cut.map encOI)
def shOf (m : Mkt) (k : Int) : Option Sh := if 0 ≤ k then m.shots[k.toNat]? else none
def sp_Shot_is_done (C : Cl) : LSp := fun ds S Q _ => ∃ (r : Nat) (m : Mkt) (v k : Nat) (s : Sh), ds = [.loc r (.sI k)] ∧ S r = encV C r m v ∧ m.shots[k]? = some s ∧ Q (.bl (doneS s)) S
def sp_Shot_picture (C : Cl) : LSp := fun ds S Q _ => ∃ (r : Nat) (m : Mkt) (v k : Nat) (s : Sh), ds = [.loc r (.sI k)] ∧ S r = encV C r m v ∧ m.n ≤ 5 ∧ m.shots[k]? = some s ∧ Q (picD m.n s) S
def sp_Market_shot_of (C : Cl) : LSp := fun ds S Q Ex => ∃ (r : Nat) (m : Mkt) (k : Int), ds = [.loc r .mI, .int k] ∧ S r = encM C r m ∧ (shOf m k = none → Ex (.ref C.noPicture) S) ∧ (∀ s, shOf m k = some s → Q (.loc r (.sI k.toNat)) S)
def sp_Market_is_done (C : Cl) : LSp := fun ds S Q Ex => ∃ (r : Nat) (m : Mkt) (k : Int), ds = [.loc r .mI, .int k] ∧ S r = encM C r m ∧ (shOf m k = none → Ex (.ref C.noPicture) S) ∧ (∀ s, shOf m k = some s → Q (.bl (doneS s)) S)
def sp_Market_picture (C : Cl) : LSp := fun ds S Q Ex => ∃ (r : Nat) (m : Mkt) (k : Int), ds = [.loc r .mI, .int k] ∧ S r = encM C r m ∧ m.n ≤ 5 ∧ (shOf m k = none → Ex (.ref C.noPicture) S) ∧ (∀ s, shOf m k = some s → doneS s = false → Ex (.ref C.notDone) S) ∧ (∀ s, shOf m k = some s → doneS s = true → Q (picD m.n s) S)
def sp_Market_cut_of (C : Cl) : LSp := fun ds S Q Ex => ∃ (r : Nat) (m : Mkt) (k : Int), ds = [.loc r .mI, .int k] ∧ S r = encM C r m ∧ (shOf m k = none → Ex (.ref C.noPicture) S) ∧ (∀ s, shOf m k = some s → doneS s = false → Ex (.ref C.notDone) S) ∧ (∀ s, shOf m k = some s → doneS s = true → Q (cutD' s) S)
def sp_law_right (C : Cl) : LSp := fun ds S Q _ => ∃ (r r' : Nat) (m : Mkt) (k : Nat), ds = [.loc r .mI, .loc r' .hT, .int k] ∧ S r = encM C r m ∧ S r' = encH r' m ∧ WF m ∧ k < m.shots.length ∧ Q (.bl true) S
def sp_law8 (C : Cl) : LSp := fun ds S Q _ => ∃ ns : List Int, ds = [.rol ns] ∧ ns.length ≤ 63 ∧ Q (.bl true) S
end SS
namespace SS
open PySem L2
/-- Shot.is_done: slots 0 self -/
def r_Shot_is_done (K : PySem.W.Frag) (C : Cl) : LTS :=
  (rRet (rAndV (rOp oNotInD (rC .non) (rAttr C.s (rVar 0) "written")) (rNotT (rAttr C.s (rVar 0) "watched"))))
/-- Shot.picture: slots 0 self 1 one 2 other 3 roads -/
def r_Shot_picture (K : PySem.W.Frag) (C : Cl) : LTS :=
  (rSeq (rSet 3 (rLc (newF .tmp) (iLst (rCall (dSortT (newF .tmp)) (rCons (rAttr C.s (rVar 0) "lying") rNil))) (.tp [1, 2]) rYes (rTup (rCons (rVar 1) (rCons (rVar 2) (rCons (rCall dTuple (rCons (rOp ixD (rAttr C.s (rVar 0) "lying") (rTup (rCons (rVar 1) (rCons (rVar 2) rNil)))) rNil)) rNil)))))) (rRet (rTup (rCons (rCall dTuple (rCons (rAttr C.s (rVar 0) "written") rNil)) (rCons (rCall dTuple (rCons (rVar 3) rNil)) rNil)))))
/-- Market.shot_of: slots 0 self 1 k -/
def r_Market_shot_of (K : PySem.W.Frag) (C : Cl) : LTS :=
  (rSeq (rIf (rNot (rTest (rChain oLe oLt (rC (.int 0)) (rVar 1) (rCall dLen (rCons (rAttr C.m (rVar 0) "shots") rNil))))) (rRaise C.noPicture) rNext) (rRet (rOp ixD (rAttr C.m (rVar 0) "shots") (rVar 1))))
/-- Market.is_done: slots 0 self 1 k -/
def r_Market_is_done (K : PySem.W.Frag) (C : Cl) : LTS :=
  (rRet (rMeth0 C.s "is_done" (sp_Shot_is_done C) (rMethX C.m "shot_of" (sp_Market_shot_of C) (rVar 0) (rCons (rVar 1) rNil))))
/-- Market.picture: slots 0 self 1 k -/
def r_Market_picture (K : PySem.W.Frag) (C : Cl) : LTS :=
  (rSeq (rIf (rNot (rTest (rMethX C.m "is_done" (sp_Market_is_done C) (rVar 0) (rCons (rVar 1) rNil)))) (rRaise C.notDone) rNext) (rRet (rMeth0 C.s "picture" (sp_Shot_picture C) (rOp ixD (rAttr C.m (rVar 0) "shots") (rVar 1)))))
/-- Market.cut_of: slots 0 self 1 k -/
def r_Market_cut_of (K : PySem.W.Frag) (C : Cl) : LTS :=
  (rSeq (rIf (rNot (rTest (rMethX C.m "is_done" (sp_Market_is_done C) (rVar 0) (rCons (rVar 1) rNil)))) (rRaise C.notDone) rNext) (rRet (rCall dTuple (rCons (rAttr C.s (rOp ixD (rAttr C.m (rVar 0) "shots") (rVar 1)) "cut") rNil))))
/-- _law_right: slots 0 market 1 hand 2 k 3 shot 4 done 5 found 6 triples 7 one 8 other 9 told -/
def r_law_right (K : PySem.W.Frag) (C : Cl) : LTS :=
  (rSeq (rSet 3 (rOp ixD (rOp ixD (rVar 1) (rC (.str "shots"))) (rVar 2))) (rSeq (rSet 4 (rAndV (rOp oNotInD (rC .non) (rOp ixD (rVar 3) (rC (.str "coins")))) (rNotT (rOp ixD (rVar 3) (rC (.str "watch")))))) (rSeq (rSet 5 (rMeth C.m "is_done" (sp_Market_is_done C) (rVar 0) (rCons (rVar 2) rNil))) (rSeq (rIf (rOr (rNot (rTest (rCall (dIsi K (.ty "bool") (.type "bool")) (rCons (rVar 5) (rCons (rC (.raw (.ty "bool"))) rNil))))) (rTest (rOp oNeD (rVar 5) (rVar 4)))) (rRet (rC (.bl false))) rNext) (rSeq (rIf (rNot (rTest (rVar 4))) (rRet (rC (.bl true))) rNext) (rSeq (rSet 6 (rLst (newF .tmp) rNil)) (rSeq (rFor (iLst (rDef (sp_law_pairs C) (rCons (rCall dLen (rCons (rOp ixD (rVar 1) (rC (.str "coins"))) rNil)) rNil))) (.tp [7, 8]) (rDrop (rBM isL mAppend (rVar 6) (rCons (rTup (rCons (rVar 7) (rCons (rVar 8) (rCons (rCall dTuple (rCons (rOp ixD (rOp ixD (rVar 3) (rC (.str "lying"))) (rTup (rCons (rVar 7) (rCons (rVar 8) rNil)))) rNil)) rNil)))) rNil)))) (rSeq (rSet 9 (rMeth C.m "picture" (sp_Market_picture C) (rVar 0) (rCons (rVar 2) rNil))) (rSeq (rIf (rOr (rNot (rTest (rCall (dIsi K (.ty "tuple") (.type "tuple")) (rCons (rVar 9) (rCons (rC (.raw (.ty "tuple"))) rNil))))) (rTest (rOp oNeD (rVar 9) (rTup (rCons (rCall dTuple (rCons (rOp ixD (rVar 3) (rC (.str "coins"))) rNil)) (rCons (rCall dTuple (rCons (rVar 6) rNil)) rNil)))))) (rRet (rC (.bl false))) rNext) (rRet (rAndV (rCall (dIsi K (.ty "tuple") (.type "tuple")) (rCons (rMeth C.m "cut_of" (sp_Market_cut_of C) (rVar 0) (rCons (rVar 2) rNil)) (rCons (rC (.raw (.ty "tuple"))) rNil))) (rOp oEqD (rMeth C.m "cut_of" (sp_Market_cut_of C) (rVar 0) (rCons (rVar 2) rNil)) (rCall dTuple (rCons (rOp ixD (rVar 3) (rC (.str "cut"))) rNil))))))))))))))
/-- law: slots 0 script 1 coins 2 market 3 hand 4 many 5 act 6 found 7 pair 8 k -/
def r_law8 (K : PySem.W.Frag) (C : Cl) : LTS :=
  (rSeq (rSet 1 (rDef (sp_law_coins C) (rCons (rVar 0) rNil))) (rSeq (rSet 2 (rMake (newF .mI) C.m (sp_Market_init C) (rCons (rVar 1) rNil))) (rSeq (rSet 3 (rDef (sp_law_new C) (rCons (rVar 1) rNil))) (rSeq (rSet 4 (rCall dLen (rCons (rVar 1) rNil))) (rSeq (rFor (iLst (rDef (sp_law_acts C) (rCons (rVar 0) (rCons (rC (.bl true)) rNil)))) (.nm 5) (rSeq (rSet 6 (rDef (sp_law_do C) (rCons (rVar 2) (rCons (rVar 5) rNil)))) (rSeq (rIf (rOr (rTest (rOp oNeD (rVar 6) (rDef (sp_law_by_hand C) (rCons (rVar 3) (rCons (rVar 5) rNil))))) (rAnd (rTest (rOp oEq (rOp ixD (rVar 5) (rC (.int 0))) (rC (.str "begin")))) (rNot (rTest (rDef (sp_law_whole C) (rCons (rVar 6) rNil)))))) (rRet (rC (.bl false))) rNext) (rSeq (rIf (rTest (rOp oNeD (rDef (sp_law_roads C) (rCons (rVar 2) (rCons (rVar 4) rNil))) (rLc (newF .tmp) (iLst (rDef (sp_law_pairs C) (rCons (rVar 4) rNil))) (.nm 7) rYes (rCall dTuple (rCons (rOp ixD (rOp ixD (rVar 3) (rC (.str "roads"))) (rVar 7)) rNil))))) (rRet (rC (.bl false))) rNext) (rSeq (rIf (rOr (rTest (rOp oNeD (rCall (dList (newF .tmp)) (rCons (rMeth0 C.m "coins" (sp_Market_coins C) (rVar 2)) rNil)) (rOp ixD (rVar 3) (rC (.str "coins"))))) (rTest (rOp oNe (rMeth0 C.m "total" (sp_Market_total C) (rVar 2)) (rCall dSum (rCons (rVar 1) rNil))))) (rRet (rC (.bl false))) rNext) (rFor (iRng (rCons (rCall dLen (rCons (rOp ixD (rVar 3) (rC (.str "shots"))) rNil)) rNil)) (.nm 8) (rIf (rNot (rTest (rDef (sp_law_right C) (rCons (rVar 2) (rCons (rVar 3) (rCons (rVar 8) rNil)))))) (rRet (rC (.bl false))) rNext))))))) (rRet (rC (.bl true))))))))
end SS
namespace SS
open PySem L2
def oP : Option Int → PyData
  | none => .none
  | some i => .int i
theorem dat_opts {S : Store} : ∀ l : List (Option Int), DatDs S (l.map encOI) (l.map oP)
  | [] => .nil
  | none :: l => .cons .non (dat_opts l)
  | some i :: l => .cons (.int i) (dat_opts l)
theorem opts_lay : ∀ l : List (Option Int), PyData.canLayAll0 (l.map oP) = true ∧ PyData.depthAll (l.map oP) ≤ 1
  | [] => ⟨rfl, Nat.zero_le _⟩
  | o :: l => by
    obtain ⟨h1, h2⟩ := opts_lay l
    cases o with
    | none => exact ⟨by simp [PyData.canLayAll0, oP, PyData.canLay0, h1], by rw [List.map_cons, PyData.depthAll]; simp [oP, PyData.depth]; omega⟩
    | some i => exact ⟨by simp [PyData.canLayAll0, oP, PyData.canLay0, h1], by rw [List.map_cons, PyData.depthAll]; simp [oP, PyData.depth]; omega⟩
theorem none_in : ∀ l : List (Option Int), (!(l.map oP).any fun z => PyData.eqv z .none) = l.all fun o => o.isSome
  | [] => rfl
  | none :: l => by simp [oP, PyData.eqv]
  | some i :: l => by
    have := none_in l
    rw [List.map_cons, List.any_cons, List.all_cons, ← this]
    simp [oP, PyData.eqv]
theorem noneNotIn {S : Store} {Q : QD} {r : Nat} {f : Fld} {l : List (Option Int)} (h : S r f = some (.lst (l.map encOI))) (q : Q (.bl (l.all fun o => o.isSome)) S) : oNotInD .non (.loc r f) S Q := by
  obtain ⟨h1, h2⟩ := opts_lay l
  refine ⟨.none, l.map oP, .non, .lst h (dat_opts l), by decide, shaped_of (k := 2) h1 (by rw [PyData.depth]; omega) (by decide), ?_⟩
  rw [none_in]; exact q
theorem read_Shot_is_done {K : PySem.W.Frag} {C : Cl} (ds : List D) (S : Store) (Q : QD) (Ex : Value → Store → Prop) (h : sp_Shot_is_done C ds S Q Ex) : r_Shot_is_done K C (ends0 Q) (start ["self"] ds) S := by
  obtain ⟨r, m, v, k, s, rfl, hS, hk, q⟩ := h
  have hI : S r (.sI k) = some (.ins C.s (sFs r m.n k)) := by rw [hS]; exact enc_sI hk
  refine ⟨_, rfl, r, .sI k, _, _, rfl, hI, rfl, noneNotIn (l := s.written) (by rw [hS]; simp [encV, hk]) ⟨_, rfl, ifB (fun hw => ?_) fun hw => ?_⟩⟩
  · refine ⟨_, rfl, r, .sI k, _, _, rfl, hI, rfl, r, .sWa k, s.watched.map (fun p => (pk p, D.bl true)), rfl, by rw [hS]; simp [encV, hk]; rfl, .here ?_⟩
    have e : (s.watched.map fun p => (pk p, D.bl true)).isEmpty = doneS s := by
      unfold doneS; rw [hw, Bool.true_and]; cases s.watched <;> rfl
    rw [e]; exact q
  · have e : doneS s = false := by unfold doneS; rw [Bool.eq_false_iff.mpr hw]; rfl
    rw [e] at q; exact .here q
theorem pairs_rise (n : Nat) : ((pairs n).map fun p => ((p.1 : Int), (p.2 : Int))).Pairwise (fun p q => SrtO.lexB p q = true) := by
  have rowR : ∀ a : Nat, (row n a).Pairwise (fun p q => p.1 = q.1 ∧ p.2 < q.2) := fun a => by
    unfold row
    refine List.Pairwise.map _ (R := fun x y : Nat => x < y) (fun x y h => ⟨rfl, h⟩) (List.Pairwise.filter _ List.pairwise_lt_range)
  have flat : ∀ l : List Nat, l.Pairwise (fun x y => x < y) → (l.flatMap (row n)).Pairwise (fun p q => p.1 < q.1 ∨ (p.1 = q.1 ∧ p.2 < q.2)) := by
    intro l
    induction l with
    | nil => intro _; exact .nil
    | cons a l ih =>
      intro h
      obtain ⟨h1, h2⟩ := List.pairwise_cons.mp h
      rw [List.flatMap_cons]
      refine List.pairwise_append.mpr ⟨(rowR a).imp fun h => .inr h, ih h2, ?_⟩
      rintro ⟨x, y⟩ hx ⟨z, w⟩ hz
      obtain ⟨b, hb, hr⟩ := List.mem_flatMap.mp hz
      left
      rw [(mem_row.mp hx).1, (mem_row.mp hr).1]
      exact h1 b hb
  unfold pairs
  refine List.Pairwise.map _ (R := fun p q : Nat × Nat => p.1 < q.1 ∨ (p.1 = q.1 ∧ p.2 < q.2)) (fun p q h => ?_) (flat _ List.pairwise_lt_range)
  refine SrtO.lexB_iff.mpr ?_
  show ((p.1 : Int) < q.1 ∨ ((p.1 : Int) = q.1 ∧ (p.2 : Int) < q.2))
  omega
theorem pairs_keys {α : Type} (n : Nat) (g : Nat × Nat → α) : ((pairs n).map fun p => (pk p, g p)).map (·.1) = ((pairs n).map fun p => ((p.1 : Int), (p.2 : Int))).map pairK := by
  rw [List.map_map, List.map_map]; rfl
theorem pairs_tup2 (n : Nat) : ((pairs n).map fun p => ((p.1 : Int), (p.2 : Int))).map tup2 = (pairs n).map pairD2 := by rw [List.map_map]; rfl
theorem read_Shot_picture {K : PySem.W.Frag} {C : Cl} (ds : List D) (S : Store) (Q : QD) (Ex : Value → Store → Prop) (h : sp_Shot_picture C ds S Q Ex) : r_Shot_picture K C (ends0 Q) (start ["self", "one", "other", "roads"] ds) S := by
  obtain ⟨r, m, v, k, s, rfl, hS, n5, hk, q⟩ := h
  have hI : S r (.sI k) = some (.ins C.s (sFs r m.n k)) := by rw [hS]; exact enc_sI hk
  have hkl : k < m.shots.length := (List.getElem?_eq_some_iff.mp hk).1
  refine ⟨_, rfl, r, .sI k, _, _, rfl, hI, rfl, r, .sLy k, (pairs m.n).map (fun p => (pk p, .loc r (.sLi k p.1 p.2))), _, rfl, by rw [hS]; simp [encV, hkl]; rfl, pairs_keys m.n _, pairs_rise m.n, fun rp hrp => ?_⟩
  rw [pairs_tup2, set_tmp hrp]
  have nrp : r ≠ rp := ne_fresh hrp (f := .sI k) (by rw [hI]; simp)
  refine ⟨_, by show _ = _; rw [tmp_at], ?_⟩
  refine lcb_map (fun d => match d with | .tup [.int a, .int b] => .tup [.int a, .int b, .tup ((s.lying a.toNat b.toNat).map D.int)] | _ => .non) ?_ ?_ ?_ ?_
  · rw [List.length_map]; have := pairs_len m.n n5; exact szl _ (by omega)
  · intro r2 hr2 ds
    obtain ⟨n2, _⟩ := fresh2 hr2
    show _ = _
    rw [setR_ne (Ne.symm n2), tmp_at]
  · intro r2 hr2 i x ds P hx hP
    obtain ⟨n2, hr2'⟩ := fresh2 hr2
    obtain ⟨a, b, hr, _, rfl⟩ := pair_at hx
    have nr2 : r ≠ r2 := ne_fresh hr2' (f := .sI k) (by rw [hI]; simp)
    have hX : ((S.setR rp (tmpR (.lst ((pairs m.n).map pairD2)))).setR r2 (tmpR (.lst ds))) r = encV C r m v := by rw [setR_ne nr2, setR_ne nrp, hS]
    refine ⟨_, rfl, rfl, ?_⟩
    exact ⟨_, rfl, _, rfl, _, rfl, r, .sI k, _, _, rfl, by rw [hX]; exact enc_sI hk, rfl, _, rfl, _, rfl, t2, .inr ⟨_, at_lying hX hk hr, _, (s.lying a b).map D.int, rfl, by show _ = _; rw [hX]; exact lie_at hk hr, t3, hP _ .refl⟩⟩
  · intro r2 hr2
    obtain ⟨n2, hr2'⟩ := fresh2 hr2
    have nr2 : r ≠ r2 := ne_fresh hr2' (f := .sI k) (by rw [hI]; simp)
    have e : ((pairs m.n).map pairD2).map (fun d => match d with | .tup [.int a, .int b] => D.tup [.int a, .int b, .tup ((s.lying a.toNat b.toNat).map D.int)] | _ => .non) = picRoads m.n s := by
      unfold picRoads
      rw [List.map_map]
      congr 1
    rw [e]
    refine .here ?_
    have hX : ((S.setR rp (tmpR (.lst ((pairs m.n).map pairD2)))).setR r2 (tmpR (.lst (picRoads m.n s)))) r = encV C r m v := by rw [setR_ne nr2, setR_ne nrp, hS]
    refine ⟨_, rfl, r, .sI k, _, _, rfl, by rw [hX]; exact enc_sI hk, rfl, _, s.written.map encOI, rfl, by show _ = _; rw [hX]; simp [encV, hk], _, rfl, _, picRoads m.n s, rfl, by show _ = _; rw [tmp_at], t2, ⟨S, (sub_drop hrp).trans (sub_drop hr2), q⟩⟩
theorem shOf_nat {m : Mkt} {k : Int} {s : Sh} (h : shOf m k = some s) : k = (k.toNat : Int) ∧ m.shots[k.toNat]? = some s := by
  unfold shOf at h
  split at h
  · exact ⟨by omega, h⟩
  · cases h
theorem read_Market_shot_of {K : PySem.W.Frag} {C : Cl} (ds : List D) (S : Store) (Q : QD) (Ex : Value → Store → Prop) (h : sp_Market_shot_of C ds S Q Ex) : r_Market_shot_of K C (endsX Q Ex) (start ["self", "k"] ds) S := by
  obtain ⟨r, m, k, rfl, hS, hx, q⟩ := h
  have hI : S r .mI = some (.ins C.m (mFs r m.n)) := by rw [hS]; rfl
  have hms : SeqD S (.loc r .mS) ((List.range m.shots.length).map fun k => .loc r (.sI k)) := by show _ = _; rw [hS]; rfl
  have bad : ¬ (0 ≤ k ∧ k < m.shots.length) → shOf m k = none := fun z => by
    unfold shOf; split
    · next h0 => exact List.getElem?_eq_none (by omega)
    · rfl
  refine ⟨_, rfl, _, _, rfl, rfl, _, rfl, ifD (fun h0 => ?_) fun h0 => ?_⟩
  · refine ⟨_, rfl, r, .mI, _, _, rfl, hI, rfl, _, _, rfl, hms, _, _, rfl, rfl, _, rfl, ?_⟩
    rw [List.length_map, List.length_range]
    dsimp only
    by_cases hlt : k < (m.shots.length : Int)
    · obtain ⟨s, hs⟩ : ∃ s, m.shots[k.toNat]? = some s := ⟨m.shots[k.toNat]'(by omega), by simp⟩
      have hsh : shOf m k = some s := by unfold shOf; rw [if_pos h0]; exact hs
      rw [decide_eq_true hlt]
      refine iteF (.here ?_)
      refine ⟨_, rfl, r, .mI, _, _, rfl, hI, rfl, _, rfl, .inl ⟨_, _, .loc r (.sI k.toNat), hms, rfl, ?_, .here (q s hsh)⟩⟩
      have e : k = (k.toNat : Int) := by omega
      exact (congrArg (atI _) e).trans (atI_nat (by rw [List.getElem?_map, List.getElem?_range (by omega)]; rfl))
    · rw [decide_eq_false hlt]
      exact iteT (.here (hx (bad fun z => hlt z.2)))
  · exact ⟨_, rfl, iteT (.here (hx (bad fun z => h0 z.1)))⟩
theorem read_Market_is_done {K : PySem.W.Frag} {C : Cl} (ds : List D) (S : Store) (Q : QD) (Ex : Value → Store → Prop) (h : sp_Market_is_done C ds S Q Ex) : r_Market_is_done K C (endsX Q Ex) (start ["self", "k"] ds) S := by
  obtain ⟨r, m, k, rfl, hS, hx, q⟩ := h
  have hI : S r .mI = some (.ins C.m (mFs r m.n)) := by rw [hS]; rfl
  refine ⟨_, rfl, r, .mI, _, rfl, hI, rfl, _, rfl, r, m, k, rfl, hS, fun e => .here (hx e), fun s e => ?_⟩
  obtain ⟨ek, hk⟩ := shOf_nat e
  exact ⟨r, .sI k.toNat, _, rfl, by rw [hS]; exact enc_sI hk, rfl, r, m, m.shots.length, k.toNat, s, rfl, hS, hk, .here (q s e)⟩
theorem read_Market_picture {K : PySem.W.Frag} {C : Cl} (ds : List D) (S : Store) (Q : QD) (Ex : Value → Store → Prop) (h : sp_Market_picture C ds S Q Ex) : r_Market_picture K C (endsX Q Ex) (start ["self", "k"] ds) S := by
  obtain ⟨r, m, k, rfl, hS, n5, hx, hd, q⟩ := h
  have hI : S r .mI = some (.ins C.m (mFs r m.n)) := by rw [hS]; rfl
  refine ⟨_, rfl, r, .mI, _, rfl, hI, rfl, _, rfl, r, m, k, rfl, hS, fun e => .here (hx e), fun s e => ?_⟩
  obtain ⟨ek, hk⟩ := shOf_nat e
  have hkl : k.toNat < m.shots.length := (List.getElem?_eq_some_iff.mp hk).1
  refine ⟨_, rfl, ?_⟩
  cases hdn : doneS s with
  | false => exact iteT (.here (hd s e hdn))
  | true =>
    obtain ⟨dl, hd1, hd2⟩ := shots_at (C := C) (m := m) (v := m.shots.length) hS hkl
    rw [ek] at q hd e ⊢
    refine iteF (.here ?_)
    exact ⟨_, rfl, r, .mI, _, _, rfl, hI, rfl, _, rfl, .inl ⟨dl, _, _, hd1, rfl, hd2, r, .sI k.toNat, _, rfl, by rw [hS]; exact enc_sI hk, rfl, r, m, m.shots.length, k.toNat, s, rfl, hS, n5, hk, .here (q s e hdn)⟩⟩
theorem read_Market_cut_of {K : PySem.W.Frag} {C : Cl} (ds : List D) (S : Store) (Q : QD) (Ex : Value → Store → Prop) (h : sp_Market_cut_of C ds S Q Ex) : r_Market_cut_of K C (endsX Q Ex) (start ["self", "k"] ds) S := by
  obtain ⟨r, m, k, rfl, hS, hx, hd, q⟩ := h
  have hI : S r .mI = some (.ins C.m (mFs r m.n)) := by rw [hS]; rfl
  refine ⟨_, rfl, r, .mI, _, rfl, hI, rfl, _, rfl, r, m, k, rfl, hS, fun e => .here (hx e), fun s e => ?_⟩
  obtain ⟨ek, hk⟩ := shOf_nat e
  have hkl : k.toNat < m.shots.length := (List.getElem?_eq_some_iff.mp hk).1
  refine ⟨_, rfl, ?_⟩
  cases hdn : doneS s with
  | false => exact iteT (.here (hd s e hdn))
  | true =>
    obtain ⟨dl, hd1, hd2⟩ := shots_at (C := C) (m := m) (v := m.shots.length) hS hkl
    rw [ek] at q hd e ⊢
    refine iteF (.here ?_)
    exact ⟨_, rfl, r, .mI, _, _, rfl, hI, rfl, _, rfl, .inl ⟨dl, _, _, hd1, rfl, hd2, r, .sI k.toNat, _, _, rfl, by rw [hS]; exact enc_sI hk, rfl, _, s.cut.map encOI, rfl, by show _ = _; rw [hS]; simp [encM, encV, hk], .here (q s e hdn)⟩⟩
end SS
namespace SS
open PySem L2
theorem PureK.up {k : Nat} {d : D} (h : PureK k d) : PureK (k + 1) d := by
  induction h with
  | non => exact .non
  | bl b => exact .bl b
  | int i => exact .int i
  | str x hx => exact .str x hx
  | tup _ ih => exact .tup ih
theorem PureK.le {k j : Nat} {d : D} (h : PureK k d) (hj : k ≤ j) : PureK j d := by
  induction hj with
  | refl => exact h
  | step _ ih => exact ih.up
theorem pure_opts (l : List (Option Int)) : PureK 1 (.tup (l.map encOI)) := .tup fun d hd => by
  obtain ⟨o, _, rfl⟩ := List.mem_map.mp hd
  cases o with
  | none => exact .non
  | some i => exact .int i
theorem pure_ints (l : List Int) : PureK 1 (.tup (l.map D.int)) := .tup (pureK_ints l)
theorem pure_pic (n : Nat) (s : Sh) : PureK 4 (picD n s) := by
  refine .tup fun d hd => ?_
  simp at hd
  rcases hd with rfl | rfl
  · exact (pure_opts _).le (by decide)
  · refine .tup fun d hd => ?_
    unfold picRoads at hd
    obtain ⟨p, _, rfl⟩ := List.mem_map.mp hd
    refine .tup fun d hd => ?_
    simp at hd
    rcases hd with rfl | rfl | rfl
    · exact .int _
    · exact .int _
    · have := pure_ints (s.lying p.1 p.2)
      simpa using this
theorem read_law_right {K : PySem.W.Frag} {C : Cl} (hk : PySem.W.kitOne K (.type "bool") (.type "bool") = some true ∧ PySem.W.kitOne K (.type "tuple") (.type "tuple") = some true) (ds : List D) (S : Store) (Q : QD) (Ex : Value → Store → Prop) (h : sp_law_right C ds S Q Ex) : r_law_right K C (ends0 Q) (start ["market", "hand", "k", "shot", "done", "found", "triples", "one", "other", "told"] ds) S := by
  obtain ⟨r, r', m, k, rfl, hS, hS0, hw, hkl, q⟩ := h
  have hS' : S r' = encG r' (absH m) m.shots.length := hS0
  obtain ⟨s, hs⟩ : ∃ s, m.shots[k]? = some s := ⟨m.shots[k], by simp [hkl]⟩
  have hsA : (absH m).shots[k]? = some s := hs
  have hsh : shOf m (k : Int) = some s := by unfold shOf; rw [if_pos (by omega)]; simpa using hs
  obtain ⟨dl, hd1, hd2⟩ := hshots_at hS' hkl
  have hI : S r .mI = some (.ins C.m (mFs r m.n)) := by rw [hS]; rfl
  have n5 := hw.n5
  refine ⟨_, rfl, .inr ⟨_, at_hS hS', _, rfl, .inl ⟨dl, _, _, hd1, rfl, hd2, .here ?_⟩⟩⟩
  -- done
  have go : ∀ (P : QD), P (.bl (doneS s)) S → rAndV (rOp oNotInD (rC .non) (rOp ixD (rVar 3) (rC (.str "coins")))) (rNotT (rOp ixD (rVar 3) (rC (.str "watch")))) [some (.loc r .mI), some (.loc r' .hT), some (.int k), some (.loc r' (.gT k)), none, none, none, none, none, none] S P (ends0 Q).ex := by
    intro P hP
    refine ⟨_, rfl, .inr ⟨_, at_gC hS' hsA, noneNotIn (l := s.written) (by rw [hS']; simp [encG, hsA]) ⟨_, rfl, ifB (fun hw => ?_) fun hw => ?_⟩⟩⟩
    · refine ⟨_, rfl, .inr ⟨_, at_gWa hS' hsA, r', .gWa k, s.watched.map (fun p => (pk p, D.bl true)), rfl, by rw [hS']; simp [encG, hsA]; rfl, ?_⟩⟩
      have e : (s.watched.map fun p => (pk p, D.bl true)).isEmpty = doneS s := by
        unfold doneS; rw [hw, Bool.true_and]; cases s.watched <;> rfl
      rw [e]; exact hP
    · have e : doneS s = false := by unfold doneS; rw [Bool.eq_false_iff.mpr hw]; rfl
      rw [e] at hP; exact hP
  refine go _ (.here ?_)
  refine ⟨_, rfl, r, .mI, _, rfl, hI, rfl, _, rfl, r, m, k, rfl, hS, (fun e => by rw [hsh] at e; cases e), fun s' e => ?_⟩
  rw [hsh] at e; cases e
  refine .here ?_
  refine ⟨_, rfl, _, _, _, rfl, rfl, fun C h => (nomatch h), hk.1, _, rfl, iteF ?_⟩
  refine ⟨_, rfl, _, rfl, ne_same (.bl (k := 0) _) (by decide) ⟨_, rfl, iteF (.here ?_)⟩⟩
  refine ⟨_, rfl, _, rfl, ?_⟩
  cases hdn : doneS s with
  | false => exact iteT (.here q)
  | true =>
  refine iteF (.here ?_)
  refine ⟨t0, fun rt hrt => ?_⟩
  dsimp only
  rw [set_tmp hrt]
  have nrt : r ≠ rt := ne_fresh hrt (f := .mI) (by rw [hI]; simp)
  have nrt' : r' ≠ rt := ne_fresh hrt (f := .hT) (by rw [hS']; simp [encG])
  refine .here ?_
  have hln : (m.purses.map D.int).length = m.n := by rw [List.length_map]; exact hw.pl
  have hT : ∀ l, (S.setR rt (tmpR (.lst l))) r' = encG r' (absH m) m.shots.length := fun l => by rw [setR_ne nrt', hS']
  refine ⟨_, rfl, .inr ⟨_, at_hC (hT _), _, m.purses.map D.int, rfl, by show _ = _; rw [hT]; rfl, m.n, by rw [hln], n5, fun rp hrp => ?_⟩⟩
  obtain ⟨nrp, hrp'⟩ := fresh2 hrp
  have npr : r ≠ rp := ne_fresh hrp' (f := .mI) (by rw [hI]; simp)
  have npr' : r' ≠ rp := ne_fresh hrp' (f := .hT) (by rw [hS']; simp [encG])
  refine ⟨_, by show _ = _; rw [tmp_at], ?_⟩
  refine ⟨fun i env S' => ∃ v7 v8, env = [some (.loc r .mI), some (.loc r' .hT), some (.int k), some (.loc r' (.gT k)), some (.bl true), some (.bl true), some (.loc rt .tmp), v7, v8, none] ∧ S' = (S.setR rt (tmpR (.lst ((picRoads m.n s).take i)))).setR rp (tmpR (.lst ((pairs m.n).map pairD2))), .here ⟨none, none, rfl, rfl⟩, ?_, ?_⟩
  · rintro i d env S' hd ⟨v7, v8, rfl, rfl⟩
    obtain ⟨a, b, hab, hp, rfl⟩ := pair_at hd
    refine ⟨by show _ = _; rw [tmp_at], ?_⟩
    have hX : ((S.setR rt (tmpR (.lst ((picRoads m.n s).take i)))).setR rp (tmpR (.lst ((pairs m.n).map pairD2)))) r' = encG r' (absH m) m.shots.length := by rw [setR_ne npr', hT]
    have hR : ((S.setR rt (tmpR (.lst ((picRoads m.n s).take i)))).setR rp (tmpR (.lst ((pairs m.n).map pairD2)))) rt .tmp = some (.lst ((picRoads m.n s).take i)) := by rw [setR_ne (Ne.symm nrp), tmp_at]
    refine ⟨_, rfl, rfl, ?_⟩
    refine ⟨_, rfl, ⟨_, hR⟩, _, rfl, _, rfl, _, rfl, .inr ⟨_, at_gLy hX hsA, _, rfl, _, rfl, t2, .inr ⟨_, at_glying hX hsA hab, _, (s.lying a b).map D.int, rfl, by show _ = _; rw [hX]; exact glie_at hsA hab, t3, _, _, _, _, rfl, rfl, hR, ?_, .here ⟨_, _, rfl, ?_⟩⟩⟩⟩
    · have := pairs_len m.n n5
      refine szl _ ?_
      simp [picRoads]; omega
    · rw [setR_comm (Ne.symm nrp), set_tmp2, setR_comm nrp]
      have e : (picRoads m.n s).take (i + 1) = (picRoads m.n s).take i ++ [.tup [.int a, .int b, .tup ((s.lying a b).map D.int)]] := take_one (by unfold picRoads; rw [List.getElem?_map, hp]; rfl)
      rw [e]
  · rintro env S' ⟨v7, v8, rfl, rfl⟩
    refine ⟨by show _ = _; rw [tmp_at], ?_⟩
    have e : (picRoads m.n s).take ((pairs m.n).map pairD2).length = picRoads m.n s := List.take_of_length_le (by simp [picRoads])
    rw [e]
    refine ⟨S.setR rt (tmpR (.lst (picRoads m.n s))), sub_drop (fun f => by rw [setR_ne nrp]; exact hrp' f), ?_⟩
    generalize hX : S.setR rt (tmpR (.lst (picRoads m.n s))) = X
    have Xm : X r = encM C r m := by rw [← hX, setR_ne nrt, hS]
    have Xh : X r' = encG r' (absH m) m.shots.length := by rw [← hX]; exact hT _
    have Xt : X rt .tmp = some (.lst (picRoads m.n s)) := by rw [← hX, tmp_at]
    have XI : X r .mI = some (.ins C.m (mFs r m.n)) := by rw [Xm]; rfl
    refine ⟨_, rfl, r, .mI, _, rfl, XI, rfl, _, rfl, r, m, k, rfl, Xm, n5, (fun e => by rw [hsh] at e; cases e), (fun s' e hf => by rw [hsh] at e; cases e; rw [hdn] at hf; cases hf), fun s' e _ => ?_⟩
    rw [hsh] at e; cases e
    refine .here ?_
    refine ⟨_, rfl, _, _, _, rfl, rfl, fun C h => (nomatch h), hk.2, _, rfl, iteF ?_⟩
    refine ⟨_, rfl, _, rfl, .inr ⟨_, at_gC Xh hsA, _, s.written.map encOI, rfl, by show _ = _; rw [Xh]; simp [encG, hsA], _, rfl, _, picRoads m.n s, rfl, Xt, t2, ne_same (pure_pic m.n s) (by decide) ⟨_, rfl, iteF (.here ?_)⟩⟩⟩
    have cut : ∀ (P : QD), P (cutD' s) X → rMeth C.m "cut_of" (sp_Market_cut_of C) (rVar 0) (rCons (rVar 2) rNil) [some (.loc r .mI), some (.loc r' .hT), some (.int k), some (.loc r' (.gT k)), some (.bl true), some (.bl true), some (.loc rt .tmp), v7, v8, some (picD m.n s)] X P (ends0 Q).ex := fun P hP =>
      ⟨_, rfl, r, .mI, _, rfl, XI, rfl, _, rfl, r, m, k, rfl, Xm, (fun e => by rw [hsh] at e; cases e), (fun s' e hf => by rw [hsh] at e; cases e; rw [hdn] at hf; cases hf), fun s' e _ => by rw [hsh] at e; cases e; exact hP⟩
    refine cut _ ⟨_, _, _, rfl, rfl, fun C h => (nomatch h), hk.2, _, rfl, iteT (cut _ ?_)⟩
    refine ⟨_, rfl, .inr ⟨_, at_gCut Xh hsA, _, s.cut.map encOI, rfl, by show _ = _; rw [Xh]; simp [encG, hsA], eq_same (pure_opts s.cut) (by decide) ⟨S, by rw [← hX]; exact sub_drop hrt, q⟩⟩⟩
end SS
namespace SS
open PySem L2
theorem read_law8 {K : PySem.W.Frag} {C : Cl} (ds : List D) (S : Store) (Q : QD) (Ex : Value → Store → Prop) (h : sp_law8 C ds S Q Ex) : r_law8 K C (ends0 Q) (start ["script", "coins", "market", "hand", "many", "act", "found", "pair", "k"] ds) S := by
  obtain ⟨ns, rfl, hl, q⟩ := h
  obtain ⟨m2, m5, em⟩ := many_ge ns
  have hcl : (coinsOf ns).length = manyOf ns := by simp [coinsOf]
  refine ⟨_, rfl, ns, rfl, hl, .here ?_⟩
  generalize hcs : coinsOf ns = coins at *
  have hln : (coins.map D.int).length = coins.length := List.length_map ..
  have c2 : 2 ≤ coins.length := by omega
  have c5 : coins.length ≤ 5 := by omega
  refine ⟨_, rfl, fun rm hrm => ⟨rm, coins, rfl, ?_, c2, c5, rfl, .here ?_⟩⟩
  · funext f
    by_cases e : f = .mI
    · subst e; rw [set_same]; simp [oneR]
    · rw [set_nf e, hrm f]; simp [oneR, e]
  rw [set_R, setR_setR]
  refine ⟨_, rfl, coins, rfl, c2, c5, fun rh hrh => .here ?_⟩
  have nmh : rm ≠ rh := ne_fresh hrh (f := .mI) (by rw [setR_same]; exact encM_live)
  refine ⟨_, rfl, _, _, rfl, rfl, .here ?_⟩
  rw [hln]
  refine ⟨_, rfl, ns, true, rfl, hl, fun ra hra => ?_⟩
  have nma : rm ≠ ra := ne_fresh hra (f := .mI) (by rw [setR_ne nmh, setR_same]; exact encM_live)
  have nha : rh ≠ ra := ne_fresh hra (f := .hT) (by rw [setR_same]; exact encH_live)
  generalize hac : actsOf ns true = acts
  have ha1 : ∀ a ∈ acts, ActOk coins.length a := by rw [hcl, ← hac]; exact act_ok ns true
  have ha3 : acts.length ≤ 61 := by rw [← hac]; exact acts_len ns true hl
  refine ⟨acts.map encAct, by show _ = _; rw [tmp_at], ?_⟩
  refine ⟨fun i env S' => ∃ v5 v6 v8 m, env = [some (.rol ns), some (.tup (coins.map D.int)), some (.loc rm .mI), some (.loc rh .hT), some (.int coins.length), v5, v6, none, v8] ∧ InvG coins.length coins.sum i m ∧ S' = X3 S rm rh ra (encM C rm m) (encH rh m) (tmpR (.lst (acts.map encAct))), .here ⟨none, none, none, newM coins, rfl, invG_new c2 c5, rfl⟩, ?_, ?_⟩
  · rintro i d env S' hd ⟨v5, v6, v8, m, rfl, iv, rfl⟩
    rw [List.getElem?_map] at hd
    cases ea : acts[i]? with
    | none => rw [ea] at hd; cases hd
    | some act =>
    rw [ea] at hd; cases hd
    have hmem := List.mem_of_getElem? ea
    have hi : i < acts.length := (List.getElem?_eq_some_iff.mp ea).1
    have hA : ActOk m.n act := by rw [iv.en]; exact ha1 _ hmem
    refine ⟨by show _ = _; rw [x3_c, tmpR_tmp], ?_⟩
    refine ⟨_, rfl, _, rfl, rm, m, act, rfl, x3_a nmh nma, iv.ok (by omega), hA, .here ?_⟩
    rw [x3_pa nmh nma]
    refine ⟨_, rfl, _, rfl, _, rfl, rh, m, act, rfl, x3_b nha, iv.ok (by omega), hA, ?_⟩
    rw [x3_pb nha]
    have iv' := invG_step iv (ha1 _ hmem)
    refine ne_same (pureK_stepM m act) (by decide) ⟨_, rfl, iteF ?_⟩
    generalize hX : X3 S rm rh ra (encM C rm (stepM m act).2) (encH rh (stepM m act).2) (tmpR (.lst (acts.map encAct))) = X
    have rest : rSeq (rIf (rTest (rOp oNeD (rDef (sp_law_roads C) (rCons (rVar 2) (rCons (rVar 4) rNil))) (rLc (newF .tmp) (iLst (rDef (sp_law_pairs C) (rCons (rVar 4) rNil))) (.nm 7) rYes (rCall dTuple (rCons (rOp ixD (rOp ixD (rVar 3) (rC (.str "roads"))) (rVar 7)) rNil))))) (rRet (rC (.bl false))) rNext) (rSeq (rIf (rOr (rTest (rOp oNeD (rCall (dList (newF .tmp)) (rCons (rMeth0 C.m "coins" (sp_Market_coins C) (rVar 2)) rNil)) (rOp ixD (rVar 3) (rC (.str "coins"))))) (rTest (rOp oNe (rMeth0 C.m "total" (sp_Market_total C) (rVar 2)) (rCall dSum (rCons (rVar 1) rNil))))) (rRet (rC (.bl false))) rNext) (rFor (iRng (rCons (rCall dLen (rCons (rOp ixD (rVar 3) (rC (.str "shots"))) rNil)) rNil)) (.nm 8) (rIf (rNot (rTest (rDef (sp_law_right C) (rCons (rVar 2) (rCons (rVar 3) (rCons (rVar 8) rNil)))))) (rRet (rC (.bl false))) rNext))) { ends0 Q with nx := fun e s => Wk ((fun i env S' => ∃ v5 v6 v8 m, env = [some (.rol ns), some (.tup (coins.map D.int)), some (.loc rm .mI), some (.loc rh .hT), some (.int coins.length), v5, v6, none, v8] ∧ InvG coins.length coins.sum i m ∧ S' = X3 S rm rh ra (encM C rm m) (encH rh m) (tmpR (.lst (acts.map encAct)))) (i + 1) e) s, ct := fun e s => Wk ((fun i env S' => ∃ v5 v6 v8 m, env = [some (.rol ns), some (.tup (coins.map D.int)), some (.loc rm .mI), some (.loc rh .hT), some (.int coins.length), v5, v6, none, v8] ∧ InvG coins.length coins.sum i m ∧ S' = X3 S rm rh ra (encM C rm m) (encH rh m) (tmpR (.lst (acts.map encAct)))) (i + 1) e) s, bk := fun e s => Wk (rRet (rC (.bl true)) (ends0 Q) e) s } [some (.rol ns), some (.tup (coins.map D.int)), some (.loc rm .mI), some (.loc rh .hT), some (.int coins.length), some (encAct act), some (stepM m act).1, none, v8] X := by
      generalize hm' : (stepM m act).2 = m' at iv' hX
      have hw := iv'.wf
      have hok : Ok m' := gok (iv'.ok (by omega))
      have Xm : X rm = encM C rm m' := by rw [← hX]; exact x3_a nmh nma
      have Xh : X rh = encG rh (absH m') m'.shots.length := by rw [← hX]; exact x3_b nha
      have hXm : X rm .mI = some (.ins C.m (mFs rm m'.n)) := by rw [Xm]; rfl
      -- roads
      refine ⟨_, rfl, _, rfl, rm, m', by rw [iv'.en], Xm, hok, fun r3 hr3 => ?_⟩
      have n3h : rh ≠ r3 := ne_fresh hr3 (f := .hT) (by rw [Xh]; simp [encG])
      refine ⟨_, rfl, m'.n, by rw [iv'.en], hw.n5, fun r4 hr4 => ?_⟩
      obtain ⟨n43, hr4'⟩ := fresh2 hr4
      have n4h : rh ≠ r4 := ne_fresh hr4' (f := .hT) (by rw [Xh]; simp [encG])
      refine ⟨_, by show _ = _; rw [tmp_at], ?_⟩
      refine lcb_map (fun d => match d with | .tup [.int a, .int b] => .tup ((m'.roads a.toNat b.toNat).map encPar2) | _ => .non) ?_ ?_ ?_ ?_
      · rw [List.length_map]; have := pairs_len m'.n hw.n5; exact szl _ (by omega)
      · intro r5 hr5 ds
        obtain ⟨n54, _⟩ := fresh2 hr5
        show _ = _
        rw [setR_ne (Ne.symm n54), tmp_at]
      · intro r5 hr5 j x ds P hx hP
        obtain ⟨n54, hr5'⟩ := fresh2 hr5
        obtain ⟨n53, hr5''⟩ := fresh2 hr5'
        have n5h : rh ≠ r5 := ne_fresh hr5'' (f := .hT) (by rw [Xh]; simp [encG])
        obtain ⟨a, b, hr, _, rfl⟩ := pair_at hx
        have hh : ((X.setR r3 (tmpR (.lst (roadsOf m')))).setR r4 (tmpR (.lst ((pairs m'.n).map pairD2)))).setR r5 (tmpR (.lst ds)) rh = encG rh (absH m') m'.shots.length := by rw [setR_ne n5h, setR_ne n4h, setR_ne n3h, Xh]
        exact ⟨_, rfl, .inr ⟨_, at_hR hh, _, rfl, .inr ⟨_, at_hroads hh hr, _, (m'.roads a b).map encPar2, rfl, by show _ = _; rw [hh]; exact hroad_at hr, hP _ .refl⟩⟩⟩
      intro r5 hr5
      obtain ⟨n54, hr5'⟩ := fresh2 hr5
      obtain ⟨n53, hr5''⟩ := fresh2 hr5'
      have er : ((pairs m'.n).map pairD2).map (fun d => match d with | .tup [.int a, .int b] => D.tup ((m'.roads a.toNat b.toNat).map encPar2) | _ => .non) = roadsOf m' := by
        unfold roadsOf
        rw [List.map_map]
        congr 1
      rw [er]
      refine ne_sameL (pureK_roads m') (by decide) (by rw [setR_ne (Ne.symm n53), setR_ne (Ne.symm n43), tmp_at]) (by rw [tmp_at]) ⟨_, rfl, iteF ⟨X, ((sub_drop hr3).trans (sub_drop hr4)).trans (sub_drop hr5), ?_⟩⟩
      -- coins, total
      refine ⟨_, rfl, rm, .mI, _, rfl, hXm, rfl, rm, m', rfl, Xm, _, m'.purses.map D.int, rfl, rfl, fun r1 hr1 => ?_⟩
      rw [set_tmp hr1]
      have n1h : rh ≠ r1 := ne_fresh hr1 (f := .hT) (by rw [Xh]; simp [encG])
      have n1m : rm ≠ r1 := ne_fresh hr1 (f := .mI) (by rw [Xm]; exact encM_live)
      refine ⟨_, rfl, .inr ⟨_, at_hC (v := m'.shots.length) (h := absH m') (by rw [setR_ne n1h, Xh]), ne_sameL (pureK_ints m'.purses) (by decide) (by rw [tmp_at]) (by rw [setR_ne n1h, Xh]; rfl) ⟨_, rfl, iteF ?_⟩⟩⟩
      refine ⟨_, rfl, rm, .mI, _, rfl, by rw [setR_ne n1m]; exact hXm, rfl, rm, m', rfl, by rw [setR_ne n1m]; exact Xm, hok, _, rfl, _, coins, rfl, rfl, _, rfl, _, rfl, ?_⟩
      rw [iv'.tot]
      simp only [decide_true, Bool.not_true, Bool.false_eq_true, if_false]
      refine ⟨X, sub_drop hr1, ?_⟩
      -- pictures
      refine ⟨_, rfl, .inr ⟨_, at_hS Xh, _, (List.range m'.shots.length).map (fun k => .loc rh (.gT k)), rfl, by show _ = _; rw [Xh]; rfl, _, rfl, ?_⟩⟩
      rw [List.length_map, List.length_range]
      have hsl := iv'.shots
      refine ⟨by omega, by omega, ?_⟩
      refine ⟨fun j env S' => ∃ v8, env = [some (.rol ns), some (.tup (coins.map D.int)), some (.loc rm .mI), some (.loc rh .hT), some (.int coins.length), some (encAct act), some (stepM m act).1, none, v8] ∧ S' = X, .here ⟨v8, rfl, rfl⟩, ?_, ?_⟩
      · rintro j d env S' hd ⟨w8, rfl, rfl⟩
        obtain ⟨hj, rfl⟩ := rng_is (n := m'.shots.length) hd
        refine ⟨trivial, ?_⟩
        exact ⟨_, rfl, _, rfl, _, rfl, rm, rh, m', j, rfl, Xm, Xh, hw, hj, _, rfl, iteF (.here ⟨_, rfl, rfl⟩)⟩
      · rintro env S' ⟨w8, rfl, rfl⟩
        exact ⟨trivial, .here ⟨_, _, _, m', rfl, iv', hX.symm⟩⟩
    cases act with
    | begin a =>
      refine ⟨_, rfl, .inl ⟨_, _, _, rfl, rfl, rfl, _, rfl, _, rfl, iteT ?_⟩⟩
      exact ⟨_, rfl, _, rfl, _, rfl, iteF (.here rest)⟩
    | take a b =>
      exact ⟨_, rfl, .inl ⟨_, _, _, rfl, rfl, rfl, _, rfl, _, rfl, iteF (iteF (.here rest))⟩⟩
    | give a b x =>
      exact ⟨_, rfl, .inl ⟨_, _, _, rfl, rfl, rfl, _, rfl, _, rfl, iteF (iteF (.here rest))⟩⟩
  · rintro env S' ⟨v5, v6, v8, m, rfl, iv, rfl⟩
    refine ⟨by show _ = _; rw [x3_c, tmpR_tmp], ⟨S, ?_, .here q⟩⟩
    refine ((sub_drop (g := encM C rm m) hrm).trans ?_).trans (sub_drop fun f => ?_)
    · refine sub_drop fun f => ?_
      have := hrh f; rw [setR_ne (Ne.symm nmh)] at this ⊢; exact this
    · have := hra f
      rw [setR_ne (Ne.symm nha), setR_ne (Ne.symm nma)] at this ⊢; exact this
end SS
namespace SS
open PySem L2
/-! ### emptied -/
def roadLen (m : Mkt) : Nat := ((pairs m.n).map fun p => (m.roads p.1 p.2).length).sum
def unwr (s : Sh) : Nat := s.written.countP fun o => !o.isSome
def mu (m : Mkt) : Nat := roadLen m + m.n * (m.shots.map unwr).sum
def takeN (m : Mkt) (a b : Nat) : Nat → Mkt
  | 0 => m
  | j + 1 => takeN (takeM m a b) a b j
def passP (m : Mkt) (p : Nat × Nat) : Mkt := takeN m p.1 p.2 (m.roads p.1 p.2).length
def passM (m : Mkt) : Mkt := (pairs m.n).foldl passP m
def allEmpty (m : Mkt) : Bool := (pairs m.n).all fun p => (m.roads p.1 p.2).isEmpty
def drain : Nat → Mkt → Mkt
  | 0, m => m
  | f + 1, m => if allEmpty m = true then m else drain f (passM m)
def emptyM (m : Mkt) : Mkt := drain (mu m) m
theorem sumN_up {α : Type} (p : α) (g g' : α → Nat) : ∀ (l : List α), l.Nodup → p ∈ l → (∀ q, q ≠ p → g' q = g q) → (l.map g').sum + g p = (l.map g).sum + g' p
  | [], _, h, _ => by cases h
  | q :: l, hn, h, hg => by
    obtain ⟨h1, h2⟩ := List.nodup_cons.mp hn
    rw [List.map_cons, List.map_cons, List.sum_cons, List.sum_cons]
    rcases List.mem_cons.mp h with z | z
    · subst z
      have : l.map g' = l.map g := List.map_congr_left fun q hq => hg q fun e => h1 (e ▸ hq)
      rw [this]; omega
    · have := sumN_up p g g' l h2 z hg
      rw [hg q fun e => h1 (e ▸ z)]; omega
theorem lenSum_up {n : Nat} {ro : Nat → Nat → List Par} {a b : Nat} {l : List Par} (h : a < n ∧ b < n ∧ a ≠ b) : ((pairs n).map fun p => (up2 ro a b l p.1 p.2).length).sum + (ro a b).length = ((pairs n).map fun p => (ro p.1 p.2).length).sum + l.length := by
  have := sumN_up (a, b) (fun p => (ro p.1 p.2).length) (fun p => (up2 ro a b l p.1 p.2).length) (pairs n) (nd_pairs n) (mem_pairs.mpr h) fun q hq => by
    have : ¬ (q.1 = a ∧ q.2 = b) := fun z => hq (Prod.ext z.1 z.2)
    rw [up2_ne this]
  dsimp only at this
  rw [up2_same] at this
  exact this
end SS
namespace SS
open PySem L2
theorem sum_setN : ∀ (l : List Nat) (i x : Nat), i < l.length → (l.set i x).sum + l.getD i 0 = l.sum + x
  | [], i, x, h => by simp at h
  | y :: l, 0, x, _ => by simp; omega
  | y :: l, i + 1, x, h => by
    have := sum_setN l i x (by simpa using h)
    rw [List.set_cons_succ, List.sum_cons, List.sum_cons, List.getD_cons_succ]; omega
theorem unwr_set {l : List Sh} {k : Nat} {s s' : Sh} (hk : l[k]? = some s) : ((l.set k s').map unwr).sum + unwr s = (l.map unwr).sum + unwr s' := by
  have hl : k < l.length := (List.getElem?_eq_some_iff.mp hk).1
  have := sum_setN (l.map unwr) k (unwr s') (by simpa using hl)
  rw [List.map_set]
  have e : (l.map unwr).getD k 0 = unwr s := by rw [List.getD_eq_getElem?_getD, List.getElem?_map, hk]; rfl
  rw [e] at this; exact this
theorem countP_set {α : Type} (P : α → Bool) : ∀ (l : List α) (i : Nat) (x y : α), l[i]? = some y → (l.set i x).countP P + (if P y then 1 else 0) = l.countP P + (if P x then 1 else 0)
  | [], i, x, y, h => by simp at h
  | z :: l, 0, x, y, h => by
    simp at h; subst h
    rw [List.set_cons_zero, List.countP_cons, List.countP_cons]; omega
  | z :: l, i + 1, x, y, h => by
    have := countP_set P l i x y (by simpa using h)
    rw [List.set_cons_succ, List.countP_cons, List.countP_cons]; omega
theorem unwr_write {n : Nat} {s : Sh} {i : Nat} {c e : Int} {but : Option Nat} (h : s.written[i]? = some none) : unwr (shWrite n s i c e but) + 1 = unwr s := by
  have := countP_set (fun o : Option Int => !o.isSome) s.written i (some c) none h
  simp at this
  show (s.written.set i (some c)).countP _ + 1 = s.written.countP _
  simpa using this
/-- the marks that a member sends -/
theorem len_markTo (n i k : Nat) (ro : Nat → Nat → List Par) : ((pairs n).map fun p => (markTo ro i k n p.1 p.2).length).sum ≤ ((pairs n).map fun p => (ro p.1 p.2).length).sum + (n - 1) := by
  have cnt : ∀ l : List (Nat × Nat), (l.map fun p => (markTo ro i k n p.1 p.2).length).sum = (l.map fun p => (ro p.1 p.2).length).sum + l.countP fun p => decide (p.1 = i ∧ p.2 < n ∧ p.2 ≠ i) := by
    intro l
    induction l with
    | nil => rfl
    | cons p l ih =>
      rw [List.map_cons, List.map_cons, List.sum_cons, List.sum_cons, List.countP_cons, ih]
      unfold markTo
      by_cases h : p.1 = i ∧ p.2 < n ∧ p.2 ≠ i
      · rw [if_pos h, List.length_append, if_pos (by simpa using h)]; simp; omega
      · rw [if_neg h, if_neg (by simpa using h)]; omega
  rw [cnt]
  have hc : (pairs n).countP (fun p => decide (p.1 = i ∧ p.2 < n ∧ p.2 ≠ i)) ≤ n - 1 := by
    rw [List.countP_eq_length_filter]
    by_cases hi : i < n
    · have := nodup_le ((pairs n).filter fun p => decide (p.1 = i ∧ p.2 < n ∧ p.2 ≠ i)) (((List.range n).erase i).map fun b => (i, b)) ((nd_pairs n).filter _) fun p hp => by
        obtain ⟨_, h2⟩ := List.mem_filter.mp hp
        have h2' : p.1 = i ∧ p.2 < n ∧ p.2 ≠ i := by simpa using h2
        refine List.mem_map.mpr ⟨p.2, (List.mem_erase_of_ne h2'.2.2).mpr (List.mem_range.mpr h2'.2.1), ?_⟩
        rw [← h2'.1]
      rw [List.length_map, List.length_erase_of_mem (List.mem_range.mpr hi), List.length_range] at this
      exact this
    · have : (pairs n).filter (fun p => decide (p.1 = i ∧ p.2 < n ∧ p.2 ≠ i)) = [] := by
        rw [List.filter_eq_nil_iff]
        intro p hp
        have := mem_pairs.mp (show (p.1, p.2) ∈ pairs n from hp)
        simp; omega
      rw [this]; simp
  omega
end SS
namespace SS
open PySem L2
theorem unwr_parcel (a b : Nat) (x : Int) (s : Sh) : unwr (shotParcel a b x s) = unwr s := by
  unfold shotParcel; split <;> rfl
theorem unwr_map (a b : Nat) (x : Int) (l : List Sh) : (l.map (shotParcel a b x)).map unwr = l.map unwr := by
  rw [List.map_map]; exact List.map_congr_left fun s _ => unwr_parcel a b x s
theorem opt_none {l : List (Option Int)} {b : Nat} (hb : b < l.length) (h : ¬ (l.getD b none).isSome = true) : l[b]? = some none := by
  rw [List.getD_eq_getElem?_getD] at h
  rw [List.getElem?_eq_getElem hb] at h ⊢
  cases e : l[b] with
  | none => rfl
  | some z => rw [e] at h; simp at h
theorem mu_take {n : Nat} {T : Int} {i : Nat} {m : Mkt} (h : InvG n T i m) {a b : Nat} (ha : a < n ∧ b < n ∧ a ≠ b) (he : m.roads a b ≠ []) : mu (takeM m a b) + 1 ≤ mu m := by
  rw [← h.en] at ha
  unfold takeM
  cases e : m.roads a b with
  | nil => exact absurd e he
  | cons p rest =>
    have hs := lenSum_up (ro := m.roads) (l := rest) ha
    rw [e, List.length_cons] at hs
    cases p with
    | coins x num =>
      show roadLen { m with roads := up2 m.roads a b rest } + m.n * ((m.shots.map (shotParcel a b x)).map unwr).sum + 1 ≤ roadLen m + m.n * (m.shots.map unwr).sum
      rw [unwr_map]
      have : roadLen { m with roads := up2 m.roads a b rest } + 1 = roadLen m := by unfold roadLen; dsimp only; omega
      omega
    | mark k =>
      show mu (markM { m with roads := up2 m.roads a b rest } k a b) + 1 ≤ mu m
      have hkl := h.si.fr a b k (by rw [e]; exact List.mem_cons_self)
      obtain ⟨s, hk⟩ : ∃ s, m.shots[k]? = some s := ⟨m.shots[k], by simp [hkl]⟩
      unfold markM
      dsimp only
      rw [hk]
      dsimp only
      have e1 : roadLen { m with roads := up2 m.roads a b rest } + 1 = roadLen m := by unfold roadLen; dsimp only; omega
      split
      · have := unwr_set (s' := shLeave s a b) hk
        have e2 : unwr (shLeave s a b) = unwr s := rfl
        show roadLen { m with roads := up2 m.roads a b rest } + m.n * ((m.shots.set k (shLeave s a b)).map unwr).sum + 1 ≤ roadLen m + m.n * (m.shots.map unwr).sum
        have e3 : ((m.shots.set k (shLeave s a b)).map unwr).sum = (m.shots.map unwr).sum := by omega
        rw [e3]; omega
      · next hw =>
        unfold writeM
        dsimp only
        rw [hk]
        dsimp only
        have hn := opt_none (by rw [h.si.wl k s hk]; exact ha.2.1) hw
        have w1 := unwr_write (n := m.n) (c := m.purses.getD b 0) (e := cnt m.told b) (but := some a) hn
        have w2 := unwr_set (s' := shWrite m.n s b (m.purses.getD b 0) (cnt m.told b) (some a)) hk
        have l1 := len_markTo m.n b k (up2 m.roads a b rest)
        have e3 : ((m.shots.set k (shWrite m.n s b (m.purses.getD b 0) (cnt m.told b) (some a))).map unwr).sum + 1 = (m.shots.map unwr).sum := by omega
        show ((pairs m.n).map fun p => (markTo (up2 m.roads a b rest) b k m.n p.1 p.2).length).sum + m.n * ((m.shots.set k (shWrite m.n s b (m.purses.getD b 0) (cnt m.told b) (some a))).map unwr).sum + 1 ≤ roadLen m + m.n * (m.shots.map unwr).sum
        rw [← e3, Nat.mul_add, Nat.mul_one]
        have n2 := h.wf.n2
        unfold roadLen at e1 ⊢
        dsimp only at e1
        omega
theorem take_len {n : Nat} {T : Int} {i : Nat} {m : Mkt} (h : InvG n T i m) {a b : Nat} (ha : a < n ∧ b < n ∧ a ≠ b) (he : m.roads a b ≠ []) : ((takeM m a b).roads a b).length + 1 = (m.roads a b).length := by
  unfold takeM
  cases e : m.roads a b with
  | nil => exact absurd e he
  | cons p rest =>
    cases p with
    | coins x num => show (up2 m.roads a b rest a b).length + 1 = _; rw [up2_same]; rfl
    | mark k =>
      show ((markM { m with roads := up2 m.roads a b rest } k a b).roads a b).length + 1 = _
      unfold markM
      split
      · show (up2 m.roads a b rest a b).length + 1 = _; rw [up2_same]; rfl
      · split
        · show (up2 m.roads a b rest a b).length + 1 = _; rw [up2_same]; rfl
        · unfold writeM
          split
          · show (up2 m.roads a b rest a b).length + 1 = _; rw [up2_same]; rfl
          · show (markTo (up2 m.roads a b rest) b k m.n a b).length + 1 = _
            unfold markTo
            rw [if_neg (fun z => ha.2.2 z.1), up2_same]; rfl
/-- room is left for what lies there -/
def Good (n : Nat) (T : Int) (B : Nat) (m : Mkt) : Prop := ∃ i, InvG n T i m ∧ i + mu m ≤ B
theorem Good.en {n : Nat} {T : Int} {B : Nat} {m : Mkt} (h : Good n T B m) : m.n = n := let ⟨_, h, _⟩ := h; h.en
theorem Good.ok {n : Nat} {T : Int} {B : Nat} {m : Mkt} (h : Good n T B m) (hB : B ≤ 90000) : GOk m := let ⟨i, h, hi⟩ := h; h.ok (by omega)
theorem good_take {n : Nat} {T : Int} {B : Nat} {m : Mkt} (h : Good n T B m) {a b : Nat} (ha : a < n ∧ b < n ∧ a ≠ b) (he : m.roads a b ≠ []) : Good n T B (takeM m a b) := by
  obtain ⟨i, h, hi⟩ := h
  exact ⟨i + 1, invG_take h ha, by have := mu_take h ha he; omega⟩
theorem takeN_succ (a b : Nat) : ∀ (j : Nat) (m : Mkt), takeN m a b (j + 1) = takeM (takeN m a b j) a b
  | 0, m => rfl
  | j + 1, m => by show takeN (takeM m a b) a b (j + 1) = _; rw [takeN_succ a b j]; rfl
theorem takeN_ok {n : Nat} {T : Int} {B : Nat} {m : Mkt} (h : Good n T B m) {a b : Nat} (ha : a < n ∧ b < n ∧ a ≠ b) : ∀ (j : Nat), j ≤ (m.roads a b).length → Good n T B (takeN m a b j) ∧ ((takeN m a b j).roads a b).length + j = (m.roads a b).length ∧ mu (takeN m a b j) + j ≤ mu m
  | 0, _ => ⟨h, rfl, Nat.le_refl _⟩
  | j + 1, hj => by
    obtain ⟨g, l, u⟩ := takeN_ok h ha j (by omega)
    rw [takeN_succ]
    have he : (takeN m a b j).roads a b ≠ [] := fun z => by rw [z] at l; simp at l; omega
    obtain ⟨i, g', hi⟩ := id g
    have := take_len g' ha he
    have := mu_take g' ha he
    exact ⟨good_take g ha he, by omega, by omega⟩
theorem passP_ok {n : Nat} {T : Int} {B : Nat} {m : Mkt} (h : Good n T B m) {p : Nat × Nat} (ha : p.1 < n ∧ p.2 < n ∧ p.1 ≠ p.2) : Good n T B (passP m p) ∧ mu (passP m p) + (m.roads p.1 p.2).length ≤ mu m :=
  let ⟨g, _, u⟩ := takeN_ok h ha _ (Nat.le_refl _); ⟨g, u⟩
theorem passP_nil {m : Mkt} {p : Nat × Nat} (h : m.roads p.1 p.2 = []) : passP m p = m := by unfold passP; rw [h]; rfl
theorem fold_ok {n : Nat} {T : Int} {B : Nat} : ∀ (l : List (Nat × Nat)) {m : Mkt}, Good n T B m → (∀ p ∈ l, p.1 < n ∧ p.2 < n ∧ p.1 ≠ p.2) → Good n T B (l.foldl passP m) ∧ mu (l.foldl passP m) ≤ mu m
  | [], m, h, _ => ⟨h, Nat.le_refl _⟩
  | p :: l, m, h, hl => by
    obtain ⟨g, u⟩ := passP_ok h (hl p List.mem_cons_self)
    obtain ⟨g', u'⟩ := fold_ok l g fun q hq => hl q (List.mem_cons_of_mem _ hq)
    exact ⟨g', by show mu (l.foldl passP (passP m p)) ≤ _; omega⟩
theorem fold_less {n : Nat} {T : Int} {B : Nat} : ∀ (l : List (Nat × Nat)) {m : Mkt}, Good n T B m → (∀ p ∈ l, p.1 < n ∧ p.2 < n ∧ p.1 ≠ p.2) → (∃ p ∈ l, m.roads p.1 p.2 ≠ []) → mu (l.foldl passP m) + 1 ≤ mu m
  | [], m, h, _, ⟨p, hp, _⟩ => by cases hp
  | p :: l, m, h, hl, ⟨q, hq, hne⟩ => by
    show mu (l.foldl passP (passP m p)) + 1 ≤ _
    by_cases e : m.roads p.1 p.2 = []
    · rw [passP_nil e]
      refine fold_less l h (fun q hq => hl q (List.mem_cons_of_mem _ hq)) ⟨q, ?_, hne⟩
      rcases List.mem_cons.mp hq with rfl | z
      · exact absurd e hne
      · exact z
    · obtain ⟨g, u⟩ := passP_ok h (hl p List.mem_cons_self)
      obtain ⟨g', u'⟩ := fold_ok l g fun q hq => hl q (List.mem_cons_of_mem _ hq)
      have : 0 < (m.roads p.1 p.2).length := List.length_pos_iff.mpr e
      omega
theorem pairs_in {n : Nat} : ∀ p ∈ pairs n, p.1 < n ∧ p.2 < n ∧ p.1 ≠ p.2 := fun p hp => mem_pairs.mp (show (p.1, p.2) ∈ pairs n from hp)
theorem passM_ok {n : Nat} {T : Int} {B : Nat} {m : Mkt} (h : Good n T B m) : Good n T B (passM m) := by
  unfold passM; exact (fold_ok _ h (by rw [h.en]; exact pairs_in)).1
theorem allEmpty_iff {m : Mkt} : allEmpty m = true ↔ ∀ p ∈ pairs m.n, m.roads p.1 p.2 = [] := by
  unfold allEmpty; simp [List.all_eq_true]
theorem passM_less {n : Nat} {T : Int} {B : Nat} {m : Mkt} (h : Good n T B m) (he : ¬ allEmpty m = true) : mu (passM m) + 1 ≤ mu m := by
  unfold passM
  refine fold_less _ h (by rw [h.en]; exact pairs_in) ?_
  rw [allEmpty_iff] at he
  refine Classical.byContradiction fun z => he fun p hp => Classical.byContradiction fun y => z ⟨p, hp, y⟩
theorem drain_empty {m : Mkt} (h : allEmpty m = true) : ∀ f, drain f m = m
  | 0 => rfl
  | f + 1 => by unfold drain; rw [if_pos h]
theorem drain_pass {n : Nat} {T : Int} {B : Nat} {m : Mkt} (h : Good n T B m) (he : ¬ allEmpty m = true) {j : Nat} (hj : mu m ≤ j) : ∃ j', j = j' + 1 ∧ mu (passM m) ≤ j' ∧ drain j m = drain j' (passM m) := by
  have := passM_less h he
  cases j with
  | zero => omega
  | succ j' => exact ⟨j', rfl, by omega, by show (if allEmpty m = true then m else drain j' (passM m)) = _; rw [if_neg he]⟩
theorem drain_ok {n : Nat} {T : Int} {B : Nat} : ∀ (j : Nat) {m : Mkt}, Good n T B m → mu m ≤ j → Good n T B (drain j m) ∧ allEmpty (drain j m) = true
  | 0, m, h, hj => by
    refine ⟨h, ?_⟩
    by_cases he : allEmpty m = true
    · exact he
    · have := passM_less h he; omega
  | j + 1, m, h, hj => by
    by_cases he : allEmpty m = true
    · rw [drain_empty he]; exact ⟨h, he⟩
    · obtain ⟨j', e, u, d⟩ := drain_pass h he hj
      have : j' = j := by omega
      subst this
      rw [d]
      exact drain_ok j' (passM_ok h) u
/-! ### who has begun has written -/
def Begun (m : Mkt) : Prop := ∀ (k : Nat) (s : Sh), m.shots[k]? = some s → ∃ i, i < m.n ∧ (s.written.getD i none).isSome = true
theorem begun_write {m : Mkt} (h : Begun m) (hl : ∀ (k : Nat) (s : Sh), m.shots[k]? = some s → s.written.length = m.n) (k i : Nat) (but : Option Nat) (hi : i < m.n) : Begun (writeM m k i but) := by
  unfold writeM
  cases hk : m.shots[k]? with
  | none => exact h
  | some s =>
    intro q t hq
    rcases get_set hk hq with ⟨rfl, rfl⟩ | ⟨_, z⟩
    · refine ⟨i, hi, ?_⟩
      show ((s.written.set i (some _)).getD i none).isSome = true
      rw [set_getD _ _ _ _ _ (by rw [hl q s hk]; exact hi), if_pos rfl]; rfl
    · exact h q t z
theorem begun_take {n : Nat} {T : Int} {i : Nat} {m : Mkt} (h : InvG n T i m) (hb : Begun m) {a b : Nat} (ha : a < n ∧ b < n ∧ a ≠ b) : Begun (takeM m a b) := by
  rw [← h.en] at ha
  unfold takeM
  cases e : m.roads a b with
  | nil => exact hb
  | cons p rest =>
    cases p with
    | coins x num =>
      intro k s' hk
      obtain ⟨s, h1, h2, _⟩ := map_shot k s' hk
      rw [h2]; exact hb k s h1
    | mark k =>
      show Begun (markM { m with roads := up2 m.roads a b rest } k a b)
      unfold markM
      cases hk : m.shots[k]? with
      | none => simp only [hk]; exact hb
      | some s =>
        simp only [hk]
        split
        · intro q t hq
          rcases get_set hk hq with ⟨rfl, rfl⟩ | ⟨_, z⟩
          · exact hb q s hk
          · exact hb q t z
        · exact begun_write (m := { m with roads := up2 m.roads a b rest }) hb h.si.wl k b _ ha.2.1
theorem begun_step {n : Nat} {T : Int} {i : Nat} {m : Mkt} (h : InvG n T i m) (hb : Begun m) {act : Act} (ha : ActOk n act) : Begun (stepM m act).2 := by
  cases act with
  | take a b => exact begun_take h hb ha
  | give a b x =>
    show Begun (if x > m.purses.getD a 0 then (D.str "no coins", m) else (D.non, giveM m a b x)).2
    split
    · exact hb
    · exact hb
  | begin a =>
    have ha' : a < n := ha
    show Begun (beginM m a)
    unfold beginM writeM
    have e : (m.shots ++ [newSh m.n])[m.shots.length]? = some (newSh m.n) := by rw [app_at, if_pos rfl]
    dsimp only
    rw [e]
    intro q t hq
    rcases get_set e hq with ⟨rfl, rfl⟩ | ⟨z1, z⟩
    · refine ⟨a, by rw [h.en]; exact ha', ?_⟩
      show (((newSh m.n).written.set a (some _)).getD a none).isSome = true
      rw [set_getD _ _ _ _ _ (by simp [newSh, h.en]; exact ha'), if_pos rfl]; rfl
    · rw [app_at, if_neg z1] at z
      exact hb q t z
/-- once all roads are empty each picture is done -/
theorem done_empty {m : Mkt} (si : SInv m) (hb : Begun m) (he : allEmpty m = true) {k : Nat} {s : Sh} (hk : m.shots[k]? = some s) : doneS s = true := by
  rw [allEmpty_iff] at he
  have nomk : ∀ a b, a < m.n → b < m.n → a ≠ b → ¬ ((s.written.getD a none).isSome = true ∧ ((s.written.getD b none).isSome = false ∨ (a, b) ∈ s.watched)) := by
    intro a b h1 h2 h3 z
    have := si.mks k s a b hk h1 h2 h3
    rw [if_pos z, he (a, b) (mem_pairs.mpr ⟨h1, h2, h3⟩)] at this
    simp [marks_nil] at this
  obtain ⟨i, hi, hw⟩ := hb k s hk
  have all : ∀ b, b < m.n → (s.written.getD b none).isSome = true := by
    intro b h2
    by_cases e : i = b
    · subst e; exact hw
    · refine Classical.byContradiction fun z => nomk i b hi h2 e ⟨hw, .inl ?_⟩
      simpa using z
  have hwl := si.wl k s hk
  unfold doneS
  rw [Bool.and_eq_true]
  constructor
  · rw [List.all_eq_true]
    intro o ho
    obtain ⟨b, hb', rfl⟩ := List.getElem_of_mem ho
    have := all b (by omega)
    rw [List.getD_eq_getElem?_getD, List.getElem?_eq_getElem hb'] at this
    exact this
  · cases hwa : s.watched with
    | nil => rfl
    | cons p l =>
      exfalso
      have hm : (p.1, p.2) ∈ s.watched := by rw [hwa]; exact List.mem_cons_self
      obtain ⟨⟨h1, h2, h3⟩, _⟩ := si.wat k s p.1 p.2 hk hm
      exact nomk p.1 p.2 h1 h2 h3 ⟨all _ h1, .inr hm⟩
end SS
namespace SS
open PySem L2 PyProof.Rows
/-! ### any(xs), xs a list of data -/
def rAnyD (K : PySem.W.Frag) : List V → Hp → VK → Prop := fun vs H Q => ∃ (a : Addr) (ps : List PyData), vs = [V.ref a] ∧ Dp K H (.ref a) (.list ps) ∧ PyData.plainAll ps = true ∧ (∀ p ∈ ps, p.fits63) ∧ Q (.bl (ps.any PyData.truthy)) H
theorem cr_anyD {X : Cx} (hc : X.calm = true) : CallR X (.builtin "any") (rAnyD X.K) := by
  intro pins s σ H vs us Q I r ⟨a, ps, e, hd, hp, hf, q⟩
  subst e
  rw [Vals.ref1 r]
  cases hd with
  | lst hs ha =>
    obtain ⟨its, rv, hl, hlen⟩ := I.list hs
    obtain ⟨as, h4⟩ := Dp.readsAll I ps _ its ha rv
    refine PySem.W.any_list_data (I.ok.hd hc) hl.isList (by simpa using h4) hp hf fun h' tk hk => ?_
    exact ⟨.bl _, H, I.kept hk, rfl, q⟩
def dAnyT : DA := fun ds S Q => ∃ (rg : Nat) (fl : Fld) (ls : List (List D)), ds = [.loc rg fl] ∧ S rg fl = some (.lst (ls.map D.tup)) ∧ (∀ l ∈ ls, ∀ d ∈ l, PureK 5 d) ∧ (∀ l ∈ ls, l.length ≤ 1000000) ∧ Q (.bl (ls.any fun l => !l.isEmpty)) S
theorem all2_len {α β : Type} {P : α → β → Prop} : ∀ {as : List α} {bs : List β}, All2 P as bs → as.length = bs.length
  | _, _, .nil => rfl
  | _, _, .cons _ t => by rw [List.length_cons, List.length_cons, all2_len t]
theorem tups_dat {S : Store} : ∀ (ls : List (List D)), (∀ l ∈ ls, ∀ d ∈ l, PureK 5 d) → (∀ l ∈ ls, l.length ≤ 1000000) → ∃ ps : List PyData, DatDs S (ls.map D.tup) ps ∧ PyData.plainAll ps = true ∧ (∀ p ∈ ps, p.fits63) ∧ ps.any PyData.truthy = ls.any fun l => !l.isEmpty
  | [], _, _ => ⟨[], .nil, rfl, by simp, rfl⟩
  | l :: ls, h1, h2 => by
    obtain ⟨ps, g1, g2, g3, g4⟩ := tups_dat ls (fun l hl => h1 l (List.mem_cons_of_mem _ hl)) fun l hl => h2 l (List.mem_cons_of_mem _ hl)
    obtain ⟨qs, f1, f2, _⟩ := pd_list (P := DatD S) l fun d hd => pure_dat (h1 l List.mem_cons_self d hd)
    have hlen := all2_len f1
    have hle := h2 l List.mem_cons_self
    refine ⟨.tuple qs :: ps, .cons (.tup (datDs_of f1)) g1, ?_, ?_, ?_⟩
    · simp only [PyData.plainAll, PyData.plain, PyData.plainAll_of_canLay0 qs f2, g2, Bool.and_self]
    · intro p hp
      rcases List.mem_cons.mp hp with rfl | z
      · show (qs.length : Int) < 2 ^ 63; omega
      · exact g3 p z
    · rw [List.any_cons, List.any_cons, g4]
      have : PyData.truthy (.tuple qs) = !l.isEmpty := by
        show (!qs.isEmpty) = !l.isEmpty
        cases l <;> cases qs <;> simp at hlen ⊢
      rw [this]
theorem dAnyT_l {K : PySem.W.Frag} : CaL K (rAnyD K) dAnyT := by
  rintro ρ H S vs ds Q' Q s r0 ⟨rg, fl, ls, rfl, hS, h1, h2, q⟩ po
  obtain ⟨v, rfl, r⟩ := r0.one
  obtain ⟨ps, g1, g2, g3, g4⟩ := tups_dat (S := S) ls h1 h2
  have dp := DatD.dp s (.lst hS g1) r
  obtain ⟨a, ws, rfl, _, _, _⟩ := lst_of s hS r
  exact ⟨a, ps, rfl, dp, g2, g3, by rw [g4]; exact po.here s (.bl _) q⟩
end SS
namespace SS
open PySem L2
def sp_pairs_of (C : Cl) : LSp := fun ds S Q _ => ∃ (r : Nat) (m : Mkt), ds = [.loc r .mI] ∧ S r = encM C r m ∧ newTmp ((pairs m.n).map pairD2) S Q
def sp_emptied (C : Cl) : LSp := fun ds S Q _ => ∃ (r : Nat) (m : Mkt) (n : Nat) (T : Int) (B : Nat), ds = [.loc r .mI] ∧ S r = encM C r m ∧ Good n T B m ∧ B ≤ 90000 ∧ Q .non (S.setR r (encM C r (emptyM m)))
def sp_hand14 (C : Cl) : LSp := fun ds S Q _ => ∃ (r rp : Nat) (m : Mkt) (n : Nat) (T : Int) (B : Nat), ds = [.loc r .mI, .loc rp .tmp] ∧ rp ≠ r ∧ S r = encM C r m ∧ S rp .tmp = some (.lst ((pairs m.n).map pairD2)) ∧ Good n T B m ∧ B ≤ 90000 ∧ Q .non (S.setR r (encM C r (emptyM m)))
def sp_law14 (C : Cl) : LSp := fun ds S Q _ => ∃ ns : List Int, ds = [.rol ns] ∧ ns.length ≤ 63 ∧ Q (.bl true) S
end SS
namespace SS
open PySem L2
/-- pairs_of: slots 0 market -/
def r_pairs_of (K : PySem.W.Frag) (C : Cl) : LTS :=
  (rRet (rCall (dSortT (newF .tmp)) (rCons (rAttr C.m (rVar 0) "roads") rNil)))
/-- emptied: slots 0 market 1 one 2 other 3 k -/
def r_emptied (K : PySem.W.Frag) (C : Cl) : LTS :=
  (rWhile (rTest (rCall dAnyT (rCons (rLc (newF .tmp) (iLst (rDef (sp_pairs_of C) (rCons (rVar 0) rNil))) (.tp [1, 2]) rYes (rMeth C.m "road" (sp_Market_road C) (rVar 0) (rCons (rVar 1) (rCons (rVar 2) rNil)))) rNil))) (rFor (iLst (rDef (sp_pairs_of C) (rCons (rVar 0) rNil))) (.tp [1, 2]) (rFor (iRng (rCons (rCall dLen (rCons (rMeth C.m "road" (sp_Market_road C) (rVar 0) (rCons (rVar 1) (rCons (rVar 2) rNil))) rNil)) rNil)) (.nm 3) (rDrop (rMeth C.m "take" (sp_Market_take C) (rVar 0) (rCons (rVar 1) (rCons (rVar 2) rNil)))))))
/-- _law_by_hand: slots 0 market 1 pairs 2 more 3 one 4 other 5 k -/
def r_hand14 (K : PySem.W.Frag) (C : Cl) : LTS :=
  (rSeq (rSet 2 (rC (.bl true))) (rWhile (rTest (rVar 2)) (rSeq (rSet 2 (rC (.bl false))) (rFor (iLst (rVar 1)) (.tp [3, 4]) (rFor (iRng (rCons (rCall dLen (rCons (rMeth C.m "road" (sp_Market_road C) (rVar 0) (rCons (rVar 3) (rCons (rVar 4) rNil))) rNil)) rNil)) (.nm 5) (rSeq (rDrop (rMeth C.m "take" (sp_Market_take C) (rVar 0) (rCons (rVar 3) (rCons (rVar 4) rNil)))) (rSet 2 (rC (.bl true)))))))))
/-- law: slots 0 script 1 coins 2 one 3 two 4 begun 5 act 6 k -/
def r_law14 (K : PySem.W.Frag) (C : Cl) : LTS :=
  (rSeq (rSet 1 (rDef (sp_law_coins C) (rCons (rVar 0) rNil))) (rSeq (rSet 2 (rMake (newF .mI) C.m (sp_Market_init C) (rCons (rVar 1) rNil))) (rSeq (rSet 3 (rMake (newF .mI) C.m (sp_Market_init C) (rCons (rVar 1) rNil))) (rSeq (rSet 4 (rC (.int 0))) (rSeq (rFor (iLst (rDef (sp_law_acts C) (rCons (rVar 0) (rCons (rC (.bl true)) rNil)))) (.nm 5) (rSeq (rDrop (rDef (sp_law_do C) (rCons (rVar 2) (rCons (rVar 5) rNil)))) (rSeq (rDrop (rDef (sp_law_do C) (rCons (rVar 3) (rCons (rVar 5) rNil)))) (rSet 4 (rOp oAdd (rVar 4) (rCall dInt (rCons (rOp oEq (rOp ixD (rVar 5) (rC (.int 0))) (rC (.str "begin"))) rNil))))))) (rSeq (rDrop (rDef (sp_emptied C) (rCons (rVar 2) rNil))) (rSeq (rDrop (rDef (sp_hand14 C) (rCons (rVar 3) (rCons (rDef (sp_law_pairs C) (rCons (rCall dLen (rCons (rVar 1) rNil)) rNil)) rNil)))) (rSeq (rIf (rOr (rTest (rOp oNeD (rMeth0 C.m "coins" (sp_Market_coins C) (rVar 2)) (rMeth0 C.m "coins" (sp_Market_coins C) (rVar 3)))) (rTest (rOp oNeD (rMeth0 C.m "log" (sp_Market_log C) (rVar 2)) (rMeth0 C.m "log" (sp_Market_log C) (rVar 3))))) (rRet (rC (.bl false))) rNext) (rRet (rOp oEqD (rLc (newF .tmp) (iRng (rCons (rVar 4) rNil)) (.nm 6) rYes (rMeth C.m "picture" (sp_Market_picture C) (rVar 2) (rCons (rVar 6) rNil))) (rLc (newF .tmp) (iRng (rCons (rVar 4) rNil)) (.nm 6) rYes (rMeth C.m "picture" (sp_Market_picture C) (rVar 3) (rCons (rVar 6) rNil)))))))))))))
end SS
namespace SS
open PySem L2
def X2 (S : Store) (a b : Nat) (ga gb : Reg) : Store := (S.setR a ga).setR b gb
section
variable {S : Store} {a b : Nat} {ga gb g : Reg}
theorem x2_a (h1 : a ≠ b) : X2 S a b ga gb a = ga := by unfold X2; rw [setR_ne h1, setR_same]
theorem x2_b : X2 S a b ga gb b = gb := by unfold X2; rw [setR_same]
theorem x2_pa (h1 : a ≠ b) : (X2 S a b ga gb).setR a g = X2 S a b g gb := by
  unfold X2; rw [setR_comm (Ne.symm h1), setR_setR]
theorem x2_pb : (X2 S a b ga gb).setR b g = X2 S a b ga g := by unfold X2; rw [setR_setR]
end
theorem read_pairs_of {K : PySem.W.Frag} {C : Cl} (ds : List D) (S : Store) (Q : QD) (Ex : Value → Store → Prop) (h : sp_pairs_of C ds S Q Ex) : r_pairs_of K C (ends0 Q) (start ["market"] ds) S := by
  obtain ⟨r, m, rfl, hS, q⟩ := h
  have hI : S r .mI = some (.ins C.m (mFs r m.n)) := by rw [hS]; rfl
  refine ⟨_, rfl, r, .mI, _, _, rfl, hI, rfl, r, .mR, (pairs m.n).map (fun p => (pk p, .loc r (.mRo p.1 p.2))), _, rfl, by rw [hS]; rfl, pairs_keys m.n _, pairs_rise m.n, fun rp hrp => ?_⟩
  rw [pairs_tup2, set_tmp hrp]
  exact .here (q rp hrp)
theorem takes_read {K : PySem.W.Frag} {C : Cl} {n : Nat} {T : Int} {B : Nat} {m : Mkt} (g : Good n T B m) (hB : B ≤ 90000) {a b : Nat} (hab : a < n ∧ b < n ∧ a ≠ b) {r : Nat} {S : Store} (hS : S r = encM C r m) :
    S r .mI = some (.ins C.m (mFs r m.n)) ∧ Ok m ∧ a < m.n ∧ b < m.n ∧ a ≠ b := by
  refine ⟨by rw [hS]; rfl, gok (g.ok hB), ?_⟩
  rw [g.en]; exact hab
theorem pureK_par2 (p : Par) : PureK 5 (encPar2 p) := by
  cases p with
  | coins a num => refine .tup fun d hd => ?_; simp at hd; rcases hd with rfl | rfl; exact .str _ (by decide +kernel); exact .int _
  | mark k => refine .tup fun d hd => ?_; simp at hd; rcases hd with rfl | rfl; exact .str _ (by decide +kernel); exact .int _
theorem any_roads (m : Mkt) : (((pairs m.n).map fun p => (m.roads p.1 p.2).map encPar2).any fun l => !l.isEmpty) = !allEmpty m := by
  unfold allEmpty
  rw [List.any_map, List.not_all_eq_any_not]
  congr 1
  funext p
  cases h : m.roads p.1 p.2 <;> simp [h]
theorem fold_take {m : Mkt} {i : Nat} {a b : Nat} {l : List (Nat × Nat)} (h : l[i]? = some (a, b)) : (l.take (i + 1)).foldl passP m = passP ((l.take i).foldl passP m) (a, b) := by
  rw [take_one h, List.foldl_append]; rfl
theorem take_in {n i : Nat} : ∀ p ∈ (pairs n).take i, p.1 < n ∧ p.2 < n ∧ p.1 ≠ p.2 := fun p hp => pairs_in p (List.mem_of_mem_take hp)
theorem read_emptied {K : PySem.W.Frag} {C : Cl} (ds : List D) (S : Store) (Q : QD) (Ex : Value → Store → Prop) (h : sp_emptied C ds S Q Ex) : r_emptied K C (ends0 Q) (start ["market", "one", "other", "k"] ds) S := by
  obtain ⟨r, m0, n, T, B, rfl, hS, hg, hB, q⟩ := h
  refine ⟨fun j env S' => ∃ v1 v2 v3 m, env = [some (.loc r .mI), v1, v2, v3] ∧ Good n T B m ∧ mu m ≤ j ∧ drain j m = emptyM m0 ∧ S' = S.setR r (encM C r m), ⟨mu m0, none, none, none, m0, rfl, hg, Nat.le_refl _, rfl, (setR_self hS).symm⟩, ?_⟩
  rintro j env S' ⟨v1, v2, v3, m, rfl, g, hj, hd, rfl⟩
  have ok := gok (g.ok hB)
  have n5 := ok.1.n5
  generalize hX : S.setR r (encM C r m) = X
  have Xm : X r = encM C r m := by rw [← hX, setR_same]
  refine ⟨_, rfl, r, m, rfl, Xm, fun rp hrp => ?_⟩
  have nrp : r ≠ rp := ne_fresh hrp (f := .mI) (by rw [Xm]; simp [encM, encV])
  refine ⟨_, by show _ = _; rw [tmp_at], ?_⟩
  refine lcb_map (fun d => match d with | .tup [.int a, .int b] => .tup ((m.roads a.toNat b.toNat).map encPar2) | _ => .non) ?_ ?_ ?_ ?_
  · rw [List.length_map]; have := pairs_len m.n n5; exact szl _ (by omega)
  · intro r2 hr2 ds
    obtain ⟨n2, _⟩ := fresh2 hr2
    show _ = _
    rw [setR_ne (Ne.symm n2), tmp_at]
  · intro r2 hr2 i x ds P hx hP
    obtain ⟨n2, hr2'⟩ := fresh2 hr2
    obtain ⟨a, b, hr, _, rfl⟩ := pair_at hx
    have nr2 : r ≠ r2 := ne_fresh hr2' (f := .mI) (by rw [Xm]; simp [encM, encV])
    refine ⟨_, rfl, rfl, ?_⟩
    refine ⟨_, rfl, r, .mI, _, rfl, by rw [setR_ne nr2, setR_ne nrp, Xm]; rfl, rfl, _, rfl, _, rfl, ?_⟩
    exact ⟨r, m, a, b, rfl, by rw [setR_ne nr2, setR_ne nrp, Xm], ok, hr.1, hr.2.1, hr.2.2, hP _ .refl⟩
  intro r2 hr2
  obtain ⟨n2, hr2'⟩ := fresh2 hr2
  have er : ((pairs m.n).map pairD2).map (fun d => match d with | .tup [.int a, .int b] => D.tup ((m.roads a.toNat b.toNat).map encPar2) | _ => .non) = ((pairs m.n).map fun p => (m.roads p.1 p.2).map encPar2).map D.tup := by
    rw [List.map_map, List.map_map]
    congr 1
  rw [er]
  have drp : Sub X ((X.setR rp (tmpR (.lst ((pairs m.n).map pairD2)))).setR r2 (tmpR (.lst (((pairs m.n).map fun p => (m.roads p.1 p.2).map encPar2).map D.tup)))) := (sub_drop hrp).trans (sub_drop hr2)
  have nr2 : r ≠ r2 := ne_fresh hr2' (f := .mI) (by rw [Xm]; simp [encM, encV])
  refine ⟨r2, .tmp, (pairs m.n).map (fun p => (m.roads p.1 p.2).map encPar2), rfl, by rw [tmp_at], ?_, ?_, ?_⟩
  · intro l hl d hd'
    obtain ⟨p, _, rfl⟩ := List.mem_map.mp hl
    obtain ⟨y, _, rfl⟩ := List.mem_map.mp hd'
    exact pureK_par2 y
  · intro l hl
    obtain ⟨p, _, rfl⟩ := List.mem_map.mp hl
    rw [List.length_map]; have := ok.2.roads p.1 p.2; omega
  rw [any_roads]
  refine ⟨_, rfl, ?_⟩
  by_cases he : allEmpty m = true
  · rw [he]
    refine iteF ⟨X, drp, ?_⟩
    rw [drain_empty he] at hd
    rw [← hX, hd]; exact q
  rw [Bool.eq_false_iff.mpr he]
  refine iteT ?_
  -- a pass
  generalize hZ : ((X.setR rp (tmpR (.lst ((pairs m.n).map pairD2)))).setR r2 (tmpR (.lst (((pairs m.n).map fun p => (m.roads p.1 p.2).map encPar2).map D.tup)))) = Z at drp ⊢
  have Zm : Z r = encM C r m := by rw [← hZ, setR_ne nr2, setR_ne nrp, Xm]
  refine ⟨_, rfl, r, m, rfl, Zm, fun rq hrq => ?_⟩
  have nrq : r ≠ rq := ne_fresh hrq (f := .mI) (by rw [Zm]; simp [encM, encV])
  refine ⟨_, by show _ = _; rw [tmp_at], ?_⟩
  refine ⟨fun i env S' => ∃ v1 v2 v3, env = [some (.loc r .mI), v1, v2, v3] ∧ S' = X2 S r rq (encM C r (((pairs m.n).take i).foldl passP m)) (tmpR (.lst ((pairs m.n).map pairD2))), ⟨X2 S r rq (encM C r m) (tmpR (.lst ((pairs m.n).map pairD2))), ?_, v1, v2, v3, rfl, rfl⟩, ?_, ?_⟩
  · unfold X2; rw [hX]; exact sub_set drp
  · rintro i d env S' hd' ⟨w1, w2, w3, rfl, rfl⟩
    obtain ⟨a, b, hab, hp, rfl⟩ := pair_at hd'
    refine ⟨by show _ = _; rw [x2_b, tmpR_tmp], ⟨_, rfl, rfl, ?_⟩⟩
    obtain ⟨gi, _⟩ := fold_ok ((pairs m.n).take i) g (by rw [g.en]; exact take_in)
    have ft := fold_take (m := m) hp
    generalize hmi : ((pairs m.n).take i).foldl passP m = mi at gi ft ⊢
    rw [g.en] at hab
    have hSr : X2 S r rq (encM C r mi) (tmpR (.lst ((pairs m.n).map pairD2))) r = encM C r mi := x2_a nrq
    obtain ⟨hI, oki, hb⟩ := takes_read (K := K) gi hB hab hSr
    refine ⟨_, rfl, r, .mI, _, rfl, hI, rfl, _, rfl, _, rfl, r, mi, a, b, rfl, hSr, oki, hb.1, hb.2.1, hb.2.2, _, _, rfl, rfl, ?_⟩
    rw [List.length_map]
    have hlen := oki.2.roads a b
    refine ⟨_, rfl, by omega, by omega, ?_⟩
    refine ⟨fun j env S' => ∃ v3, env = [some (.loc r .mI), some (.int a), some (.int b), v3] ∧ S' = X2 S r rq (encM C r (takeN mi a b j)) (tmpR (.lst ((pairs m.n).map pairD2))), .here ⟨w3, rfl, rfl⟩, ?_, ?_⟩
    · rintro j d env S' hd' ⟨w, rfl, rfl⟩
      obtain ⟨hjl, rfl⟩ := rng_is (n := (mi.roads a b).length) hd'
      obtain ⟨gj, lj, _⟩ := takeN_ok gi hab j (by omega)
      have hSr : X2 S r rq (encM C r (takeN mi a b j)) (tmpR (.lst ((pairs m.n).map pairD2))) r = encM C r (takeN mi a b j) := x2_a nrq
      obtain ⟨hI, _, hb⟩ := takes_read (K := K) gj hB hab hSr
      refine ⟨trivial, ⟨_, rfl, r, .mI, _, rfl, hI, rfl, _, rfl, _, rfl, r, _, a, b, rfl, hSr, gj.ok hB, hb, .here ⟨_, rfl, ?_⟩⟩⟩
      rw [x2_pa nrq, takeN_succ]
    · rintro env S' ⟨w, rfl, rfl⟩
      refine ⟨trivial, .here ⟨_, _, _, rfl, ?_⟩⟩
      rw [List.length_map, List.length_range, ft]; rfl
  · rintro env S' ⟨w1, w2, w3, rfl, rfl⟩
    refine ⟨by show _ = _; rw [x2_b, tmpR_tmp], ?_⟩
    rw [List.length_map, List.take_of_length_le (Nat.le_refl _)]
    obtain ⟨j', rfl, hj', hd2⟩ := drain_pass g he hj
    rw [hd] at hd2
    refine ⟨S.setR r (encM C r (passM m)), ?_, j', by omega, _, _, _, passM m, rfl, passM_ok g, hj', hd2.symm, rfl⟩
    unfold X2
    refine sub_drop fun f => ?_
    have hz : Sub X Z := drp
    have h0 := hrq f
    rw [setR_ne (Ne.symm nrq)]
    rcases hz rq with z | z
    · have := z f; rw [h0, ← hX, setR_ne (Ne.symm nrq)] at this; exact this
    · have := z f; rw [← hX, setR_ne (Ne.symm nrq)] at this; exact this
theorem read_hand14 {K : PySem.W.Frag} {C : Cl} (ds : List D) (S : Store) (Q : QD) (Ex : Value → Store → Prop) (h : sp_hand14 C ds S Q Ex) : r_hand14 K C (ends0 Q) (start ["market", "pairs", "more", "one", "other", "k"] ds) S := by
  obtain ⟨r, rp, m0, n, T, B, rfl, nrp, hS, hp, hg, hB, q⟩ := h
  have e0 : m0.n = n := hg.en
  rw [e0] at hp
  refine .here ?_
  refine ⟨fun k env S' => ∃ v3 v4 v5 m, Good n T B m ∧ S' = S.setR r (encM C r m) ∧ ((∃ j, k = j + 1 ∧ env = [some (.loc r .mI), some (.loc rp .tmp), some (.bl true), v3, v4, v5] ∧ mu m ≤ j ∧ drain j m = emptyM m0) ∨ (k = 0 ∧ env = [some (.loc r .mI), some (.loc rp .tmp), some (.bl false), v3, v4, v5] ∧ m = emptyM m0)), ⟨mu m0 + 1, none, none, none, m0, hg, (setR_self hS).symm, .inl ⟨mu m0, rfl, rfl, Nat.le_refl _, rfl⟩⟩, ?_⟩
  rintro k env S' ⟨v3, v4, v5, m, g, rfl, ⟨j, rfl, rfl, hj, hd⟩ | ⟨rfl, rfl, rfl⟩⟩
  · refine ⟨_, rfl, _, rfl, iteT (.here ?_)⟩
    have hlp : ∀ m', (S.setR r (encM C r m')) rp .tmp = some (.lst ((pairs n).map pairD2)) := fun m' => by rw [setR_ne nrp]; exact hp
    refine ⟨_, rfl, _, hlp m, ?_⟩
    refine ⟨fun i env S' => ∃ b v3 v4 v5, env = [some (.loc r .mI), some (.loc rp .tmp), some (.bl b), v3, v4, v5] ∧ S' = S.setR r (encM C r (((pairs n).take i).foldl passP m)) ∧ (b = false → ∀ p ∈ (pairs n).take i, m.roads p.1 p.2 = []) ∧ (b = true → ¬ allEmpty m = true), .here ⟨false, v3, v4, v5, rfl, rfl, fun _ p hp => by simp at hp, fun z => nomatch z⟩, ?_, ?_⟩
    · rintro i d env S' hd' ⟨b0, w3, w4, w5, rfl, rfl, hb0, hb1⟩
      obtain ⟨a, b, hab, hpi, rfl⟩ := pair_at hd'
      refine ⟨hlp _, ⟨_, rfl, rfl, ?_⟩⟩
      obtain ⟨gi, _⟩ := fold_ok ((pairs n).take i) g take_in
      have same : b0 = false → ((pairs n).take i).foldl passP m = m := fun z => by
        have key : ∀ l : List (Nat × Nat), (∀ p ∈ l, m.roads p.1 p.2 = []) → l.foldl passP m = m := by
          intro l
          induction l with
          | nil => intro _; rfl
          | cons p l ih =>
            intro hl
            rw [List.foldl_cons, passP_nil (hl p List.mem_cons_self)]
            exact ih fun q hq => hl q (List.mem_cons_of_mem _ hq)
        exact key _ (hb0 z)
      have ft := fold_take (m := m) hpi
      have t1 := take_one hpi
      generalize hmi : ((pairs n).take i).foldl passP m = mi at gi same ft ⊢
      have hSr : (S.setR r (encM C r mi)) r = encM C r mi := setR_same
      obtain ⟨hI, oki, hb⟩ := takes_read (K := K) gi hB hab hSr
      refine ⟨_, rfl, r, .mI, _, rfl, hI, rfl, _, rfl, _, rfl, r, mi, a, b, rfl, hSr, oki, hb.1, hb.2.1, hb.2.2, _, _, rfl, rfl, ?_⟩
      rw [List.length_map]
      have hlen := oki.2.roads a b
      refine ⟨_, rfl, by omega, by omega, ?_⟩
      refine ⟨fun j env S' => ∃ v5, env = [some (.loc r .mI), some (.loc rp .tmp), some (.bl (b0 || decide (0 < j))), some (.int a), some (.int b), v5] ∧ S' = S.setR r (encM C r (takeN mi a b j)), .here ⟨w5, by simp only [Nat.lt_irrefl, decide_false, Bool.or_false]; rfl, rfl⟩, ?_, ?_⟩
      · rintro j d env S' hd' ⟨w, rfl, rfl⟩
        obtain ⟨hjl, rfl⟩ := rng_is (n := (mi.roads a b).length) hd'
        obtain ⟨gj, lj, _⟩ := takeN_ok gi hab j (by omega)
        have hSr : (S.setR r (encM C r (takeN mi a b j))) r = encM C r (takeN mi a b j) := setR_same
        obtain ⟨hI, _, hb⟩ := takes_read (K := K) gj hB hab hSr
        refine ⟨trivial, ⟨_, rfl, r, .mI, _, rfl, hI, rfl, _, rfl, _, rfl, r, _, a, b, rfl, hSr, gj.ok hB, hb, .here (.here ⟨some (.int j), ?_, ?_⟩)⟩⟩
        · have : (b0 || decide (0 < j + 1)) = true := by simp
          rw [this]; rfl
        · rw [setR_setR, takeN_succ]
      · rintro env S' ⟨w, rfl, rfl⟩
        rw [List.length_map, List.length_range]
        refine ⟨trivial, .here ⟨_, _, _, _, rfl, by rw [ft]; rfl, fun hz p hp' => ?_, fun hz => ?_⟩⟩
        · rw [Bool.or_eq_false_iff] at hz
          rw [t1] at hp'
          rcases List.mem_append.mp hp' with z | z
          · exact hb0 hz.1 p z
          · simp at z
            subst z
            have : ¬ 0 < (mi.roads a b).length := of_decide_eq_false hz.2
            rw [same hz.1] at this
            show m.roads a b = []
            exact List.length_eq_zero_iff.mp (by omega)
        · cases hb : b0 with
          | true => exact hb1 hb
          | false =>
            rw [hb] at hz
            have : 0 < (mi.roads a b).length := by simpa using hz
            rw [same hb] at this
            intro z
            rw [allEmpty_iff] at z
            rw [g.en] at z
            rw [z (a, b) (List.mem_of_getElem? hpi)] at this
            simp at this
    · rintro env S' ⟨b0, w3, w4, w5, rfl, rfl, hb0, hb1⟩
      refine ⟨hlp _, ?_⟩
      rw [List.length_map, List.take_of_length_le (Nat.le_refl _)] at hb0 ⊢
      by_cases he : allEmpty m = true
      · cases b0 with
        | true => exact absurd he (hb1 rfl)
        | false =>
          have key : (pairs n).foldl passP m = m := by
            have : ∀ l : List (Nat × Nat), (∀ p ∈ l, m.roads p.1 p.2 = []) → l.foldl passP m = m := by
              intro l
              induction l with
              | nil => intro _; rfl
              | cons p l ih =>
                intro hl
                rw [List.foldl_cons, passP_nil (hl p List.mem_cons_self)]
                exact ih fun q hq => hl q (List.mem_cons_of_mem _ hq)
            exact this _ (hb0 rfl)
          rw [key]
          rw [drain_empty he] at hd
          exact .here ⟨0, by omega, _, _, _, m, g, rfl, .inr ⟨rfl, rfl, hd⟩⟩
      · cases b0 with
        | false =>
          exfalso
          apply he
          rw [allEmpty_iff, g.en]
          exact hb0 rfl
        | true =>
          obtain ⟨j', rfl, hj', hd2⟩ := drain_pass g he hj
          rw [hd] at hd2
          refine .here ⟨j' + 1, by omega, _, _, _, passM m, passM_ok g, ?_, .inl ⟨j', rfl, rfl, hj', hd2.symm⟩⟩
          unfold passM; rw [g.en]
  · exact ⟨_, rfl, _, rfl, iteF (.here q)⟩
end SS
namespace SS
open PySem L2
theorem sum_le (B : Nat) : ∀ l : List Nat, (∀ x ∈ l, x ≤ B) → l.sum ≤ l.length * B
  | [], _ => by simp
  | x :: l, h => by
    have h1 := h x List.mem_cons_self
    have h2 := sum_le B l fun y hy => h y (List.mem_cons_of_mem _ hy)
    rw [List.sum_cons, List.length_cons, Nat.add_mul, Nat.one_mul]; omega
theorem mu_bound {n : Nat} {T : Int} {i : Nat} {m : Mkt} (h : InvG n T i m) : mu m ≤ 50 * i := by
  have n5 := h.wf.n5
  have h1 : roadLen m ≤ 25 * i := by
    have := sum_le i ((pairs m.n).map fun p => (m.roads p.1 p.2).length) fun x hx => by
      obtain ⟨p, _, rfl⟩ := List.mem_map.mp hx
      exact h.roads p.1 p.2
    rw [List.length_map] at this
    have h2 := Nat.mul_le_mul_right i (pairs_len m.n n5)
    unfold roadLen; omega
  have h3 : (m.shots.map unwr).sum ≤ i * 5 := by
    have := sum_le 5 (m.shots.map unwr) fun x hx => by
      obtain ⟨s, hs, rfl⟩ := List.mem_map.mp hx
      obtain ⟨k, hk, rfl⟩ := List.getElem_of_mem hs
      have hl := h.si.wl k _ (List.getElem?_eq_getElem hk)
      have : unwr m.shots[k] ≤ m.shots[k].written.length := List.countP_le_length
      omega
    rw [List.length_map] at this
    have := Nat.mul_le_mul_right 5 h.shots
    omega
  have h4 : m.n * (m.shots.map unwr).sum ≤ 5 * (i * 5) := Nat.mul_le_mul n5 h3
  unfold mu; omega
theorem invG_good {n : Nat} {T : Int} {i : Nat} {m : Mkt} (h : InvG n T i m) (hi : i ≤ 61) : Good n T 4000 m := ⟨i, h, by have := mu_bound h; omega⟩
def isBegin : Act → Bool
  | .begin _ => true
  | _ => false
theorem shots_take (m : Mkt) (a b : Nat) : (takeM m a b).shots.length = m.shots.length := by
  unfold takeM
  split
  · rfl
  · show (m.shots.map _).length = _; rw [List.length_map]
  · show (markM _ _ a b).shots.length = _
    unfold markM
    split
    · rfl
    · split
      · show (m.shots.set _ _).length = _; rw [List.length_set]
      · unfold writeM; split
        · rfl
        · show (m.shots.set _ _).length = _; rw [List.length_set]
theorem shots_step (m : Mkt) (act : Act) : ((stepM m act).2.shots.length : Int) = (m.shots.length : Int) + (if isBegin act then 1 else 0) := by
  cases act with
  | take a b => show ((takeM m a b).shots.length : Int) = _; rw [shots_take]; simp [isBegin]
  | give a b x =>
    show ((if x > m.purses.getD a 0 then (D.str "no coins", m) else (D.non, giveM m a b x)).2.shots.length : Int) = _
    split <;> simp [isBegin, giveM, addEv]
  | begin a =>
    show ((beginM m a).shots.length : Int) = _
    unfold beginM writeM
    dsimp only
    rw [app_at, if_pos rfl]
    simp [isBegin]
theorem begun_read {act : Act} {env : LEnv} {S : Store} {i : Nat} {P : QD} {Ex : XD} (h : env[i]? = some (some (encAct act))) (hP : P (.int (if isBegin act then 1 else 0)) S) : rCall dInt (rCons (rOp oEq (rOp ixD (rVar i) (rC (.int 0))) (rC (.str "begin"))) rNil) env S P Ex := by
  cases act with
  | begin a => exact ⟨_, h, .inl ⟨_, _, _, rfl, rfl, rfl, _, rfl, _, rfl, hP⟩⟩
  | take a b => exact ⟨_, h, .inl ⟨_, _, _, rfl, rfl, rfl, _, rfl, _, rfl, hP⟩⟩
  | give a b x => exact ⟨_, h, .inl ⟨_, _, _, rfl, rfl, rfl, _, rfl, _, rfl, hP⟩⟩
theorem pure_log (l : List Ev) : PureK 2 (.tup (l.map encEv)) := .tup (pureK_evs l)
theorem begun_new (coins : List Int) : Begun (newM coins) := fun k s hk => by simp [newM] at hk
theorem emp_begun {n : Nat} {T : Int} {B : Nat} {m : Mkt} (g : Good n T B m) (hb : Begun m) : Begun (emptyM m) ∧ (emptyM m).shots.length = m.shots.length := by
  have tk : ∀ {m : Mkt}, Good n T B m → Begun m → ∀ {a b : Nat}, (a < n ∧ b < n ∧ a ≠ b) → ∀ j, j ≤ (m.roads a b).length → Begun (takeN m a b j) ∧ (takeN m a b j).shots.length = m.shots.length := by
    intro m g hb a b hab j
    induction j with
    | zero => intro _; exact ⟨hb, rfl⟩
    | succ j ih =>
      intro hj
      obtain ⟨h1, h2⟩ := ih (by omega)
      obtain ⟨⟨i, gi, _⟩, _, _⟩ := takeN_ok g hab j (by omega)
      rw [takeN_succ, shots_take]
      exact ⟨begun_take gi h1 hab, h2⟩
  have fo : ∀ (l : List (Nat × Nat)) {m : Mkt}, Good n T B m → Begun m → (∀ p ∈ l, p.1 < n ∧ p.2 < n ∧ p.1 ≠ p.2) → Begun (l.foldl passP m) ∧ (l.foldl passP m).shots.length = m.shots.length := by
    intro l
    induction l with
    | nil => intro m _ hb _; exact ⟨hb, rfl⟩
    | cons p l ih =>
      intro m g hb hl
      obtain ⟨h1, h2⟩ := tk g hb (hl p List.mem_cons_self) _ (Nat.le_refl _)
      obtain ⟨g', _⟩ := passP_ok g (hl p List.mem_cons_self)
      obtain ⟨h3, h4⟩ := ih g' h1 fun q hq => hl q (List.mem_cons_of_mem _ hq)
      exact ⟨h3, h4.trans h2⟩
  have dr : ∀ (j : Nat) {m : Mkt}, Good n T B m → Begun m → Begun (drain j m) ∧ (drain j m).shots.length = m.shots.length := by
    intro j
    induction j with
    | zero => intro m _ hb; exact ⟨hb, rfl⟩
    | succ j ih =>
      intro m g hb
      unfold drain
      split
      · exact ⟨hb, rfl⟩
      · obtain ⟨h1, h2⟩ := fo (pairs m.n) g hb (by rw [g.en]; exact pairs_in)
        obtain ⟨h3, h4⟩ := ih (passM_ok g) h1
        exact ⟨h3, h4.trans h2⟩
  exact dr _ g hb
theorem rng_pics {X : Store} {m : Mkt} (L : Nat) : ((List.range L).map fun i : Nat => D.int (i : Int)).map (fun d => match d with | .int k => picD m.n (m.shots.getD k.toNat (newSh 0)) | _ => .non) = (List.range L).map fun k => picD m.n (m.shots.getD k (newSh 0)) := by
  rw [List.map_map]; rfl
theorem pics_read {C : Cl} {m : Mkt} {X : Store} {r : Nat} (Xm : X r = encM C r m) (n5 : m.n ≤ 5) (hl : m.shots.length ≤ 1000) (hd : ∀ (k : Nat) (s : Sh), m.shots[k]? = some s → doneS s = true) {env : LEnv} {i j l : Nat} (hb : env[i]? = some (some (.int m.shots.length))) (ho : ∀ x : D, ((lwipe env [l]).set l (some x))[j]? = some (some (.loc r .mI)) ∧ ((lwipe env [l]).set l (some x))[l]? = some (some x))
    {P : QD} {Ex : XD} (hP : ∀ r2, (∀ f, X r2 f = none) → P (.loc r2 .tmp) (X.setR r2 (tmpR (.lst ((List.range m.shots.length).map fun k => picD m.n (m.shots.getD k (newSh 0))))))) :
    rLc (newF .tmp) (iRng (rCons (rVar i) rNil)) (.nm l) rYes (rMeth C.m "picture" (sp_Market_picture C) (rVar j) (rCons (rVar l) rNil)) env X P Ex := by
  refine ⟨_, hb, _, rfl, by omega, by omega, ?_⟩
  refine lcb_map (fun d => match d with | .int k => picD m.n (m.shots.getD k.toNat (newSh 0)) | _ => .non) ?_ ?_ ?_ ?_
  · rw [List.length_map, List.length_range]; exact szl _ (by show m.shots.length ≤ _; omega)
  · intro r2 hr2 ds; trivial
  · intro r2 hr2 q x ds P hx hP
    obtain ⟨hq, rfl⟩ := rng_is (n := m.shots.length) hx
    have nr2 : r ≠ r2 := ne_fresh hr2 (f := .mI) (by rw [Xm]; simp [encM, encV])
    have hX : (X.setR r2 (tmpR (.lst ds))) r = encM C r m := by rw [setR_ne nr2, Xm]
    obtain ⟨h1, h2⟩ := ho (.int q)
    refine ⟨_, h1, r, .mI, _, rfl, by rw [hX]; rfl, rfl, _, h2, ?_⟩
    have hs : m.shots[q]? = some (m.shots.getD q (newSh 0)) := getD_at hq _
    have hsh : shOf m (q : Int) = some (m.shots.getD q (newSh 0)) := by unfold shOf; rw [if_pos (by omega)]; simpa using hs
    refine ⟨r, m, q, rfl, hX, n5, (fun e => by rw [hsh] at e; cases e), (fun s e hf => ?_), fun s e _ => ?_⟩
    · rw [hsh] at e; cases e
      rw [hd q _ hs] at hf; cases hf
    · rw [hsh] at e; cases e
      exact hP _ .refl
  · intro r2 hr2
    have := hP r2 hr2
    rw [← rng_pics (X := X)] at this
    exact this
theorem pure_pics (m : Mkt) (L : Nat) : ∀ d ∈ (List.range L).map fun k => picD m.n (m.shots.getD k (newSh 0)), PureK 4 d := by
  intro d hd
  obtain ⟨k, _, rfl⟩ := List.mem_map.mp hd
  exact pure_pic _ _
theorem read_law14 {K : PySem.W.Frag} {C : Cl} (ds : List D) (S : Store) (Q : QD) (Ex : Value → Store → Prop) (h : sp_law14 C ds S Q Ex) : r_law14 K C (ends0 Q) (start ["script", "coins", "one", "two", "begun", "act", "k"] ds) S := by
  obtain ⟨ns, rfl, hl, q⟩ := h
  obtain ⟨m2, m5, em⟩ := many_ge ns
  have hcl : (coinsOf ns).length = manyOf ns := by simp [coinsOf]
  refine ⟨_, rfl, ns, rfl, hl, .here ?_⟩
  generalize hcs : coinsOf ns = coins at *
  have hln : (coins.map D.int).length = coins.length := List.length_map ..
  have c2 : 2 ≤ coins.length := by omega
  have c5 : coins.length ≤ 5 := by omega
  refine ⟨_, rfl, fun r1 hr1 => ⟨r1, coins, rfl, ?_, c2, c5, rfl, .here ?_⟩⟩
  · funext f
    by_cases e : f = .mI
    · subst e; rw [set_same]; simp [oneR]
    · rw [set_nf e, hr1 f]; simp [oneR, e]
  rw [set_R, setR_setR]
  refine ⟨_, rfl, fun r2 hr2 => ⟨r2, coins, rfl, ?_, c2, c5, rfl, .here ?_⟩⟩
  · funext f
    by_cases e : f = .mI
    · subst e; rw [set_same]; simp [oneR]
    · rw [set_nf e, hr2 f]; simp [oneR, e]
  rw [set_R, setR_setR]
  have n12 : r1 ≠ r2 := ne_fresh hr2 (f := .mI) (by rw [setR_same]; exact encM_live)
  refine .here ?_
  refine ⟨_, rfl, ns, true, rfl, hl, fun ra hra => ?_⟩
  have n1a : r1 ≠ ra := ne_fresh hra (f := .mI) (by rw [setR_ne n12, setR_same]; exact encM_live)
  have n2a : r2 ≠ ra := ne_fresh hra (f := .mI) (by rw [setR_same]; exact encM_live)
  generalize hac : actsOf ns true = acts
  have ha1 : ∀ a ∈ acts, ActOk coins.length a := by rw [hcl, ← hac]; exact act_ok ns true
  have ha3 : acts.length ≤ 61 := by rw [← hac]; exact acts_len ns true hl
  refine ⟨acts.map encAct, by show _ = _; rw [tmp_at], ?_⟩
  refine ⟨fun i env S' => ∃ v5 m, env = [some (.rol ns), some (.tup (coins.map D.int)), some (.loc r1 .mI), some (.loc r2 .mI), some (.int m.shots.length), v5, none] ∧ InvG coins.length coins.sum i m ∧ Begun m ∧ S' = X3 S r1 r2 ra (encM C r1 m) (encM C r2 m) (tmpR (.lst (acts.map encAct))), .here ⟨none, newM coins, rfl, invG_new c2 c5, begun_new coins, rfl⟩, ?_, ?_⟩
  · rintro i d env S' hd ⟨v5, m, rfl, iv, hb, rfl⟩
    rw [List.getElem?_map] at hd
    cases ea : acts[i]? with
    | none => rw [ea] at hd; cases hd
    | some act =>
    rw [ea] at hd; cases hd
    have hmem := List.mem_of_getElem? ea
    have hi : i < acts.length := (List.getElem?_eq_some_iff.mp ea).1
    have hA : ActOk m.n act := by rw [iv.en]; exact ha1 _ hmem
    refine ⟨by show _ = _; rw [x3_c, tmpR_tmp], ?_⟩
    refine ⟨_, rfl, _, rfl, r1, m, act, rfl, x3_a n12 n1a, iv.ok (by omega), hA, .here ?_⟩
    rw [x3_pa n12 n1a]
    refine ⟨_, rfl, _, rfl, r2, m, act, rfl, x3_b n2a, iv.ok (by omega), hA, .here ?_⟩
    rw [x3_pb n2a]
    refine ⟨_, rfl, begun_read (act := act) rfl ⟨_, _, rfl, rfl, .here ⟨some (encAct act), (stepM m act).2, ?_, invG_step iv (ha1 _ hmem), begun_step iv hb (ha1 _ hmem), rfl⟩⟩⟩
    rw [shots_step]; rfl
  · rintro env S' ⟨v5, m, rfl, iv, hb, rfl⟩
    refine ⟨by show _ = _; rw [x3_c, tmpR_tmp], .here ?_⟩
    rw [List.length_map] at iv
    have g := invG_good iv ha3
    obtain ⟨gE, heE⟩ := drain_ok (mu m) g (Nat.le_refl _)
    obtain ⟨hbE, hsE⟩ := emp_begun g hb
    have hshE : (emptyM m).shots.length ≤ 61 := by rw [hsE]; have := iv.shots; omega
    -- emptied
    refine ⟨_, rfl, r1, m, _, _, _, rfl, x3_a n12 n1a, g, by omega, .here ?_⟩
    rw [x3_pa n12 n1a]
    -- by hand
    refine ⟨_, rfl, _, rfl, _, _, rfl, rfl, coins.length, by rw [hln], c5, fun rp hrp => ?_⟩
    generalize hX : X3 S r1 r2 ra (encM C r1 (emptyM m)) (encM C r2 m) (tmpR (.lst (acts.map encAct))) = X at hrp ⊢
    have X1 : X r1 = encM C r1 (emptyM m) := by rw [← hX]; exact x3_a n12 n1a
    have X2' : X r2 = encM C r2 m := by rw [← hX]; exact x3_b n2a
    have n1p : r1 ≠ rp := ne_fresh hrp (f := .mI) (by rw [X1]; exact encM_live)
    have n2p : r2 ≠ rp := ne_fresh hrp (f := .mI) (by rw [X2']; exact encM_live)
    refine ⟨r2, rp, m, _, _, _, rfl, Ne.symm n2p, by rw [setR_ne n2p]; exact X2', by rw [tmp_at, iv.en], g, by omega, ?_⟩
    refine ⟨X.setR r2 (encM C r2 (emptyM m)), ?_, ?_⟩
    · rw [setR_comm (Ne.symm n2p)]
      exact sub_drop fun f => by rw [setR_ne (Ne.symm n2p)]; exact hrp f
    generalize hY : X.setR r2 (encM C r2 (emptyM m)) = Y
    have Y1 : Y r1 = encM C r1 (emptyM m) := by rw [← hY, setR_ne n12]; exact X1
    have Y2 : Y r2 = encM C r2 (emptyM m) := by rw [← hY, setR_same]
    have hI1 : Y r1 .mI = some (.ins C.m (mFs r1 (emptyM m).n)) := by rw [Y1]; rfl
    have hI2 : Y r2 .mI = some (.ins C.m (mFs r2 (emptyM m).n)) := by rw [Y2]; rfl
    have gok := gE.ok (by omega)
    have n5 : (emptyM m).n ≤ 5 := gok.wf.n5
    have hdn : ∀ (k : Nat) (s : Sh), (emptyM m).shots[k]? = some s → doneS s = true := fun k s hk => done_empty gok.si hbE heE hk
    refine ⟨_, rfl, r1, .mI, _, rfl, hI1, rfl, r1, emptyM m, rfl, Y1, _, rfl, r2, .mI, _, rfl, hI2, rfl, r2, emptyM m, rfl, Y2, ne_same (pure_ints _) (by decide) ⟨_, rfl, iteF ?_⟩⟩
    refine ⟨_, rfl, r1, .mI, _, rfl, hI1, rfl, r1, emptyM m, rfl, Y1, _, rfl, r2, .mI, _, rfl, hI2, rfl, r2, emptyM m, rfl, Y2, ne_same (pure_log _) (by decide) ⟨_, rfl, iteF (.here ?_)⟩⟩
    rw [← hsE]
    refine pics_read (m := emptyM m) Y1 n5 (by omega) hdn rfl (fun x => ⟨rfl, rfl⟩) fun ru hru => ?_
    have n2u : r2 ≠ ru := ne_fresh hru (f := .mI) (by rw [Y2]; exact encM_live)
    refine pics_read (m := emptyM m) (by rw [setR_ne n2u]; exact Y2) n5 (by omega) hdn rfl (fun x => ⟨rfl, rfl⟩) fun rv hrv => ?_
    obtain ⟨nvu, _⟩ := fresh2 hrv
    refine eq_sameL (pure_pics _ _) (by decide) (by rw [setR_ne (Ne.symm nvu), tmp_at]) (by rw [tmp_at]) ⟨S, ?_, q⟩
    refine Sub.trans (Sub.trans ?_ (sub_drop hru)) (sub_drop hrv)
    rw [← hY, ← hX, x3_pb n2a]
    refine ((sub_drop (g := encM C r1 (emptyM m)) hr1).trans ?_).trans (sub_drop fun f => ?_)
    · refine sub_drop fun f => ?_
      have := hr2 f; rw [setR_ne (Ne.symm n12)] at this ⊢; exact this
    · have := hra f
      rw [setR_ne (Ne.symm n2a), setR_ne (Ne.symm n1a)] at this ⊢; exact this
end SS
namespace SS
open PySem L2
/-! ### logs -/
def isG (a b : Nat) (e : Ev) : Bool := e.give && decide (e.one = a) && decide (e.other = b)
def isT (a b : Nat) (e : Ev) : Bool := !e.give && decide (e.one = a) && decide (e.other = b)
/-- the amounts given on a road -/
def gAm (a b : Nat) (L : List Ev) : List Int := (L.filter (isG a b)).map (·.amt)
/-- how many were taken from it -/
def tN (a b : Nat) (L : List Ev) : Nat := L.countP (isT a b)
/-- a member's events -/
def ofM (i : Nat) (L : List Ev) : List Ev := L.filter fun e => decide (who e = i)
def bal1 (e : Ev) : Int := if e.give then - e.amt else e.amt
def bal (c : Int) (l : List Ev) : Int := c + (l.map bal1).sum
def gNum (a b : Nat) (L : List Ev) : List (Int × Option Nat) := (L.zipIdx.filter fun p => isG a b p.1).map fun p => (p.1.amt, some p.2)
def parc (a b : Nat) (r : List Int) (L : List Ev) : List (Int × Option Nat) := r.map (fun x => (x, none)) ++ gNum a b L
def parO : Par → Option (Int × Option Nat)
  | .coins x n => some (x, n)
  | .mark _ => none
def parOn (l : List Par) : List (Int × Option Nat) := l.filterMap parO
theorem gAm_app (a b : Nat) (L L' : List Ev) : gAm a b (L ++ L') = gAm a b L ++ gAm a b L' := by simp [gAm, List.filter_append]
theorem tN_app (a b : Nat) (L L' : List Ev) : tN a b (L ++ L') = tN a b L + tN a b L' := by simp [tN, List.countP_append]
theorem ofM_app (i : Nat) (L L' : List Ev) : ofM i (L ++ L') = ofM i L ++ ofM i L' := by simp [ofM, List.filter_append]
theorem bal_app (c : Int) (l l' : List Ev) : bal c (l ++ l') = bal c l + (l'.map bal1).sum := by simp [bal, List.sum_append]; omega
theorem bal_bal (c : Int) (l l' : List Ev) : bal (bal c l) l' = bal c (l ++ l') := by rw [bal_app]; rfl
theorem gNum_app1 (a b : Nat) (L : List Ev) (e : Ev) : gNum a b (L ++ [e]) = gNum a b L ++ if isG a b e = true then [(e.amt, some L.length)] else [] := by
  unfold gNum
  rw [List.zipIdx_append, List.filter_append, List.map_append]
  congr 1
  by_cases h : isG a b e = true
  · simp [h]
  · simp [h]
theorem gNum_fst (a b : Nat) (L : List Ev) : (gNum a b L).map (·.1) = gAm a b L := by
  unfold gNum gAm
  have : ∀ (L : List Ev) (k : Nat), ((L.zipIdx k).filter fun p => isG a b p.1).map (fun p => p.1.amt) = (L.filter (isG a b)).map (·.amt) := by
    intro L
    induction L with
    | nil => intro k; rfl
    | cons e L ih =>
      intro k
      rw [List.zipIdx_cons]
      by_cases h : isG a b e = true
      · rw [List.filter_cons_of_pos (by exact h), List.filter_cons_of_pos (p := isG a b) h, List.map_cons, List.map_cons, ih]
      · rw [List.filter_cons_of_neg (by exact h), List.filter_cons_of_neg (p := isG a b) h, ih]
  rw [List.map_map]
  exact this L 0
theorem parc_fst (a b : Nat) (r : List Int) (L : List Ev) : (parc a b r L).map (·.1) = r ++ gAm a b L := by
  unfold parc; rw [List.map_append, gNum_fst, List.map_map]; congr 1; exact List.map_id r
theorem parc_len (a b : Nat) (r : List Int) (L : List Ev) : (parc a b r L).length = (r ++ gAm a b L).length := by rw [← parc_fst]; simp
theorem gG_who {a b : Nat} {e : Ev} (h : isG a b e = true) : who e = a ∧ e.one = a ∧ e.other = b ∧ e.give = true := by
  unfold isG at h; simp at h; obtain ⟨⟨h1, h2⟩, h3⟩ := h; exact ⟨by unfold who; rw [h1]; exact h2, h2, h3, h1⟩
theorem gT_who {a b : Nat} {e : Ev} (h : isT a b e = true) : who e = b ∧ e.one = a ∧ e.other = b ∧ e.give = false := by
  unfold isT at h; simp at h; obtain ⟨⟨h1, h2⟩, h3⟩ := h; exact ⟨by unfold who; rw [h1]; exact h3, h2, h3, h1⟩
theorem gAm_ofM (a b : Nat) (L : List Ev) : gAm a b (ofM a L) = gAm a b L := by
  unfold gAm ofM
  rw [List.filter_filter]
  congr 1
  refine List.filter_congr fun e _ => ?_
  by_cases h : isG a b e = true
  · rw [h, (gG_who h).1]; simp
  · rw [Bool.not_eq_true _ |>.mp h]; simp
theorem tN_ofM (a b : Nat) (L : List Ev) : tN a b (ofM b L) = tN a b L := by
  unfold tN ofM
  rw [List.countP_filter]
  refine List.countP_congr fun e _ => ?_
  by_cases h : isT a b e = true
  · rw [h, (gT_who h).1]; simp
  · simp [h]
theorem ofM_len (i : Nat) (L : List Ev) : ((ofM i L).length : Int) = cnt L i := by
  unfold ofM cnt; rw [List.countP_eq_length_filter]
theorem ofM_one (i : Nat) (e : Ev) : ofM i [e] = if who e = i then [e] else [] := by
  unfold ofM; by_cases h : who e = i <;> simp [h]
theorem isG_of {e : Ev} (h : e.give = true) (a b : Nat) : isG a b e = decide (e.one = a ∧ e.other = b) := by unfold isG; rw [h]; simp
theorem isT_of {e : Ev} (h : e.give = false) (a b : Nat) : isT a b e = decide (e.one = a ∧ e.other = b) := by unfold isT; rw [h]; simp
theorem isG_no {e : Ev} (h : e.give = false) (a b : Nat) : isG a b e = false := by unfold isG; rw [h]; rfl
theorem isT_no {e : Ev} (h : e.give = true) (a b : Nat) : isT a b e = false := by unfold isT; rw [h]; rfl
/-! ### what can be done one behind the other -/
def EvIn (n : Nat) (e : Ev) : Prop := e.one < n ∧ e.other < n ∧ e.one ≠ e.other
def Can (c0 : List Int) (r0 : Nat → Nat → List Int) (L : List Ev) (e : Ev) : Prop :=
  (e.give = true → e.amt ≤ bal (c0.getD e.one 0) (ofM e.one L)) ∧ (e.give = false → (r0 e.one e.other ++ gAm e.one e.other L)[tN e.one e.other L]? = some e.amt)
def Runs (c0 : List Int) (r0 : Nat → Nat → List Int) (L : List Ev) : Prop := ∀ (k : Nat) (e : Ev), L[k]? = some e → Can c0 r0 (L.take k) e
theorem runs_nil (c0 : List Int) (r0 : Nat → Nat → List Int) : Runs c0 r0 [] := fun k e h => by simp at h
theorem runs_snoc {c0 : List Int} {r0 : Nat → Nat → List Int} {L : List Ev} {e : Ev} : Runs c0 r0 (L ++ [e]) ↔ Runs c0 r0 L ∧ Can c0 r0 L e := by
  constructor
  · intro h
    refine ⟨fun k f hk => ?_, ?_⟩
    · have hl := (List.getElem?_eq_some_iff.mp hk).1
      have := h k f (by rw [List.getElem?_append_left hl]; exact hk)
      rw [List.take_append_of_le_length (by omega)] at this
      exact this
    · have := h L.length e (by simp)
      rw [List.take_append_of_le_length (by omega), List.take_of_length_le (Nat.le_refl _)] at this
      exact this
  · rintro ⟨h1, h2⟩ k f hk
    by_cases hl : k < L.length
    · rw [List.getElem?_append_left hl] at hk
      rw [List.take_append_of_le_length (by omega)]
      exact h1 k f hk
    · have hk' := (List.getElem?_eq_some_iff.mp hk).1
      simp at hk'
      have : k = L.length := by omega
      subst this
      simp at hk
      subst hk
      rw [List.take_append_of_le_length (by omega), List.take_of_length_le (Nat.le_refl _)]
      exact h2
theorem runs_take {c0 : List Int} {r0 : Nat → Nat → List Int} {L : List Ev} (h : Runs c0 r0 L) (j : Nat) : Runs c0 r0 (L.take j) := fun k e hk => by
  rw [List.getElem?_take] at hk
  split at hk
  · next hlt => rw [List.take_take, Nat.min_eq_left (by omega)]; exact h k e hk
  · cases hk
/-- as many as lay there can be taken -/
theorem runs_tN {c0 : List Int} {r0 : Nat → Nat → List Int} {L : List Ev} (h : Runs c0 r0 L) (a b : Nat) : tN a b L ≤ (r0 a b ++ gAm a b L).length := by
  have key : ∀ n, n ≤ L.length → tN a b (L.take n) ≤ (r0 a b ++ gAm a b (L.take n)).length := by
    intro n
    induction n with
    | zero => intro _; simp [tN]
    | succ n ih =>
      intro hn
      have hk : L[n]? = some L[n] := List.getElem?_eq_getElem (by omega)
      have hc := h n _ hk
      rw [take_one hk, tN_app, gAm_app]
      have := ih (by omega)
      by_cases ht : isT a b L[n] = true
      · obtain ⟨_, h1, h2, h3⟩ := gT_who ht
        have hc' := hc.2 h3
        rw [h1, h2] at hc'
        have := (List.getElem?_eq_some_iff.mp hc').1
        have e1 : tN a b [L[n]] = 1 := by simp [tN, ht]
        simp only [List.length_append] at this ⊢
        omega
      · have e1 : tN a b [L[n]] = 0 := by simp [tN, ht]
        simp only [List.length_append] at this ⊢
        omega
  have := key L.length (Nat.le_refl _)
  rw [List.take_of_length_le (Nat.le_refl _)] at this
  exact this
/-! ### the market and its log -/
structure RInv (c0 : List Int) (r0 : Nat → Nat → List Int) (m : Mkt) : Prop where
  ev : ∀ e ∈ m.told, EvIn m.n e
  pu : ∀ i, i < m.n → m.purses[i]? = some (bal (c0.getD i 0) (ofM i m.told))
  ro : ∀ a b, a < m.n ∧ b < m.n ∧ a ≠ b → parOn (m.roads a b) = (parc a b (r0 a b) m.told).drop (tN a b m.told)
  run : Runs c0 r0 m.told
theorem rinv_marks {c0 : List Int} {r0 : Nat → Nat → List Int} {m m' : Mkt} (h : RInv c0 r0 m) (e1 : m'.n = m.n) (e2 : m'.told = m.told) (e3 : m'.purses = m.purses) (e4 : ∀ a b, parOn (m'.roads a b) = parOn (m.roads a b)) : RInv c0 r0 m' :=
  ⟨by rw [e1, e2]; exact h.ev, by rw [e1, e2, e3]; exact h.pu, by rw [e1, e2]; exact fun a b z => (e4 a b).trans (h.ro a b z), by rw [e2]; exact h.run⟩
theorem parOn_app (l l' : List Par) : parOn (l ++ l') = parOn l ++ parOn l' := List.filterMap_append
theorem parOn_mark (k : Nat) (l : List Par) : parOn (.mark k :: l) = parOn l := rfl
theorem parOn_coins (x : Int) (n : Option Nat) (l : List Par) : parOn (.coins x n :: l) = (x, n) :: parOn l := rfl
theorem parOn_markTo (ro : Nat → Nat → List Par) (i k j a b : Nat) : parOn (markTo ro i k j a b) = parOn (ro a b) := by
  unfold markTo; split
  · rw [parOn_app, show parOn [Par.mark k] = [] from rfl, List.append_nil]
  · rfl
theorem writeM_par (m : Mkt) (k i : Nat) (but : Option Nat) (a b : Nat) : parOn ((writeM m k i but).roads a b) = parOn (m.roads a b) := by
  unfold writeM; split
  · rfl
  · exact parOn_markTo _ _ _ _ _ _
theorem markM_par (m : Mkt) (k a b c d : Nat) : parOn ((markM m k a b).roads c d) = parOn (m.roads c d) := by
  unfold markM; split
  · rfl
  · split
    · rfl
    · exact writeM_par _ _ _ _ _ _
theorem setAt {α : Type} {l : List α} {i j : Nat} {x : α} (hi : i < l.length) : (l.set i x)[j]? = if j = i then some x else l[j]? := by
  rw [List.getElem?_set]
  by_cases h : i = j
  · subst h; simp [hi]
  · simp [h]; intro z; exact absurd z.symm h
theorem getD_of {α : Type} {l : List α} {i : Nat} {x d : α} (h : l[i]? = some x) : l.getD i d = x := by rw [List.getD_eq_getElem?_getD, h]; rfl
theorem rinv_give {c0 : List Int} {r0 : Nat → Nat → List Int} {m : Mkt} (hw : WF m) (h : RInv c0 r0 m) {a b : Nat} {x : Int} (ha : a < m.n ∧ b < m.n ∧ a ≠ b) (hx : ¬ x > m.purses.getD a 0) : RInv c0 r0 (giveM m a b x) := by
  have eL : (giveM m a b x).told = m.told ++ [⟨true, a, b, x⟩] := rfl
  have hp := h.pu a ha.1
  refine ⟨?_, ?_, ?_, ?_⟩
  · rw [eL]
    intro e he
    rcases List.mem_append.mp he with z | z
    · exact h.ev e z
    · simp at z; subst z; exact ha
  · intro i hi
    have hi' : i < m.n := hi
    rw [eL, ofM_app, bal_app, ofM_one]
    show (m.purses.set a (m.purses.getD a 0 - x))[i]? = _
    rw [setAt (by rw [hw.pl]; exact ha.1), getD_of hp]
    by_cases e : i = a
    · subst e
      simp [who, bal1]; omega
    · rw [if_neg e, h.pu i hi']
      have : ¬ who ⟨true, a, b, x⟩ = i := fun z => e z.symm
      rw [if_neg this]; simp
  · intro c d hcd
    rw [eL, tN_app]
    have e1 : tN c d [⟨true, a, b, x⟩] = 0 := by simp [tN, isT]
    rw [e1, Nat.add_zero]
    show parOn (up2 m.roads a b (m.roads a b ++ [.coins x (some m.told.length)]) c d) = _
    have hro := h.ro c d hcd
    have hle := runs_tN h.run c d
    rw [← parc_len] at hle
    unfold parc at hle ⊢
    rw [gNum_app1]
    by_cases e : c = a ∧ d = b
    · obtain ⟨rfl, rfl⟩ := e
      rw [up2_same, parOn_app, hro, if_pos (by simp [isG]), ← List.append_assoc, List.drop_append_of_le_length hle]; rfl
    · rw [up2_ne e, hro, if_neg (by simp [isG]; intro z1 z2; exact e ⟨z1.symm, z2.symm⟩), List.append_nil]; rfl
  · rw [eL, runs_snoc]
    refine ⟨h.run, fun _ => ?_, fun z => nomatch z⟩
    rw [getD_of hp] at hx
    show x ≤ bal (c0.getD a 0) (ofM a m.told)
    omega
theorem rinv_parcel {c0 : List Int} {r0 : Nat → Nat → List Int} {m : Mkt} (hw : WF m) (h : RInv c0 r0 m) {a b : Nat} {x : Int} {num : Option Nat} {rest : List Par} (ha : a < m.n ∧ b < m.n ∧ a ≠ b) (e : m.roads a b = .coins x num :: rest) : RInv c0 r0 (parcelM { m with roads := up2 m.roads a b rest } a b x num) ∧ (parc a b (r0 a b) m.told)[tN a b m.told]? = some (x, num) := by
  have eL : (parcelM { m with roads := up2 m.roads a b rest } a b x num).told = m.told ++ [⟨false, a, b, x⟩] := rfl
  have hp := h.pu b ha.2.1
  have hro := h.ro a b ha
  rw [e, parOn_coins] at hro
  have hhd : (parc a b (r0 a b) m.told)[tN a b m.told]? = some (x, num) := by
    have := congrArg List.head? hro
    rw [List.head?_drop] at this
    exact this.symm
  have htl : (parc a b (r0 a b) m.told).drop (tN a b m.told + 1) = parOn rest := by
    have := congrArg List.tail hro
    rw [List.tail_drop] at this
    exact this.symm
  refine ⟨⟨?_, ?_, ?_, ?_⟩, hhd⟩
  · rw [eL]
    intro e he
    rcases List.mem_append.mp he with z | z
    · exact h.ev e z
    · simp at z; subst z; exact ha
  · intro i hi
    have hi' : i < m.n := hi
    rw [eL, ofM_app, bal_app, ofM_one]
    show (m.purses.set b (m.purses.getD b 0 + x))[i]? = _
    rw [setAt (by rw [hw.pl]; exact ha.2.1), getD_of hp]
    by_cases ei : i = b
    · subst ei
      simp [who, bal1]
    · rw [if_neg ei, h.pu i hi']
      have : ¬ who ⟨false, a, b, x⟩ = i := fun z => ei z.symm
      rw [if_neg this]; simp
  · intro c d hcd
    rw [eL, tN_app]
    show parOn (up2 m.roads a b rest c d) = _
    unfold parc
    rw [gNum_app1, if_neg (by simp [isG]), List.append_nil]
    by_cases ec : c = a ∧ d = b
    · obtain ⟨rfl, rfl⟩ := ec
      have e1 : tN c d [⟨false, c, d, x⟩] = 1 := by simp [tN, isT]
      rw [up2_same, e1]; exact htl.symm
    · have e1 : tN c d [⟨false, a, b, x⟩] = 0 := by simp [tN, isT]; intro z1 z2; exact ec ⟨z1.symm, z2.symm⟩
      rw [up2_ne ec, e1]; exact h.ro c d hcd
  · rw [eL, runs_snoc]
    refine ⟨h.run, And.intro (fun z => Bool.noConfusion z) fun _ => ?_⟩
    show (r0 a b ++ gAm a b m.told)[tN a b m.told]? = some x
    rw [← parc_fst, List.getElem?_map, hhd]; rfl
theorem rinv_take {c0 : List Int} {r0 : Nat → Nat → List Int} {m : Mkt} (hw : WF m) (h : RInv c0 r0 m) {a b : Nat} (ha : a < m.n ∧ b < m.n ∧ a ≠ b) : RInv c0 r0 (takeM m a b) := by
  unfold takeM
  cases e : m.roads a b with
  | nil => exact h
  | cons p rest =>
    cases p with
    | coins x num => exact (rinv_parcel hw h ha e).1
    | mark k =>
      obtain ⟨s1, _, _, s4, _, s6⟩ := markM_same { m with roads := up2 m.roads a b rest } k a b
      refine rinv_marks h s4 s1 s6 fun c d => ?_
      show parOn ((markM { m with roads := up2 m.roads a b rest } k a b).roads c d) = _
      rw [markM_par]
      show parOn (up2 m.roads a b rest c d) = _
      by_cases ec : c = a ∧ d = b
      · obtain ⟨rfl, rfl⟩ := ec
        rw [up2_same, e, parOn_mark]
      · rw [up2_ne ec]
theorem rinv_step {c0 : List Int} {r0 : Nat → Nat → List Int} {m : Mkt} (hw : WF m) (h : RInv c0 r0 m) {act : Act} (ha : ActOk m.n act) : RInv c0 r0 (stepM m act).2 := by
  cases act with
  | take a b => exact rinv_take hw h ha
  | give a b x =>
    show RInv c0 r0 (if x > m.purses.getD a 0 then (D.str "no coins", m) else (D.non, giveM m a b x)).2
    split
    · exact h
    · next hx => exact rinv_give hw h ha hx
  | begin a =>
    obtain ⟨s1, _, _, s4, _, s6⟩ := writeM_same { m with shots := m.shots ++ [newSh m.n] } m.shots.length a none
    exact rinv_marks h s4 s1 s6 fun c d => writeM_par _ _ _ _ _ _
theorem rinv_new (coins : List Int) : RInv coins (fun _ _ => []) (newM coins) := by
  refine ⟨by simp [newM], fun i hi => ?_, fun a b _ => rfl, runs_nil _ _⟩
  show coins[i]? = some (coins.getD i 0 + 0)
  have hi' : i < coins.length := hi
  simp [hi']
end SS
namespace SS
open PySem L2
/-! ### what pictures hold, by the log -/
def wrote (s : Sh) (i : Nat) : Prop := (s.written.getD i none).isSome = true
def cutN (s : Sh) (i : Nat) : Nat := ((s.cut.getD i none).getD 0).toNat
def amts (r0 : Nat → Nat → List Int) (a b : Nat) (L : List Ev) : List Int := r0 a b ++ gAm a b L
def gA (r0 : Nat → Nat → List Int) (s : Sh) (a b : Nat) (L : List Ev) : Nat := (r0 a b).length + (gAm a b ((ofM a L).take (cutN s a))).length
def tB (s : Sh) (a b : Nat) (L : List Ev) : Nat := tN a b ((ofM b L).take (cutN s b))
structure SLie (c0 : List Int) (r0 : Nat → Nat → List Int) (m : Mkt) (k : Nat) (s : Sh) : Prop where
  wc : ∀ i, i < m.n → wrote s i → s.cut[i]? = some (some (cutN s i : Int)) ∧ cutN s i ≤ (ofM i m.told).length ∧ s.written[i]? = some (some (bal (c0.getD i 0) ((ofM i m.told).take (cutN s i))))
  l0 : ∀ a b, a < m.n ∧ b < m.n ∧ a ≠ b → ¬ wrote s b → s.lying a b = []
  lw : ∀ a b, a < m.n ∧ b < m.n ∧ a ≠ b → wrote s b → (a, b) ∈ s.watched → s.lying a b = ((amts r0 a b m.told).take (tN a b m.told)).drop (tB s a b m.told)
  ld : ∀ a b, a < m.n ∧ b < m.n ∧ a ≠ b → wrote s b → (a, b) ∉ s.watched → tB s a b m.told ≤ gA r0 s a b m.told ∧ gA r0 s a b m.told ≤ tN a b m.told ∧ s.lying a b = ((amts r0 a b m.told).take (gA r0 s a b m.told)).drop (tB s a b m.told)
  mp : ∀ a b pre post, a < m.n ∧ b < m.n ∧ a ≠ b → wrote s a → m.roads a b = pre ++ .mark k :: post → Par.mark k ∉ pre → (parOn pre).length + tN a b m.told = gA r0 s a b m.told
theorem tB_le (s : Sh) (a b : Nat) (L : List Ev) : tB s a b L ≤ tN a b L := by
  unfold tB
  have := tN_app a b ((ofM b L).take (cutN s b)) ((ofM b L).drop (cutN s b))
  rw [List.take_append_drop, tN_ofM] at this
  omega
theorem gA_le (r0 : Nat → Nat → List Int) (s : Sh) (a b : Nat) (L : List Ev) : gA r0 s a b L ≤ (amts r0 a b L).length := by
  unfold gA amts
  have := gAm_app a b ((ofM a L).take (cutN s a)) ((ofM a L).drop (cutN s a))
  rw [List.take_append_drop, gAm_ofM] at this
  rw [this]; simp
theorem take_ofM {i c : Nat} {L : List Ev} (e : Ev) (h : c ≤ (ofM i L).length) : (ofM i (L ++ [e])).take c = (ofM i L).take c := by
  rw [ofM_app, List.take_append_of_le_length h]
theorem tB_snoc {s : Sh} {a b : Nat} {L : List Ev} (e : Ev) (h : cutN s b ≤ (ofM b L).length) : tB s a b (L ++ [e]) = tB s a b L := by
  unfold tB; rw [take_ofM e h]
theorem gA_snoc {r0 : Nat → Nat → List Int} {s : Sh} {a b : Nat} {L : List Ev} (e : Ev) (h : cutN s a ≤ (ofM a L).length) : gA r0 s a b (L ++ [e]) = gA r0 s a b L := by
  unfold gA; rw [take_ofM e h]
theorem amts_snoc (r0 : Nat → Nat → List Int) (a b : Nat) (L : List Ev) (e : Ev) : amts r0 a b (L ++ [e]) = amts r0 a b L ++ gAm a b [e] := by
  unfold amts; rw [gAm_app, List.append_assoc]
theorem snoc_split {α : Type} {l pre post : List α} {x y : α} (h : l ++ [y] = pre ++ x :: post) (hn : x ≠ y) : ∃ post', l = pre ++ x :: post' := by
  rcases List.eq_nil_or_concat post with rfl | ⟨p, z, rfl⟩
  · have := congrArg List.getLast? h
    simp at this
    exact absurd this.symm hn
  · refine ⟨p, ?_⟩
    have h' : l ++ [y] = (pre ++ x :: p) ++ [z] := by rw [h]; simp
    exact (List.append_inj' h' rfl).1
theorem snoc_only {α : Type} {l pre post : List α} {x : α} (h : l ++ [x] = pre ++ x :: post) (hl : x ∉ l) : pre = l := by
  rcases List.eq_nil_or_concat post with rfl | ⟨p, z, rfl⟩
  · exact ((List.append_inj' h rfl).1).symm
  · have h' : l ++ [x] = (pre ++ x :: p) ++ [z] := by rw [h]; simp
    have := (List.append_inj' h' rfl).1
    exact absurd (by rw [this]; simp) hl
/-- who watches no more got the mark -/
theorem wrote_of {m : Mkt} (si : SInv m) {k : Nat} {s : Sh} (hk : m.shots[k]? = some s) {a b : Nat} (hab : a < m.n ∧ b < m.n ∧ a ≠ b) (hw : wrote s b) (hn : (a, b) ∉ s.watched) : wrote s a := by
  refine Classical.byContradiction fun z => hn (si.unw k s b a hk hab.2.1 hab.1 hab.2.2 hw ?_)
  simpa [wrote] using z
theorem slie_give {c0 : List Int} {r0 : Nat → Nat → List Int} {m : Mkt} {k : Nat} {s : Sh} (si : SInv m) (hk : m.shots[k]? = some s) (hr : RInv c0 r0 m) (h : SLie c0 r0 m k s) (a b : Nat) (x : Int) : SLie c0 r0 (giveM m a b x) k s := by
  have eL : (giveM m a b x).told = m.told ++ [⟨true, a, b, x⟩] := rfl
  have et : ∀ c d, tN c d (m.told ++ [⟨true, a, b, x⟩]) = tN c d m.told := fun c d => by rw [tN_app]; simp [tN, isT]
  refine ⟨fun i hi hw => ?_, h.l0, fun c d hcd hw hwa => ?_, fun c d hcd hw hwa => ?_, fun c d pre post hcd hw e hp => ?_⟩
  · obtain ⟨h1, h2, h3⟩ := h.wc i hi hw
    rw [eL, take_ofM _ h2]
    exact ⟨h1, by rw [ofM_app, List.length_append]; omega, h3⟩
  · rw [eL, et, tB_snoc _ (h.wc d hcd.2.1 hw).2.1, amts_snoc, List.take_append_of_le_length (show tN c d m.told ≤ (amts r0 c d m.told).length from runs_tN hr.run c d)]
    exact h.lw c d hcd hw hwa
  · obtain ⟨h1, h2, h3⟩ := h.ld c d hcd hw hwa
    have hc := (h.wc c hcd.1 (wrote_of si hk hcd hw hwa)).2.1
    rw [eL, et, tB_snoc _ (h.wc d hcd.2.1 hw).2.1, gA_snoc _ hc, amts_snoc, List.take_append_of_le_length (gA_le r0 s c d m.told)]
    exact ⟨h1, h2, h3⟩
  · have hcut := (h.wc c hcd.1 hw).2.1
    rw [eL, et, gA_snoc _ hcut]
    have e' : up2 m.roads a b (m.roads a b ++ [.coins x (some m.told.length)]) c d = pre ++ .mark k :: post := e
    by_cases z : c = a ∧ d = b
    · obtain ⟨rfl, rfl⟩ := z
      rw [up2_same] at e'
      obtain ⟨post', e2⟩ := snoc_split e' (by simp)
      exact h.mp c d pre post' hcd hw e2 hp
    · rw [up2_ne z] at e'
      exact h.mp c d pre post hcd hw e' hp
theorem slie_parcel {c0 : List Int} {r0 : Nat → Nat → List Int} {m : Mkt} {k : Nat} {s : Sh} (si : SInv m) (hk : m.shots[k]? = some s) (hw0 : WF m) (hr : RInv c0 r0 m) (h : SLie c0 r0 m k s) {a b : Nat} {x : Int} {num : Option Nat} {rest : List Par} (ha : a < m.n ∧ b < m.n ∧ a ≠ b) (e : m.roads a b = .coins x num :: rest) :
    SLie c0 r0 (parcelM { m with roads := up2 m.roads a b rest } a b x num) k (shotParcel a b x s) := by
  have eL : (parcelM { m with roads := up2 m.roads a b rest } a b x num).told = m.told ++ [⟨false, a, b, x⟩] := rfl
  have hx : (amts r0 a b m.told)[tN a b m.told]? = some x := by
    have := (rinv_parcel hw0 hr ha e).2
    unfold amts; rw [← parc_fst, List.getElem?_map, this]; rfl
  have eg : ∀ c d, amts r0 c d (m.told ++ [⟨false, a, b, x⟩]) = amts r0 c d m.told := fun c d => by rw [amts_snoc]; simp [gAm, isG]
  have et : ∀ c d, ¬ (c = a ∧ d = b) → tN c d (m.told ++ [⟨false, a, b, x⟩]) = tN c d m.told := fun c d z => by
    rw [tN_app]
    have : tN c d [⟨false, a, b, x⟩] = 0 := by simp [tN, isT]; intro z1 z2; exact z ⟨z1.symm, z2.symm⟩
    omega
  have et' : tN a b (m.told ++ [⟨false, a, b, x⟩]) = tN a b m.told + 1 := by rw [tN_app]; simp [tN, isT]
  have sw : (shotParcel a b x s).written = s.written := by unfold shotParcel; split <;> rfl
  have sc : (shotParcel a b x s).cut = s.cut := by unfold shotParcel; split <;> rfl
  have swa : (shotParcel a b x s).watched = s.watched := by unfold shotParcel; split <;> rfl
  have wr : ∀ i, wrote (shotParcel a b x s) i ↔ wrote s i := fun i => by unfold wrote; rw [sw]
  have cn : ∀ i, cutN (shotParcel a b x s) i = cutN s i := fun i => by unfold cutN; rw [sc]
  have ga : ∀ c d L, gA r0 (shotParcel a b x s) c d L = gA r0 s c d L := fun c d L => by unfold gA; rw [cn]
  have tb : ∀ c d L, tB (shotParcel a b x s) c d L = tB s c d L := fun c d L => by unfold tB; rw [cn]
  have ly : ∀ c d, ¬ (c = a ∧ d = b) → (shotParcel a b x s).lying c d = s.lying c d := fun c d z => by
    unfold shotParcel; split
    · show up2 s.lying a b _ c d = _; rw [up2_ne z]
    · rfl
  have ly' : (a, b) ∉ s.watched → (shotParcel a b x s).lying a b = s.lying a b := fun z => by unfold shotParcel; rw [if_neg z]
  refine ⟨fun i hi hw => ?_, fun c d hcd hw => ?_, fun c d hcd hw hwa => ?_, fun c d hcd hw hwa => ?_, fun c d pre post hcd hw e' hp => ?_⟩
  · rw [wr] at hw
    obtain ⟨h1, h2, h3⟩ := h.wc i hi hw
    rw [eL, cn, sc, sw, take_ofM _ h2]
    exact ⟨h1, by rw [ofM_app, List.length_append]; omega, h3⟩
  · rw [wr] at hw
    by_cases z : c = a ∧ d = b
    · obtain ⟨rfl, rfl⟩ := z
      rw [ly' fun q => hw (si.wat k s c d hk q).2]
      exact h.l0 c d hcd hw
    · rw [ly c d z]; exact h.l0 c d hcd hw
  · rw [wr] at hw
    rw [swa] at hwa
    rw [eL, eg, tb, tB_snoc _ (h.wc d hcd.2.1 hw).2.1]
    have hlw := h.lw c d hcd hw hwa
    by_cases z : c = a ∧ d = b
    · obtain ⟨rfl, rfl⟩ := z
      have e1 : (shotParcel c d x s).lying c d = s.lying c d ++ [x] := by
        unfold shotParcel; rw [if_pos hwa]; show up2 s.lying c d _ c d = _; rw [up2_same]
      rw [e1, et', take_one hx, hlw, List.drop_append_of_le_length]
      have := tB_le s c d m.told
      have := (List.getElem?_eq_some_iff.mp hx).1
      rw [List.length_take]; omega
    · rw [et c d z, ly c d z]; exact hlw
  · rw [wr] at hw
    rw [swa] at hwa
    obtain ⟨h1, h2, h3⟩ := h.ld c d hcd hw hwa
    have hc := (h.wc c hcd.1 (wrote_of si hk hcd hw hwa)).2.1
    rw [eL, eg, tb, ga, tB_snoc _ (h.wc d hcd.2.1 hw).2.1, gA_snoc _ hc]
    by_cases z : c = a ∧ d = b
    · obtain ⟨rfl, rfl⟩ := z
      rw [et', ly' hwa]; exact ⟨h1, by omega, h3⟩
    · rw [et c d z, ly c d z]; exact ⟨h1, h2, h3⟩
  · rw [wr] at hw
    have hcut := (h.wc c hcd.1 hw).2.1
    rw [eL, ga, gA_snoc _ hcut]
    have e2 : up2 m.roads a b rest c d = pre ++ .mark k :: post := e'
    by_cases z : c = a ∧ d = b
    · obtain ⟨rfl, rfl⟩ := z
      rw [up2_same] at e2
      have := h.mp c d (.coins x num :: pre) post hcd hw (by rw [e, e2]; rfl) (by simp; exact hp)
      rw [parOn_coins, List.length_cons] at this
      rw [et']; omega
    · rw [up2_ne z] at e2
      rw [et c d z]
      exact h.mp c d pre post hcd hw e2 hp
/-- a picture that is not met: only marks of another one move -/
theorem slie_other {c0 : List Int} {r0 : Nat → Nat → List Int} {m m' : Mkt} {k : Nat} {s : Sh} (h : SLie c0 r0 m k s) (e1 : m'.n = m.n) (e2 : m'.told = m.told)
    (hm : ∀ c d pre post, m'.roads c d = pre ++ .mark k :: post → Par.mark k ∉ pre → ∃ pre' post', m.roads c d = pre' ++ .mark k :: post' ∧ Par.mark k ∉ pre' ∧ (parOn pre').length = (parOn pre).length) : SLie c0 r0 m' k s := by
  refine ⟨by rw [e1, e2]; exact h.wc, by rw [e1]; exact h.l0, by rw [e1, e2]; exact h.lw, by rw [e1, e2]; exact h.ld, ?_⟩
  rw [e1, e2]
  intro c d pre post hcd hw e hp
  obtain ⟨pre', post', g1, g2, g3⟩ := hm c d pre post e hp
  have := h.mp c d pre' post' hcd hw g1 g2
  omega
theorem marks_none {k : Nat} {l : List Par} (h : marks k l = 0) : Par.mark k ∉ l := by
  intro z
  have : 0 < marks k l := by unfold marks; rw [List.countP_pos_iff]; exact ⟨_, z, by simp⟩
  omega
theorem slie_leave {c0 : List Int} {r0 : Nat → Nat → List Int} {m : Mkt} {k : Nat} {s : Sh} (si : SInv m) (hk : m.shots[k]? = some s) (h : SLie c0 r0 m k s) {a b : Nat} {rest : List Par} (ha : a < m.n ∧ b < m.n ∧ a ≠ b) (e : m.roads a b = .mark k :: rest) (hwb : wrote s b) (ss : List Sh) :
    SLie c0 r0 { m with roads := up2 m.roads a b rest, shots := ss } k (shLeave s a b) := by
  have hmk := si.mks k s a b hk ha.1 ha.2.1 ha.2.2
  rw [e, marks_mark, if_pos rfl] at hmk
  have hc : (s.written.getD a none).isSome = true ∧ ((s.written.getD b none).isSome = false ∨ (a, b) ∈ s.watched) := by
    refine Classical.byContradiction fun z => ?_
    rw [if_neg z] at hmk; omega
  rw [if_pos hc] at hmk
  have hwat : (a, b) ∈ s.watched := by
    rcases hc.2 with z | z
    · have : wrote s b := hwb
      unfold wrote at this; rw [this] at z; cases z
    · exact z
  have htn := h.mp a b [] rest ha hc.1 (by rw [e]; rfl) (by simp)
  have htn' : tN a b m.told = gA r0 s a b m.told := by simpa [parOn] using htn
  refine ⟨h.wc, h.l0, fun c d hcd hw hwa => ?_, fun c d hcd hw hwa => ?_, fun c d pre post hcd hw e' hp => ?_⟩
  · have := List.mem_filter.mp hwa
    exact h.lw c d hcd hw this.1
  · by_cases z : c = a ∧ d = b
    · obtain ⟨rfl, rfl⟩ := z
      have h1 := h.lw c d hcd hw hwat
      have h2 := tB_le s c d m.told
      show tB s c d m.told ≤ gA r0 s c d m.told ∧ gA r0 s c d m.told ≤ tN c d m.told ∧ s.lying c d = ((amts r0 c d m.told).take (gA r0 s c d m.told)).drop (tB s c d m.told)
      rw [← htn']
      exact ⟨h2, Nat.le_refl _, h1⟩
    · refine h.ld c d hcd hw fun q => hwa (List.mem_filter.mpr ⟨q, ?_⟩)
      simp; omega
  · have e2 : up2 m.roads a b rest c d = pre ++ .mark k :: post := e'
    by_cases z : c = a ∧ d = b
    · obtain ⟨rfl, rfl⟩ := z
      rw [up2_same] at e2
      exact absurd (by rw [e2]; simp) (marks_none (l := rest) (k := k) (by omega))
    · rw [up2_ne z] at e2
      exact h.mp c d pre post hcd hw e2 hp
theorem getD_set {α : Type} (l : List α) (i j : Nat) (x d : α) (h : i < l.length) : (l.set i x).getD j d = if j = i then x else l.getD j d := set_getD l i j x d h
/-- a member writes for a picture -/
theorem slie_write {c0 : List Int} {r0 : Nat → Nat → List Int} {m m1 : Mkt} {k : Nat} {s : Sh} (hr : RInv c0 r0 m) (h : SLie c0 r0 m1 k s) (wl : s.written.length = m.n) (cl : s.cut.length = m.n)
    {b : Nat} {but : Option Nat} (hb : b < m.n) (hnb : ¬ wrote s b) (e1 : m1.n = m.n) (e2 : m1.told = m.told) (ro : Nat → Nat → List Par) (hro : ∀ c d, c < m.n ∧ d < m.n ∧ c ≠ d → parOn (ro c d) = parOn (m.roads c d))
    (hwat : ∀ c d, (c, d) ∈ s.watched → wrote s d) (hunw : ∀ d, d < m.n → d ≠ b → wrote s d → (b, d) ∈ s.watched)
    (hbut : ∀ a, but = some a → a < m.n → a ≠ b → wrote s a ∧ tN a b m.told = gA r0 s a b m.told)
    (hmb : ∀ d, d < m.n → d ≠ b → Par.mark k ∉ ro b d) (hm1 : ∀ c d, c ≠ b → ro c d = m1.roads c d) (ss : List Sh) :
    SLie c0 r0 { m with roads := markTo ro b k m.n, shots := ss } k (shWrite m.n s b (m.purses.getD b 0) (cnt m.told b) but) := by
  have hcb : cutN (shWrite m.n s b (m.purses.getD b 0) (cnt m.told b) but) b = (ofM b m.told).length := by
    unfold cutN
    show (((s.cut.set b (some (cnt m.told b))).getD b none).getD 0).toNat = _
    rw [getD_set _ _ _ _ _ (by omega), if_pos rfl, ← ofM_len]; simp
  have hcn : ∀ i, i ≠ b → cutN (shWrite m.n s b (m.purses.getD b 0) (cnt m.told b) but) i = cutN s i := fun i hi => by
    unfold cutN
    show (((s.cut.set b (some (cnt m.told b))).getD i none).getD 0).toNat = _
    rw [getD_set _ _ _ _ _ (by omega), if_neg hi]
  have hwr : ∀ i, wrote (shWrite m.n s b (m.purses.getD b 0) (cnt m.told b) but) i ↔ wrote s i ∨ i = b := fun i => by
    unfold wrote
    show ((s.written.set b (some (m.purses.getD b 0))).getD i none).isSome = true ↔ _
    rw [getD_set _ _ _ _ _ (by omega)]
    by_cases z : i = b
    · rw [if_pos z]; simp [z]
    · rw [if_neg z]; simp [z]
  have hga : ∀ c d, c ≠ b → gA r0 (shWrite m.n s b (m.purses.getD b 0) (cnt m.told b) but) c d m.told = gA r0 s c d m.told := fun c d hc => by unfold gA; rw [hcn c hc]
  have htb : ∀ c d, d ≠ b → tB (shWrite m.n s b (m.purses.getD b 0) (cnt m.told b) but) c d m.told = tB s c d m.told := fun c d hd => by unfold tB; rw [hcn d hd]
  have htbb : ∀ c, tB (shWrite m.n s b (m.purses.getD b 0) (cnt m.told b) but) c b m.told = tN c b m.told := fun c => by
    unfold tB; rw [hcb, List.take_of_length_le (Nat.le_refl _), tN_ofM]
  have hgab : ∀ d, gA r0 (shWrite m.n s b (m.purses.getD b 0) (cnt m.told b) but) b d m.told = (amts r0 b d m.told).length := fun d => by
    unfold gA amts; rw [hcb, List.take_of_length_le (Nat.le_refl _), gAm_ofM]; simp
  refine ⟨fun i hi hw => ?_, fun c d hcd hw => ?_, fun c d hcd hw hwa => ?_, fun c d hcd hw hwa => ?_, fun c d pre post hcd hw e' hp => ?_⟩
  · by_cases z : i = b
    · subst z
      rw [hcb]
      refine ⟨?_, Nat.le_refl _, ?_⟩
      · show (s.cut.set i (some (cnt m.told i)))[i]? = _
        rw [setAt (by omega), if_pos rfl, ← ofM_len]
      · show (s.written.set i (some (m.purses.getD i 0)))[i]? = _
        rw [setAt (by omega), if_pos rfl, List.take_of_length_le (Nat.le_refl _), getD_of (hr.pu i hi)]
    · have hw' : wrote s i := by rcases (hwr i).mp hw with q | q; exact q; exact absurd q z
      have := h.wc i (by rw [e1]; exact hi) hw'
      rw [e2] at this
      rw [hcn i z]
      refine ⟨?_, this.2.1, ?_⟩
      · show (s.cut.set b (some (cnt m.told b)))[i]? = _
        rw [setAt (by omega), if_neg z]; exact this.1
      · show (s.written.set b (some (m.purses.getD b 0)))[i]? = _
        rw [setAt (by omega), if_neg z]; exact this.2.2
  · exact h.l0 c d (by rw [e1]; exact hcd) fun q => hw ((hwr d).mpr (.inl q))
  · have hwa' : (c, d) ∈ watchTo b but s.watched m.n := hwa
    rw [mem_watch] at hwa'
    by_cases z : d = b
    · subst z
      have : s.lying c d = [] := h.l0 c d (by rw [e1]; exact hcd) hnb
      show s.lying c d = _
      rw [this, htbb, List.drop_eq_nil_of_le]
      rw [List.length_take]; exact Nat.min_le_left _ _
    · have hq : (c, d) ∈ s.watched := by
        rcases hwa' with q | q
        · exact q
        · exact absurd q.1 z
      have hw' : wrote s d := by rcases (hwr d).mp hw with q | q; exact q; exact absurd q z
      have := h.lw c d (by rw [e1]; exact hcd) hw' hq
      rw [e2] at this
      rw [htb c d z]; exact this
  · have hwa' : (c, d) ∉ watchTo b but s.watched m.n := hwa
    rw [mem_watch] at hwa'
    by_cases z : d = b
    · subst z
      have hbt : but = some c := by
        refine Classical.byContradiction fun q => hwa' (.inr ⟨rfl, hcd.1, hcd.2.2, fun q' => q q'.symm⟩)
      obtain ⟨_, hg⟩ := hbut c hbt hcd.1 hcd.2.2
      have : s.lying c d = [] := h.l0 c d (by rw [e1]; exact hcd) hnb
      rw [htbb, hga c d hcd.2.2, ← hg]
      refine ⟨Nat.le_refl _, Nat.le_refl _, ?_⟩
      show s.lying c d = _
      rw [this, List.drop_eq_nil_of_le]
      rw [List.length_take]; omega
    · have hw' : wrote s d := by rcases (hwr d).mp hw with q | q; exact q; exact absurd q z
      have hq : (c, d) ∉ s.watched := fun q => hwa' (.inl q)
      have hcb' : c ≠ b := fun q => by subst q; exact hq (hunw d hcd.2.1 z hw')
      have := h.ld c d (by rw [e1]; exact hcd) hw' hq
      rw [e2] at this
      rw [htb c d z, hga c d hcb']; exact this
  · have e3 : markTo ro b k m.n c d = pre ++ .mark k :: post := e'
    unfold markTo at e3
    by_cases z : c = b
    · subst z
      rw [if_pos ⟨rfl, hcd.2.1, Ne.symm hcd.2.2⟩] at e3
      have := snoc_only e3 (hmb d hcd.2.1 (Ne.symm hcd.2.2))
      rw [this, hgab, hro c d hcd, hr.ro c d hcd, List.length_drop, parc_len]
      have := runs_tN hr.run c d
      unfold amts
      show (r0 c d ++ gAm c d m.told).length - tN c d m.told + tN c d m.told = _
      omega
    · rw [if_neg fun q => z q.1] at e3
      have hw' : wrote s c := by rcases (hwr c).mp hw with q | q; exact q; exact absurd q z
      rw [hm1 c d z] at e3
      have := h.mp c d pre post (by rw [e1]; exact hcd) hw' e3 hp
      rw [e2] at this
      rw [hga c d z]; exact this
end SS
namespace SS
open PySem L2
def SLieAll (c0 : List Int) (r0 : Nat → Nat → List Int) (m : Mkt) : Prop := ∀ (k : Nat) (s : Sh), m.shots[k]? = some s → SLie c0 r0 m k s
theorem not_wrote {s : Sh} {b : Nat} (h : ¬ wrote s b) : (s.written.getD b none).isSome = false := by simpa [wrote] using h
theorem slie_take {c0 : List Int} {r0 : Nat → Nat → List Int} {m : Mkt} (hw : WF m) (si : SInv m) (hr : RInv c0 r0 m) (h : SLieAll c0 r0 m) {a b : Nat} (ha : a < m.n ∧ b < m.n ∧ a ≠ b) : SLieAll c0 r0 (takeM m a b) := by
  unfold takeM
  cases e : m.roads a b with
  | nil => exact h
  | cons p rest =>
    cases p with
    | coins x num =>
      intro k s' hk'
      have hk2 : (m.shots.map (shotParcel a b x))[k]? = some s' := hk'
      rw [List.getElem?_map] at hk2
      cases hk : m.shots[k]? with
      | none => rw [hk] at hk2; cases hk2
      | some s =>
        rw [hk] at hk2; cases hk2
        exact slie_parcel si hk hw hr (h k s hk) ha e
    | mark k =>
      show SLieAll c0 r0 (markM { m with roads := up2 m.roads a b rest } k a b)
      have hkl := si.fr a b k (by rw [e]; exact List.mem_cons_self)
      obtain ⟨s, hk⟩ : ∃ s, m.shots[k]? = some s := ⟨m.shots[k], by simp [hkl]⟩
      have hmk := si.mks k s a b hk ha.1 ha.2.1 ha.2.2
      rw [e, marks_mark, if_pos rfl] at hmk
      have hc : (s.written.getD a none).isSome = true ∧ ((s.written.getD b none).isSome = false ∨ (a, b) ∈ s.watched) := by
        refine Classical.byContradiction fun z => ?_
        rw [if_neg z] at hmk; omega
      rw [if_pos hc] at hmk
      have hrest : Par.mark k ∉ rest := marks_none (by omega)
      -- another picture, the mark gone
      have oth : ∀ (q : Nat), q ≠ k → ∀ c d pre post, up2 m.roads a b rest c d = pre ++ .mark q :: post → Par.mark q ∉ pre → ∃ pre' post', m.roads c d = pre' ++ .mark q :: post' ∧ Par.mark q ∉ pre' ∧ (parOn pre').length = (parOn pre).length := by
        intro q hq c d pre post e2 hp
        by_cases z : c = a ∧ d = b
        · obtain ⟨rfl, rfl⟩ := z
          rw [up2_same] at e2
          exact ⟨.mark k :: pre, post, by rw [e, e2]; rfl, by simp; exact ⟨hq, hp⟩, rfl⟩
        · rw [up2_ne z] at e2
          exact ⟨pre, post, e2, hp, rfl⟩
      unfold markM
      dsimp only
      rw [hk]
      dsimp only
      split
      · next hwb =>
        intro q t hq
        rcases get_set hk hq with ⟨rfl, rfl⟩ | ⟨z1, z⟩
        · exact slie_leave si hk (h q s hk) ha e hwb _
        · exact slie_other (m := m) (h q t z) rfl rfl (oth q z1)
      · next hwb =>
        unfold writeM
        dsimp only
        rw [hk]
        dsimp only
        intro q t hq
        rcases get_set hk hq with ⟨rfl, rfl⟩ | ⟨z1, z⟩
        · have h1 : SLie c0 r0 { m with roads := up2 m.roads a b rest } q s := by
            refine slie_other (m := m) (h q s hk) rfl rfl fun c d pre post e2 hp => ?_
            have e2' : up2 m.roads a b rest c d = pre ++ .mark q :: post := e2
            by_cases z : c = a ∧ d = b
            · obtain ⟨rfl, rfl⟩ := z
              rw [up2_same] at e2'
              exact absurd (by rw [e2']; simp) hrest
            · rw [up2_ne z] at e2'
              exact ⟨pre, post, e2', hp, rfl⟩
          refine slie_write hr h1 (si.wl q s hk) (si.cl q s hk) ha.2.1 hwb rfl rfl (up2 m.roads a b rest) (fun c d _ => ?_) (fun c d hcd => (si.wat q s c d hk hcd).2) (fun d hd hdb hwd => si.unw q s d b hk hd ha.2.1 (Ne.symm hdb) hwd (not_wrote hwb)) (fun a' ha' _ _ => ?_) (fun d hd hdb => ?_) (fun c d _ => rfl) _
          · by_cases z : c = a ∧ d = b
            · obtain ⟨rfl, rfl⟩ := z
              rw [up2_same, e, parOn_mark]
            · rw [up2_ne z]
          · cases ha'
            refine ⟨hc.1, ?_⟩
            have := (h q s hk).mp a b [] rest ha hc.1 (by rw [e]; rfl) (by simp)
            simpa [parOn] using this
          · rw [up2_ne (fun z => ha.2.2 z.1.symm)]
            have := si.mks q s b d hk ha.2.1 hd (Ne.symm hdb)
            rw [if_neg (fun z => hwb z.1)] at this
            exact marks_none this
        · refine slie_other (m := m) (h q t z) rfl rfl fun c d pre post e2 hp => ?_
          have e2' : markTo (up2 m.roads a b rest) b k m.n c d = pre ++ .mark q :: post := e2
          unfold markTo at e2'
          split at e2'
          · obtain ⟨post', e3⟩ := snoc_split e2' (by simp; exact z1)
            exact oth q z1 c d pre post' e3 hp
          · exact oth q z1 c d pre post e2' hp
theorem slie_new {c0 : List Int} {r0 : Nat → Nat → List Int} {m : Mkt} (k : Nat) : SLie c0 r0 m k (newSh m.n) := by
  have nw : ∀ i, ¬ wrote (newSh m.n) i := fun i => by
    unfold wrote newSh
    simp [List.getElem?_replicate]
    split <;> simp
  exact ⟨fun i _ hw => absurd hw (nw i), fun _ _ _ _ => rfl, fun _ b _ hw => absurd hw (nw b), fun _ b _ hw => absurd hw (nw b), fun a _ _ _ _ hw => absurd hw (nw a)⟩
theorem slie_begin {c0 : List Int} {r0 : Nat → Nat → List Int} {m : Mkt} (hw : WF m) (si : SInv m) (hr : RInv c0 r0 m) (h : SLieAll c0 r0 m) {i : Nat} (hi : i < m.n) : SLieAll c0 r0 (beginM m i) := by
  unfold beginM writeM
  have e : (m.shots ++ [newSh m.n])[m.shots.length]? = some (newSh m.n) := by rw [app_at, if_pos rfl]
  dsimp only
  rw [e]
  dsimp only
  have nw : ∀ i, ¬ wrote (newSh m.n) i := fun i => by
    unfold wrote newSh
    simp [List.getElem?_replicate]
    split <;> simp
  intro q t hq
  rcases get_set e hq with ⟨rfl, rfl⟩ | ⟨z1, z⟩
  · refine slie_write hr (slie_new (m := m) m.shots.length) (by simp [newSh]) (by simp [newSh]) hi (nw i) rfl rfl m.roads (fun c d _ => rfl) (fun c d hcd => by simp [newSh] at hcd) (fun d _ _ hwd => absurd hwd (nw d)) (fun a ha => by cases ha) (fun d hd hdb => ?_) (fun c d _ => rfl) _
    intro z
    have := si.fr i d m.shots.length z
    omega
  · rw [app_at, if_neg z1] at z
    refine slie_other (m := m) (h q t z) rfl rfl fun c d pre post e2 hp => ?_
    have e2' : markTo m.roads i m.shots.length m.n c d = pre ++ .mark q :: post := e2
    unfold markTo at e2'
    split at e2'
    · obtain ⟨post', e3⟩ := snoc_split e2' (by simp; exact z1)
      exact ⟨pre, post', e3, hp, rfl⟩
    · exact ⟨pre, post, e2', hp, rfl⟩
theorem slie_step {c0 : List Int} {r0 : Nat → Nat → List Int} {m : Mkt} (hw : WF m) (si : SInv m) (hr : RInv c0 r0 m) (h : SLieAll c0 r0 m) {act : Act} (ha : ActOk m.n act) : SLieAll c0 r0 (stepM m act).2 := by
  cases act with
  | take a b => exact slie_take hw si hr h ha
  | begin a => exact slie_begin hw si hr h ha
  | give a b x =>
    show SLieAll c0 r0 (if x > m.purses.getD a 0 then (D.str "no coins", m) else (D.non, giveM m a b x)).2
    split
    · exact h
    · exact fun k s hk => slie_give si hk hr (h k s hk) a b x
/-! ### amounts -/
def TPos (L : List Ev) : Prop := ∀ e ∈ L, e.give = true → 1 ≤ e.amt
theorem gAm_pos {L : List Ev} (h : TPos L) (a b : Nat) : ∀ x ∈ gAm a b L, 1 ≤ x := by
  intro x hx
  obtain ⟨e, he, rfl⟩ := List.mem_map.mp hx
  obtain ⟨h1, h2⟩ := List.mem_filter.mp he
  exact h e h1 (gG_who h2).2.2.2
theorem bal_nn {c0 : List Int} {r0 : Nat → Nat → List Int} (hc : ∀ i, 0 ≤ c0.getD i 0) (h0 : ∀ a b, ∀ x ∈ r0 a b, 1 ≤ x) : ∀ (n : Nat) (L : List Ev), L.length = n → Runs c0 r0 L → TPos L → ∀ i c, 0 ≤ bal (c0.getD i 0) ((ofM i L).take c) := by
  intro n
  induction n with
  | zero =>
    intro L hl _ _ i c
    rw [List.length_eq_zero_iff.mp hl]
    simp [ofM, bal]; exact hc i
  | succ n ih =>
    intro L hl hr hp i c
    rcases List.eq_nil_or_concat L with rfl | ⟨L', e, rfl⟩
    · simp at hl
    · rw [List.concat_eq_append] at hl hr hp ⊢
      obtain ⟨hr1, hr2⟩ := runs_snoc.mp hr
      have hp1 : TPos L' := fun f hf => hp f (List.mem_append_left _ hf)
      have ih1 := ih L' (by simpa using hl) hr1 hp1 i
      by_cases hle : c ≤ (ofM i L').length
      · rw [take_ofM e hle]; exact ih1 c
      · rw [ofM_app, ofM_one]
        by_cases hwho : who e = i
        · rw [if_pos hwho, List.take_of_length_le (by simp; omega), bal_app]
          have h1 := ih1 (ofM i L').length
          rw [List.take_of_length_le (Nat.le_refl _)] at h1
          have hb : ([e].map bal1).sum = bal1 e := by simp
          rw [hb]
          unfold bal1
          cases hg : e.give with
          | true =>
            have := hr2.1 hg
            have hone : e.one = i := by unfold who at hwho; rw [hg] at hwho; exact hwho
            rw [hone] at this
            simp only [if_true]; omega
          | false =>
            have := hr2.2 hg
            have hm := List.mem_of_getElem? this
            have : 1 ≤ e.amt := by
              rcases List.mem_append.mp hm with z | z
              · exact h0 _ _ _ z
              · exact gAm_pos hp1 _ _ _ z
            simp only [Bool.false_eq_true, if_false]; omega
        · rw [if_neg hwho, List.append_nil]; exact ih1 c
/-! ### a cut of the log -/
def splitL (cut : Nat → Nat) : List Ev → List Ev × List Ev → List Ev → List Ev × List Ev
  | _, st, [] => st
  | p, (x, y), e :: l => if (ofM (who e) p).length < cut (who e) then splitL cut (p ++ [e]) (x ++ [e], y) l else splitL cut (p ++ [e]) (x, y ++ [e]) l
def aheadL (cut : Nat → Nat) (L : List Ev) : List Ev := (splitL cut [] ([], []) L).1
def behindL (cut : Nat → Nat) (L : List Ev) : List Ev := (splitL cut [] ([], []) L).2
theorem splitL_snoc (cut : Nat → Nat) (e : Ev) : ∀ (l p : List Ev) (x y : List Ev), splitL cut p (x, y) (l ++ [e]) = if (ofM (who e) (p ++ l)).length < cut (who e) then ((splitL cut p (x, y) l).1 ++ [e], (splitL cut p (x, y) l).2) else ((splitL cut p (x, y) l).1, (splitL cut p (x, y) l).2 ++ [e])
  | [], p, x, y => by simp only [List.nil_append, splitL, List.append_nil]
  | f :: l, p, x, y => by
    rw [List.cons_append]
    simp only [splitL]
    split
    · rw [splitL_snoc cut e l]; simp
    · rw [splitL_snoc cut e l]; simp
theorem split_snoc (cut : Nat → Nat) (L : List Ev) (e : Ev) : (aheadL cut (L ++ [e]) = if (ofM (who e) L).length < cut (who e) then aheadL cut L ++ [e] else aheadL cut L) ∧ (behindL cut (L ++ [e]) = if (ofM (who e) L).length < cut (who e) then behindL cut L else behindL cut L ++ [e]) := by
  unfold aheadL behindL
  rw [splitL_snoc]
  simp only [List.nil_append]
  split <;> exact ⟨rfl, rfl⟩
theorem snocInd {P : List Ev → Prop} (h0 : P []) (h1 : ∀ L e, P L → P (L ++ [e])) (L : List Ev) : P L := by
  have : ∀ n (L : List Ev), L.length = n → P L := by
    intro n
    induction n with
    | zero => intro L hl; rw [List.length_eq_zero_iff.mp hl]; exact h0
    | succ n ih =>
      intro L hl
      rcases List.eq_nil_or_concat L with rfl | ⟨L', e, rfl⟩
      · exact h0
      · rw [List.concat_eq_append] at hl ⊢
        exact h1 L' e (ih L' (by simpa using hl))
  exact this _ L rfl
theorem ofM_split (cut : Nat → Nat) (L : List Ev) : ∀ i, ofM i (aheadL cut L) = (ofM i L).take (cut i) ∧ ofM i (behindL cut L) = (ofM i L).drop (cut i) := by
  refine snocInd (P := fun L => ∀ i, ofM i (aheadL cut L) = (ofM i L).take (cut i) ∧ ofM i (behindL cut L) = (ofM i L).drop (cut i)) ?_ ?_ L
  · intro i; simp [aheadL, behindL, splitL, ofM]
  · intro L e ih i
    obtain ⟨h1, h2⟩ := ih i
    obtain ⟨e1, e2⟩ := split_snoc cut L e
    rw [e1, e2, ofM_app, ofM_one]
    by_cases hw : who e = i
    · subst hw
      by_cases hc : (ofM (who e) L).length < cut (who e)
      · rw [if_pos hc, if_pos hc, if_pos rfl, ofM_app, ofM_one, if_pos rfl, h1, h2]
        rw [List.take_of_length_le (by omega), List.take_of_length_le (by simp; omega), List.drop_eq_nil_of_le (by omega), List.drop_eq_nil_of_le (by simp; omega)]
        exact ⟨rfl, rfl⟩
      · rw [if_neg hc, if_neg hc, if_pos rfl, ofM_app, ofM_one, if_pos rfl, h1, h2]
        rw [List.take_append_of_le_length (by omega), List.drop_append_of_le_length (by omega)]
        exact ⟨rfl, rfl⟩
    · rw [if_neg hw, List.append_nil]
      split
      · rw [ofM_app, ofM_one, if_neg hw, List.append_nil]; exact ⟨h1, h2⟩
      · rw [ofM_app, ofM_one, if_neg hw, List.append_nil]; exact ⟨h1, h2⟩
theorem gAm_ahead (cut : Nat → Nat) (L : List Ev) (a b : Nat) : gAm a b (aheadL cut L) = gAm a b ((ofM a L).take (cut a)) := by rw [← gAm_ofM, (ofM_split cut L a).1]
theorem gAm_behind (cut : Nat → Nat) (L : List Ev) (a b : Nat) : gAm a b (behindL cut L) = gAm a b ((ofM a L).drop (cut a)) := by rw [← gAm_ofM, (ofM_split cut L a).2]
theorem tN_ahead (cut : Nat → Nat) (L : List Ev) (a b : Nat) : tN a b (aheadL cut L) = tN a b ((ofM b L).take (cut b)) := by rw [← tN_ofM, (ofM_split cut L b).1]
theorem tN_behind (cut : Nat → Nat) (L : List Ev) (a b : Nat) : tN a b (behindL cut L) = tN a b ((ofM b L).drop (cut b)) := by rw [← tN_ofM, (ofM_split cut L b).2]
theorem gAm_both (cut : Nat → Nat) (L : List Ev) (a b : Nat) : gAm a b (aheadL cut L) ++ gAm a b (behindL cut L) = gAm a b L := by
  rw [gAm_ahead, gAm_behind, ← gAm_app, List.take_append_drop, gAm_ofM]
theorem tN_both (cut : Nat → Nat) (L : List Ev) (a b : Nat) : tN a b (aheadL cut L) + tN a b (behindL cut L) = tN a b L := by
  rw [tN_ahead, tN_behind, ← tN_app, List.take_append_drop, tN_ofM]
/-- what is taken within the cut was given within it -/
def CutOk (r0 : Nat → Nat → List Int) (cut : Nat → Nat) (L : List Ev) : Prop := ∀ a b, tN a b ((ofM b L).take (cut b)) ≤ (r0 a b).length + (gAm a b ((ofM a L).take (cut a))).length
theorem take_mono {i c : Nat} {L L2 : List Ev} : (ofM i (L ++ L2)).take c = (ofM i L).take c ++ (ofM i L2).take (c - (ofM i L).length) := by rw [ofM_app, List.take_append]
theorem ahead_gives {r0 : Nat → Nat → List Int} {cut : Nat → Nat} {L L2 : List Ev} {a b t : Nat} {x : Int} (hx : (r0 a b ++ gAm a b L)[t]? = some x) (ht : t < (r0 a b).length + (gAm a b ((ofM a (L ++ L2)).take (cut a))).length) : (r0 a b ++ gAm a b (aheadL cut L))[t]? = some x := by
  rw [gAm_ahead]
  by_cases h : (ofM a L).length ≤ cut a
  · rw [List.take_of_length_le h, gAm_ofM]; exact hx
  · rw [take_mono, Nat.sub_eq_zero_of_le (by omega), List.take_zero, List.append_nil] at ht
    have e : gAm a b L = gAm a b ((ofM a L).take (cut a)) ++ gAm a b ((ofM a L).drop (cut a)) := by rw [← gAm_app, List.take_append_drop, gAm_ofM]
    rw [e, ← List.append_assoc, List.getElem?_append_left (by simp; omega)] at hx
    exact hx
theorem runs_ahead {c0 : List Int} {r0 : Nat → Nat → List Int} {cut : Nat → Nat} {LX : List Ev} (hr : Runs c0 r0 LX) (hc : CutOk r0 cut LX) : Runs c0 r0 (aheadL cut LX) := by
  have key : ∀ L, ∀ L2, L ++ L2 = LX → Runs c0 r0 (aheadL cut L) := by
    intro L
    refine snocInd (P := fun L => ∀ L2, L ++ L2 = LX → Runs c0 r0 (aheadL cut L)) (fun _ _ => runs_nil _ _) ?_ L
    intro L e ih L2 hL
    have ih' := ih ([e] ++ L2) (by rw [← hL, List.append_assoc])
    rw [(split_snoc cut L e).1]
    split
    · next hlt =>
      rw [runs_snoc]
      refine ⟨ih', ?_⟩
      have hcan : Can c0 r0 L e := by
        have := hr L.length e (by rw [← hL]; simp)
        rw [← hL, List.append_assoc, List.take_append_of_le_length (Nat.le_refl _), List.take_of_length_le (Nat.le_refl _)] at this
        exact this
      refine ⟨fun hg => ?_, fun hg => ?_⟩
      · have hwho : who e = e.one := by unfold who; rw [hg]; rfl
        rw [hwho] at hlt
        rw [(ofM_split cut L e.one).1, List.take_of_length_le (by omega)]
        exact hcan.1 hg
      · have hwho : who e = e.other := by unfold who; rw [hg]; rfl
        rw [hwho] at hlt
        have ht : tN e.one e.other (aheadL cut L) = tN e.one e.other L := by
          rw [tN_ahead, List.take_of_length_le (by omega), tN_ofM]
        rw [ht]
        refine ahead_gives (L2 := [e] ++ L2) (hcan.2 hg) ?_
        have hco := hc e.one e.other
        have hL' : LX = (L ++ [e]) ++ L2 := hL.symm
        rw [hL'] at hco
        have : tN e.one e.other L + 1 ≤ tN e.one e.other ((ofM e.other ((L ++ [e]) ++ L2)).take (cut e.other)) := by
          rw [take_mono, tN_app]
          have h1 : (ofM e.other (L ++ [e])).take (cut e.other) = ofM e.other (L ++ [e]) := List.take_of_length_le (by rw [ofM_app, ofM_one, if_pos hwho]; simp; omega)
          rw [h1, tN_ofM, tN_app]
          have : tN e.one e.other [e] = 1 := by simp [tN, isT, hg]
          omega
        rw [List.append_assoc] at hco this
        omega
    · exact ih'
  exact key LX [] (by simp)
theorem runs_behind {c0 c1 : List Int} {r0 r1 : Nat → Nat → List Int} {n : Nat} {cut : Nat → Nat} {LX : List Ev} (hr : Runs c0 r0 LX) (hc : CutOk r0 cut LX) (hev : ∀ e ∈ LX, EvIn n e) (hle : ∀ i, i < n → cut i ≤ (ofM i LX).length)
    (h1 : ∀ i, i < n → c1.getD i 0 = bal (c0.getD i 0) (ofM i (aheadL cut LX))) (h2 : ∀ a b, a < n ∧ b < n ∧ a ≠ b → r1 a b = (r0 a b ++ gAm a b (aheadL cut LX)).drop (tN a b (aheadL cut LX))) : Runs c1 r1 (behindL cut LX) := by
  have key : ∀ L, ∀ L2, L ++ L2 = LX → Runs c1 r1 (behindL cut L) := by
    intro L
    refine snocInd (P := fun L => ∀ L2, L ++ L2 = LX → Runs c1 r1 (behindL cut L)) (fun _ _ => runs_nil _ _) ?_ L
    intro L e ih L2 hL
    have ih' := ih ([e] ++ L2) (by rw [← hL, List.append_assoc])
    rw [(split_snoc cut L e).2]
    split
    · exact ih'
    · next hlt =>
      rw [runs_snoc]
      refine ⟨ih', ?_⟩
      have hin : EvIn n e := hev e (by rw [← hL]; simp)
      have hL' : LX = L ++ ([e] ++ L2) := by rw [← hL, List.append_assoc]
      have hcan : Can c0 r0 L e := by
        have := hr L.length e (by rw [← hL]; simp)
        rw [hL', List.take_append_of_le_length (Nat.le_refl _), List.take_of_length_le (Nat.le_refl _)] at this
        exact this
      -- what a member had behind it is settled
      have same : ∀ i, cut i ≤ (ofM i L).length → ofM i (aheadL cut LX) = (ofM i L).take (cut i) := fun i hi => by
        rw [(ofM_split cut LX i).1, hL', take_mono, Nat.sub_eq_zero_of_le hi, List.take_zero, List.append_nil]
      refine ⟨fun hg => ?_, fun hg => ?_⟩
      · have hwho : who e = e.one := by unfold who; rw [hg]; rfl
        rw [hwho] at hlt
        rw [h1 _ hin.1, (ofM_split cut L e.one).2, same e.one (by omega), bal_bal, List.take_append_drop]
        exact hcan.1 hg
      · have hwho : who e = e.other := by unfold who; rw [hg]; rfl
        rw [hwho] at hlt
        have hx := hcan.2 hg
        rw [h2 _ _ hin]
        have htA : tN e.one e.other (aheadL cut LX) = tN e.one e.other (aheadL cut L) := by
          rw [← tN_ofM, same e.other (by omega), tN_ahead]
        have htb := tN_both cut L e.one e.other
        have hco := hc e.one e.other
        rw [← tN_ahead, ← gAm_ahead] at hco
        rw [← List.drop_append_of_le_length (by rw [List.length_append]; exact hco), List.getElem?_drop, htA, htb]
        by_cases h : cut e.one ≤ (ofM e.one L).length
        · have : gAm e.one e.other (aheadL cut LX) = gAm e.one e.other (aheadL cut L) := by rw [← gAm_ofM, same e.one h, gAm_ahead]
          rw [this, List.append_assoc, gAm_both]; exact hx
        · have e1 : gAm e.one e.other (aheadL cut LX) = gAm e.one e.other L ++ gAm e.one e.other ((ofM e.one ([e] ++ L2)).take (cut e.one - (ofM e.one L).length)) := by
            rw [gAm_ahead, hL', take_mono, gAm_app, List.take_of_length_le (by omega), gAm_ofM]
          rw [e1, ← List.append_assoc, List.append_assoc, List.getElem?_append_left]
          · exact hx
          · exact (List.getElem?_eq_some_iff.mp hx).1
  exact key LX [] (by simp)
end SS
namespace SS
open PySem L2
theorem sumI_up {α : Type} (p : α) (g g' : α → Int) : ∀ (l : List α), l.Nodup → p ∈ l → (∀ q, q ≠ p → g' q = g q) → (l.map g').sum = (l.map g).sum + (g' p - g p)
  | [], _, h, _ => by cases h
  | q :: l, hn, h, hg => by
    obtain ⟨h1, h2⟩ := List.nodup_cons.mp hn
    rw [List.map_cons, List.map_cons, List.sum_cons, List.sum_cons]
    rcases List.mem_cons.mp h with z | z
    · subst z
      have : l.map g' = l.map g := List.map_congr_left fun q hq => hg q fun e => h1 (e ▸ hq)
      rw [this]; omega
    · have := sumI_up p g g' l h2 z hg
      rw [hg q fun e => h1 (e ▸ z)]; omega
def stTot (n : Nat) (c0 : List Int) (r0 : Nat → Nat → List Int) (L : List Ev) : Int :=
  ((List.range n).map fun i => bal (c0.getD i 0) (ofM i L)).sum + ((pairs n).map fun p => ((r0 p.1 p.2 ++ gAm p.1 p.2 L).drop (tN p.1 p.2 L)).sum).sum
theorem tot_runs {n : Nat} {c0 : List Int} {r0 : Nat → Nat → List Int} (L : List Ev) : Runs c0 r0 L → (∀ e ∈ L, EvIn n e) → stTot n c0 r0 L = stTot n c0 r0 [] := by
  refine snocInd (P := fun L => Runs c0 r0 L → (∀ e ∈ L, EvIn n e) → stTot n c0 r0 L = stTot n c0 r0 []) (fun _ _ => rfl) ?_ L
  intro L e ih hr hev
  obtain ⟨hr1, hr2⟩ := runs_snoc.mp hr
  have ih' := ih hr1 fun f hf => hev f (List.mem_append_left _ hf)
  have hin : EvIn n e := hev e (by simp)
  rw [← ih']
  unfold stTot
  cases hg : e.give with
  | true =>
    have hwho : who e = e.one := by unfold who; rw [hg]; rfl
    have s1 := sumI_up e.one (fun i => bal (c0.getD i 0) (ofM i L)) (fun i => bal (c0.getD i 0) (ofM i (L ++ [e]))) (List.range n) List.nodup_range (List.mem_range.mpr hin.1) fun q hq => by
      try dsimp only
      rw [ofM_app, ofM_one, if_neg (by rw [hwho]; exact Ne.symm hq), List.append_nil]
    have s2 := sumI_up (e.one, e.other) (fun p => ((r0 p.1 p.2 ++ gAm p.1 p.2 L).drop (tN p.1 p.2 L)).sum) (fun p => ((r0 p.1 p.2 ++ gAm p.1 p.2 (L ++ [e])).drop (tN p.1 p.2 (L ++ [e]))).sum) (pairs n) (nd_pairs n) (mem_pairs.mpr hin) fun q hq => by
      try dsimp only
      have h1 : isG q.1 q.2 e = false := by rw [isG_of hg]; simp; intro z1 z2; exact hq (Prod.ext z1.symm z2.symm)
      have h2 : isT q.1 q.2 e = false := isT_no hg _ _
      rw [gAm_app, tN_app]
      simp [gAm, tN, h1, h2]
    rw [s1, s2]
    dsimp only
    have h1 : isG e.one e.other e = true := by rw [isG_of hg]; simp
    have h2 : isT e.one e.other e = false := isT_no hg _ _
    have e1 : ofM e.one (L ++ [e]) = ofM e.one L ++ [e] := by rw [ofM_app, ofM_one, if_pos hwho]
    have e2 : gAm e.one e.other (L ++ [e]) = gAm e.one e.other L ++ [e.amt] := by rw [gAm_app]; simp [gAm, h1]
    have e3 : tN e.one e.other (L ++ [e]) = tN e.one e.other L := by rw [tN_app]; simp [tN, h2]
    rw [e1, e2, e3, bal_app, ← List.append_assoc, List.drop_append_of_le_length (runs_tN hr1 _ _), List.sum_append]
    have e4 : ([e].map bal1).sum = - e.amt := by simp [bal1, hg]
    have e5 : ([e.amt] : List Int).sum = e.amt := by simp
    rw [e4, e5]; omega
  | false =>
    have hwho : who e = e.other := by unfold who; rw [hg]; rfl
    have s1 := sumI_up e.other (fun i => bal (c0.getD i 0) (ofM i L)) (fun i => bal (c0.getD i 0) (ofM i (L ++ [e]))) (List.range n) List.nodup_range (List.mem_range.mpr hin.2.1) fun q hq => by
      try dsimp only
      rw [ofM_app, ofM_one, if_neg (by rw [hwho]; exact Ne.symm hq), List.append_nil]
    have s2 := sumI_up (e.one, e.other) (fun p => ((r0 p.1 p.2 ++ gAm p.1 p.2 L).drop (tN p.1 p.2 L)).sum) (fun p => ((r0 p.1 p.2 ++ gAm p.1 p.2 (L ++ [e])).drop (tN p.1 p.2 (L ++ [e]))).sum) (pairs n) (nd_pairs n) (mem_pairs.mpr hin) fun q hq => by
      try dsimp only
      have h1 : isG q.1 q.2 e = false := isG_no hg _ _
      have h2 : isT q.1 q.2 e = false := by rw [isT_of hg]; simp; intro z1 z2; exact hq (Prod.ext z1.symm z2.symm)
      rw [gAm_app, tN_app]
      simp [gAm, tN, h1, h2]
    rw [s1, s2]
    dsimp only
    have h1 : isG e.one e.other e = false := isG_no hg _ _
    have h2 : isT e.one e.other e = true := by rw [isT_of hg]; simp
    have e1 : ofM e.other (L ++ [e]) = ofM e.other L ++ [e] := by rw [ofM_app, ofM_one, if_pos hwho]
    have e2 : gAm e.one e.other (L ++ [e]) = gAm e.one e.other L := by rw [gAm_app]; simp [gAm, h1]
    have e3 : tN e.one e.other (L ++ [e]) = tN e.one e.other L + 1 := by rw [tN_app]; simp [tN, h2]
    have hx := hr2.2 hg
    have hlt := (List.getElem?_eq_some_iff.mp hx).1
    have hxe := (List.getElem?_eq_some_iff.mp hx).2
    rw [e1, e2, e3, bal_app]
    have e6 : (r0 e.one e.other ++ gAm e.one e.other L).drop (tN e.one e.other L) = e.amt :: (r0 e.one e.other ++ gAm e.one e.other L).drop (tN e.one e.other L + 1) := by
      rw [List.drop_eq_getElem_cons hlt, hxe]
    have e4 : ([e].map bal1).sum = e.amt := by simp [bal1, hg]
    rw [e6, List.sum_cons, e4]; omega
theorem ints_eq (c : List Int) : (List.range c.length).map (fun i => c.getD i 0) = c := by
  refine List.ext_getElem? fun i => ?_
  rw [List.getElem?_map]
  by_cases h : i < c.length
  · rw [List.getElem?_range h]; simp [h]
  · simp [h]
theorem tot_nil (c : List Int) (r0 : Nat → Nat → List Int) : stTot c.length c r0 [] = c.sum + ((pairs c.length).map fun p => (r0 p.1 p.2).sum).sum := by
  unfold stTot
  congr 1
  · have : (fun i => bal (c.getD i 0) (ofM i [])) = fun i => c.getD i 0 := by funext i; simp [bal, ofM]
    rw [this, ints_eq]
  · congr 1
    refine List.map_congr_left fun p _ => ?_
    simp [gAm, tN]
def r00 : Nat → Nat → List Int := fun _ _ => []
theorem tN_out {n : Nat} {L : List Ev} (h : ∀ e ∈ L, EvIn n e) {a b : Nat} (hab : ¬ (a < n ∧ b < n ∧ a ≠ b)) : tN a b L = 0 := by
  unfold tN
  rw [List.countP_eq_zero]
  intro e he ht
  obtain ⟨_, h1, h2, _⟩ := gT_who ht
  have := h e he
  unfold EvIn at this
  rw [h1, h2] at this
  exact hab this
theorem mem_ofM {i c : Nat} {L : List Ev} {e : Ev} (h : e ∈ (ofM i L).take c) : e ∈ L := (List.mem_filter.mp (List.mem_of_mem_take h)).1
/-- what a finished picture shows -/
structure DoneF (c0 : List Int) (r0 : Nat → Nat → List Int) (m : Mkt) (s : Sh) : Prop where
  cu : ∀ i, i < m.n → s.cut[i]? = some (some (cutN s i : Int))
  le : ∀ i, i < m.n → cutN s i ≤ (ofM i m.told).length
  ok : CutOk r0 (cutN s) m.told
  wr : ∀ i, i < m.n → s.written[i]? = some (some (bal (c0.getD i 0) (ofM i (aheadL (cutN s) m.told))))
  ly : ∀ a b, a < m.n ∧ b < m.n ∧ a ≠ b → s.lying a b = (r0 a b ++ gAm a b (aheadL (cutN s) m.told)).drop (tN a b (aheadL (cutN s) m.told))
theorem done_all {s : Sh} {n : Nat} (hd : doneS s = true) (hl : s.written.length = n) : (∀ i, i < n → wrote s i) ∧ s.watched = [] := by
  unfold doneS at hd
  rw [Bool.and_eq_true] at hd
  refine ⟨fun i hi => ?_, by simpa using hd.2⟩
  have := List.all_eq_true.mp hd.1 (s.written[i]'(by omega)) (List.getElem_mem _)
  unfold wrote
  rw [List.getD_eq_getElem?_getD, List.getElem?_eq_getElem (by omega)]
  exact this
theorem done_facts {c0 : List Int} {r0 : Nat → Nat → List Int} {m : Mkt} (si : SInv m) (hr : RInv c0 r0 m) (sl : SLieAll c0 r0 m) {k : Nat} {s : Sh} (hk : m.shots[k]? = some s) (hd : doneS s = true) : DoneF c0 r0 m s := by
  obtain ⟨hw, hwa⟩ := done_all hd (si.wl k s hk)
  have h := sl k s hk
  refine ⟨fun i hi => (h.wc i hi (hw i hi)).1, fun i hi => (h.wc i hi (hw i hi)).2.1, fun a b => ?_, fun i hi => ?_, fun a b hab => ?_⟩
  · by_cases hab : a < m.n ∧ b < m.n ∧ a ≠ b
    · exact (h.ld a b hab (hw b hab.2.1) (by rw [hwa]; simp)).1
    · rw [tN_out (n := m.n) (fun e he => hr.ev e (mem_ofM he)) hab]; omega
  · rw [(ofM_split _ _ i).1]; exact (h.wc i hi (hw i hi)).2.2
  · obtain ⟨h1, h2, h3⟩ := h.ld a b hab (hw b hab.2.1) (by rw [hwa]; simp)
    rw [h3, gAm_ahead, tN_ahead]
    unfold tB
    congr 1
    unfold amts gA
    have e : gAm a b m.told = gAm a b ((ofM a m.told).take (cutN s a)) ++ gAm a b ((ofM a m.told).drop (cutN s a)) := by rw [← gAm_app, List.take_append_drop, gAm_ofM]
    rw [e, ← List.append_assoc]
    rw [List.take_append_of_le_length (by simp), List.take_of_length_le (by simp)]
theorem ahead_mem {cut : Nat → Nat} {L : List Ev} : ∀ e, (e ∈ aheadL cut L → e ∈ L) ∧ (e ∈ behindL cut L → e ∈ L) := by
  intro e
  refine snocInd (P := fun L => (e ∈ aheadL cut L → e ∈ L) ∧ (e ∈ behindL cut L → e ∈ L)) ?_ ?_ L
  · constructor <;> intro h <;> simp [aheadL, behindL, splitL] at h
  · rintro L f ⟨h1, h2⟩
    rw [(split_snoc cut L f).1, (split_snoc cut L f).2]
    constructor
    · intro h
      split at h
      · rcases List.mem_append.mp h with z | z
        · exact List.mem_append_left _ (h1 z)
        · exact List.mem_append_right _ z
      · exact List.mem_append_left _ (h1 h)
    · intro h
      split at h
      · exact List.mem_append_left _ (h2 h)
      · rcases List.mem_append.mp h with z | z
        · exact List.mem_append_left _ (h2 z)
        · exact List.mem_append_right _ z
/-- what members wrote, as numbers -/
def shownL (m : Mkt) (c0 : List Int) (s : Sh) : List Int := (List.range m.n).map fun i => bal (c0.getD i 0) (ofM i (aheadL (cutN s) m.told))
theorem written_eq {c0 : List Int} {r0 : Nat → Nat → List Int} {m : Mkt} {s : Sh} (h : DoneF c0 r0 m s) (hl : s.written.length = m.n) : s.written = (shownL m c0 s).map some := by
  refine List.ext_getElem? fun i => ?_
  unfold shownL
  by_cases hi : i < m.n
  · rw [h.wr i hi, List.map_map, List.getElem?_map, List.getElem?_range hi]; rfl
  · rw [List.getElem?_eq_none (by omega), List.getElem?_eq_none (by simp; omega)]
theorem shown_len (m : Mkt) (c0 : List Int) (s : Sh) : (shownL m c0 s).length = m.n := by simp [shownL]
theorem shown_at (m : Mkt) (c0 : List Int) (s : Sh) {i : Nat} (hi : i < m.n) : (shownL m c0 s).getD i 0 = bal (c0.getD i 0) (ofM i (aheadL (cutN s) m.told)) := by
  unfold shownL; rw [List.getD_eq_getElem?_getD, List.getElem?_map, List.getElem?_range hi]; rfl
/-- all coins are in the picture -/
theorem pic_total {c0 : List Int} {m : Mkt} {s : Sh} (hn : c0.length = m.n) (hr : RInv c0 r00 m) (h : DoneF c0 r00 m s) : (shownL m c0 s).sum + ((pairs m.n).map fun p => (s.lying p.1 p.2).sum).sum = c0.sum := by
  have h1 := tot_runs (n := m.n) (aheadL (cutN s) m.told) (runs_ahead hr.run h.ok) fun e he => hr.ev e ((ahead_mem e).1 he)
  have h2 := tot_nil c0 r00
  rw [hn] at h2
  rw [h2] at h1
  have e0 : ((pairs m.n).map fun p : Nat × Nat => (r00 p.1 p.2).sum).sum = 0 := by
    have : ((pairs m.n).map fun p : Nat × Nat => (r00 p.1 p.2).sum) = (pairs m.n).map fun _ => (0 : Int) := List.map_congr_left fun p _ => rfl
    rw [this]
    generalize pairs m.n = l
    induction l with
    | nil => rfl
    | cons x l ih => rw [List.map_cons, List.sum_cons, ih]; rfl
  rw [e0, Int.add_zero] at h1
  rw [← h1]
  unfold stTot shownL
  congr 2
  refine List.map_congr_left fun p hp => ?_
  rw [h.ly p.1 p.2 (pairs_in p hp)]
/-- the rest of the log leads from the picture to now -/
theorem behind_runs {c0 : List Int} {r0 : Nat → Nat → List Int} {m : Mkt} {s : Sh} (hr : RInv c0 r0 m) (h : DoneF c0 r0 m s) : Runs (shownL m c0 s) s.lying (behindL (cutN s) m.told) :=
  runs_behind (n := m.n) hr.run h.ok hr.ev h.le (fun i hi => shown_at m c0 s hi) fun a b hab => h.ly a b hab
theorem behind_bal {c0 : List Int} {r0 : Nat → Nat → List Int} {m : Mkt} {s : Sh} {i : Nat} (hi : i < m.n) : bal ((shownL m c0 s).getD i 0) (ofM i (behindL (cutN s) m.told)) = bal (c0.getD i 0) (ofM i m.told) := by
  rw [shown_at m c0 s hi, bal_bal, (ofM_split _ _ i).1, (ofM_split _ _ i).2, List.take_append_drop]
theorem behind_road {c0 : List Int} {r0 : Nat → Nat → List Int} {m : Mkt} {s : Sh} (h : DoneF c0 r0 m s) {a b : Nat} (hab : a < m.n ∧ b < m.n ∧ a ≠ b) : (s.lying a b ++ gAm a b (behindL (cutN s) m.told)).drop (tN a b (behindL (cutN s) m.told)) = (r0 a b ++ gAm a b m.told).drop (tN a b m.told) := by
  have ho := h.ok a b
  rw [← tN_ahead, ← gAm_ahead] at ho
  rw [h.ly a b hab, ← List.drop_append_of_le_length (by rw [List.length_append]; exact ho), List.drop_drop, List.append_assoc, gAm_both, tN_both]
theorem ahead_road {c0 : List Int} {r0 : Nat → Nat → List Int} {m : Mkt} {s : Sh} (h : DoneF c0 r0 m s) {a b : Nat} (hab : a < m.n ∧ b < m.n ∧ a ≠ b) : s.lying a b = (r0 a b ++ gAm a b (aheadL (cutN s) m.told)).drop (tN a b (aheadL (cutN s) m.told)) := h.ly a b hab
end SS
namespace SS
open PySem L2
/-! ### clocks -/
def lastOf (i : Nat) (L : List Ev) : Option Nat := ((L.zipIdx.filter fun p => decide (who p.1 = i)).getLast?).map (·.2)
theorem lastOf_nil (i : Nat) : lastOf i [] = none := rfl
theorem lastOf_snoc (i : Nat) (L : List Ev) (e : Ev) : lastOf i (L ++ [e]) = if who e = i then some L.length else lastOf i L := by
  unfold lastOf
  rw [List.zipIdx_append, List.filter_append]
  by_cases h : who e = i
  · simp [h]
  · simp [h]
/-- what is known of the last one -/
theorem lastOf_some {i p : Nat} (L : List Ev) : lastOf i L = some p → p < L.length ∧ (∃ e, L[p]? = some e ∧ who e = i) ∧ (ofM i (L.take (p + 1))).length = (ofM i L).length := by
  refine snocInd (P := fun L => lastOf i L = some p → p < L.length ∧ (∃ e, L[p]? = some e ∧ who e = i) ∧ (ofM i (L.take (p + 1))).length = (ofM i L).length) (fun h => by cases h) ?_ L
  intro L e ih h
  rw [lastOf_snoc] at h
  by_cases hw : who e = i
  · rw [if_pos hw] at h
    cases h
    refine ⟨by simp, ⟨e, by simp, hw⟩, ?_⟩
    rw [List.take_of_length_le (by simp)]
  · rw [if_neg hw] at h
    obtain ⟨h1, ⟨f, h2, h3⟩, h4⟩ := ih h
    refine ⟨by simp; omega, ⟨f, by rw [List.getElem?_append_left h1]; exact h2, h3⟩, ?_⟩
    rw [List.take_append_of_le_length (by omega), ofM_app, ofM_one, if_neg hw, List.append_nil]; exact h4
theorem lastOf_none {i : Nat} (L : List Ev) : lastOf i L = none → ofM i L = [] := by
  refine snocInd (P := fun L => lastOf i L = none → ofM i L = []) (fun _ => rfl) ?_ L
  intro L e ih h
  rw [lastOf_snoc] at h
  by_cases hw : who e = i
  · rw [if_pos hw] at h; cases h
  · rw [if_neg hw] at h
    rw [ofM_app, ofM_one, if_neg hw, List.append_nil]; exact ih h
def giveOf (r0 : Nat → Nat → List Int) (L : List Ev) (e : Ev) : Option Nat := if e.give = true then none else ((parc e.one e.other (r0 e.one e.other) L)[tN e.one e.other L]?).bind (·.2)
def causeL (r0 : Nat → Nat → List Int) (L : List Ev) (k : Nat) : List (Option Nat) := match L[k]? with
  | none => []
  | some e => [lastOf (who e) (L.take k), giveOf r0 (L.take k) e]
theorem causeL_at {r0 : Nat → Nat → List Int} {L : List Ev} {k : Nat} {e : Ev} (h : L[k]? = some e) : causeL r0 L k = [lastOf (who e) (L.take k), giveOf r0 (L.take k) e] := by unfold causeL; rw [h]
theorem gNum_lt (a b : Nat) (L : List Ev) : ∀ p ∈ gNum a b L, ∀ k, p.2 = some k → k < L.length ∧ ∃ e, L[k]? = some e ∧ isG a b e = true := by
  intro p hp k hk
  unfold gNum at hp
  obtain ⟨q, hq, rfl⟩ := List.mem_map.mp hp
  obtain ⟨h1, h2⟩ := List.mem_filter.mp hq
  simp at hk; subst hk
  have := List.mem_zipIdx h1
  simp at this
  refine ⟨by omega, q.1, ?_, h2⟩
  rw [List.getElem?_eq_getElem (by omega)]
  rw [this.2]
theorem giveOf_lt {r0 : Nat → Nat → List Int} {L : List Ev} {e : Ev} {g : Nat} (h : giveOf r0 L e = some g) : g < L.length ∧ ∃ f, L[g]? = some f ∧ isG e.one e.other f = true := by
  unfold giveOf at h
  split at h
  · cases h
  · cases hp : (parc e.one e.other (r0 e.one e.other) L)[tN e.one e.other L]? with
    | none => rw [hp] at h; cases h
    | some p =>
      rw [hp] at h
      have h' : p.2 = some g := h
      have hm := List.mem_of_getElem? hp
      unfold parc at hm
      rcases List.mem_append.mp hm with z | z
      · obtain ⟨x, _, rfl⟩ := List.mem_map.mp z; cases h'
      · exact gNum_lt _ _ _ p z g h'
theorem cause_lt {r0 : Nat → Nat → List Int} {L : List Ev} {k c : Nat} (h : some c ∈ causeL r0 L k) : c < k ∧ k < L.length := by
  unfold causeL at h
  cases he : L[k]? with
  | none => rw [he] at h; cases h
  | some e =>
    have hk := (List.getElem?_eq_some_iff.mp he).1
    rw [he] at h
    refine ⟨?_, hk⟩
    simp at h
    have hl : (L.take k).length = k := by simp; omega
    rcases h with h | h
    · have := (lastOf_some _ h.symm).1; omega
    · have := (giveOf_lt h.symm).1; omega
structure CInv (r0 : Nat → Nat → List Int) (m : Mkt) : Prop where
  la : ∀ i, i < m.n → m.last[i]? = some (lastOf i m.told)
  ck : ∀ (k : Nat) (e : Ev), m.told[k]? = some e → m.stamps[k]? = some (((causeL r0 m.told k).foldl (cause m) (List.replicate m.n 0, 1)).1.set (who e) (((causeL r0 m.told k).foldl (cause m) (List.replicate m.n 0, 1)).1.getD (who e) 0 + 1)) ∧ m.times[k]? = some ((causeL r0 m.told k).foldl (cause m) (List.replicate m.n 0, 1)).2
theorem causeL_app {r0 : Nat → Nat → List Int} {L : List Ev} (e : Ev) {k : Nat} (h : k < L.length) : causeL r0 (L ++ [e]) k = causeL r0 L k := by
  unfold causeL
  rw [List.getElem?_append_left h, List.take_append_of_le_length (by omega)]
theorem fold_congr {m m' : Mkt} (n : Nat) : ∀ (cs : List (Option Nat)) (st : List Int × Int), (∀ c, some c ∈ cs → m'.stamps.getD c [] = m.stamps.getD c [] ∧ m'.times.getD c 0 = m.times.getD c 0) → cs.foldl (cause m') st = cs.foldl (cause m) st
  | [], _, _ => rfl
  | none :: cs, st, h => fold_congr n cs st fun c hc => h c (List.mem_cons_of_mem _ hc)
  | some c :: cs, (s, t), h => by
    obtain ⟨h1, h2⟩ := h c List.mem_cons_self
    show cs.foldl (cause m') (cause m' (s, t) (some c)) = cs.foldl (cause m) (cause m (s, t) (some c))
    have e : cause m' (s, t) (some c) = cause m (s, t) (some c) := by
      show (List.zipWith mx s (m'.stamps.getD c []), mx t (m'.times.getD c 0 + 1)) = (List.zipWith mx s (m.stamps.getD c []), mx t (m.times.getD c 0 + 1))
      rw [h1, h2]
    rw [e]
    exact fold_congr n cs _ fun c hc => h c (List.mem_cons_of_mem _ hc)
theorem getD_app {α : Type} {l : List α} {x d : α} {c : Nat} (h : c < l.length) : (l ++ [x]).getD c d = l.getD c d := by
  rw [List.getD_eq_getElem?_getD, List.getElem?_append_left h, ← List.getD_eq_getElem?_getD]
theorem cinv_addEv {r0 : Nat → Nat → List Int} {m : Mkt} (hw : WF m) (h : CInv r0 m) {e : Ev} (hi : who e < m.n) {causes : List (Option Nat)} (hc : (lastOf (who e) m.told :: causes).foldl (cause m) (List.replicate m.n 0, 1) = [lastOf (who e) m.told, giveOf r0 m.told e].foldl (cause m) (List.replicate m.n 0, 1)) : CInv r0 (addEv m e (who e) causes) := by
  have elast : m.last.getD (who e) none = lastOf (who e) m.told := getD_of (h.la _ hi)
  have est : stampOf m (who e) causes = [lastOf (who e) m.told, giveOf r0 m.told e].foldl (cause m) (List.replicate m.n 0, 1) := by
    unfold stampOf; rw [elast]; exact hc
  refine ⟨fun i hi' => ?_, fun k f hk => ?_⟩
  · show (m.last.set (who e) (some m.told.length))[i]? = some (lastOf i (m.told ++ [e]))
    rw [lastOf_snoc, setAt (by rw [hw.ll]; exact hi)]
    by_cases z : i = who e
    · rw [if_pos z, if_pos z.symm]
    · rw [if_neg z, if_neg (fun q => z q.symm)]; exact h.la i hi'
  · have hk' : (m.told ++ [e])[k]? = some f := hk
    have same : ∀ cs : List (Option Nat), (∀ c, some c ∈ cs → c < m.told.length) → cs.foldl (cause (addEv m e (who e) causes)) (List.replicate m.n 0, 1) = cs.foldl (cause m) (List.replicate m.n 0, 1) := fun cs hcs => by
      refine fold_congr 0 cs _ fun c hc => ?_
      have hlt := hcs c hc
      exact ⟨getD_app (by rw [hw.sl]; exact hlt), getD_app (by rw [hw.tl]; exact hlt)⟩
    by_cases hlt : k < m.told.length
    · rw [List.getElem?_append_left hlt] at hk'
      have := h.ck k f hk'
      show (m.stamps ++ [_])[k]? = some (((causeL r0 (m.told ++ [e]) k).foldl (cause (addEv m e (who e) causes)) (List.replicate m.n 0, 1)).1.set (who f) _) ∧ (m.times ++ [_])[k]? = _
      rw [causeL_app e hlt]
      have hs := same (causeL r0 m.told k) fun c hc => by have := cause_lt hc; omega
      rw [List.getElem?_append_left (by rw [hw.sl]; exact hlt), List.getElem?_append_left (by rw [hw.tl]; exact hlt)]
      show m.stamps[k]? = some ((List.foldl (cause (addEv m e (who e) causes)) (List.replicate m.n 0, 1) (causeL r0 m.told k)).1.set (who f) ((List.foldl (cause (addEv m e (who e) causes)) (List.replicate m.n 0, 1) (causeL r0 (m.told ++ [e]) k)).1.getD (who f) 0 + 1)) ∧ m.times[k]? = some (List.foldl (cause (addEv m e (who e) causes)) (List.replicate m.n 0, 1) (causeL r0 (m.told ++ [e]) k)).2
      rw [causeL_app e hlt, hs]; exact this
    · have hkl := (List.getElem?_eq_some_iff.mp hk').1
      simp at hkl
      have ek : k = m.told.length := by omega
      subst ek
      simp at hk'
      subst hk'
      have hcl : causeL r0 (m.told ++ [e]) m.told.length = [lastOf (who e) m.told, giveOf r0 m.told e] := by
        rw [causeL_at (e := e) (by simp), List.take_append_of_le_length (Nat.le_refl _), List.take_of_length_le (Nat.le_refl _)]
      have hs := same [lastOf (who e) m.told, giveOf r0 m.told e] fun c hc => by
        simp at hc
        rcases hc with hc | hc
        · exact (lastOf_some _ hc.symm).1
        · exact (giveOf_lt hc.symm).1
      show (m.stamps ++ [(stampOf m (who e) causes).1.set (who e) ((stampOf m (who e) causes).1.getD (who e) 0 + 1)])[m.told.length]? = some ((List.foldl (cause (addEv m e (who e) causes)) (List.replicate m.n 0, 1) (causeL r0 (m.told ++ [e]) m.told.length)).1.set (who e) ((List.foldl (cause (addEv m e (who e) causes)) (List.replicate m.n 0, 1) (causeL r0 (m.told ++ [e]) m.told.length)).1.getD (who e) 0 + 1)) ∧ (m.times ++ [(stampOf m (who e) causes).2])[m.told.length]? = some (List.foldl (cause (addEv m e (who e) causes)) (List.replicate m.n 0, 1) (causeL r0 (m.told ++ [e]) m.told.length)).2
      rw [hcl, hs, est]
      refine ⟨?_, ?_⟩
      · rw [← hw.sl]; simp
      · rw [← hw.tl]; simp
theorem cinv_same {r0 : Nat → Nat → List Int} {m m' : Mkt} (h : CInv r0 m) (e1 : m'.n = m.n) (e2 : m'.told = m.told) (e3 : m'.last = m.last) (e4 : m'.stamps = m.stamps) (e5 : m'.times = m.times) : CInv r0 m' := by
  refine ⟨fun i hi => by rw [e3, e2]; exact h.la i (by rw [← e1]; exact hi), fun k e hk => ?_⟩
  rw [e2] at hk
  have := h.ck k e hk
  have hf : ∀ cs : List (Option Nat), cs.foldl (cause m') (List.replicate m.n 0, 1) = cs.foldl (cause m) (List.replicate m.n 0, 1) := fun cs => fold_congr 0 cs _ fun c _ => by rw [e4, e5]; exact ⟨rfl, rfl⟩
  rw [e1, e2, e4, e5, hf]; exact this
theorem cinv_take {c0 : List Int} {r0 : Nat → Nat → List Int} {m : Mkt} (hw : WF m) (hr : RInv c0 r0 m) (h : CInv r0 m) {a b : Nat} (ha : a < m.n ∧ b < m.n ∧ a ≠ b) : CInv r0 (takeM m a b) := by
  unfold takeM
  cases e : m.roads a b with
  | nil => exact h
  | cons p rest =>
    cases p with
    | mark k =>
      obtain ⟨s1, s2, s3, s4, s5, _⟩ := markM_same { m with roads := up2 m.roads a b rest } k a b
      exact cinv_same h s4 s1 s2 s3 s5
    | coins x num =>
      have hp := (rinv_parcel hw hr ha e).2
      have hg : giveOf r0 m.told ⟨false, a, b, x⟩ = num := by
        unfold giveOf; simp only [Bool.false_eq_true, if_false]; rw [hp]; rfl
      have hw' : WF { m with roads := up2 m.roads a b rest, shots := m.shots.map (shotParcel a b x), purses := m.purses.set b (m.purses.getD b 0 + x) } := wf_shots (wf_purses (wf_roads hw fun y k hk => hw.rv a b y k (by rw [e]; exact List.mem_cons_of_mem _ hk)) b _) _
      refine cinv_addEv (m := { m with roads := up2 m.roads a b rest, shots := m.shots.map (shotParcel a b x), purses := m.purses.set b (m.purses.getD b 0 + x) }) (e := ⟨false, a, b, x⟩) hw' (cinv_same h rfl rfl rfl rfl rfl) ha.2.1 (causes := causesOf num) ?_
      show (lastOf b m.told :: causesOf num).foldl _ _ = [lastOf b m.told, giveOf r0 m.told ⟨false, a, b, x⟩].foldl _ _
      rw [hg]
      cases num with
      | none => rfl
      | some k => rfl
theorem cinv_give {r0 : Nat → Nat → List Int} {m : Mkt} (hw : WF m) (h : CInv r0 m) {a b : Nat} {x : Int} (ha : a < m.n) : CInv r0 (giveM m a b x) := by
  have := cinv_addEv (m := { m with purses := m.purses.set a (m.purses.getD a 0 - x) }) (e := ⟨true, a, b, x⟩) (wf_purses hw a _) (cinv_same h rfl rfl rfl rfl rfl) ha (causes := []) rfl
  exact cinv_same this rfl rfl rfl rfl rfl
theorem cinv_step {c0 : List Int} {r0 : Nat → Nat → List Int} {m : Mkt} (hw : WF m) (hr : RInv c0 r0 m) (h : CInv r0 m) {act : Act} (ha : ActOk m.n act) : CInv r0 (stepM m act).2 := by
  cases act with
  | take a b => exact cinv_take hw hr h ha
  | begin a =>
    obtain ⟨s1, s2, s3, s4, s5, _⟩ := writeM_same { m with shots := m.shots ++ [newSh m.n] } m.shots.length a none
    exact cinv_same h s4 s1 s2 s3 s5
  | give a b x =>
    show CInv r0 (if x > m.purses.getD a 0 then (D.str "no coins", m) else (D.non, giveM m a b x)).2
    split
    · exact h
    · exact cinv_give hw h ha.1
theorem cinv_new (coins : List Int) (ly : Nat → Nat → List Int) (ro : Nat → Nat → List Par) : CInv ly { newM coins with roads := ro } := by
  refine ⟨fun i hi => ?_, fun k e hk => by simp [newM] at hk⟩
  have hi' : i < coins.length := hi
  show (List.replicate coins.length none)[i]? = some none
  simp [List.getElem?_replicate, hi']
/-! ### which could have moved which -/
inductive Mv (r0 : Nat → Nat → List Int) (L : List Ev) : Nat → Nat → Prop
  | dir {c k : Nat} : some c ∈ causeL r0 L k → Mv r0 L c k
  | far {j c k : Nat} : some c ∈ causeL r0 L k → Mv r0 L j c → Mv r0 L j k
theorem Mv.lt {r0 : Nat → Nat → List Int} {L : List Ev} {j k : Nat} (h : Mv r0 L j k) : j < k := by
  induction h with
  | dir h => exact (cause_lt h).1
  | far h _ ih => have := (cause_lt h).1; omega
theorem mv_iff {r0 : Nat → Nat → List Int} {L : List Ev} {j k : Nat} : Mv r0 L j k ↔ ∃ c, some c ∈ causeL r0 L k ∧ (j = c ∨ Mv r0 L j c) := by
  constructor
  · intro h
    cases h with
    | dir h => exact ⟨_, h, .inl rfl⟩
    | far h g => exact ⟨_, h, .inr g⟩
  · rintro ⟨c, h, rfl | g⟩
    · exact .dir h
    · exact .far h g
/-- how many of a member's events are j or ahead of it in the log -/
def sq (L : List Ev) (j i : Nat) : Int := ((ofM i (L.take (j + 1))).length : Int)
theorem sq_mono {L : List Ev} {j k i : Nat} (h : j ≤ k) : sq L j i ≤ sq L k i := by
  unfold sq
  have e : L.take (k + 1) = L.take (j + 1) ++ (L.drop (j + 1)).take (k - j) := by
    rw [← List.take_add]; congr 1; omega
  rw [e, ofM_app, List.length_append]; omega
theorem sq_step {L : List Ev} {j k i : Nat} {e : Ev} (h : j < k) (hk : L[k]? = some e) (hw : who e = i) : sq L j i < sq L k i := by
  have h1 : sq L k i = ((ofM i (L.take k)).length : Int) + 1 := by
    unfold sq; rw [take_one hk, ofM_app, ofM_one, if_pos hw]; simp
  have h2 : sq L j i ≤ ((ofM i (L.take k)).length : Int) := by
    unfold sq
    have e : L.take k = L.take (j + 1) ++ (L.drop (j + 1)).take (k - (j + 1)) := by
      rw [← List.take_add]; congr 1; omega
    rw [e, ofM_app, List.length_append]; omega
  omega
structure Clk (r0 : Nat → Nat → List Int) (m : Mkt) (k : Nat) (w : Nat) : Prop where
  nn : ∀ i, 0 ≤ (m.stamps.getD k []).getD i 0
  le : ∀ i, (m.stamps.getD k []).getD i 0 ≤ sq m.told k i
  own : (m.stamps.getD k []).getD w 0 = sq m.told k w
  mv : ∀ (j : Nat) (f : Ev), m.told[j]? = some f → ((j = k ∨ Mv r0 m.told j k) ↔ sq m.told j (who f) ≤ (m.stamps.getD k []).getD (who f) 0)
theorem clock {r0 : Nat → Nat → List Int} {m : Mkt} (hw : WF m) (hev : ∀ e ∈ m.told, EvIn m.n e) (h : CInv r0 m) : ∀ (k : Nat) (e : Ev), m.told[k]? = some e → Clk r0 m k (who e) := by
  intro k
  induction k using Nat.strongRecOn with
  | _ k ih =>
  intro e he
  have hk := (List.getElem?_eq_some_iff.mp he).1
  obtain ⟨hst, _⟩ := h.ck k e he
  have hwn : who e < m.n := by
    have := hev e (List.mem_of_getElem? he)
    unfold who; split
    · exact this.1
    · exact this.2.1
  have hcs : ∀ c, some c ∈ causeL r0 m.told k → c < m.told.length := fun c hc => by have := cause_lt hc; omega
  have l0 : (List.replicate m.n (0 : Int)).length = m.n := by simp
  generalize hcl : causeL r0 m.told k = cs at hst hcs
  have hlen := len_fold m hw cs (List.replicate m.n 0, 1) hcs l0
  -- a bound lies below the greatest just if it lies below one
  have top : ∀ (i : Nat) (B : Int), 0 < B → (B ≤ (cs.foldl (cause m) (List.replicate m.n 0, 1)).1.getD i 0 ↔ ∃ c, some c ∈ cs ∧ B ≤ (m.stamps.getD c []).getD i 0) := by
    intro i B hB
    constructor
    · intro hle
      refine Classical.byContradiction fun z => ?_
      have := fold_bound m hw i (B - 1) cs (List.replicate m.n 0, 1) (fun c hc => ⟨hcs c hc, ?_⟩) l0 (by rw [rep_getD]; omega)
      · omega
      · have : ¬ B ≤ (m.stamps.getD c []).getD i 0 := fun q => z ⟨c, hc, q⟩
        omega
    · rintro ⟨c, hc, hle⟩
      exact fold_ge m hw i B cs (List.replicate m.n 0, 1) hcs l0 (.inr ⟨c, hc, hle⟩)
  have nn0 : ∀ i, 0 ≤ (cs.foldl (cause m) (List.replicate m.n 0, 1)).1.getD i 0 := fun i => fold_ge m hw i 0 cs (List.replicate m.n 0, 1) hcs l0 (.inl (by rw [rep_getD]; omega))
  have hsk : m.stamps.getD k [] = (cs.foldl (cause m) (List.replicate m.n 0, 1)).1.set (who e) ((cs.foldl (cause m) (List.replicate m.n 0, 1)).1.getD (who e) 0 + 1) := getD_of hst
  generalize hF : (cs.foldl (cause m) (List.replicate m.n 0, 1)).1 = F at hlen top nn0 hsk
  have hgk : ∀ i, (m.stamps.getD k []).getD i 0 = if i = who e then F.getD (who e) 0 + 1 else F.getD i 0 := fun i => by
    rw [hsk, getD_set _ _ _ _ _ (by rw [hlen]; exact hwn)]
  have evc : ∀ c, some c ∈ cs → ∃ f, m.told[c]? = some f ∧ c < k := fun c hc => by
    have hlt := hcs c hc
    have := (cause_lt (r0 := r0) (L := m.told) (k := k) (c := c) (by rw [hcl]; exact hc)).1
    exact ⟨m.told[c], List.getElem?_eq_getElem hlt, this⟩
  have hsqk : sq m.told k (who e) = ((ofM (who e) (m.told.take k)).length : Int) + 1 := by
    unfold sq; rw [take_one he, ofM_app, ofM_one, if_pos rfl]; simp
  have before : ∀ c i, c < k → sq m.told c i ≤ ((ofM i (m.told.take k)).length : Int) := fun c i hc => by
    unfold sq
    have e1 : m.told.take k = m.told.take (c + 1) ++ (m.told.drop (c + 1)).take (k - (c + 1)) := by
      rw [← List.take_add]; congr 1; omega
    rw [e1, ofM_app, List.length_append]; omega
  have hFle : ∀ i, F.getD i 0 ≤ ((ofM i (m.told.take k)).length : Int) := fun i => by
    have := fold_bound m hw i ((ofM i (m.told.take k)).length : Int) cs (List.replicate m.n 0, 1) (fun c hc => ⟨hcs c hc, ?_⟩) l0 (by rw [rep_getD]; omega)
    · rw [hF] at this; exact this
    · obtain ⟨f, hf, hlt⟩ := evc c hc
      have := (ih c hlt f hf).le i
      have := before c i hlt
      omega
  have ek : causeL r0 m.told k = [lastOf (who e) (m.told.take k), giveOf r0 (m.told.take k) e] := causeL_at he
  -- the last one of its own
  have hprev : ofM (who e) (m.told.take k) ≠ [] → ∃ p, some p ∈ cs ∧ p < k ∧ ∃ f, m.told[p]? = some f ∧ who f = who e ∧ sq m.told p (who e) = ((ofM (who e) (m.told.take k)).length : Int) := by
    intro hne
    cases hl : lastOf (who e) (m.told.take k) with
    | none => exact absurd (lastOf_none _ hl) hne
    | some p =>
      obtain ⟨h1, ⟨f, h2, h3⟩, h4⟩ := lastOf_some _ hl
      have hpk : p < k := by simp at h1; omega
      refine ⟨p, by rw [← hcl, ek, hl]; simp, hpk, f, ?_, h3, ?_⟩
      · rw [List.getElem?_take, if_pos hpk] at h2; exact h2
      · unfold sq
        rw [List.take_take, Nat.min_eq_left (by omega)] at h4
        rw [h4]
  have hFown : F.getD (who e) 0 = ((ofM (who e) (m.told.take k)).length : Int) := by
    by_cases hne : ofM (who e) (m.told.take k) = []
    · have := hFle (who e); have := nn0 (who e)
      rw [hne] at *; simp at *; omega
    · obtain ⟨p, hp, hpk, f, hf, hwf, hsq⟩ := hprev hne
      have hpos : 0 < ((ofM (who e) (m.told.take k)).length : Int) := by
        have := List.length_pos_iff.mpr hne; omega
      have := (top (who e) _ hpos).mpr ⟨p, hp, by rw [← hwf, (ih p hpk f hf).own, hwf]; omega⟩
      have := hFle (who e)
      omega
  refine ⟨fun i => ?_, fun i => ?_, ?_, fun j f hj => ?_⟩
  · rw [hgk]; have := nn0 i; have := nn0 (who e); split <;> omega
  · rw [hgk]
    split
    · next z => rw [z, hsqk, hFown]; omega
    · have := hFle i
      have : ((ofM i (m.told.take k)).length : Int) ≤ sq m.told k i := by
        unfold sq; rw [take_one he, ofM_app, List.length_append]; omega
      omega
  · rw [hgk, if_pos rfl, hsqk, hFown]
  · rw [hgk]
    have hsj : 0 < sq m.told j (who f) := by
      unfold sq; rw [take_one hj, ofM_app, ofM_one, if_pos rfl]; simp
    by_cases hwho : who f = who e
    · rw [if_pos hwho, hFown, hwho, ← hsqk]
      constructor
      · rintro (rfl | hm)
        · exact Int.le_refl _
        · exact sq_mono (Nat.le_of_lt hm.lt)
      · intro hle
        by_cases hjk : j = k
        · exact .inl hjk
        · by_cases hlt : j < k
          · right
            have hne : ofM (who e) (m.told.take k) ≠ [] := by
              intro z
              have := before j (who e) hlt
              rw [z] at this
              rw [hwho] at hsj
              simp at this; omega
            obtain ⟨p, hp, hpk, g, hg, hwg, hsq⟩ := hprev hne
            have := (ih p hpk g hg).mv j f hj
            rw [hwho, ← hwg, (ih p hpk g hg).own, hwg, hsq] at this
            have := this.mpr (before j (who e) hlt)
            exact mv_iff.mpr ⟨p, by rw [hcl]; exact hp, this⟩
          · exfalso
            have := sq_step (L := m.told) (j := k) (k := j) (i := who e) (by omega) hj hwho
            omega
    · rw [if_neg hwho, top _ _ hsj]
      constructor
      · rintro (rfl | hm)
        · rw [he] at hj; cases hj; exact absurd rfl hwho
        · obtain ⟨c, hc, hor⟩ := mv_iff.mp hm
          rw [hcl] at hc
          obtain ⟨g, hg, hlt⟩ := evc c hc
          exact ⟨c, hc, ((ih c hlt g hg).mv j f hj).mp hor⟩
      · rintro ⟨c, hc, hle⟩
        obtain ⟨g, hg, hlt⟩ := evc c hc
        exact .inr (mv_iff.mpr ⟨c, by rw [hcl]; exact hc, ((ih c hlt g hg).mv j f hj).mpr hle⟩)
end SS
namespace SS
open PySem L2 PyProof.Rows
/-! ### is not, of bools -/
def oNotB : D2 := fun d e S Q => ∃ a b : Bool, d = .bl a ∧ e = .bl b ∧ Q (.bl (!decide (a = b))) S
theorem oNotB_l {K : PySem.W.Frag} : OpL K rNotB oNotB := by
  rintro ρ H S x y d e Q' Q s r1 r2 ⟨a, b, rfl, rfl, q⟩ po
  cases r1; cases r2
  exact ⟨a, b, rfl, rfl, po.here s (.bl _) q⟩
section
variable {X : Cx} {W : WX} {a b e : Expr} {ra rb : LTE} {lo hi : Option Expr} {rl rh : LTO} {pos p2 : Pos}
theorem le_notB (ha : LE X W a ra) (hb : LE X W b rb) : LE X W (.Compare a [.IsNot] [b] pos) (rOp oNotB ra rb) := le_cmp op_notBl oNotB_l ha hb (nomark _)
theorem lt_notB (ha : LE X W a ra) (hb : LE X W b rb) : LT X W (.Compare a [.IsNot] [b] pos) (rTest (rOp oNotB ra rb)) := lt_cmp op_notBl oNotB_l ha hb (nomark _)
/-- a slice of a tuple, or the whole -/
def rSliceA (r : LTE) (rl rh : LTO) : LTE := rSlice (fun d lo hi S Q => ∃ ds, d = .tup ds ∧ Q (.tup (cutD ds lo hi)) S) r rl rh
theorem cut_whole {α : Type} {ds : List α} {lo hi : Option Int} (h : HT.sIx ds.length 0 lo = 0 ∧ HT.sIx ds.length ds.length hi = ds.length) : cutD ds lo hi = ds := by
  unfold cutD; rw [h.1, h.2]; simp
theorem le_sliceA (he : LE X W e ra) (hl : LO' X W lo rl) (hu : LO' X W hi rh) : LE X W (.Subscript e (.Slice lo hi none p2) pos) (rSliceA ra rl rh) :=
  peI (pe_slice sl_tupA he hl hu) fun _ _ _ h => slice_lift (fun ρ H S v d lo hi Q' Q s r ⟨ds, hd, q⟩ po => by
    subst hd
    cases r with
    | @tup a vs _ h1 rs =>
      refine ⟨a, vs, rfl, .of h1, fun hw => ?_, fun hw p np => ?_⟩
      · rw [rs.length] at hw
        rw [cut_whole hw] at q
        exact po.here s (.tup h1 rs) q
      · obtain ⟨s2, e2⟩ := s.laidT (xs := cutV vs lo hi) np
        exact po _ _ _ _ _ e2 s2 (.tup upd_same ((cut_vr rs lo hi).mono e2)) q) h
end
/-! ### min of a tuple of ints -/
def rMinT (K : PySem.W.Frag) : List V → Hp → VK → Prop := fun vs H Q => ∃ (a : Addr) (ns : List Int), vs = [V.ref a] ∧ SqT K H a (ns.map V.int) ∧ 0 < ns.length ∧ ∀ m, m ∈ ns → Q (.int m) H
theorem reads_ints {h : Heap} : ∀ {ns : List Int} {its : List Value}, Vals (ns.map V.int) its → ReadsAll h its (ns.map PyData.int) []
  | [], _, .nil => .nil
  | n :: ns, _, .cons r t => by
    obtain ⟨tk, rfl⟩ := r
    exact ReadsAll.cons (as := []) (.int n tk) (reads_ints t)
theorem ints_alike (ns : List Int) : PySem.W.AlikeAll (ns.map PyData.int) := by
  refine ⟨fun x hx y hy => ?_, fun x hx => ?_⟩
  · obtain ⟨i, _, rfl⟩ := List.mem_map.mp hx
    obtain ⟨j, _, rfl⟩ := List.mem_map.mp hy
    rfl
  · obtain ⟨i, _, rfl⟩ := List.mem_map.mp hx
    intro z; cases z
theorem ints_depth : ∀ ns : List Int, PyData.depthAll (ns.map PyData.int) ≤ 1
  | [] => Nat.zero_le _
  | n :: ns => by rw [List.map_cons, PyData.depthAll, PyData.depth]; have := ints_depth ns; omega
theorem cr_minT {X : Cx} (hc : X.calm = true) (hu : X.A.units + 65 < cLine) : CallR X (.builtin "min") (rMinT X.K) := by
  intro pins s σ H vs us Q I r ⟨a, ns, e, hs, hne, q⟩
  subst e
  rw [Vals.ref1 r]
  obtain ⟨its, rv, hl, hlen⟩ := I.tuple hs
  cases ns with
  | nil => simp at hne
  | cons n ns =>
    have hd := ints_depth (n :: ns)
    refine PySem.W.min_tuple_data (x := .int n) (xs := ns.map PyData.int) (I.ok.hd hc) hl (by simpa using reads_ints rv) (ints_alike (n :: ns)) (by rw [List.map_cons] at hd; omega) fun i v h' tk bs hv hr hk => ?_
    have hv' : its[i]? = some v := by simpa using hv
    have hi := (List.getElem?_eq_some_iff.mp hv').1
    have hlen := rv.length
    rw [List.length_map] at hlen
    have hm : (n :: ns)[i]? = some ((n :: ns)[i]'(by omega)) := List.getElem?_eq_getElem (by omega)
    obtain ⟨u, h1, h2⟩ := rv.get (show ((n :: ns).map V.int)[i]? = some (V.int ((n :: ns)[i]'(by omega))) by rw [List.getElem?_map, hm]; rfl)
    rw [hv'] at h1; cases h1
    exact ⟨.int _, H, I.kept hk, h2, q _ (List.mem_of_getElem? hm)⟩
def dMinT : DA := fun ds S Q => ∃ ns : List Int, ds = [.tup (ns.map D.int)] ∧ 0 < ns.length ∧ ∀ m, m ∈ ns → Q (.int m) S
theorem dMinT_l {K : PySem.W.Frag} : CaL K (rMinT K) dMinT := by
  rintro ρ H S vs ds Q' Q s r0 ⟨ns, rfl, hne, q⟩ po
  obtain ⟨v, rfl, r⟩ := r0.one
  cases r with
  | tup h1 rs =>
    have := rs.ints
    subst this
    exact ⟨_, ns, rfl, .of h1, hne, fun m hm => po.here s (.int _) (q m hm)⟩
end SS
namespace SS
open PySem L2
/-! ### all that is known behind the acts -/
structure AllI (coins : List Int) (i : Nat) (m : Mkt) : Prop where
  iv : InvG coins.length coins.sum i m
  bg : Begun m
  ri : RInv coins r00 m
  sl : SLieAll coins r00 m
  tp : TPos m.told
  ci : CInv r00 m
def ActPos : Act → Prop
  | .give _ _ x => 1 ≤ x
  | _ => True
theorem tpos_take {m : Mkt} (h : TPos m.told) (a b : Nat) : TPos (takeM m a b).told := by
  unfold takeM
  split
  · exact h
  · intro e he hg
    have he' : e ∈ m.told ++ [_] := he
    rcases List.mem_append.mp he' with z | z
    · exact h e z hg
    · simp at z; subst z; cases hg
  · show TPos (markM _ _ a b).told
    rw [(markM_same _ _ a b).1]; exact h
theorem tpos_step {m : Mkt} (h : TPos m.told) {act : Act} (ha : ActPos act) : TPos (stepM m act).2.told := by
  cases act with
  | take a b => exact tpos_take h a b
  | begin a =>
    show TPos (beginM m a).told
    unfold beginM; rw [(writeM_same _ _ a none).1]; exact h
  | give a b x =>
    show TPos (if x > m.purses.getD a 0 then (D.str "no coins", m) else (D.non, giveM m a b x)).2.told
    split
    · exact h
    · intro e he hg
      have he' : e ∈ m.told ++ [_] := he
      rcases List.mem_append.mp he' with z | z
      · exact h e z hg
      · simp at z; subst z; exact ha
theorem allI_step {coins : List Int} {i : Nat} {m : Mkt} (h : AllI coins i m) {act : Act} (ha : ActOk coins.length act) (hp : ActPos act) : AllI coins (i + 1) (stepM m act).2 := by
  have ha' : ActOk m.n act := by rw [h.iv.en]; exact ha
  exact ⟨invG_step h.iv ha, begun_step h.iv h.bg ha, rinv_step h.iv.wf h.ri ha', slie_step h.iv.wf h.iv.si h.ri h.sl ha', tpos_step h.tp hp, cinv_step h.iv.wf h.ri h.ci ha'⟩
theorem allI_new {coins : List Int} (h2 : 2 ≤ coins.length) (h5 : coins.length ≤ 5) : AllI coins 0 (newM coins) :=
  ⟨invG_new h2 h5, begun_new coins, rinv_new coins, fun k s hk => by simp [newM] at hk, fun e he => by simp [newM] at he, cinv_new coins r00 _⟩
theorem AllI.more {coins : List Int} {i j : Nat} {m : Mkt} (h : AllI coins i m) (hj : i ≤ j) : AllI coins j m := ⟨h.iv.more hj, h.bg, h.ri, h.sl, h.tp, h.ci⟩
theorem acts_pos (ns : List Int) (b : Bool) : ∀ a ∈ actsOf ns b, ActPos a := by
  intro a ha
  unfold actsOf at ha
  rcases List.mem_cons.mp ha with z | z
  · subst z
    have := mix_nn (ns.getD 1 0) 9923 9 (by omega)
    show 1 ≤ 1 + _; omega
  · obtain ⟨c, _, rfl⟩ := List.mem_map.mp z
    unfold actOf
    split
    · have := mix_nn c 9929 30 (by omega)
      show 1 ≤ 1 + _; omega
    · split <;> trivial
theorem coins_nn (ns : List Int) (i : Nat) : 0 ≤ (coinsOf ns).getD i 0 := by
  unfold coinsOf
  rw [List.getD_eq_getElem?_getD, List.getElem?_map]
  cases e : (List.range (manyOf ns))[i]? with
  | none => simp
  | some k => exact mix_nn _ 9967 60 (by omega)
/-- what takes keep stays while roads are emptied -/
theorem drain_keeps {n : Nat} {T : Int} {B : Nat} {P : Mkt → Prop} (hP : ∀ {m : Mkt} {a b : Nat}, Good n T B m → P m → (a < n ∧ b < n ∧ a ≠ b) → P (takeM m a b)) : ∀ (j : Nat) {m : Mkt}, Good n T B m → P m → P (drain j m) := by
  have tk : ∀ {m : Mkt}, Good n T B m → P m → ∀ {a b : Nat}, (a < n ∧ b < n ∧ a ≠ b) → ∀ j, j ≤ (m.roads a b).length → P (takeN m a b j) := by
    intro m g hp a b hab j
    induction j with
    | zero => intro _; exact hp
    | succ j ih =>
      intro hj
      obtain ⟨gj, _, _⟩ := takeN_ok g hab j (by omega)
      rw [takeN_succ]
      exact hP gj (ih (by omega)) hab
  have fo : ∀ (l : List (Nat × Nat)) {m : Mkt}, Good n T B m → P m → (∀ p ∈ l, p.1 < n ∧ p.2 < n ∧ p.1 ≠ p.2) → P (l.foldl passP m) := by
    intro l
    induction l with
    | nil => intro m _ hp _; exact hp
    | cons p l ih =>
      intro m g hp hl
      have h1 := tk g hp (hl p List.mem_cons_self) _ (Nat.le_refl _)
      obtain ⟨g', _⟩ := passP_ok g (hl p List.mem_cons_self)
      exact ih g' h1 fun q hq => hl q (List.mem_cons_of_mem _ hq)
  intro j
  induction j with
  | zero => intro m _ hp; exact hp
  | succ j ih =>
    intro m g hp
    unfold drain
    split
    · exact hp
    · exact ih (passM_ok g) (fo (pairs m.n) g hp (by rw [g.en]; exact pairs_in))
structure KeepI (coins : List Int) (m : Mkt) : Prop where
  bg : Begun m
  ri : RInv coins r00 m
  sl : SLieAll coins r00 m
  tp : TPos m.told
theorem empty_keeps {coins : List Int} {B : Nat} {m : Mkt} (g : Good coins.length coins.sum B m) (h : KeepI coins m) : KeepI coins (emptyM m) := by
  refine drain_keeps (P := KeepI coins) (fun {m a b} g h hab => ?_) _ g h
  obtain ⟨i, iv, _⟩ := g
  have hab' : a < m.n ∧ b < m.n ∧ a ≠ b := by rw [iv.en]; exact hab
  exact ⟨begun_take iv h.bg hab, rinv_take iv.wf h.ri hab', slie_take iv.wf iv.si h.ri h.sl hab', tpos_take h.tp a b⟩
theorem AllI.keep {coins : List Int} {i : Nat} {m : Mkt} (h : AllI coins i m) : KeepI coins m := ⟨h.bg, h.ri, h.sl, h.tp⟩
/-! ### how the laws begin -/
theorem mk_market {C : Cl} {coins : List Int} {S : Store} {Q : QD} {rm : Nat} {Ex : Value → Store → Prop} (c2 : 2 ≤ coins.length) (c5 : coins.length ≤ 5) (hrm : ∀ f, S rm f = none) (h : Q .non (S.setR rm (encM C rm (newM coins)))) :
    sp_Market_init C [.loc rm .mI, .tup (coins.map D.int)] (S.set rm .mI (.ins C.m [])) Q Ex := by
  refine ⟨rm, coins, rfl, ?_, c2, c5, ?_⟩
  · funext f
    by_cases e : f = .mI
    · subst e; rw [set_same]; simp [oneR]
    · rw [set_nf e, hrm f]; simp [oneR, e]
  · rw [set_R, setR_setR]; exact h
theorem law_pre {C : Cl} {ns : List Int} (hl : ns.length ≤ 63) {S : Store} {tl : LEnv} {rest : LTS} {Z : LEnds}
    (h : ∀ (rm : Nat) (coins : List Int) (m : Mkt) (v : Option D), coins = coinsOf ns → 2 ≤ coins.length → coins.length ≤ 5 → (∀ i, 0 ≤ coins.getD i 0) → (∀ f, S rm f = none) → AllI coins 61 m → rest Z (some (.rol ns) :: some (.tup (coins.map D.int)) :: some (.loc rm .mI) :: some (.int m.shots.length) :: v :: tl) (S.setR rm (encM C rm m))) :
    rSeq (rSet 1 (rDef (sp_law_coins C) (rCons (rVar 0) rNil))) (rSeq (rSet 2 (rMake (newF .mI) C.m (sp_Market_init C) (rCons (rVar 1) rNil))) (rSeq (rSet 3 (rC (.int 0))) (rSeq (rFor (iLst (rDef (sp_law_acts C) (rCons (rVar 0) (rCons (rC (.bl true)) rNil)))) (.nm 4) (rSeq (rDrop (rDef (sp_law_do C) (rCons (rVar 2) (rCons (rVar 4) rNil)))) (rSet 3 (rOp oAdd (rVar 3) (rCall dInt (rCons (rOp oEq (rOp ixD (rVar 4) (rC (.int 0))) (rC (.str "begin"))) rNil)))))) rest))) Z (some (.rol ns) :: none :: none :: none :: none :: tl) S := by
  obtain ⟨m2, m5, em⟩ := many_ge ns
  have hcl : (coinsOf ns).length = manyOf ns := by simp [coinsOf]
  have hnn := coins_nn ns
  refine ⟨_, rfl, ns, rfl, hl, .here ?_⟩
  generalize hcs : coinsOf ns = coins at *
  have c2 : 2 ≤ coins.length := by omega
  have c5 : coins.length ≤ 5 := by omega
  refine ⟨_, rfl, fun rm hrm => mk_market c2 c5 hrm ⟨rfl, .here (.here ?_)⟩⟩
  refine ⟨_, rfl, ns, true, rfl, hl, fun ra hra => ?_⟩
  have nma : rm ≠ ra := ne_fresh hra (f := .mI) (by rw [setR_same]; exact encM_live)
  have ha0 := act_ok ns true
  have hp0 := acts_pos ns true
  have hl0 := acts_len ns true hl
  generalize hac : actsOf ns true = acts at ha0 hp0 hl0 ⊢
  rw [← hcl] at ha0
  refine ⟨acts.map encAct, by show _ = _; rw [tmp_at], ?_⟩
  refine ⟨fun i env S' => ∃ v m, env = some (.rol ns) :: some (.tup (coins.map D.int)) :: some (.loc rm .mI) :: some (.int m.shots.length) :: v :: tl ∧ AllI coins i m ∧ S' = X2 S rm ra (encM C rm m) (tmpR (.lst (acts.map encAct))), .here ⟨none, newM coins, rfl, allI_new c2 c5, rfl⟩, ?_, ?_⟩
  · rintro i d env S' hd ⟨v, m, rfl, ai, rfl⟩
    rw [List.getElem?_map] at hd
    cases ea : acts[i]? with
    | none => rw [ea] at hd; cases hd
    | some act =>
    rw [ea] at hd; cases hd
    have hmem := List.mem_of_getElem? ea
    have hi : i < acts.length := (List.getElem?_eq_some_iff.mp ea).1
    have hA : ActOk m.n act := by rw [ai.iv.en]; exact ha0 _ hmem
    refine ⟨by show _ = _; rw [x2_b, tmpR_tmp], ?_⟩
    refine ⟨_, rfl, _, rfl, rm, m, act, rfl, x2_a nma, ai.iv.ok (by omega), hA, .here ?_⟩
    rw [x2_pa nma]
    refine ⟨_, rfl, begun_read (act := act) rfl ⟨_, _, rfl, rfl, .here ⟨some (encAct act), (stepM m act).2, ?_, allI_step ai (ha0 _ hmem) (hp0 _ hmem), rfl⟩⟩⟩
    rw [shots_step]; rfl
  · rintro env S' ⟨v, m, rfl, ai, rfl⟩
    refine ⟨by show _ = _; rw [x2_b, tmpR_tmp], ?_⟩
    rw [List.length_map] at ai
    refine ⟨S.setR rm (encM C rm m), sub_drop fun f => ?_, h rm coins m v rfl c2 c5 hnn hrm (ai.more hl0)⟩
    have := hra f
    rw [setR_ne (Ne.symm nma)] at this ⊢; exact this
/-- without counting -/
theorem law_pre0 {C : Cl} {ns : List Int} (hl : ns.length ≤ 63) {S : Store} {tl : LEnv} {rest : LTS} {Z : LEnds}
    (h : ∀ (rm : Nat) (coins : List Int) (m : Mkt) (v : Option D), coins = coinsOf ns → 2 ≤ coins.length → coins.length ≤ 5 → (∀ i, 0 ≤ coins.getD i 0) → (∀ f, S rm f = none) → AllI coins 61 m → rest Z (some (.rol ns) :: some (.tup (coins.map D.int)) :: some (.loc rm .mI) :: v :: tl) (S.setR rm (encM C rm m))) :
    rSeq (rSet 1 (rDef (sp_law_coins C) (rCons (rVar 0) rNil))) (rSeq (rSet 2 (rMake (newF .mI) C.m (sp_Market_init C) (rCons (rVar 1) rNil))) (rSeq (rFor (iLst (rDef (sp_law_acts C) (rCons (rVar 0) (rCons (rC (.bl true)) rNil)))) (.nm 3) (rDrop (rDef (sp_law_do C) (rCons (rVar 2) (rCons (rVar 3) rNil))))) rest)) Z (some (.rol ns) :: none :: none :: none :: tl) S := by
  obtain ⟨m2, m5, em⟩ := many_ge ns
  have hcl : (coinsOf ns).length = manyOf ns := by simp [coinsOf]
  have hnn := coins_nn ns
  refine ⟨_, rfl, ns, rfl, hl, .here ?_⟩
  generalize hcs : coinsOf ns = coins at *
  have c2 : 2 ≤ coins.length := by omega
  have c5 : coins.length ≤ 5 := by omega
  refine ⟨_, rfl, fun rm hrm => mk_market c2 c5 hrm ⟨rfl, .here ?_⟩⟩
  refine ⟨_, rfl, ns, true, rfl, hl, fun ra hra => ?_⟩
  have nma : rm ≠ ra := ne_fresh hra (f := .mI) (by rw [setR_same]; exact encM_live)
  have ha0 := act_ok ns true
  have hp0 := acts_pos ns true
  have hl0 := acts_len ns true hl
  generalize hac : actsOf ns true = acts at ha0 hp0 hl0 ⊢
  rw [← hcl] at ha0
  refine ⟨acts.map encAct, by show _ = _; rw [tmp_at], ?_⟩
  refine ⟨fun i env S' => ∃ v m, env = some (.rol ns) :: some (.tup (coins.map D.int)) :: some (.loc rm .mI) :: v :: tl ∧ AllI coins i m ∧ S' = X2 S rm ra (encM C rm m) (tmpR (.lst (acts.map encAct))), .here ⟨none, newM coins, rfl, allI_new c2 c5, rfl⟩, ?_, ?_⟩
  · rintro i d env S' hd ⟨v, m, rfl, ai, rfl⟩
    rw [List.getElem?_map] at hd
    cases ea : acts[i]? with
    | none => rw [ea] at hd; cases hd
    | some act =>
    rw [ea] at hd; cases hd
    have hmem := List.mem_of_getElem? ea
    have hi : i < acts.length := (List.getElem?_eq_some_iff.mp ea).1
    have hA : ActOk m.n act := by rw [ai.iv.en]; exact ha0 _ hmem
    refine ⟨by show _ = _; rw [x2_b, tmpR_tmp], ?_⟩
    refine ⟨_, rfl, _, rfl, rm, m, act, rfl, x2_a nma, ai.iv.ok (by omega), hA, ?_⟩
    rw [x2_pa nma]
    exact .here ⟨some (encAct act), (stepM m act).2, rfl, allI_step ai (ha0 _ hmem) (hp0 _ hmem), rfl⟩
  · rintro env S' ⟨v, m, rfl, ai, rfl⟩
    refine ⟨by show _ = _; rw [x2_b, tmpR_tmp], ?_⟩
    rw [List.length_map] at ai
    refine ⟨S.setR rm (encM C rm m), sub_drop fun f => ?_, h rm coins m v rfl c2 c5 hnn hrm (ai.more hl0)⟩
    have := hra f
    rw [setR_ne (Ne.symm nma)] at this ⊢; exact this
end SS
namespace SS
open PySem L2
/-- law: slots 0 script 1 coins 2 market 3 begun 4 act 5 one 6 other 7 k 8 found 9 amount 10 road 11 amounts 12 each -/
def r_law9 (K : PySem.W.Frag) (C : Cl) : LTS :=
  (rSeq (rSet 1 (rDef (sp_law_coins C) (rCons (rVar 0) rNil))) (rSeq (rSet 2 (rMake (newF .mI) C.m (sp_Market_init C) (rCons (rVar 1) rNil))) (rSeq (rSet 3 (rC (.int 0))) (rSeq (rFor (iLst (rDef (sp_law_acts C) (rCons (rVar 0) (rCons (rC (.bl true)) rNil)))) (.nm 4) (rSeq (rDrop (rDef (sp_law_do C) (rCons (rVar 2) (rCons (rVar 4) rNil)))) (rSet 3 (rOp oAdd (rVar 3) (rCall dInt (rCons (rOp oEq (rOp ixD (rVar 4) (rC (.int 0))) (rC (.str "begin"))) rNil)))))) (rSeq (rIf (rOr (rTest (rOp oIsNot (rDef (sp_emptied C) (rCons (rVar 2) rNil)) (rC .non))) (rTest (rOp oNe (rCall dSum (rCons (rMeth0 C.m "coins" (sp_Market_coins C) (rVar 2)) rNil)) (rCall dSum (rCons (rVar 1) rNil))))) (rRet (rC (.bl false))) rNext) (rSeq (rFor (iLst (rDef (sp_law_pairs C) (rCons (rCall dLen (rCons (rVar 1) rNil)) rNil))) (.tp [5, 6]) (rIf (rTest (rOp oNeD (rMeth C.m "road" (sp_Market_road C) (rVar 2) (rCons (rVar 5) (rCons (rVar 6) rNil))) (rTup rNil))) (rRet (rC (.bl false))) rNext)) (rSeq (rFor (iRng (rCons (rVar 3) rNil)) (.nm 7) (rSeq (rIf (rTest (rOp oNotB (rMeth C.m "is_done" (sp_Market_is_done C) (rVar 2) (rCons (rVar 7) rNil)) (rC (.bl true)))) (rRet (rC (.bl false))) rNext) (rSeq (rSet 8 (rMeth C.m "picture" (sp_Market_picture C) (rVar 2) (rCons (rVar 7) rNil))) (rSeq (rSet 9 (rCall dSum (rCons (rOp ixD (rVar 8) (rC (.int 0))) rNil))) (rSeq (rIf (rOr (rTest (rOp oNe (rCall dLen (rCons (rOp ixD (rVar 8) (rC (.int 0))) rNil)) (rCall dLen (rCons (rVar 1) rNil)))) (rTest (rOp oNeD (rLc (newF .tmp) (iTp (rOp ixD (rVar 8) (rC (.int 1)))) (.nm 10) rYes (rSliceT (rVar 10) rNoPart (rPart (rC (.int 2))))) (rDef (sp_law_pairs C) (rCons (rCall dLen (rCons (rVar 1) rNil)) rNil))))) (rRet (rC (.bl false))) rNext) (rSeq (rFor (iTp (rOp ixD (rVar 8) (rC (.int 1)))) (.tp [5, 6, 11]) (rSeq (rSet 9 (rOp oAdd (rVar 9) (rCall dSum (rCons (rVar 11) rNil)))) (rIf (rOr (rNot (rTest (rCall (dIsi K (.ty "tuple") (.type "tuple")) (rCons (rVar 11) (rCons (rC (.raw (.ty "tuple"))) rNil))))) (rNot (rTest (rCall dAll (rCons (rLc (newF .tmp) (iTp (rVar 11)) (.nm 12) rYes (rAndV (rDef (sp_law_whole C) (rCons (rVar 12) rNil)) (rOp oGt (rVar 12) (rC (.int 0))))) rNil))))) (rRet (rC (.bl false))) rNext))) (rIf (rOr (rTest (rOp oNe (rVar 9) (rCall dSum (rCons (rVar 1) rNil)))) (rTest (rOp oLt (rCall dMinT (rCons (rOp ixD (rVar 8) (rC (.int 0))) rNil)) (rC (.int 0))))) (rRet (rC (.bl false))) rNext))))))) (rRet (rC (.bl true))))))))))
end SS
namespace SS
open PySem L2
def sp_law9 (C : Cl) : LSp := fun ds S Q _ => ∃ ns : List Int, ds = [.rol ns] ∧ ns.length ≤ 63 ∧ Q (.bl true) S
theorem sum_empty {m : Mkt} (h : allEmpty m = true) : m.purses.sum = totalM m := by
  unfold totalM
  rw [allEmpty_iff] at h
  have : ((pairs m.n).map fun p => onRoad (m.roads p.1 p.2)) = (pairs m.n).map fun _ => (0 : Int) := List.map_congr_left fun p hp => by rw [h p hp]; rfl
  rw [this]
  have z : ∀ l : List (Nat × Nat), (l.map fun _ => (0 : Int)).sum = 0 := by
    intro l
    induction l with
    | nil => rfl
    | cons x l ih => rw [List.map_cons, List.sum_cons, ih]; rfl
  rw [z]; omega
theorem ne_int {i j : Int} {S : Store} {P : QD} (e : i = j) (h : P (.bl false) S) : oNe (.int i) (.int j) S P := by
  subst e
  refine ⟨true, ?_, h⟩
  show some (decide (V.int i = V.int i)) = some true
  simp
theorem picD_at {c0 : List Int} {r0 : Nat → Nat → List Int} {m : Mkt} {s : Sh} (h : DoneF c0 r0 m s) (hl : s.written.length = m.n) : picD m.n s = .tup [.tup ((shownL m c0 s).map D.int), .tup (picRoads m.n s)] := by
  unfold picD
  rw [written_eq h hl, List.map_map]; rfl
theorem lying_pos {c0 : List Int} {m : Mkt} {s : Sh} (h : DoneF c0 r00 m s) (ht : TPos m.told) {a b : Nat} (hab : a < m.n ∧ b < m.n ∧ a ≠ b) : ∀ x ∈ s.lying a b, 1 ≤ x := by
  intro x hx
  rw [h.ly a b hab] at hx
  have := List.mem_of_mem_drop hx
  rw [show r00 a b = [] from rfl, List.nil_append] at this
  exact gAm_pos (L := aheadL (cutN s) m.told) (fun e he => ht e ((ahead_mem e).1 he)) a b x this
theorem shown_nn {c0 : List Int} {m : Mkt} {s : Sh} (hc : ∀ i, 0 ≤ c0.getD i 0) (hr : RInv c0 r00 m) (ht : TPos m.told) : ∀ x ∈ shownL m c0 s, 0 ≤ x := by
  intro x hx
  unfold shownL at hx
  obtain ⟨i, _, rfl⟩ := List.mem_map.mp hx
  rw [(ofM_split _ _ i).1]
  exact bal_nn hc (fun _ _ x hx => by simp [r00] at hx) m.told.length m.told rfl hr.run ht i _
theorem road_item {m : Mkt} {s : Sh} {i : Nat} {x : D} (h : (picRoads m.n s)[i]? = some x) : ∃ a b : Nat, (a < m.n ∧ b < m.n ∧ a ≠ b) ∧ (pairs m.n)[i]? = some (a, b) ∧ x = .tup [.int a, .int b, .tup ((s.lying a b).map D.int)] := by
  unfold picRoads at h
  rw [List.getElem?_map] at h
  cases e : (pairs m.n)[i]? with
  | none => rw [e] at h; cases h
  | some p =>
    rw [e] at h; cases h
    exact ⟨p.1, p.2, mem_pairs.mp (List.mem_of_getElem? e), rfl, rfl⟩
theorem picRoads_len (n : Nat) (s : Sh) : (picRoads n s).length = (pairs n).length := by simp [picRoads]
theorem read_law9 {K : PySem.W.Frag} {C : Cl} (hk : PySem.W.kitOne K (.type "tuple") (.type "tuple") = some true) (ds : List D) (S : Store) (Q : QD) (Ex : Value → Store → Prop) (h : sp_law9 C ds S Q Ex) : r_law9 K C (ends0 Q) (start ["script", "coins", "market", "begun", "act", "one", "other", "k", "found", "amount", "road", "amounts", "each"] ds) S := by
  obtain ⟨ns, rfl, hl, q⟩ := h
  refine law_pre (tl := [none, none, none, none, none, none, none, none]) hl fun rm coins m v hcs c2 c5 hnn hrm ai => ?_
  have hln : (coins.map D.int).length = coins.length := List.length_map ..
  have g := invG_good ai.iv (Nat.le_refl _)
  obtain ⟨gE, heE⟩ := drain_ok (mu m) g (Nat.le_refl _)
  have kE := empty_keeps g ai.keep
  have hsE := (emp_begun g ai.bg).2
  have hsl : (emptyM m).shots.length ≤ 61 := by rw [hsE]; exact ai.iv.shots
  refine ⟨_, rfl, rm, m, _, _, _, rfl, setR_same, g, by omega, rfl, true, rfl, _, rfl, iteF ?_⟩
  rw [setR_setR, ← hsE]
  have heE' : allEmpty (emptyM m) = true := heE
  have gE' : Good coins.length coins.sum 4000 (emptyM m) := gE
  generalize hE : emptyM m = E at kE hsl heE' gE' ⊢
  obtain ⟨i0, ivE, _⟩ := id gE'
  have gok := gE'.ok (by omega)
  have hEn : E.n = coins.length := ivE.en
  have n5 : E.n ≤ 5 := gok.wf.n5
  generalize hX : S.setR rm (encM C rm E) = X
  have Xm : X rm = encM C rm E := by rw [← hX, setR_same]
  have hI : X rm .mI = some (.ins C.m (mFs rm E.n)) := by rw [Xm]; rfl
  refine ⟨_, rfl, rm, .mI, _, rfl, hI, rfl, rm, E, rfl, Xm, _, E.purses, rfl, rfl, _, rfl, _, coins, rfl, rfl, ne_int (by rw [sum_empty heE', ivE.tot]) ⟨_, rfl, iteF (.here ?_)⟩⟩
  -- the roads are empty
  refine ⟨_, rfl, _, _, rfl, rfl, E.n, by rw [hln, hEn], n5, fun rp hrp => ?_⟩
  have nrp : rm ≠ rp := ne_fresh hrp (f := .mI) (by rw [hI]; simp)
  refine ⟨_, by show _ = _; rw [tmp_at], ?_⟩
  refine ⟨fun i env S' => ∃ v5 v6, env = [some (.rol ns), some (.tup (coins.map D.int)), some (.loc rm .mI), some (.int E.shots.length), v, v5, v6, none, none, none, none, none, none] ∧ S' = X.setR rp (tmpR (.lst ((pairs E.n).map pairD2))), .here ⟨none, none, rfl, rfl⟩, ?_, ?_⟩
  · rintro i d env S' hd ⟨v5, v6, rfl, rfl⟩
    obtain ⟨a, b, hab, hp, rfl⟩ := pair_at hd
    refine ⟨by show _ = _; rw [tmp_at], ⟨_, rfl, rfl, ?_⟩⟩
    have hXr : (X.setR rp (tmpR (.lst ((pairs E.n).map pairD2)))) rm = encM C rm E := by rw [setR_ne nrp, Xm]
    refine ⟨_, rfl, rm, .mI, _, rfl, by rw [hXr]; rfl, rfl, _, rfl, _, rfl, rm, E, a, b, rfl, hXr, SS.gok gok, hab.1, hab.2.1, hab.2.2, t0, ?_⟩
    have he : E.roads a b = [] := (allEmpty_iff.mp heE') (a, b) (List.mem_of_getElem? hp)
    rw [he]
    exact ne_same (k := 1) (.tup fun d hd => by simp at hd) (by decide) ⟨_, rfl, iteF (.here ⟨_, _, rfl, rfl⟩)⟩
  rintro env S' ⟨v5, v6, rfl, rfl⟩
  refine ⟨by show _ = _; rw [tmp_at], ⟨X, sub_drop hrp, ?_⟩⟩
  -- the pictures
  refine ⟨_, rfl, _, rfl, by omega, by omega, ?_⟩
  refine ⟨fun i env S' => ∃ v5 v6 v7 v8 v9 v11, env = [some (.rol ns), some (.tup (coins.map D.int)), some (.loc rm .mI), some (.int E.shots.length), v, v5, v6, v7, v8, v9, none, v11, none] ∧ X = S', .here ⟨_, _, _, _, _, _, rfl, rfl⟩, ?_, ?_⟩
  · rintro j d env S' hd ⟨v5, v6, v7, v8, v9, v11, rfl, rfl⟩
    obtain ⟨hj, rfl⟩ := rng_is (n := E.shots.length) hd
    refine ⟨trivial, ?_⟩
    obtain ⟨s, hs⟩ : ∃ s, E.shots[j]? = some s := ⟨E.shots[j], by simp [hj]⟩
    have hsh : shOf E (j : Int) = some s := by unfold shOf; rw [if_pos (by omega)]; simpa using hs
    have hdn := done_empty gok.si kE.bg heE' hs
    have dF := done_facts gok.si kE.ri kE.sl hs hdn
    have hwl := gok.si.wl j s hs
    have hpt := pic_total hEn.symm kE.ri dF
    have hpic := picD_at dF hwl
    refine ⟨_, rfl, rm, .mI, _, rfl, hI, rfl, _, rfl, rm, E, j, rfl, Xm, (fun e => by rw [hsh] at e; cases e), fun s' e => ?_⟩
    rw [hsh] at e; cases e
    rw [hdn]
    refine ⟨true, true, rfl, rfl, _, rfl, iteF (.here ?_)⟩
    refine ⟨_, rfl, rm, .mI, _, rfl, hI, rfl, _, rfl, rm, E, j, rfl, Xm, n5, (fun e => by rw [hsh] at e; cases e), (fun s' e hf => by rw [hsh] at e; cases e; rw [hdn] at hf; cases hf), fun s' e _ => ?_⟩
    rw [hsh] at e; cases e
    rw [hpic]
    refine .here ?_
    refine ⟨_, rfl, .inl ⟨_, _, _, rfl, rfl, rfl, _, shownL E coins s, rfl, rfl, .here ?_⟩⟩
    refine ⟨_, rfl, .inl ⟨_, _, _, rfl, rfl, rfl, _, _, rfl, rfl, _, rfl, _, _, rfl, rfl, ne_int (by rw [hln, List.length_map, shown_len, hEn]) ⟨_, rfl, iteF ?_⟩⟩⟩
    refine ⟨_, rfl, .inl ⟨_, _, _, rfl, rfl, rfl, _, rfl, ?_⟩⟩
    refine lcb_map (fun d => match d with | .tup [x, y, z] => .tup [x, y] | _ => .non) ?_ ?_ ?_ ?_
    · rw [picRoads_len]; have := pairs_len E.n n5; exact szl _ (by omega)
    · intro r2 hr2 ds; trivial
    · intro r2 hr2 i x ds P hx hP
      obtain ⟨a, b, hab, _, rfl⟩ := road_item hx
      exact ⟨_, rfl, _, rfl, _, rfl, cut3, hP _ .refl⟩
    intro r2 hr2
    have er : (picRoads E.n s).map (fun d => match d with | .tup [x, y, z] => D.tup [x, y] | _ => .non) = (pairs E.n).map pairD2 := by
      unfold picRoads; rw [List.map_map]; congr 1
    rw [er]
    refine ⟨_, rfl, _, _, rfl, rfl, E.n, by rw [hln, hEn], n5, fun rq hrq => ?_⟩
    obtain ⟨n2q, _⟩ := fresh2 hrq
    refine ne_sameL (k := 1) (fun d hd => ?_) (by decide) (by rw [setR_ne (Ne.symm n2q), tmp_at]) (by rw [tmp_at]) ⟨_, rfl, iteF ⟨X, (sub_drop hr2).trans (sub_drop hrq), ?_⟩⟩
    · obtain ⟨p, _, rfl⟩ := List.mem_map.mp hd
      refine .tup fun d hd => ?_
      simp at hd
      rcases hd with rfl | rfl <;> exact .int _
    -- the amounts
    refine ⟨_, rfl, .inl ⟨_, _, _, rfl, rfl, rfl, _, rfl, ?_⟩⟩
    refine ⟨fun i env S' => ∃ v5 v6 v11, env = [some (.rol ns), some (.tup (coins.map D.int)), some (.loc rm .mI), some (.int E.shots.length), v, v5, v6, some (.int j), some (.tup [.tup ((shownL E coins s).map D.int), .tup (picRoads E.n s)]), some (.int ((shownL E coins s).sum + (((pairs E.n).take i).map fun p => (s.lying p.1 p.2).sum).sum)), none, v11, none] ∧ X = S', .here ⟨v5, v6, v11, by simp only [List.take_zero, List.map_nil, List.sum_nil, Int.add_zero]; rfl, rfl⟩, ?_, ?_⟩
    · rintro i d env S' hd ⟨w5, w6, w11, rfl, rfl⟩
      obtain ⟨a, b, hab, hp, rfl⟩ := road_item hd
      refine ⟨trivial, ⟨_, rfl, rfl, ?_⟩⟩
      refine ⟨_, rfl, _, rfl, _, s.lying a b, rfl, rfl, _, _, rfl, rfl, .here ?_⟩
      refine ⟨_, rfl, _, _, _, rfl, rfl, fun C h => (nomatch h), hk, _, rfl, iteF ?_⟩
      refine ⟨_, rfl, _, rfl, ?_⟩
      refine lcb_map (fun _ => .bl true) ?_ ?_ ?_ ?_
      · rw [List.length_map]
        have := gok.ss j s a b hs
        exact szl _ (by omega)
      · intro r2 hr2 ds; trivial
      · intro r2 hr2 i x ds P hx hP
        rw [List.getElem?_map] at hx
        cases e : (s.lying a b)[i]? with
        | none => rw [e] at hx; cases hx
        | some y =>
          rw [e] at hx; cases hx
          have hy := lying_pos dF kE.tp hab y (List.mem_of_getElem? e)
          refine ⟨_, rfl, y, rfl, _, rfl, iteT ⟨_, rfl, _, _, rfl, rfl, ?_⟩⟩
          show P (.bl (decide ((0 : Int) < y))) _
          rw [decide_eq_true (show (0 : Int) < y by omega)]
          exact hP _ .refl
      intro r2 hr2
      refine ⟨_, (s.lying a b).map (fun _ => true), rfl, by show _ = _; rw [tmp_at, List.map_map, List.map_map]; rfl, ?_⟩
      have ea : ((s.lying a b).map fun _ => true).all id = true := by simp
      rw [ea]
      refine ⟨_, rfl, iteF ⟨X, sub_drop hr2, some (.int a), some (.int b), some (.tup ((s.lying a b).map D.int)), ?_, rfl⟩⟩
      rw [take_one hp, List.map_append, List.sum_append]
      simp only [List.map_cons, List.map_nil, List.sum_cons, List.sum_nil, Int.add_zero, Int.add_assoc]
      rfl
    · rintro env S' ⟨w5, w6, w11, rfl, rfl⟩
      refine ⟨trivial, .here ?_⟩
      rw [picRoads_len, List.take_of_length_le (Nat.le_refl _), hpt]
      refine ⟨_, rfl, _, rfl, _, coins, rfl, rfl, ne_int rfl ⟨_, rfl, iteF ?_⟩⟩
      refine ⟨_, rfl, .inl ⟨_, _, _, rfl, rfl, rfl, shownL E coins s, rfl, by rw [shown_len]; have := gok.wf.n2; omega, fun y hy => ⟨_, _, rfl, rfl, _, rfl, ?_⟩⟩⟩
      have := shown_nn hnn kE.ri kE.tp y hy
      show if decide (y < 0) = true then _ else _
      rw [decide_eq_false (by omega)]
      exact iteF (.here ⟨_, _, _, _, _, _, rfl, rfl⟩)
  · rintro env S' ⟨v5, v6, v7, v8, v9, v11, rfl, rfl⟩
    exact ⟨trivial, .here ⟨S, by rw [← hX]; exact sub_drop hrm, q⟩⟩
end SS
namespace SS
open PySem L2 PyProof.Rows
/-! ### == of dicts with tuples as keys: all keys are found, their values are equal -/
section
variable {prog : Program} {w : World} {κ : Type} [DecidableEq κ] {knd : HeapKind prog w κ} {A : Around} {E : Value → Shared → Prop} {s : Shared}
theorem pairsH {nm : String} {a b : Addr} {xa xb : List (κ × Addr × Value)} {Q : Bool → Shared → Prop} (na : (a == sysModules) = false) (nb : (b == sysModules) = false) (da : s.heap.DictOfH knd a xa) (db : s.heap.DictOfH knd b xb) (ro : knd.room A) (hl : xa.length = xb.length)
    (hin : ∀ x ∈ xa, ∃ (j : Nat) (p : Addr × Value), xb[j]? = some (x.1, p)) (hv : ∀ x ∈ xa, ∀ (j : Nat) (p : Addr × Value), xb[j]? = some (x.1, p) → SeqAt.EqP prog w A s x.2.2 p.2 true) (q : Q true s) : wpAny (model prog w) A (Builtin.Dict.samePairs nm a b) Q E s := by
  obtain ⟨oa, ea, pa, ga, _, ta, ua, ia, _⟩ := da; obtain ⟨ob, eb, pb, gb, _, tb, ub, ib, nd⟩ := db
  have la : ea.size = xa.length := size_of_entries ua; have lb : eb.size = xb.length := size_of_entries ub
  unfold Builtin.Dict.samePairs Builtin.Dict.showsAll; rw [if_neg (by rw [na]; exact Bool.false_ne_true), if_neg (by rw [nb]; exact Bool.false_ne_true)]
  refine wpAny_bind (wpAny_pure (wpAny_bind (wpAny_pure (wpAny_bind (wpAny_dictEntries ga ta ?_)))))
  dsimp only; refine wpAny_bind (wpAny_dictEntries gb tb ?_)
  rw [if_neg (by rw [la, lb, hl]; simp)]; refine wpAny_bind (wpAny_dictEpoch ga ta (wpAny_bind ?_))
  rw [Std.Legacy.Range.forIn_eq_forIn_range']; simp only [Std.Legacy.Range.size, Nat.sub_zero, Nat.add_sub_cancel, Nat.div_one]
  refine wpAny_forIn_list _ (fun rest r s' => s' = s ∧ r = (none, ()) ∧ ∃ i, rest = List.range' i (ea.size - i) ∧ i ≤ ea.size) _ ?_ ?_ _ _ ⟨rfl, rfl, 0, by simp, Nat.zero_le _⟩
  · rintro x rest r s' ⟨es, er, i, hr, hi⟩; subst es; subst er
    have lt : i < ea.size := Nat.lt_of_not_le fun z => by rw [Nat.sub_eq_zero_of_le z] at hr; cases hr
    have hsp : ea.size - i = (ea.size - (i + 1)) + 1 := by omega
    rw [hsp, List.range'_succ] at hr; injection hr with h1 h2; subst h1
    have lt' : x < xa.length := by omega
    have hx : xa[x]? = some xa[x] := List.getElem?_eq_getElem lt'
    have hex : ea[x]? = some (entryOfKey knd xa[x]) := by rw [entry_at ua, hx]; rfl
    refine wpAny_bind (wpAny_dictEntries ga ta ?_); rw [hex]
    show wpAny _ _ (holding [Value.ref xa[x].2.1, xa[x].2.2] _ >>= _) _ _ _
    have hmem : xa[x] ∈ xa := List.getElem_mem lt'
    refine wpAny_bind (wpAny_holding (wpAny_bind (wpAny_dictFind_heap ro (ia _ hmem) gb tb ub ib nd (fun no => ?_) fun j p hj => ?_)))
    · obtain ⟨j, p, hj⟩ := hin _ hmem; exact absurd hj (no j p)
    · have hej : eb[j]? = some (entryOfKey knd (xa[x].1, p)) := by rw [entry_at ub, hj]; rfl
      refine wpAny_bind (wpAny_dictEntries gb tb ?_); rw [hej]
      refine wpAny_holding (hv _ hmem j p hj _ _ ?_); show wpAny _ _ (if (!true) = true then _ else _) _ _ _
      rw [if_neg (by decide)]; refine wpAny_bind (wpAny_dictEpoch ga ta ?_)
      rw [if_neg (by simp)]; exact wpAny_pure ⟨rfl, rfl, x + 1, h2, lt⟩
  · rintro r s' ⟨es, er, _⟩; subst es; subst er; exact wpAny_pure q
theorem rcH {a b : Addr} {xa xb : List (κ × Addr × Value)} {Q : Value → Shared → Prop} (na : (a == sysModules) = false) (nb : (b == sysModules) = false) (da : s.heap.DictOfH knd a xa) (db : s.heap.DictOfH knd b xb) (ro : knd.room A.in1) (hu : A.units < cLine) (hl : xa.length = xb.length)
    (hin : ∀ x ∈ xa, ∃ (j : Nat) (p : Addr × Value), xb[j]? = some (x.1, p)) (hv : ∀ x ∈ xa, ∀ (j : Nat) (p : Addr × Value), xb[j]? = some (x.1, p) → SeqAt.EqP prog w A.in1 s x.2.2 p.2 true) :
    (Q (.bool true) s → wpAny (model prog w) A (richCompare .Eq (.ref a) (.ref b)) Q E s) ∧ (Q (.bool false) s → wpAny (model prog w) A (richCompare .NotEq (.ref a) (.ref b)) Q E s) := by
  have ta := da.typeIs; have tb := db.typeIs
  constructor
  · intro q
    refine wpAny_richCompare_same_room ta tb F.slot_dict_eq (wpAny_call_entry F.slot_dict_eq ta F.entry_dict_eq ?_ (F.args_dict_eq_2 _ _)) hu
    refine wpAny_bind (m := Builtin.Dict.dictSlotArgs "__eq__" ⟨[.ref a, .ref b], []⟩) ?_; unfold Builtin.Dict.dictSlotArgs
    refine wpAny_bind (wpAny_notOrdered_dict ta (wpAny_pure (wpAny_bind (wpAny_isInstance (T := "dict") tb F.sub_dict_dict ?_))))
    simp only [Bool.not_true, Bool.false_eq_true, if_false]; refine wpAny_bind (wpAny_pure (wpAny_bind (wpAny_pure (wpAny_bind (pairsH na nb da db ro hl hin hv (wpAny_pure ⟨_, rfl, (fun z => nomatch z), ?_⟩))))))
    simpa using q
  · intro q
    refine wpAny_richCompare_same_room ta tb F.slot_dict_ne (wpAny_call_entry F.slot_dict_ne ta F.entry_dict_ne ?_ (F.args_dict_ne_2 _ _)) hu
    refine wpAny_bind (m := Builtin.Dict.dictSlotArgs "__ne__" ⟨[.ref a, .ref b], []⟩) ?_; unfold Builtin.Dict.dictSlotArgs
    refine wpAny_bind (wpAny_notOrdered_dict ta (wpAny_pure (wpAny_bind (wpAny_isInstance (T := "dict") tb F.sub_dict_dict ?_))))
    simp only [Bool.not_true, Bool.false_eq_true, if_false]; refine wpAny_bind (wpAny_pure (wpAny_bind (wpAny_pure (wpAny_bind (pairsH na nb da db ro hl hin hv (wpAny_pure ⟨_, rfl, (fun z => nomatch z), ?_⟩))))))
    simpa using q
end
/-- two lists of the same ints -/
def SameL (K : PySem.W.Frag) (H : Hp) (x y : V) : Prop := ∃ (c d : Addr) (ns : List Int), x = .ref c ∧ y = .ref d ∧ SqL K H c (ns.map V.int) ∧ SqL K H d (ns.map V.int)
def SameDT (K : PySem.W.Frag) (H : Hp) (x y : V) : Prop := ∃ (a b : Addr) (ka kb : List (List L2.Key × V)), x = .ref a ∧ y = .ref b ∧ H a = some (.dT ka) ∧ H b = some (.dT kb) ∧ ka.length = kb.length ∧ ∀ p ∈ ka, ∃ u, valV kb p.1 = some u ∧ SameL K H p.2 u
theorem ints_lay (ns : List Int) : PyData.canLayAll0 (ns.map PyData.int) = true := by
  induction ns with
  | nil => rfl
  | cons n ns ih => simp [PyData.canLayAll0, PyData.canLay0, ih]
theorem sameL_eqP {X : Cx} {pins : List (Addr × Obj)} {σ : L2.St} {H : Hp} {s : Shared} (I : Inv X pins σ H s) {A : Around} (hu : A.units + 5 < cLine) {x y : V} {v u : Value} (h : SameL X.K H x y) (rx : RelV x v) (ry : RelV y u) : SeqAt.EqP X.prog X.w A s v u true := by
  obtain ⟨c, d, ns, rfl, rfl, h1, h2⟩ := h
  cases rx; cases ry
  have dp : ∀ e, SqL X.K H e (ns.map V.int) → Dp X.K H (.ref e) (.list (ns.map PyData.int)) := fun e he => .lst he (by
    clear h1 h2 he
    induction ns with
    | nil => exact .nil
    | cons n ns ih => exact .cons (.int n) ih)
  obtain ⟨as, r1⟩ := Dp.reads I _ _ (.ref c) (dp c h1) rfl
  obtain ⟨bs, r2⟩ := Dp.reads I _ _ (.ref d) (dp d h2) rfl
  have hl : (PyData.list (ns.map PyData.int)).canLay0 = true := ints_lay ns
  have hd : (PyData.list (ns.map PyData.int)).depth ≤ 2 := by rw [PyData.depth]; have := ints_depth ns; omega
  have := SeqAt.eqAt_reads _ _ A s _ _ as bs r1 r2 hl hl (by omega)
  rw [SeqAt.eqv_refl _ hl] at this
  exact this.eqP
theorem atKey_get {κ : Type} [DecidableEq κ] {xs : List (κ × Addr × Value)} {k : κ} {p : Addr × Value} (h : atKey xs k = some p) : ∃ j : Nat, xs[j]? = some (k, p) := by
  unfold atKey at h
  cases e : xs.find? (fun x => decide (x.1 = k)) with
  | none => rw [e] at h; cases h
  | some x =>
    rw [e] at h; cases h
    have h1 := List.find?_some e
    have h2 := List.mem_of_find?_eq_some e
    obtain ⟨j, hj, hx⟩ := List.getElem_of_mem h2
    refine ⟨j, ?_⟩
    rw [List.getElem?_eq_getElem hj, hx]
    have : x.1 = k := by simpa using h1
    rw [← this]
theorem sameDT_rc {X : Cx} {pins : List (Addr × Obj)} {σ : L2.St} {H : Hp} {s : Shared} (I : Inv X pins σ H s) {A : Around} {E Q : Value → Shared → Prop} (hu : A.units + 10 < cLine) {x y : V} {v u : Value} (h : SameDT X.K H x y) (rx : RelV x v) (ry : RelV y u) :
    (Q (.bool true) s → wpAny (model X.prog X.w) A (richCompare .Eq v u) Q E s) ∧ (Q (.bool false) s → wpAny (model X.prog X.w) A (richCompare .NotEq v u) Q E s) := by
  obtain ⟨a, b, ka, kb, rfl, rfl, ha, hb, hl, hv⟩ := h
  cases rx; cases ry
  obtain ⟨_, na, xa, ra, da⟩ := dt_of I.hok ha
  obtain ⟨_, nb, xb, rb, db⟩ := dt_of I.hok hb
  have l1 : ka.length = xa.length := Paired.length ra
  have l2 : kb.length = xb.length := Paired.length rb
  have find : ∀ x ∈ xa, ∃ (j : Nat) (p : Addr × Value), xb[j]? = some (x.1, p) ∧ SeqAt.EqP X.prog X.w A.in1 s x.2.2 p.2 true := by
    intro x hx
    obtain ⟨i, hi, rfl⟩ := List.getElem_of_mem hx
    have hk : ka[i]? = some (ka[i]'(by omega)) := List.getElem?_eq_getElem (by omega)
    obtain ⟨z, hz, e1, e2, r⟩ := paired_get ra hk
    rw [List.getElem?_eq_getElem hi] at hz; cases hz
    obtain ⟨u, hu1, hu2⟩ := hv _ (List.getElem_mem (by omega : i < ka.length))
    have rv := KT.val rb (ka[i]'(by omega)).1
    rw [hu1] at rv
    obtain ⟨w, hw1, hw2⟩ := RelO.some_of rv
    cases hat : atKey xb (ka[i]'(by omega)).1 with
    | none => rw [hat] at hw1; cases hw1
    | some p =>
      rw [hat] at hw1; cases hw1
      obtain ⟨j, hj⟩ := atKey_get hat
      rw [e1] at hj
      exact ⟨j, p, hj, sameL_eqP I (by show A.units + 1 + 5 < cLine; omega) hu2 r hw2⟩
  have nd : (xb.map (·.1)).Nodup := by obtain ⟨_, _, _, _, _, _, _, _, nd⟩ := db; exact nd
  refine rcH na nb da db (by show A.units + 1 < cLine; omega) (by omega) (by omega) (fun x hx => let ⟨j, p, hj, _⟩ := find x hx; ⟨j, p, hj⟩) fun x hx j p hj => ?_
  obtain ⟨j', p', hj', he⟩ := find x hx
  have : j = j' := idxH_unique nd hj hj'
  subst this
  rw [hj] at hj'; cases hj'
  exact he
def rEqDT (K : PySem.W.Frag) : R2 := fun x y H Q => SameDT K H x y ∧ Q (.bl true) H
def rNeDT (K : PySem.W.Frag) : R2 := fun x y H Q => SameDT K H x y ∧ Q (.bl false) H
theorem op_eqDT {X : Cx} (hu : X.A.units + 65 < cLine) : OpR X (compareOp .Eq) (rEqDT X.K) := by
  intro pins s σ H x y v u Q I rx ry ⟨h, q⟩
  exact (sameDT_rc I (by omega) h rx ry).1 ⟨.bl true, H, I, rfl, q⟩
theorem op_neDT {X : Cx} (hu : X.A.units + 65 < cLine) : OpR X (compareOp .NotEq) (rNeDT X.K) := by
  intro pins s σ H x y v u Q I rx ry ⟨h, q⟩
  exact (sameDT_rc I (by omega) h rx ry).2 ⟨.bl false, H, I, rfl, q⟩
/-! ### pairs of a tuple of ints and such a dict -/
def SamePD (K : PySem.W.Frag) (H : Hp) (x y : V) : Prop := ∃ (a b t1 t2 : Addr) (ns : List Int) (d1 d2 : V), x = .ref a ∧ y = .ref b ∧ H a = some (.tup [.ref t1, d1]) ∧ H b = some (.tup [.ref t2, d2]) ∧ SqT K H t1 (ns.map V.int) ∧ SqT K H t2 (ns.map V.int) ∧ SameDT K H d1 d2
theorem tupInts_eqP {X : Cx} {pins : List (Addr × Obj)} {σ : L2.St} {H : Hp} {s : Shared} (I : Inv X pins σ H s) {A : Around} (hu : A.units + 5 < cLine) {c d : Addr} {ns : List Int} (h1 : SqT X.K H c (ns.map V.int)) (h2 : SqT X.K H d (ns.map V.int)) : SeqAt.EqP X.prog X.w A s (.ref c) (.ref d) true := by
  have dp : ∀ e, SqT X.K H e (ns.map V.int) → Dp X.K H (.ref e) (.tuple (ns.map PyData.int)) := fun e he => .tup he (by
    clear h1 h2 he
    induction ns with
    | nil => exact .nil
    | cons n ns ih => exact .cons (.int n) ih)
  obtain ⟨as, r1⟩ := Dp.reads I _ _ (.ref c) (dp c h1) rfl
  obtain ⟨bs, r2⟩ := Dp.reads I _ _ (.ref d) (dp d h2) rfl
  have hl : (PyData.tuple (ns.map PyData.int)).canLay0 = true := ints_lay ns
  have hd : (PyData.tuple (ns.map PyData.int)).depth ≤ 2 := by rw [PyData.depth]; have := ints_depth ns; omega
  have := SeqAt.eqAt_reads _ _ A s _ _ as bs r1 r2 hl hl (by omega)
  rw [SeqAt.eqv_refl _ hl] at this
  exact this.eqP
theorem sameDT_eqP {X : Cx} {pins : List (Addr × Obj)} {σ : L2.St} {H : Hp} {s : Shared} (I : Inv X pins σ H s) {A : Around} (hu : A.units + 10 < cLine) {x y : V} {v u : Value} (h : SameDT X.K H x y) (rx : RelV x v) (ry : RelV y u) : SeqAt.EqP X.prog X.w A s v u true := by
  obtain ⟨a, b, ka, kb, rfl, rfl, h'⟩ := id h
  cases rx; cases ry
  by_cases e : a = b
  · subst e; exact (SeqAt.EqAt.same _).eqP
  · exact SeqAt.eqP_refs e fun E Q q => (sameDT_rc (v := .ref a) (u := .ref b) I hu h rfl rfl).1 q
section
open AutoSeq1 (wpAny_loadPart')
variable {prog : Program} {w : World} {A : Around} {E : Value → Shared → Prop} {s : Shared}
/-- != of two tuples of two that are equal -/
theorem pair_ne {l b : Addr} {x1 x2 y1 y2 : Value} {Q : Value → Shared → Prop} (hl : s.heap.IsTuple l #[x1, x2]) (hb : s.heap.IsTuple b #[y1, y2]) (hu : A.units < cLine) (e1 : SeqAt.EqP prog w A.in1 s x1 y1 true) (e2 : SeqAt.EqP prog w A.in1 s x2 y2 true) (q : Q (.bool false) s) :
    wpAny (model prog w) A (richCompare .NotEq (.ref l) (.ref b)) Q E s := by
  obtain ⟨⟨cls, dd, data, sl⟩, ho, hc, n, hd⟩ := id hl; obtain ⟨⟨cls2, dd2, data2, sl2⟩, ho2, hc2, n2, hd2⟩ := id hb
  simp only at hc hd hc2 hd2; subst hc hd hc2 hd2
  refine wpAny_richCompare_same_room ⟨_, ho, rfl⟩ ⟨_, ho2, rfl⟩ F.slot_tuple_ne (GQ.call_here F.slot_tuple_ne ⟨_, ho, rfl⟩ F.entry_tuple_ne (F.args_tuple_ne_2 _ _) ?_) hu
  have f2 := AutoSeq1.sub_tuple_tuple; have q0 := q
  obtain ⟨hp, g, d, tk, os⟩ := s
  wp_walk using wpAny_loadPart' ho, wpAny_loadPart' ho2, wpAny_forIn_list _ (fun rest r s' => r.1 = none ∧ s' = ⟨hp, g, d, tk, os⟩ ∧ (rest = [(x1, y1), (x2, y2)] ∨ rest = [(x2, y2)] ∨ rest = [])) _
  case turn =>
    rintro ⟨y, x⟩ rest r s' ⟨hr, rfl, hz | hz | hz⟩
    · injection hz with h1 h2; cases h1; subst h2
      refine wpAny_bind (e1 _ _ ?_); wp_walk; exact ⟨rfl, rfl, .inr (.inl rfl)⟩
    · injection hz with h1 h2; cases h1; subst h2
      refine wpAny_bind (e2 _ _ ?_); wp_walk; exact ⟨rfl, rfl, .inr (.inr rfl)⟩
    · cases hz
  case fin =>
    rintro ⟨r1, r2⟩ s' ⟨hr, rfl, _⟩
    simp only at hr; subst hr
    wp_walk
    first | exact ⟨_, rfl, (fun z => nomatch z), by simpa [Builtin.Tuple.tupleCompareSizes] using q0⟩ | exact ⟨(fun z => nomatch z), by simpa [Builtin.Tuple.tupleCompareSizes] using q0⟩
  case h => exact ⟨rfl, rfl, .inl rfl⟩
end
theorem samePD_rc {X : Cx} {pins : List (Addr × Obj)} {σ : L2.St} {H : Hp} {s : Shared} (I : Inv X pins σ H s) {A : Around} {E Q : Value → Shared → Prop} (hu : A.units + 20 < cLine) {x y : V} {v u : Value} (h : SamePD X.K H x y) (rx : RelV x v) (ry : RelV y u) :
    (Q (.bool true) s → wpAny (model X.prog X.w) A (richCompare .Eq v u) Q E s) ∧ (Q (.bool false) s → wpAny (model X.prog X.w) A (richCompare .NotEq v u) Q E s) := by
  obtain ⟨a, b, t1, t2, ns, d1, d2, rfl, rfl, ha, hb, h1, h2, h3⟩ := h
  cases rx; cases ry
  obtain ⟨ia, ra, pa, _⟩ := I.tuple (.of ha)
  obtain ⟨ib, rb, pb, _⟩ := I.tuple (.of hb)
  cases ra with
  | @cons _ va _ ia' e1 ra =>
  cases ra with
  | @cons _ va2 _ ia2 e2 ra =>
  cases ra
  cases rb with
  | @cons _ vb _ ib' e3 rb =>
  cases rb with
  | @cons _ vb2 _ ib2 e4 rb =>
  cases rb
  cases e1; cases e3
  have q1 : SeqAt.EqP X.prog X.w A.in1 s (.ref t1) (.ref t2) true := tupInts_eqP I (by show A.units + 1 + 5 < cLine; omega) h1 h2
  have q2 : SeqAt.EqP X.prog X.w A.in1 s va2 vb2 true := sameDT_eqP I (by show A.units + 1 + 10 < cLine; omega) h3 e2 e4
  refine ⟨fun q => ?_, fun q => pair_ne pa pb (by omega) q1 q2 q⟩
  refine GQ.rc_tupG (items := #[.ref t1, va2]) (items2 := #[.ref t2, vb2]) rfl (by omega) (fun _ s' => s' = s) pa pb (fun i g1 g2 s' es => ?_) (fun s' es => by rw [es]; exact q) rfl
  subst es
  match i, g1, g2 with
  | 0, _, _ => exact q1 _ _ ⟨rfl, rfl⟩
  | 1, _, _ => exact q2 _ _ ⟨rfl, rfl⟩
def rEqPD (K : PySem.W.Frag) : R2 := fun x y H Q => SamePD K H x y ∧ Q (.bl true) H
def rNePD (K : PySem.W.Frag) : R2 := fun x y H Q => SamePD K H x y ∧ Q (.bl false) H
theorem op_eqPD {X : Cx} (hu : X.A.units + 65 < cLine) : OpR X (compareOp .Eq) (rEqPD X.K) := by
  intro pins s σ H x y v u Q I rx ry ⟨h, q⟩
  exact (samePD_rc I (by omega) h rx ry).1 ⟨.bl true, H, I, rfl, q⟩
theorem op_nePD {X : Cx} (hu : X.A.units + 65 < cLine) : OpR X (compareOp .NotEq) (rNePD X.K) := by
  intro pins s σ H x y v u Q I rx ry ⟨h, q⟩
  exact (samePD_rc I (by omega) h rx ry).2 ⟨.bl false, H, I, rfl, q⟩
/-! ### in the logical store -/
def SameLd (S : Store) (x y : D) : Prop := ∃ (r : Nat) (f : Fld) (r' : Nat) (f' : Fld) (ns : List Int), x = .loc r f ∧ y = .loc r' f' ∧ S r f = some (.lst (ns.map D.int)) ∧ S r' f' = some (.lst (ns.map D.int))
def SameDd (S : Store) (d e : D) : Prop := ∃ (r : Nat) (f : Fld) (r' : Nat) (f' : Fld) (kvs kvs' : List (List Key × D)), d = .loc r f ∧ e = .loc r' f' ∧ S r f = some (.dT kvs) ∧ S r' f' = some (.dT kvs') ∧ kvs.length = kvs'.length ∧ ∀ p ∈ kvs, ∃ u, dget kvs' p.1 = some u ∧ SameLd S p.2 u
def SamePd (S : Store) (d e : D) : Prop := ∃ (ns : List Int) (x y : D), d = .tup [.tup (ns.map D.int), x] ∧ e = .tup [.tup (ns.map D.int), y] ∧ SameDd S x y
def oEqDT : D2 := fun d e S Q => SameDd S d e ∧ Q (.bl true) S
def oNeDT : D2 := fun d e S Q => SameDd S d e ∧ Q (.bl false) S
def oEqPD : D2 := fun d e S Q => SamePd S d e ∧ Q (.bl true) S
def oNePD : D2 := fun d e S Q => SamePd S d e ∧ Q (.bl false) S
section
variable {K : PySem.W.Frag} {ρ : Rho} {H : Hp} {S : Store}
theorem KR.mem {κ : Type} : ∀ {vs : List (κ × V)} {ds : List (κ × D)}, KR K ρ H vs ds → ∀ p ∈ vs, ∃ d, (p.1, d) ∈ ds ∧ VR K ρ H p.2 d
  | _, _, .nil, p, h => by cases h
  | _, _, .cons h t, p, hp => by
    rcases List.mem_cons.mp hp with z | z
    · subst z; exact ⟨_, List.mem_cons_self, h⟩
    · obtain ⟨d, h1, h2⟩ := KR.mem t p z
      exact ⟨d, List.mem_cons_of_mem _ h1, h2⟩
theorem sameL_vr (s : Sim K ρ H S) {x y : D} {v u : V} (h : SameLd S x y) (r1 : VR K ρ H v x) (r2 : VR K ρ H u y) : SameL K H v u := by
  obtain ⟨r, f, r', f', ns, rfl, rfl, h1, h2⟩ := h
  obtain ⟨a, vs, rfl, _, g1, w1⟩ := lst_of s h1 r1
  obtain ⟨b, us, rfl, _, g2, w2⟩ := lst_of s h2 r2
  have e1 := w1.ints; have e2 := w2.ints
  subst e1; subst e2
  exact ⟨a, b, ns, rfl, rfl, .of g1, .of g2⟩
theorem sameD_vr (s : Sim K ρ H S) {x y : D} {v u : V} (h : SameDd S x y) (r1 : VR K ρ H v x) (r2 : VR K ρ H u y) : SameDT K H v u := by
  obtain ⟨r, f, r', f', kvs, kvs', rfl, rfl, h1, h2, hl, hv⟩ := h
  obtain ⟨a, ka, rfl, _, g1, w1⟩ := dT_of s h1 r1
  obtain ⟨b, kb, rfl, _, g2, w2⟩ := dT_of s h2 r2
  refine ⟨a, b, ka, kb, rfl, rfl, g1, g2, by rw [w1.length, w2.length]; exact hl, fun p hp => ?_⟩
  obtain ⟨d, m1, v1⟩ := w1.mem p hp
  obtain ⟨e, m2, sl⟩ := hv _ m1
  obtain ⟨z, hz, vz⟩ := w2.val m2
  exact ⟨z, hz, sameL_vr s sl v1 vz⟩
theorem oEqDT_l : OpL K (rEqDT K) oEqDT := by
  rintro ρ H S x y d e Q' Q s r1 r2 ⟨h, q⟩ po
  exact ⟨sameD_vr s h r1 r2, po.here s (.bl _) q⟩
theorem oNeDT_l : OpL K (rNeDT K) oNeDT := by
  rintro ρ H S x y d e Q' Q s r1 r2 ⟨h, q⟩ po
  exact ⟨sameD_vr s h r1 r2, po.here s (.bl _) q⟩
theorem sameP_vr (s : Sim K ρ H S) {x y : D} {v u : V} (h : SamePd S x y) (r1 : VR K ρ H v x) (r2 : VR K ρ H u y) : SamePD K H v u := by
  obtain ⟨ns, d, e, rfl, rfl, h⟩ := h
  cases r1 with
  | tup g1 w1 =>
  cases r2 with
  | tup g2 w2 =>
  obtain ⟨v1, v2, rfl, p1, p2⟩ := w1.two
  obtain ⟨u1, u2, rfl, q1, q2⟩ := w2.two
  cases p1 with
  | tup k1 z1 =>
  cases q1 with
  | tup k2 z2 =>
  have e1 := z1.ints; have e2 := z2.ints
  subst e1; subst e2
  exact ⟨_, _, _, _, ns, v2, u2, rfl, rfl, g1, g2, .of k1, .of k2, sameD_vr s h p2 q2⟩
theorem oEqPD_l : OpL K (rEqPD K) oEqPD := by
  rintro ρ H S x y d e Q' Q s r1 r2 ⟨h, q⟩ po
  exact ⟨sameP_vr s h r1 r2, po.here s (.bl _) q⟩
theorem oNePD_l : OpL K (rNePD K) oNePD := by
  rintro ρ H S x y d e Q' Q s r1 r2 ⟨h, q⟩ po
  exact ⟨sameP_vr s h r1 r2, po.here s (.bl _) q⟩
end
section
variable {X : Cx} {W : WX} {a b : Expr} {ra rb : LTE} {pos : Pos}
theorem le_eqDT (hu : X.A.units + 65 < cLine) (ha : LE X W a ra) (hb : LE X W b rb) : LE X W (.Compare a [.Eq] [b] pos) (rOp oEqDT ra rb) := le_cmp (op_eqDT hu) oEqDT_l ha hb (nomark _)
theorem le_neDT (hu : X.A.units + 65 < cLine) (ha : LE X W a ra) (hb : LE X W b rb) : LE X W (.Compare a [.NotEq] [b] pos) (rOp oNeDT ra rb) := le_cmp (op_neDT hu) oNeDT_l ha hb (nomark _)
theorem lt_eqDT (hu : X.A.units + 65 < cLine) (ha : LE X W a ra) (hb : LE X W b rb) : LT X W (.Compare a [.Eq] [b] pos) (rTest (rOp oEqDT ra rb)) := lt_cmp (op_eqDT hu) oEqDT_l ha hb (nomark _)
theorem lt_neDT (hu : X.A.units + 65 < cLine) (ha : LE X W a ra) (hb : LE X W b rb) : LT X W (.Compare a [.NotEq] [b] pos) (rTest (rOp oNeDT ra rb)) := lt_cmp (op_neDT hu) oNeDT_l ha hb (nomark _)
theorem le_eqPD (hu : X.A.units + 65 < cLine) (ha : LE X W a ra) (hb : LE X W b rb) : LE X W (.Compare a [.Eq] [b] pos) (rOp oEqPD ra rb) := le_cmp (op_eqPD hu) oEqPD_l ha hb (nomark _)
theorem le_nePD (hu : X.A.units + 65 < cLine) (ha : LE X W a ra) (hb : LE X W b rb) : LE X W (.Compare a [.NotEq] [b] pos) (rOp oNePD ra rb) := le_cmp (op_nePD hu) oNePD_l ha hb (nomark _)
theorem lt_eqPD (hu : X.A.units + 65 < cLine) (ha : LE X W a ra) (hb : LE X W b rb) : LT X W (.Compare a [.Eq] [b] pos) (rTest (rOp oEqPD ra rb)) := lt_cmp (op_eqPD hu) oEqPD_l ha hb (nomark _)
theorem lt_nePD (hu : X.A.units + 65 < cLine) (ha : LE X W a ra) (hb : LE X W b rb) : LT X W (.Compare a [.NotEq] [b] pos) (rTest (rOp oNePD ra rb)) := lt_cmp (op_nePD hu) oNePD_l ha hb (nomark _)
end
end SS
namespace SS
open PySem L2 PyProof.Rows
/-! ### for k in d, d locked -/
section
variable {X : Cx} {W : WX} {tg e : Expr} {ra : LTE}
def iKey (r : LTE) : LTI := fun env S Q Ex => r env S (fun d S1 => ∃ rg fl, d = .loc rg fl ∧ ((∃ kvs, S1 rg fl = some (.frz (.dT kvs)) ∧ Q (kvs.map fun kv => .tup (kv.1.map kD)) (fun S' => S' rg fl = some (.frz (.dT kvs))) S1) ∨ ∃ kvs, S1 rg fl = some (.frz (.dK kvs)) ∧ Q (kvs.map fun kv => kD kv.1) (fun S' => S' rg fl = some (.frz (.dK kvs))) S1)) Ex
theorem li_key (he : LE X W e ra) : LI X W tg e (iKey ra) :=
  piI (pi_keys he) fun σ H R ⟨ρ, env, S, Q', Ex, s, er, q, po, xp⟩ =>
    ⟨ρ, env, S, _, Ex, s, er, q, fun ρ1 v d H1 S1 e1 s1 r1 ⟨rg, fl, ed, hh⟩ => by
      subst ed
      cases r1 with
      | @loc _ _ a h1 =>
      rcases hh with ⟨kvs, hS, q1⟩ | ⟨kvs, hS, q1⟩
      · obtain ⟨b, hb, g1, g2, o, hu, g3, ⟨kws, g4, kr⟩, _⟩ := s1.obj _ _ _ hS
        rw [h1] at g1; cases g1; subst g3; subst g4
        have hl := kr.length
        refine ⟨a, o, rfl, .inr ⟨kws, g2, po ρ1 H1 S1 _ _ _ e1 s1 ⟨fun ρ2 H2 S2 i e2 s2 g hi => ?_, fun ρ2 H2 S2 i x H3 e2 s2 g hi y => ?_, fun ρ2 H2 S2 e2 s2 g => ?_⟩ q1⟩⟩
        · exact ⟨e2.fz _ _ _ g2, by simpa [hl] using hi⟩
        · obtain ⟨rfl, k, vv, bb, hv, rfl, hk⟩ := y
          obtain ⟨dd, h3, h4⟩ := kr.get' hv
          exact ⟨.refl, s2, .tup (k.map kD), by simp [h3], .tup hk (vr_kDs k)⟩
        · exact ⟨e2.fz _ _ _ g2, by simp [hl]⟩
      · obtain ⟨b, hb, g1, g2, o, hu, g3, ⟨kws, g4, kr⟩, _⟩ := s1.obj _ _ _ hS
        rw [h1] at g1; cases g1; subst g3; subst g4
        have hl := kr.length
        refine ⟨a, o, rfl, .inl ⟨kws, g2, po ρ1 H1 S1 _ _ _ e1 s1 ⟨fun ρ2 H2 S2 i e2 s2 g hi => ?_, fun ρ2 H2 S2 i x H3 e2 s2 g hi y => ?_, fun ρ2 H2 S2 e2 s2 g => ?_⟩ q1⟩⟩
        · exact ⟨e2.fz _ _ _ g2, by simpa [hl] using hi⟩
        · obtain ⟨rfl, k, vv, hv, rfl⟩ := y
          obtain ⟨dd, h3, h4⟩ := kr.get' hv
          exact ⟨.refl, s2, kD k, by simp [h3], vr_kD k⟩
        · exact ⟨e2.fz _ _ _ g2, by simp [hl]⟩, xp⟩
end
end SS
namespace SS
open PySem L2
/-! ### a dict of lists of ints for pairs -/
def dlB (r : Nat) (l : List (Nat × Nat)) (g : Nat → Nat → List Int) : Reg
  | .x0 0 => some (.dT (l.map fun p => (pk p, .loc r (.x2 0 p.1 p.2))))
  | .x2 0 a b => if (a, b) ∈ l then some (lints (g a b)) else none
  | _ => none
def dlR (r n : Nat) (g : Nat → Nat → List Int) : Reg := dlB r (pairs n) g
theorem dl_nil (S : Store) (r : Nat) (g : Nat → Nat → List Int) (h : ∀ f, S r f = none) : S.set r (.x0 0) (.dT []) = S.setR r (dlB r [] g) := by
  rw [set_R]; congr 1; funext f
  cases f <;> simp [fset, dlB, h]
  · rename_i n; cases n <;> simp [dlB, h]
  · rename_i n a b; cases n <;> simp [dlB, h]
theorem dl_put {r : Nat} {l : List (Nat × Nat)} {g : Nat → Nat → List Int} {a b : Nat} (h : (a, b) ∉ l) :
    fset (fset (dlB r l g) (.x2 0 a b) (lints (g a b))) (.x0 0) (.dT (dput (l.map fun p => (pk p, D.loc r (.x2 0 p.1 p.2))) (pk (a, b)) (.loc r (.x2 0 a b)))) = dlB r (l ++ [(a, b)]) g := by
  rw [dput_new _ h]
  funext f
  cases f with
  | x0 n => cases n <;> simp [fset, dlB]
  | x2 n x y =>
    cases n with
    | succ n => simp [fset, dlB]
    | zero =>
      simp only [fset, dlB, reduceCtorEq, if_false, Fld.x2.injEq, true_and]
      by_cases e : x = a ∧ y = b
      · obtain ⟨rfl, rfl⟩ := e; simp
      · rw [if_neg e]
        have : ((x, y) ∈ l ++ [(a, b)]) ↔ (x, y) ∈ l := by simp; intro z1 z2; exact absurd ⟨z1, z2⟩ e
        simp only [this]
  | _ => simp [fset, dlB]
theorem dl_set {r : Nat} {l : List (Nat × Nat)} {g : Nat → Nat → List Int} {a b : Nat} (h : (a, b) ∈ l) (v : List Int) : fset (dlB r l g) (.x2 0 a b) (lints v) = dlB r l (up2 g a b v) := by
  funext f
  cases f with
  | x0 n => cases n <;> simp [fset, dlB]
  | x2 n x y =>
    cases n with
    | succ n => simp [fset, dlB]
    | zero =>
      simp only [fset, dlB, Fld.x2.injEq, true_and]
      by_cases e : x = a ∧ y = b
      · obtain ⟨rfl, rfl⟩ := e; rw [if_pos ⟨rfl, rfl⟩, if_pos h, up2_same]
      · rw [if_neg e, up2_ne e]
  | _ => simp [fset, dlB]
section
variable {S : Store} {r n : Nat} {g : Nat → Nat → List Int} {a b : Nat}
theorem dl_at (hS : S r = dlR r n g) (h : a < n ∧ b < n ∧ a ≠ b) : DAt S (.loc r (.x0 0)) (.tup [.int a, .int b]) (some (.loc r (.x2 0 a b))) := by
  have := DAt.t (S := S) (r := r) (f := .x0 0) (ks := pk (a, b)) (kvs := (pairs n).map fun p => (pk p, .loc r (.x2 0 p.1 p.2))) (.inl (by rw [hS]; rfl))
  rw [dget_map (fun p : Nat × Nat => D.loc r (.x2 0 p.1 p.2)) (mem_pairs.mpr h)] at this
  exact this
theorem dl_lst (h : a < n ∧ b < n ∧ a ≠ b) : dlR r n g (.x2 0 a b) = some (lints (g a b)) := by
  show (if (a, b) ∈ pairs n then _ else _) = _
  rw [if_pos (mem_pairs.mpr h)]
theorem dl_live (hS : S r = dlR r n g) : S r (.x0 0) ≠ none := by rw [hS]; simp [dlR, dlB]
end
theorem dl_congr {r n : Nat} {g g' : Nat → Nat → List Int} (h : ∀ a b, a < n ∧ b < n ∧ a ≠ b → g a b = g' a b) : dlR r n g = dlR r n g' := by
  funext f
  cases f with
  | x0 k => cases k <;> rfl
  | x2 k x y =>
    cases k with
    | succ k => rfl
    | zero =>
      show (if (x, y) ∈ pairs n then _ else _) = if (x, y) ∈ pairs n then _ else _
      by_cases hm : (x, y) ∈ pairs n
      · rw [if_pos hm, if_pos hm, h x y (mem_pairs.mp hm)]
      · rw [if_neg hm, if_neg hm]
  | _ => rfl
/-- two such dicts that hold the same -/
theorem dl_same {S : Store} {r r' n : Nat} {g g' : Nat → Nat → List Int} (h1 : S r = dlR r n g) (h2 : S r' = dlR r' n g') (h : ∀ a b, a < n ∧ b < n ∧ a ≠ b → g a b = g' a b) : SameDd S (.loc r (.x0 0)) (.loc r' (.x0 0)) := by
  refine ⟨r, .x0 0, r', .x0 0, (pairs n).map (fun p => (pk p, .loc r (.x2 0 p.1 p.2))), (pairs n).map (fun p => (pk p, .loc r' (.x2 0 p.1 p.2))), rfl, rfl, by rw [h1]; rfl, by rw [h2]; rfl, by simp, fun p hp => ?_⟩
  obtain ⟨⟨a, b⟩, hq, rfl⟩ := List.mem_map.mp hp
  have hab := mem_pairs.mp hq
  refine ⟨_, dget_map (fun p : Nat × Nat => D.loc r' (.x2 0 p.1 p.2)) hq, r, _, r', _, g a b, rfl, rfl, by rw [h1]; exact dl_lst hab, by rw [h2, dl_lst hab, ← h a b hab]; rfl⟩
/-! ### what comes of a log -/
def finC (n : Nat) (c0 : List Int) (L : List Ev) : List Int := (List.range n).map fun i => bal (c0.getD i 0) (ofM i L)
def finR (r0 : Nat → Nat → List Int) (L : List Ev) (a b : Nat) : List Int := (r0 a b ++ gAm a b L).drop (tN a b L)
def lyOf (m : Mkt) (a b : Nat) : List Int := (m.roads a b).filterMap amt
def doneL (m : Mkt) : List Nat := (List.range m.shots.length).filter fun k => doneS (m.shots.getD k (newSh 0))
/-! ### promises -/
def sp_law_empty (C : Cl) : LSp := fun ds S Q _ => ∃ n : Nat, ds = [.int n] ∧ n ≤ 5 ∧ ∀ r, (∀ f, S r f = none) → Q (.loc r (.x0 0)) (S.setR r (dlR r n r00))
def sp_law_lying (C : Cl) : LSp := fun ds S Q _ => ∃ (r : Nat) (m : Mkt), ds = [.loc r .mI, .int m.n] ∧ S r = encM C r m ∧ Ok m ∧ ∀ rl, (∀ f, S rl f = none) → Q (.loc rl (.x0 0)) (S.setR rl (dlR rl m.n (lyOf m)))
def AgainOk (n : Nat) (c0 : List Int) (r0 : Nat → Nat → List Int) (L : List Ev) : Prop := c0.length = n ∧ n ≤ 5 ∧ (∀ e ∈ L, EvIn n e) ∧ Runs c0 r0 L ∧ L.length ≤ 100000 ∧ ∀ a b, (r0 a b).length ≤ 100000
def sp_law_again (C : Cl) : LSp := fun ds S Q _ => ∃ (n : Nat) (c0 : List Int) (r0 : Nat → Nat → List Int) (L : List Ev) (r1 re : Nat), ds = [.tup (c0.map D.int), .loc r1 (.x0 0), .loc re .tmp] ∧ AgainOk n c0 r0 L ∧ S r1 = dlR r1 n r0 ∧ S re .tmp = some (.lst (L.map encEv)) ∧
  ∀ rl, (∀ f, S rl f = none) → Q (.tup [.tup ((finC n c0 L).map D.int), .loc rl (.x0 0)]) (S.setR rl (dlR rl n (finR r0 L)))
def sp_law_againT (C : Cl) : LSp := fun ds S Q _ => ∃ (n : Nat) (c0 : List Int) (r0 : Nat → Nat → List Int) (L : List Ev) (r1 : Nat), ds = [.tup (c0.map D.int), .loc r1 (.x0 0), .tup (L.map encEv)] ∧ AgainOk n c0 r0 L ∧ S r1 = dlR r1 n r0 ∧
  ∀ rl, (∀ f, S rl f = none) → Q (.tup [.tup ((finC n c0 L).map D.int), .loc rl (.x0 0)]) (S.setR rl (dlR rl n (finR r0 L)))
def sp_law_cut_log (C : Cl) : LSp := fun ds S Q _ => ∃ (n : Nat) (L : List Ev) (cut : Nat → Nat), ds = [.tup (L.map encEv), .tup ((List.range n).map fun i => .int (cut i : Int))] ∧ n ≤ 5 ∧ (∀ e ∈ L, EvIn n e) ∧ L.length ≤ 100000 ∧
  ∀ ra rb, (∀ f, S ra f = none) → (∀ f, S rb f = none) → ra ≠ rb → Q (.tup [.loc ra .tmp, .loc rb .tmp]) ((S.setR ra (tmpR (.lst ((aheadL cut L).map encEv)))).setR rb (tmpR (.lst ((behindL cut L).map encEv))))
def sp_law_done (C : Cl) : LSp := fun ds S Q _ => ∃ (r : Nat) (m : Mkt), ds = [.loc r .mI, .int m.shots.length] ∧ S r = encM C r m ∧ m.shots.length ≤ 1000 ∧ newTmp ((doneL m).map fun k : Nat => .int k) S Q
end SS
namespace SS
open PySem L2
/-- _law_empty: slots 0 many 1 found 2 pair -/
def r_law_empty (K : PySem.W.Frag) (C : Cl) : LTS :=
  (rSeq (rSet 1 (rDct (newF (.x0 0)) (.dT []))) (rSeq (rFor (iLst (rDef (sp_law_pairs C) (rCons (rVar 0) rNil))) (.nm 2) (rSub (rVar 1) (rVar 2) (rLst (newA) rNil))) (rRet (rVar 1))))
/-- _law_lying: slots 0 market 1 many 2 found 3 one 4 other 5 lying -/
def r_law_lying (K : PySem.W.Frag) (C : Cl) : LTS :=
  (rSeq (rSet 2 (rDct (newF (.x0 0)) (.dT []))) (rSeq (rFor (iLst (rDef (sp_law_pairs C) (rCons (rVar 1) rNil))) (.tp [3, 4]) (rSub (rVar 2) (rTup (rCons (rVar 3) (rCons (rVar 4) rNil))) (rLc (newA) (iTp (rMeth C.m "road" (sp_Market_road C) (rVar 0) (rCons (rVar 3) (rCons (rVar 4) rNil)))) (.nm 5) (rTest (rOp oEq (rOp ixD (rVar 5) (rC (.int 0))) (rC (.str "coins")))) (rOp ixD (rVar 5) (rC (.int 1)))))) (rRet (rVar 2))))
/-- _law_again: slots 0 coins 1 roads 2 events 3 now 4 lying 5 pair 6 kind 7 one 8 other 9 amount -/
def r_law_again (K : PySem.W.Frag) (C : Cl) : LTS :=
  (rSeq (rSet 3 (rCall (dList (newF .tmp)) (rCons (rVar 0) rNil))) (rSeq (rSet 4 (rDct (newF (.x0 0)) (.dT []))) (rSeq (rLock (rFor (iKey (rVar 1)) (.nm 5) (rSub (rVar 4) (rVar 5) (rCall (dList (newA)) (rCons (rOp ixD (rVar 1) (rVar 5)) rNil))))) (rSeq (rFor (iLst (rVar 2)) (.tp [6, 7, 8, 9]) (rIf (rTest (rOp oEq (rVar 6) (rC (.str "give")))) (rSeq (rIf (rTest (rOp oLt (rOp ixD (rVar 3) (rVar 7)) (rVar 9))) (rRet (rC .non)) rNext) (rSeq (rSub (rVar 3) (rVar 7) (rOp oSub (rOp ixD (rVar 3) (rVar 7)) (rVar 9))) (rDrop (rBM isL mAppend (rOp ixD (rVar 4) (rTup (rCons (rVar 7) (rCons (rVar 8) rNil)))) (rCons (rVar 9) rNil))))) (rSeq (rIf (rTest (rOp oNeD (rSliceL (newF .tmp) (rOp ixD (rVar 4) (rTup (rCons (rVar 7) (rCons (rVar 8) rNil)))) rNoPart (rPart (rC (.int 1)))) (rLst (newF .tmp) (rCons (rVar 9) rNil)))) (rRet (rC .non)) rNext) (rSeq (rDrop (rBM isL mPop0 (rOp ixD (rVar 4) (rTup (rCons (rVar 7) (rCons (rVar 8) rNil)))) (rCons (rC (.int 0)) rNil))) (rSub (rVar 3) (rVar 8) (rOp oAdd (rOp ixD (rVar 3) (rVar 8)) (rVar 9))))))) (rRet (rTup (rCons (rCall dTuple (rCons (rVar 3) rNil)) (rCons (rVar 4) rNil))))))))
/-- _law_cut_log: slots 0 log 1 cut 2 k 3 counts 4 ahead 5 behind 6 event 7 member -/
def r_law_cut_log (K : PySem.W.Frag) (C : Cl) : LTS :=
  (rSeq (rSet 3 (rLc (newF .tmp) (iTp (rVar 1)) (.nm 2) rYes (rC (.int 0)))) (rSeq (rSet 4 (rLst (newF .tmp) rNil)) (rSeq (rSet 5 (rLst (newF .tmp) rNil)) (rSeq (rFor (iTp (rVar 0)) (.nm 6) (rSeq (rSet 7 (rOp ixD (rVar 6) (rC (.int 1)))) (rSeq (rIf (rTest (rOp oEq (rOp ixD (rVar 6) (rC (.int 0))) (rC (.str "take")))) (rSet 7 (rOp ixD (rVar 6) (rC (.int 2)))) rNext) (rSeq (rSub (rVar 3) (rVar 7) (rOp oAdd (rOp ixD (rVar 3) (rVar 7)) (rC (.int 1)))) (rIf (rTest (rOp oLe (rOp ixD (rVar 3) (rVar 7)) (rOp ixD (rVar 1) (rVar 7)))) (rDrop (rBM isL mAppend (rVar 4) (rCons (rVar 6) rNil))) (rDrop (rBM isL mAppend (rVar 5) (rCons (rVar 6) rNil)))))))) (rRet (rTup (rCons (rVar 4) (rCons (rVar 5) rNil))))))))
/-- _law_done: slots 0 market 1 many_begun 2 k -/
def r_law_done (K : PySem.W.Frag) (C : Cl) : LTS :=
  (rRet (rLc (newF .tmp) (iRng (rCons (rVar 1) rNil)) (.nm 2) (rTest (rMeth C.m "is_done" (sp_Market_is_done C) (rVar 0) (rCons (rVar 2) rNil))) (rVar 2)))
/-- _law_again: slots 0 coins 1 roads 2 events 3 now 4 lying 5 pair 6 kind 7 one 8 other 9 amount -/
def r_law_againT (K : PySem.W.Frag) (C : Cl) : LTS :=
  (rSeq (rSet 3 (rCall (dList (newF .tmp)) (rCons (rVar 0) rNil))) (rSeq (rSet 4 (rDct (newF (.x0 0)) (.dT []))) (rSeq (rLock (rFor (iKey (rVar 1)) (.nm 5) (rSub (rVar 4) (rVar 5) (rCall (dList (newA)) (rCons (rOp ixD (rVar 1) (rVar 5)) rNil))))) (rSeq (rFor (iTp (rVar 2)) (.tp [6, 7, 8, 9]) (rIf (rTest (rOp oEq (rVar 6) (rC (.str "give")))) (rSeq (rIf (rTest (rOp oLt (rOp ixD (rVar 3) (rVar 7)) (rVar 9))) (rRet (rC .non)) rNext) (rSeq (rSub (rVar 3) (rVar 7) (rOp oSub (rOp ixD (rVar 3) (rVar 7)) (rVar 9))) (rDrop (rBM isL mAppend (rOp ixD (rVar 4) (rTup (rCons (rVar 7) (rCons (rVar 8) rNil)))) (rCons (rVar 9) rNil))))) (rSeq (rIf (rTest (rOp oNeD (rSliceL (newF .tmp) (rOp ixD (rVar 4) (rTup (rCons (rVar 7) (rCons (rVar 8) rNil)))) rNoPart (rPart (rC (.int 1)))) (rLst (newF .tmp) (rCons (rVar 9) rNil)))) (rRet (rC .non)) rNext) (rSeq (rDrop (rBM isL mPop0 (rOp ixD (rVar 4) (rTup (rCons (rVar 7) (rCons (rVar 8) rNil)))) (rCons (rC (.int 0)) rNil))) (rSub (rVar 3) (rVar 8) (rOp oAdd (rOp ixD (rVar 3) (rVar 8)) (rVar 9))))))) (rRet (rTup (rCons (rCall dTuple (rCons (rVar 3) rNil)) (rCons (rVar 4) rNil))))))))
end SS
namespace SS
open PySem L2
theorem x2_set {S : Store} {a b : Nat} {ga gb : Reg} {f : Fld} {o : LO} (h : a ≠ b) : (X2 S a b ga gb).set a f o = X2 S a b (fset ga f o) gb := by rw [set_R, x2_a h, x2_pa h]
theorem read_law_empty {K : PySem.W.Frag} {C : Cl} (ds : List D) (S : Store) (Q : QD) (Ex : Value → Store → Prop) (h : sp_law_empty C ds S Q Ex) : r_law_empty K C (ends0 Q) (start ["many", "found", "pair"] ds) S := by
  obtain ⟨n, rfl, h5, q⟩ := h
  intro r hr
  show Wk _ (S.set r (.x0 0) (.dT []))
  rw [dl_nil S r r00 hr]
  refine .here ?_
  refine ⟨_, rfl, n, rfl, h5, fun rp hrp => ?_⟩
  have nrp : r ≠ rp := ne_fresh hrp (f := .x0 0) (by rw [setR_same]; simp [dlB])
  refine ⟨_, by show _ = _; rw [tmp_at], ?_⟩
  refine ⟨fun i env S' => ∃ v, env = [some (.int n), some (.loc r (.x0 0)), v] ∧ S' = X2 S r rp (dlB r ((pairs n).take i) r00) (tmpR (.lst ((pairs n).map pairD2))), .here ⟨none, rfl, rfl⟩, ?_, ?_⟩
  · rintro i d env S' hd ⟨v, rfl, rfl⟩
    obtain ⟨a, b, hab, hp, rfl⟩ := pair_at hd
    refine ⟨by show _ = _; rw [x2_b, tmpR_tmp], ?_⟩
    have hno := take_nd (nd_pairs n) hp
    have hreg := x2_a (S := S) (ga := dlB r ((pairs n).take i) r00) (gb := tmpR (.lst ((pairs n).map pairD2))) nrp
    refine ⟨t0, r, .x2 0 a b, by rw [hreg]; simp only [dlB]; rw [if_neg hno], ⟨.x0 0, by rw [hreg]; simp [dlB]⟩, _, rfl, _, rfl, _, .t (ks := pk (a, b)) (kvs := ((pairs n).take i).map fun p => (pk p, .loc r (.x2 0 p.1 p.2))) (by rw [set_nf (by simp), hreg]; rfl) ?_, .here ⟨_, rfl, ?_⟩⟩
    · rw [List.length_map]; have := pairs_len n h5; simp; exact szl _ (by omega)
    · rw [x2_set nrp, x2_set nrp]
      have := dl_put (r := r) (g := r00) hno
      rw [← take_one hp] at this
      exact congrArg (fun g => X2 S r rp g _) this
  · rintro env S' ⟨v, rfl, rfl⟩
    refine ⟨by show _ = _; rw [x2_b, tmpR_tmp], ?_⟩
    rw [List.length_map, List.take_length]
    refine ⟨S.setR r (dlR r n r00), sub_drop fun f => ?_, _, rfl, .here (q r hr)⟩
    have := hrp f
    rw [setR_ne (Ne.symm nrp)] at this ⊢; exact this
theorem onRoad2 : ∀ (l : List Par), (l.map encPar2).filterMap (fun d => match d with | .tup [.str x, .int a] => if decide (V.str x = V.str "coins") = true then some (D.int a) else none | _ => none) = (l.filterMap amt).map D.int
  | [] => rfl
  | .coins a n :: l => by
    rw [List.map_cons, List.filterMap_cons, List.filterMap_cons, onRoad2 l]; simp [encPar2, amt]
  | .mark k :: l => by
    rw [List.map_cons, List.filterMap_cons, List.filterMap_cons, onRoad2 l]
    have : (V.str (Str.ofString "mark") = V.str (Str.ofString "coins")) = False := by
      refine eq_false fun z => ?_
      injection z with z
      revert z; decide
    simp [encPar2, amt, this]
theorem read_law_lying {K : PySem.W.Frag} {C : Cl} (ds : List D) (S : Store) (Q : QD) (Ex : Value → Store → Prop) (h : sp_law_lying C ds S Q Ex) : r_law_lying K C (ends0 Q) (start ["market", "many", "found", "one", "other", "lying"] ds) S := by
  obtain ⟨rm, m, rfl, hS, ok, q⟩ := h
  have h5 := ok.1.n5
  intro r hr
  show Wk _ (S.set r (.x0 0) (.dT []))
  rw [dl_nil S r (lyOf m) hr]
  refine .here ?_
  have nmr : rm ≠ r := ne_fresh hr (f := .mI) (by rw [hS]; simp [encM, encV])
  refine ⟨_, rfl, m.n, rfl, h5, fun rp hrp => ?_⟩
  have nrp : r ≠ rp := ne_fresh hrp (f := .x0 0) (by rw [setR_same]; simp [dlB])
  have nmp : rm ≠ rp := ne_fresh hrp (f := .mI) (by rw [setR_ne nmr, hS]; simp [encM, encV])
  refine ⟨_, by show _ = _; rw [tmp_at], ?_⟩
  refine ⟨fun i env S' => ∃ v3 v4, env = [some (.loc rm .mI), some (.int m.n), some (.loc r (.x0 0)), v3, v4, none] ∧ S' = X2 S r rp (dlB r ((pairs m.n).take i) (lyOf m)) (tmpR (.lst ((pairs m.n).map pairD2))), .here ⟨none, none, rfl, rfl⟩, ?_, ?_⟩
  · rintro i d env S' hd ⟨v3, v4, rfl, rfl⟩
    obtain ⟨a, b, hab, hp, rfl⟩ := pair_at hd
    refine ⟨by show _ = _; rw [x2_b, tmpR_tmp], ⟨_, rfl, rfl, ?_⟩⟩
    have hno := take_nd (nd_pairs m.n) hp
    have hreg := x2_a (S := S) (ga := dlB r ((pairs m.n).take i) (lyOf m)) (gb := tmpR (.lst ((pairs m.n).map pairD2))) nrp
    have hm : X2 S r rp (dlB r ((pairs m.n).take i) (lyOf m)) (tmpR (.lst ((pairs m.n).map pairD2))) rm = encM C rm m := by unfold X2; rw [setR_ne nmp, setR_ne nmr, hS]
    generalize hX : X2 S r rp (dlB r ((pairs m.n).take i) (lyOf m)) (tmpR (.lst ((pairs m.n).map pairD2))) = X at hreg hm
    refine lc_at ((m.roads a b).map encPar2) (fun _ => True) X (fun d => match d with | .tup [.str x, .int a] => if decide (V.str x = V.str "coins") = true then some (D.int a) else none | _ => none) r (.x2 0 a b) ?_ ?_ ?_ ?_ ?_ ?_ ?_
    · intro Q' hq
      exact ⟨_, rfl, rm, .mI, _, rfl, by rw [hm]; rfl, rfl, _, rfl, _, rfl, rm, m, a, b, rfl, hm, ok, hab.1, hab.2.1, hab.2.2, _, rfl, hq⟩
    · rw [List.length_map]; have := ok.2.roads a b; exact szl _ (by omega)
    · rw [hreg]; simp only [dlB]; rw [if_neg hno]
    · exact ⟨.x0 0, by rw [hreg]; simp [dlB]⟩
    · intro _; trivial
    · intro j x ds P N hx hP hN
      rw [List.getElem?_map] at hx
      cases ep : (m.roads a b)[j]? with
      | none => rw [ep] at hx; cases hx
      | some p =>
        rw [ep] at hx; cases hx
        cases p with
        | coins y num =>
          refine ⟨_, rfl, .inl ⟨_, _, _, rfl, rfl, rfl, _, rfl, _, rfl, iteT ⟨_, rfl, .inl ⟨_, _, _, rfl, rfl, rfl, hP (.int y) _ ?_ .refl⟩⟩⟩⟩
          simp [encPar2]
        | mark k =>
          refine ⟨_, rfl, .inl ⟨_, _, _, rfl, rfl, rfl, _, rfl, _, rfl, iteF (hN ?_)⟩⟩
          have : (V.str (Str.ofString "mark") = V.str (Str.ofString "coins")) = False := by
            refine eq_false fun z => ?_
            injection z with z
            revert z; decide
          simp [encPar2, this]
    · rw [onRoad2]
      refine ⟨_, rfl, _, rfl, _, rfl, t2, _, .t (ks := pk (a, b)) (kvs := ((pairs m.n).take i).map fun p => (pk p, .loc r (.x2 0 p.1 p.2))) (by rw [set_nf (by simp), hreg]; rfl) ?_, .here ⟨_, _, rfl, ?_⟩⟩
      · rw [List.length_map]; have := pairs_len m.n h5; simp; exact szl _ (by omega)
      · rw [← hX, x2_set nrp, x2_set nrp]
        have := dl_put (r := r) (g := lyOf m) hno
        rw [← take_one hp] at this
        exact congrArg (fun g => X2 S r rp g _) this
  · rintro env S' ⟨v3, v4, rfl, rfl⟩
    refine ⟨by show _ = _; rw [x2_b, tmpR_tmp], ?_⟩
    rw [List.length_map, List.take_length]
    refine ⟨S.setR r (dlR r m.n (lyOf m)), sub_drop fun f => ?_, _, rfl, .here (q r hr)⟩
    have := hrp f
    rw [setR_ne (Ne.symm nrp)] at this ⊢; exact this
/-! ### a log done again -/
theorem finC_len (n : Nat) (c0 : List Int) (L : List Ev) : (finC n c0 L).length = n := by simp [finC]
theorem finC_at {n : Nat} (c0 : List Int) (L : List Ev) {i : Nat} (hi : i < n) : (finC n c0 L)[i]? = some (bal (c0.getD i 0) (ofM i L)) := by
  unfold finC; rw [List.getElem?_map, List.getElem?_range hi]; rfl
theorem finC_nil {n : Nat} {c0 : List Int} (h : c0.length = n) : finC n c0 [] = c0 := by
  subst h
  unfold finC
  have : (fun i => bal (c0.getD i 0) (ofM i [])) = fun i => c0.getD i 0 := by funext i; simp [bal, ofM]
  rw [this, ints_eq]
theorem finR_nil (r0 : Nat → Nat → List Int) : finR r0 [] = r0 := by funext a b; simp [finR, gAm, tN]
theorem finC_snoc {n : Nat} (c0 : List Int) (L : List Ev) (e : Ev) (hi : who e < n) : finC n c0 (L ++ [e]) = (finC n c0 L).set (who e) (bal (c0.getD (who e) 0) (ofM (who e) L) + bal1 e) := by
  refine List.ext_getElem? fun j => ?_
  rw [setAt (by rw [finC_len]; exact hi)]
  by_cases hj : j < n
  · rw [finC_at c0 _ hj, ofM_app, ofM_one]
    by_cases hw : j = who e
    · rw [if_pos hw, hw, if_pos rfl, bal_app]; simp
    · rw [if_neg hw, if_neg (fun z => hw z.symm), List.append_nil, finC_at c0 _ hj]
  · rw [List.getElem?_eq_none (by rw [finC_len]; omega), if_neg (by omega), List.getElem?_eq_none (by rw [finC_len]; omega)]
theorem finR_give {c0 : List Int} {r0 : Nat → Nat → List Int} {L : List Ev} (hr : Runs c0 r0 L) {e : Ev} (hg : e.give = true) : finR r0 (L ++ [e]) = up2 (finR r0 L) e.one e.other (finR r0 L e.one e.other ++ [e.amt]) := by
  funext a b
  unfold finR
  rw [gAm_app, tN_app]
  have h2 : tN a b [e] = 0 := by simp [tN, isT_no hg]
  rw [h2, Nat.add_zero]
  by_cases z : a = e.one ∧ b = e.other
  · obtain ⟨rfl, rfl⟩ := z
    have h1 : gAm e.one e.other [e] = [e.amt] := by simp [gAm, isG_of hg]
    rw [up2_same, h1, ← List.append_assoc, List.drop_append_of_le_length (runs_tN hr _ _)]
  · have h1 : gAm a b [e] = [] := by simp [gAm, isG_of hg]; intro z1 z2; exact z ⟨z1.symm, z2.symm⟩
    rw [up2_ne z, h1, List.append_nil]
theorem finR_take {c0 : List Int} {r0 : Nat → Nat → List Int} {L : List Ev} {e : Ev} (hg : e.give = false) (hc : Can c0 r0 L e) : ∃ rest, finR r0 L e.one e.other = e.amt :: rest ∧ finR r0 (L ++ [e]) = up2 (finR r0 L) e.one e.other rest := by
  have hx := hc.2 hg
  have hlt := (List.getElem?_eq_some_iff.mp hx).1
  have hxe := (List.getElem?_eq_some_iff.mp hx).2
  refine ⟨(r0 e.one e.other ++ gAm e.one e.other L).drop (tN e.one e.other L + 1), ?_, ?_⟩
  · unfold finR; rw [List.drop_eq_getElem_cons hlt, hxe]
  · funext a b
    unfold finR
    rw [gAm_app, tN_app]
    have h1 : gAm a b [e] = [] := by simp [gAm, isG_no hg]
    rw [h1, List.append_nil]
    by_cases z : a = e.one ∧ b = e.other
    · obtain ⟨rfl, rfl⟩ := z
      have h2 : tN e.one e.other [e] = 1 := by simp [tN, isT_of hg]
      rw [up2_same, h2]
    · have h2 : tN a b [e] = 0 := by simp [tN, isT_of hg]; intro z1 z2; exact z ⟨z1.symm, z2.symm⟩
      rw [up2_ne z, h2, Nat.add_zero]
theorem finR_len (r0 : Nat → Nat → List Int) (L : List Ev) (a b : Nat) : (finR r0 L a b).length ≤ (r0 a b).length + L.length := by
  unfold finR
  rw [List.length_drop, List.length_append]
  have : (gAm a b L).length ≤ L.length := by unfold gAm; rw [List.length_map]; exact List.length_filter_le _ _
  omega
theorem cut_0_1 {α : Type} (x : α) (l : List α) : cutD (x :: l) none (some 1) = [x] := by
  unfold cutD
  have h1 : HT.sIx (x :: l).length 0 none = 0 := rfl
  have h2 : HT.sIx (x :: l).length (x :: l).length (some 1) = 1 := by
    have := HT.sIx_nat (x :: l).length (x :: l).length 1
    rw [show ((1 : Nat) : Int) = 1 from rfl] at this
    rw [this]; simp
  rw [h1, h2]; simp
/-- one event of _law_again -/
theorem again_body {n : Nat} {c0 : List Int} {r0 : Nat → Nat → List Int} {L : List Ev} {e : Ev} {x0 x1 x2 v5 : Option D} {rn rl : Nat} {Z : LEnds} {X : Store} (hr : Runs c0 r0 L) (hc : Can c0 r0 L e) (hin : EvIn n e) (hlen : ∀ a b, (finR r0 L a b).length ≤ 900000) (nnl : rn ≠ rl)
    (hn : X rn = tmpR (lints (finC n c0 L))) (hl : X rl = dlR rl n (finR r0 L))
    (h : Z.nx [x0, x1, x2, some (.loc rn .tmp), some (.loc rl (.x0 0)), v5, some (.str (if e.give then "give" else "take")), some (.int e.one), some (.int e.other), some (.int e.amt)] ((X.setR rn (tmpR (lints (finC n c0 (L ++ [e]))))).setR rl (dlR rl n (finR r0 (L ++ [e]))))) :
    rIf (rTest (rOp oEq (rVar 6) (rC (.str "give")))) (rSeq (rIf (rTest (rOp oLt (rOp ixD (rVar 3) (rVar 7)) (rVar 9))) (rRet (rC .non)) rNext) (rSeq (rSub (rVar 3) (rVar 7) (rOp oSub (rOp ixD (rVar 3) (rVar 7)) (rVar 9))) (rDrop (rBM isL mAppend (rOp ixD (rVar 4) (rTup (rCons (rVar 7) (rCons (rVar 8) rNil)))) (rCons (rVar 9) rNil))))) (rSeq (rIf (rTest (rOp oNeD (rSliceL (newF .tmp) (rOp ixD (rVar 4) (rTup (rCons (rVar 7) (rCons (rVar 8) rNil)))) rNoPart (rPart (rC (.int 1)))) (rLst (newF .tmp) (rCons (rVar 9) rNil)))) (rRet (rC .non)) rNext) (rSeq (rDrop (rBM isL mPop0 (rOp ixD (rVar 4) (rTup (rCons (rVar 7) (rCons (rVar 8) rNil)))) (rCons (rC (.int 0)) rNil))) (rSub (rVar 3) (rVar 8) (rOp oAdd (rOp ixD (rVar 3) (rVar 8)) (rVar 9)))))
      Z [x0, x1, x2, some (.loc rn .tmp), some (.loc rl (.x0 0)), v5, some (.str (if e.give then "give" else "take")), some (.int e.one), some (.int e.other), some (.int e.amt)] X := by
  obtain ⟨h1, h2, h3⟩ := hin
  have hnow : SeqD X (.loc rn .tmp) ((finC n c0 L).map D.int) := by show _ = _; rw [hn]; rfl
  have at1 : ∀ {i : Nat}, i < n → atI ((finC n c0 L).map D.int) (i : Int) = some (.int (bal (c0.getD i 0) (ofM i L))) := fun hi => atI_nat (by rw [List.getElem?_map, finC_at c0 L hi]; rfl)
  have hlenF : ((finC n c0 L).map D.int).length = n := by rw [List.length_map, finC_len]
  cases hg : e.give with
  | true =>
    rw [hg] at h
    have hwho : who e = e.one := by unfold who; rw [hg]; rfl
    refine ⟨_, rfl, _, rfl, _, rfl, iteT ?_⟩
    refine ⟨_, rfl, _, rfl, .inl ⟨_, _, _, hnow, rfl, at1 h1, _, rfl, _, _, rfl, rfl, _, rfl, ?_⟩⟩
    have hle := hc.1 hg
    rw [decide_eq_false (by omega)]
    refine iteF (.here ?_)
    refine ⟨_, rfl, _, rfl, .inl ⟨_, _, _, hnow, rfl, at1 h1, _, rfl, _, _, rfl, rfl, _, rfl, _, rfl, _, .l (j := e.one) (by rw [hn]; rfl) (by rw [hlenF]; exact ixN_nat h1), .here ?_⟩⟩
    have eN : (X.set rn .tmp (.lst (((finC n c0 L).map D.int).set e.one (.int (bal (c0.getD e.one 0) (ofM e.one L) - e.amt))))) = X.setR rn (tmpR (lints (finC n c0 (L ++ [e])))) := by
      rw [set_R, hn]
      congr 1
      rw [finC_snoc c0 L e (by rw [hwho]; exact h1), hwho]
      funext f
      by_cases ef : f = .tmp
      · subst ef
        rw [fset_same, tmpR_tmp]
        unfold lints bal1
        rw [hg, ← List.map_set]; rfl
      · rw [fset_ne ef]; unfold tmpR; rw [if_neg ef, if_neg ef]
    rw [eN]
    have hl' : (X.setR rn (tmpR (lints (finC n c0 (L ++ [e]))))) rl = dlR rl n (finR r0 L) := by rw [setR_ne (Ne.symm nnl), hl]
    refine ⟨_, rfl, _, rfl, _, rfl, t2, .inr ⟨_, dl_at hl' ⟨h1, h2, h3⟩, ⟨(finR r0 L e.one e.other).map D.int, by show _ = _; rw [hl', dl_lst ⟨h1, h2, h3⟩]; rfl⟩, _, rfl, rl, .x2 0 e.one e.other, (finR r0 L e.one e.other).map D.int, _, rfl, rfl, by rw [hl', dl_lst ⟨h1, h2, h3⟩]; rfl, ?_, ?_⟩⟩
    · rw [List.length_map]; exact szl _ (by have := hlen e.one e.other; omega)
    · rw [set_R, hl']
      have : fset (dlR rl n (finR r0 L)) (.x2 0 e.one e.other) (.lst ((finR r0 L e.one e.other).map D.int ++ [.int e.amt])) = dlR rl n (finR r0 (L ++ [e])) := by
        rw [finR_give hr hg]
        have := dl_set (r := rl) (g := finR r0 L) (mem_pairs.mpr ⟨h1, h2, h3⟩) (finR r0 L e.one e.other ++ [e.amt])
        unfold lints at this
        rw [List.map_append] at this
        exact this
      rw [this]; exact h
  | false =>
    rw [hg] at h
    have hwho : who e = e.other := by unfold who; rw [hg]; rfl
    obtain ⟨rest, hf1, hf2⟩ := finR_take hg hc
    refine ⟨_, rfl, _, rfl, _, rfl, iteF ?_⟩
    refine ⟨_, rfl, _, rfl, _, rfl, t2, .inr ⟨_, dl_at hl ⟨h1, h2, h3⟩, 1, rfl, (finR r0 L e.one e.other).map D.int, by show _ = _; rw [hl, dl_lst ⟨h1, h2, h3⟩]; rfl, fun r1 hr1 => ?_⟩⟩
    rw [hf1, List.map_cons, cut_0_1, set_tmp hr1]
    refine ⟨_, rfl, t1, fun r2 hr2 => ?_⟩
    rw [set_tmp hr2]
    obtain ⟨n21, hr2'⟩ := fresh2 hr2
    refine ne_sameL (k := 0) (ds := [.int e.amt]) (fun d hd => by simp at hd; subst hd; exact .int _) (by decide) (by rw [setR_ne (Ne.symm n21), tmp_at]) (by rw [tmp_at]) ⟨_, rfl, iteF ⟨X, (sub_drop hr1).trans (sub_drop hr2), ?_⟩⟩
    have hlst : X rl (.x2 0 e.one e.other) = some (.lst (D.int e.amt :: rest.map D.int)) := by rw [hl, dl_lst ⟨h1, h2, h3⟩, hf1]; rfl
    refine ⟨_, rfl, _, rfl, _, rfl, t2, .inr ⟨_, dl_at hl ⟨h1, h2, h3⟩, ⟨_, hlst⟩, rl, _, _, _, rfl, rfl, hlst, .here ?_⟩⟩
    have eL : X.set rl (.x2 0 e.one e.other) (.lst (rest.map D.int)) = X.setR rl (dlR rl n (finR r0 (L ++ [e]))) := by
      rw [set_R, hl, hf2]
      congr 1
      exact dl_set (r := rl) (g := finR r0 L) (mem_pairs.mpr ⟨h1, h2, h3⟩) rest
    rw [eL]
    have hn' : (X.setR rl (dlR rl n (finR r0 (L ++ [e])))) rn = tmpR (lints (finC n c0 L)) := by rw [setR_ne nnl, hn]
    have hnow' : SeqD (X.setR rl (dlR rl n (finR r0 (L ++ [e])))) (.loc rn .tmp) ((finC n c0 L).map D.int) := by show _ = _; rw [hn']; rfl
    refine ⟨_, rfl, _, rfl, .inl ⟨_, _, _, hnow', rfl, at1 h2, _, rfl, _, _, rfl, rfl, _, rfl, _, rfl, _, .l (j := e.other) (by rw [hn']; rfl) (by rw [hlenF]; exact ixN_nat h2), ?_⟩⟩
    have eN : ((X.setR rl (dlR rl n (finR r0 (L ++ [e])))).set rn .tmp (.lst (((finC n c0 L).map D.int).set e.other (.int (bal (c0.getD e.other 0) (ofM e.other L) + e.amt))))) = (X.setR rn (tmpR (lints (finC n c0 (L ++ [e]))))).setR rl (dlR rl n (finR r0 (L ++ [e]))) := by
      rw [set_R, hn', setR_comm (Ne.symm nnl)]
      congr 2
      rw [finC_snoc c0 L e (by rw [hwho]; exact h2), hwho]
      funext f
      by_cases ef : f = .tmp
      · subst ef
        rw [fset_same, tmpR_tmp]
        unfold lints bal1
        rw [hg, ← List.map_set]; rfl
      · rw [fset_ne ef]; unfold tmpR; rw [if_neg ef, if_neg ef]
    rw [eN]; exact h
end SS
namespace SS
open PySem L2
abbrev againB : LTS := rIf (rTest (rOp oEq (rVar 6) (rC (.str "give")))) (rSeq (rIf (rTest (rOp oLt (rOp ixD (rVar 3) (rVar 7)) (rVar 9))) (rRet (rC .non)) rNext) (rSeq (rSub (rVar 3) (rVar 7) (rOp oSub (rOp ixD (rVar 3) (rVar 7)) (rVar 9))) (rDrop (rBM isL mAppend (rOp ixD (rVar 4) (rTup (rCons (rVar 7) (rCons (rVar 8) rNil)))) (rCons (rVar 9) rNil))))) (rSeq (rIf (rTest (rOp oNeD (rSliceL (newF .tmp) (rOp ixD (rVar 4) (rTup (rCons (rVar 7) (rCons (rVar 8) rNil)))) rNoPart (rPart (rC (.int 1)))) (rLst (newF .tmp) (rCons (rVar 9) rNil)))) (rRet (rC .non)) rNext) (rSeq (rDrop (rBM isL mPop0 (rOp ixD (rVar 4) (rTup (rCons (rVar 7) (rCons (rVar 8) rNil)))) (rCons (rC (.int 0)) rNil))) (rSub (rVar 3) (rVar 8) (rOp oAdd (rOp ixD (rVar 3) (rVar 8)) (rVar 9)))))
theorem x3_set {S : Store} {a b c : Nat} {ga gb gc : Reg} {f : Fld} {o : LO} : (X3 S a b c ga gb gc).set c f o = X3 S a b c ga gb (fset gc f o) := by rw [set_R, x3_c]; unfold X3; rw [setR_setR]
theorem evs_at {L : List Ev} {i : Nat} {d : D} (h : (L.map encEv)[i]? = some d) : ∃ e, L[i]? = some e ∧ d = .tup [.str (if e.give then "give" else "take"), .int e.one, .int e.other, .int e.amt] := by
  rw [List.getElem?_map] at h
  cases he : L[i]? with
  | none => rw [he] at h; cases h
  | some e => rw [he] at h; cases h; exact ⟨e, rfl, rfl⟩
/-- _law_again behind the copies: events by any walk -/
theorem again_read {K : PySem.W.Frag} {C : Cl} {n : Nat} {c0 : List Int} {r0 : Nat → Nat → List Int} {L : List Ev} {x2 : Option D} {r1 : Nat} {S : Store} {ri : LTI} {Q : QD} (ok : AgainOk n c0 r0 L) (h1 : S r1 = dlR r1 n r0)
    (hi : ∀ (v : LEnv) (X : Store) (Q' : List D → (Store → Prop) → Store → Prop), (∀ r f, S r f ≠ none → r ≠ r1 → X r = S r) → Q' (L.map encEv) (fun S' => ∀ r f, S r f ≠ none → r ≠ r1 → S' r = S r → True) X → True)
    (hw : ∀ (rn rl : Nat) (v5 : Option D) (gn gl : Reg) (R : List D → (Store → Prop) → Store → Prop) (Ex : XD), (∀ f, S rn f = none) → (∀ f, S rl f = none) → (∀ (G : Store → Prop), (∀ gn' gl', G (X3 S r1 rn rl (dlR r1 n r0) gn' gl')) → R (L.map encEv) G (X3 S r1 rn rl (dlR r1 n r0) gn gl)) → ri [some (.tup (c0.map D.int)), some (.loc r1 (.x0 0)), x2, some (.loc rn .tmp), some (.loc rl (.x0 0)), v5, none, none, none, none] (X3 S r1 rn rl (dlR r1 n r0) gn gl) R Ex)
    (q : ∀ rl, (∀ f, S rl f = none) → Q (.tup [.tup ((finC n c0 L).map D.int), .loc rl (.x0 0)]) (S.setR rl (dlR rl n (finR r0 L)))) :
    rSeq (rSet 3 (rCall (dList (newF .tmp)) (rCons (rVar 0) rNil))) (rSeq (rSet 4 (rDct (newF (.x0 0)) (.dT []))) (rSeq (rLock (rFor (iKey (rVar 1)) (.nm 5) (rSub (rVar 4) (rVar 5) (rCall (dList (newA)) (rCons (rOp ixD (rVar 1) (rVar 5)) rNil))))) (rSeq (rFor ri (.tp [6, 7, 8, 9]) againB) (rRet (rTup (rCons (rCall dTuple (rCons (rVar 3) rNil)) (rCons (rVar 4) rNil)))))))
      (ends0 Q) [some (.tup (c0.map D.int)), some (.loc r1 (.x0 0)), x2, none, none, none, none, none, none, none] S := by
  obtain ⟨hc0, h5, hev, hrun, hLl, hrl0⟩ := ok
  refine ⟨_, rfl, _, c0.map D.int, rfl, rfl, fun rn hrn => .here ?_⟩
  rw [set_tmp hrn]
  have n1n : r1 ≠ rn := ne_fresh hrn (f := .x0 0) (dl_live h1)
  intro rl hrl
  show Wk _ (Store.set _ rl (.x0 0) (.dT []))
  rw [dl_nil _ rl r0 hrl]
  obtain ⟨nln, hrl'⟩ := fresh2 hrl
  have n1l : r1 ≠ rl := ne_fresh hrl' (f := .x0 0) (dl_live h1)
  have nnl : rn ≠ rl := Ne.symm nln
  have e0 : (S.setR rn (tmpR (.lst (c0.map D.int)))).setR rl (dlB rl [] r0) = X3 S r1 rn rl (dlR r1 n r0) (tmpR (.lst (c0.map D.int))) (dlB rl [] r0) := by
    unfold X3; rw [setR_self h1]
  rw [e0]
  refine .here ?_
  -- the copy of the roads
  refine ⟨r1, .x0 0, .dT ((pairs n).map fun p => (pk p, .loc r1 (.x2 0 p.1 p.2))), by rw [x3_a n1n n1l]; rfl, .inl ⟨_, rfl⟩, ?_⟩
  generalize hFz : fset (dlR r1 n r0) (.x0 0) (.frz (.dT ((pairs n).map fun p => (pk p, .loc r1 (.x2 0 p.1 p.2))))) = Fz
  have Fz0 : Fz (.x0 0) = some (.frz (.dT ((pairs n).map fun p => (pk p, .loc r1 (.x2 0 p.1 p.2))))) := by rw [← hFz, fset_same]
  have eF : (X3 S r1 rn rl (dlR r1 n r0) (tmpR (.lst (c0.map D.int))) (dlB rl [] r0)).set r1 (.x0 0) (.frz (.dT ((pairs n).map fun p => (pk p, .loc r1 (.x2 0 p.1 p.2))))) = X3 S r1 rn rl Fz (tmpR (.lst (c0.map D.int))) (dlB rl [] r0) := by
    rw [set_R, x3_a n1n n1l, x3_pa n1n n1l, hFz]
  rw [eF]
  refine ⟨_, rfl, r1, .x0 0, rfl, .inl ⟨(pairs n).map fun p => (pk p, .loc r1 (.x2 0 p.1 p.2)), by rw [x3_a n1n n1l]; exact Fz0, ?_⟩⟩
  have eit : ((pairs n).map fun p => (pk p, D.loc r1 (.x2 0 p.1 p.2))).map (fun kv => D.tup (kv.1.map kD)) = (pairs n).map pairD2 := by rw [List.map_map]; rfl
  rw [eit]
  refine ⟨fun i env S' => ∃ v5, env = [some (.tup (c0.map D.int)), some (.loc r1 (.x0 0)), x2, some (.loc rn .tmp), some (.loc rl (.x0 0)), v5, none, none, none, none] ∧ S' = X3 S r1 rn rl Fz (tmpR (.lst (c0.map D.int))) (dlB rl ((pairs n).take i) r0), .here ⟨none, rfl, rfl⟩, ?_, ?_⟩
  · rintro i d env S' hd ⟨v5, rfl, rfl⟩
    obtain ⟨a, b, hab, hp, rfl⟩ := pair_at hd
    refine ⟨by show _ = _; rw [x3_a n1n n1l]; exact Fz0, ?_⟩
    have hno := take_nd (nd_pairs n) hp
    have dat : DAt (X3 S r1 rn rl Fz (tmpR (.lst (c0.map D.int))) (dlB rl ((pairs n).take i) r0)) (.loc r1 (.x0 0)) (.tup [.int a, .int b]) (some (.loc r1 (.x2 0 a b))) := by
      have := DAt.t (S := X3 S r1 rn rl Fz (tmpR (.lst (c0.map D.int))) (dlB rl ((pairs n).take i) r0)) (r := r1) (f := .x0 0) (ks := pk (a, b)) (kvs := (pairs n).map fun p => (pk p, .loc r1 (.x2 0 p.1 p.2))) (.inr (by rw [x3_a n1n n1l]; exact Fz0))
      rw [dget_map (fun p : Nat × Nat => D.loc r1 (.x2 0 p.1 p.2)) (mem_pairs.mpr hab)] at this
      exact this
    have hlst : (X3 S r1 rn rl Fz (tmpR (.lst (c0.map D.int))) (dlB rl ((pairs n).take i) r0)) r1 (.x2 0 a b) = some (.lst ((r0 a b).map D.int)) := by
      rw [x3_a n1n n1l, ← hFz, fset_ne (by simp), dl_lst hab]; rfl
    refine ⟨_, rfl, _, rfl, .inr ⟨_, dat, _, (r0 a b).map D.int, rfl, hlst, rl, .x2 0 a b, by rw [x3_c]; simp only [dlB]; rw [if_neg hno], ⟨.x0 0, by rw [x3_c]; simp [dlB]⟩, _, rfl, _, rfl, _, .t (ks := pk (a, b)) (kvs := ((pairs n).take i).map fun p => (pk p, .loc rl (.x2 0 p.1 p.2))) (by rw [set_nf (by simp), x3_c]; rfl) ?_, .here ⟨_, rfl, ?_⟩⟩⟩
    · rw [List.length_map]; have := pairs_len n h5; simp; exact szl _ (by omega)
    · rw [x3_set, x3_set]
      have := dl_put (r := rl) (g := r0) hno
      rw [← take_one hp] at this
      exact congrArg (fun g => X3 S r1 rn rl Fz (tmpR (.lst (c0.map D.int))) g) this
  rintro env S' ⟨v5, rfl, rfl⟩
  refine ⟨by show _ = _; rw [x3_a n1n n1l]; exact Fz0, by rw [x3_a n1n n1l]; exact Fz0, ?_⟩
  have eB : (X3 S r1 rn rl Fz (tmpR (.lst (c0.map D.int))) (dlB rl ((pairs n).take ((pairs n).map pairD2).length) r0)).set r1 (.x0 0) (.dT ((pairs n).map fun p => (pk p, .loc r1 (.x2 0 p.1 p.2)))) = X3 S r1 rn rl (dlR r1 n r0) (tmpR (lints (finC n c0 []))) (dlR rl n (finR r0 [])) := by
    rw [set_R, x3_a n1n n1l, x3_pa n1n n1l, ← hFz, fset_fset, List.length_map, List.take_length, finC_nil hc0, finR_nil]
    have : fset (dlR r1 n r0) (.x0 0) (.dT ((pairs n).map fun p => (pk p, .loc r1 (.x2 0 p.1 p.2)))) = dlR r1 n r0 := by
      funext f
      by_cases ef : f = .x0 0
      · subst ef; rw [fset_same]; rfl
      · rw [fset_ne ef]
    rw [this]; rfl
  rw [eB]
  refine .here ?_
  -- the events
  refine hw rn rl v5 _ _ _ _ hrn hrl' fun G hG => ?_
  refine ⟨fun i env S' => ∃ v6 v7 v8 v9, env = [some (.tup (c0.map D.int)), some (.loc r1 (.x0 0)), x2, some (.loc rn .tmp), some (.loc rl (.x0 0)), v5, v6, v7, v8, v9] ∧ S' = X3 S r1 rn rl (dlR r1 n r0) (tmpR (lints (finC n c0 (L.take i)))) (dlR rl n (finR r0 (L.take i))), .here ⟨none, none, none, none, rfl, rfl⟩, ?_, ?_⟩
  · rintro i d env S' hd ⟨v6, v7, v8, v9, rfl, rfl⟩
    obtain ⟨e, he, rfl⟩ := evs_at hd
    refine ⟨hG _ _, ⟨_, rfl, rfl, ?_⟩⟩
    refine again_body (L := L.take i) (runs_take hrun i) (hrun i e he) (hev e (List.mem_of_getElem? he)) (fun a b => ?_) nnl (x3_b nnl) x3_c ?_
    · have := finR_len r0 (L.take i) a b
      have := hrl0 a b
      have : (L.take i).length ≤ L.length := by simp; omega
      omega
    · refine .here ⟨_, _, _, _, rfl, ?_⟩
      rw [← take_one he, x3_pb nnl]
      unfold X3; rw [setR_setR]
  · rintro env S' ⟨v6, v7, v8, v9, rfl, rfl⟩
    refine ⟨hG _ _, .here ?_⟩
    rw [List.length_map, List.take_of_length_le (Nat.le_refl _)]
    refine ⟨_, rfl, _, (finC n c0 L).map D.int, rfl, by show _ = _; rw [x3_b nnl]; rfl, _, rfl, t2, ⟨S.setR rl (dlR rl n (finR r0 L)), ?_, q rl hrl'⟩⟩
    unfold X3
    rw [setR_self h1]
    exact sub_set (sub_drop hrn)
theorem read_law_againT {K : PySem.W.Frag} {C : Cl} (ds : List D) (S : Store) (Q : QD) (Ex : Value → Store → Prop) (h : sp_law_againT C ds S Q Ex) : r_law_againT K C (ends0 Q) (start ["coins", "roads", "events", "now", "lying", "pair", "kind", "one", "other", "amount"] ds) S := by
  obtain ⟨n, c0, r0, L, r1, rfl, ok, h1, q⟩ := h
  refine again_read (K := K) (C := C) ok h1 (fun _ _ _ _ _ => trivial) (fun rn rl v5 gn gl R Ex _ _ hR => ?_) q
  exact ⟨_, rfl, _, rfl, hR _ fun _ _ => trivial⟩
theorem read_law_again {K : PySem.W.Frag} {C : Cl} (ds : List D) (S : Store) (Q : QD) (Ex : Value → Store → Prop) (h : sp_law_again C ds S Q Ex) : r_law_again K C (ends0 Q) (start ["coins", "roads", "events", "now", "lying", "pair", "kind", "one", "other", "amount"] ds) S := by
  obtain ⟨n, c0, r0, L, r1, re, rfl, ok, h1, he, q⟩ := h
  refine again_read (K := K) (C := C) ok h1 (fun _ _ _ _ _ => trivial) (fun rn rl v5 gn gl R Ex hrn hrl hR => ?_) q
  have ne1 : re ≠ r1 := fun z => by rw [z, h1] at he; cases he
  have nen : re ≠ rn := ne_fresh hrn (f := .tmp) (by rw [he]; simp)
  have nel : re ≠ rl := ne_fresh hrl (f := .tmp) (by rw [he]; simp)
  have key : ∀ gn' gl', X3 S r1 rn rl (dlR r1 n r0) gn' gl' re .tmp = some (.lst (L.map encEv)) := fun gn' gl' => by
    unfold X3; rw [setR_ne nel, setR_ne nen, setR_ne ne1]; exact he
  exact ⟨_, rfl, _, key _ _, hR _ fun gn' gl' => key gn' gl'⟩
/-! ### a log cut -/
theorem cnt_take (L : List Ev) {i : Nat} {e : Ev} (h : L[i]? = some e) (j : Nat) : ofM j (L.take (i + 1)) = ofM j (L.take i) ++ if who e = j then [e] else [] := by
  rw [take_one h, ofM_app, ofM_one]
theorem read_law_cut_log {K : PySem.W.Frag} {C : Cl} (ds : List D) (S : Store) (Q : QD) (Ex : Value → Store → Prop) (h : sp_law_cut_log C ds S Q Ex) : r_law_cut_log K C (ends0 Q) (start ["log", "cut", "k", "counts", "ahead", "behind", "event", "member"] ds) S := by
  obtain ⟨n, L, cut, rfl, h5, hev, hLl, q⟩ := h
  refine ⟨_, rfl, _, rfl, ?_⟩
  refine lcb_map (fun _ => .int 0) ?_ ?_ ?_ ?_
  · rw [List.length_map, List.length_range]; exact szl _ (by omega)
  · intro r2 hr2 ds; trivial
  · intro r2 hr2 i x ds P hx hP; exact hP _ .refl
  intro rc hrc
  have e0 : (((List.range n).map fun i => D.int (cut i : Int)).map fun _ => D.int 0) = (cnts n []).map D.int := by
    unfold cnts; rw [List.map_map, List.map_map]; rfl
  rw [e0]
  refine .here ⟨t0, fun ra hra => ?_⟩
  dsimp only
  rw [set_tmp hra]
  obtain ⟨nac, hra'⟩ := fresh2 hra
  refine .here ⟨t0, fun rb hrb => ?_⟩
  dsimp only
  rw [set_tmp hrb]
  obtain ⟨nba, hrb'⟩ := fresh2 hrb
  obtain ⟨nbc, hrb''⟩ := fresh2 hrb'
  refine .here ?_
  refine ⟨_, rfl, _, rfl, ?_⟩
  refine ⟨fun i env S' => ∃ v6 v7, env = [some (.tup (L.map encEv)), some (.tup ((List.range n).map fun i => .int (cut i : Int))), none, some (.loc rc .tmp), some (.loc ra .tmp), some (.loc rb .tmp), v6, v7] ∧ S' = X3 S rc ra rb (tmpR (.lst ((cnts n (L.take i)).map D.int))) (tmpR (.lst ((aheadL cut (L.take i)).map encEv))) (tmpR (.lst ((behindL cut (L.take i)).map encEv))), .here ⟨none, none, rfl, rfl⟩, ?_, ?_⟩
  · rintro i d env S' hd ⟨v6, v7, rfl, rfl⟩
    obtain ⟨e, he, rfl⟩ := evs_at hd
    have hin := hev e (List.mem_of_getElem? he)
    have hwn : who e < n := by unfold who; split; exact hin.1; exact hin.2.1
    refine ⟨trivial, ?_⟩
    generalize hX : X3 S rc ra rb (tmpR (.lst ((cnts n (L.take i)).map D.int))) (tmpR (.lst ((aheadL cut (L.take i)).map encEv))) (tmpR (.lst ((behindL cut (L.take i)).map encEv))) = X
    have Xc : X rc = tmpR (.lst ((cnts n (L.take i)).map D.int)) := by rw [← hX]; exact x3_a (Ne.symm nac) (Ne.symm nbc)
    have Xa : X ra = tmpR (.lst ((aheadL cut (L.take i)).map encEv)) := by rw [← hX]; exact x3_b (Ne.symm nba)
    have Xb : X rb = tmpR (.lst ((behindL cut (L.take i)).map encEv)) := by rw [← hX]; exact x3_c
    refine ⟨_, rfl, .inl ⟨_, _, _, rfl, rfl, rfl, .here ?_⟩⟩
    -- whose event
    have rest : rSeq (rSub (rVar 3) (rVar 7) (rOp oAdd (rOp ixD (rVar 3) (rVar 7)) (rC (.int 1)))) (rIf (rTest (rOp oLe (rOp ixD (rVar 3) (rVar 7)) (rOp ixD (rVar 1) (rVar 7)))) (rDrop (rBM isL mAppend (rVar 4) (rCons (rVar 6) rNil))) (rDrop (rBM isL mAppend (rVar 5) (rCons (rVar 6) rNil))))
        { ends0 Q with nx := fun e s => Wk ((fun i env S' => ∃ v6 v7, env = [some (.tup (L.map encEv)), some (.tup ((List.range n).map fun i => .int (cut i : Int))), none, some (.loc rc .tmp), some (.loc ra .tmp), some (.loc rb .tmp), v6, v7] ∧ S' = X3 S rc ra rb (tmpR (.lst ((cnts n (L.take i)).map D.int))) (tmpR (.lst ((aheadL cut (L.take i)).map encEv))) (tmpR (.lst ((behindL cut (L.take i)).map encEv)))) (i + 1) e) s, ct := fun e s => Wk ((fun i env S' => ∃ v6 v7, env = [some (.tup (L.map encEv)), some (.tup ((List.range n).map fun i => .int (cut i : Int))), none, some (.loc rc .tmp), some (.loc ra .tmp), some (.loc rb .tmp), v6, v7] ∧ S' = X3 S rc ra rb (tmpR (.lst ((cnts n (L.take i)).map D.int))) (tmpR (.lst ((aheadL cut (L.take i)).map encEv))) (tmpR (.lst ((behindL cut (L.take i)).map encEv)))) (i + 1) e) s, bk := fun e s => Wk (rRet (rTup (rCons (rVar 4) (rCons (rVar 5) rNil))) (ends0 Q) e) s }
        [some (.tup (L.map encEv)), some (.tup ((List.range n).map fun i => .int (cut i : Int))), none, some (.loc rc .tmp), some (.loc ra .tmp), some (.loc rb .tmp), some (.tup [.str (if e.give then "give" else "take"), .int e.one, .int e.other, .int e.amt]), some (.int (who e : Int))] X := by
      have sc : SeqD X (.loc rc .tmp) ((cnts n (L.take i)).map D.int) := by show _ = _; rw [Xc, tmpR_tmp]
      have a1 : atI ((cnts n (L.take i)).map D.int) (who e : Int) = some (.int (cnt (L.take i) (who e))) := atI_nat (by rw [List.getElem?_map, cnts_at _ hwn]; rfl)
      refine ⟨_, rfl, _, rfl, .inl ⟨_, _, _, sc, rfl, a1, _, _, rfl, rfl, _, rfl, _, rfl, _, .l (j := who e) (by rw [Xc, tmpR_tmp]) (by rw [List.length_map, cnts_len]; exact ixN_nat hwn), .here ?_⟩⟩
      have e1 : ((cnts n (L.take i)).map D.int).set (who e) (.int (cnt (L.take i) (who e) + 1)) = (cnts n (L.take (i + 1))).map D.int := by
        have := cnts_step n (L.take i) e hwn
        rw [getD_of (cnts_at _ hwn)] at this
        rw [take_one he, ← this, List.map_set]
      rw [e1]
      have eX : X.set rc .tmp (.lst ((cnts n (L.take (i + 1))).map D.int)) = X3 S rc ra rb (tmpR (.lst ((cnts n (L.take (i + 1))).map D.int))) (tmpR (.lst ((aheadL cut (L.take i)).map encEv))) (tmpR (.lst ((behindL cut (L.take i)).map encEv))) := by
        rw [set_R, Xc, ← hX, x3_pa (Ne.symm nac) (Ne.symm nbc)]
        congr 1
        funext f
        by_cases ef : f = .tmp
        · subst ef; rw [fset_same, tmpR_tmp]
        · rw [fset_ne ef]; unfold tmpR; rw [if_neg ef, if_neg ef]
      rw [eX]
      have a2 : atI ((cnts n (L.take (i + 1))).map D.int) (who e : Int) = some (.int (cnt (L.take (i + 1)) (who e))) := atI_nat (by rw [List.getElem?_map, cnts_at _ hwn]; rfl)
      have a3 : atI ((List.range n).map fun i => D.int (cut i : Int)) (who e : Int) = some (.int (cut (who e) : Int)) := atI_nat (by rw [List.getElem?_map, List.getElem?_range hwn]; rfl)
      refine ⟨_, rfl, _, rfl, .inl ⟨_, _, _, by show _ = _; rw [x3_a (Ne.symm nac) (Ne.symm nbc), tmpR_tmp], rfl, a2, _, rfl, _, rfl, .inl ⟨_, _, _, rfl, rfl, a3, _, _, rfl, rfl, _, rfl, ?_⟩⟩⟩
      have hcount : cnt (L.take (i + 1)) (who e) = ((ofM (who e) (L.take i)).length : Int) + 1 := by
        rw [take_one he, cnt_app, if_pos rfl, ofM_len]
      have hs := split_snoc cut (L.take i) e
      rw [← take_one he] at hs
      have hia : (aheadL cut (L.take i)).length ≤ 100000 ∧ (behindL cut (L.take i)).length ≤ 100000 := by
        have hb : ∀ M : List Ev, (aheadL cut M).length + (behindL cut M).length = M.length := by
          refine snocInd (P := fun M => (aheadL cut M).length + (behindL cut M).length = M.length) rfl fun M f ih => ?_
          rw [(split_snoc cut M f).1, (split_snoc cut M f).2]
          split <;> simp <;> omega
        have := hb (L.take i)
        have : (L.take i).length ≤ L.length := by simp; omega
        omega
      by_cases hlt : (ofM (who e) (L.take i)).length < cut (who e)
      · rw [if_pos hlt, if_pos hlt] at hs
        rw [decide_eq_true (by omega)]
        refine iteT ⟨_, rfl, ⟨_, by show _ = _; rw [x3_b (Ne.symm nba), tmpR_tmp]⟩, _, rfl, ra, .tmp, (aheadL cut (L.take i)).map encEv, _, rfl, rfl, by rw [x3_b (Ne.symm nba), tmpR_tmp], ?_, .here ⟨_, _, rfl, ?_⟩⟩
        · rw [List.length_map]; exact szl _ (by omega)
        · rw [set_R, x3_b (Ne.symm nba), x3_pb (Ne.symm nba), hs.1, hs.2, List.map_append]
          congr 1
          funext f
          by_cases ef : f = .tmp
          · subst ef; rw [fset_same, tmpR_tmp]; rfl
          · rw [fset_ne ef]; unfold tmpR; rw [if_neg ef, if_neg ef]
      · rw [if_neg hlt, if_neg hlt] at hs
        rw [decide_eq_false (by omega)]
        refine iteF ⟨_, rfl, ⟨_, by show _ = _; rw [x3_c, tmpR_tmp]⟩, _, rfl, rb, .tmp, (behindL cut (L.take i)).map encEv, _, rfl, rfl, by rw [x3_c, tmpR_tmp], ?_, .here ⟨_, _, rfl, ?_⟩⟩
        · rw [List.length_map]; exact szl _ (by omega)
        · rw [x3_set, hs.1, hs.2, List.map_append]
          congr 1
          funext f
          by_cases ef : f = .tmp
          · subst ef; rw [fset_same, tmpR_tmp]; rfl
          · rw [fset_ne ef]; unfold tmpR; rw [if_neg ef, if_neg ef]
    cases hg : e.give with
    | true =>
      have hwho : who e = e.one := by unfold who; rw [hg]; rfl
      rw [hwho, hg] at rest
      exact ⟨_, rfl, .inl ⟨_, _, _, rfl, rfl, rfl, _, rfl, _, rfl, iteF (.here rest)⟩⟩
    | false =>
      have hwho : who e = e.other := by unfold who; rw [hg]; rfl
      rw [hwho, hg] at rest
      exact ⟨_, rfl, .inl ⟨_, _, _, rfl, rfl, rfl, _, rfl, _, rfl, iteT ⟨_, rfl, .inl ⟨_, _, _, rfl, rfl, rfl, .here rest⟩⟩⟩⟩
  · rintro env S' ⟨v6, v7, rfl, rfl⟩
    refine ⟨trivial, .here ?_⟩
    rw [List.length_map, List.take_of_length_le (Nat.le_refl _)]
    refine ⟨_, rfl, _, rfl, t2, ⟨_, ?_, q ra rb hra' hrb'' (Ne.symm nba)⟩⟩
    unfold X3
    exact sub_set (sub_set (sub_drop hrc))
theorem read_law_done {K : PySem.W.Frag} {C : Cl} (ds : List D) (S : Store) (Q : QD) (Ex : Value → Store → Prop) (h : sp_law_done C ds S Q Ex) : r_law_done K C (ends0 Q) (start ["market", "many_begun", "k"] ds) S := by
  obtain ⟨r, m, rfl, hS, hl, q⟩ := h
  refine ⟨_, rfl, _, rfl, by omega, by omega, ?_⟩
  refine lcb_tmp (fun d => match d with | .int k => if doneS (m.shots.getD k.toNat (newSh 0)) = true then some (.int k) else none | _ => none) ?_ ?_ ?_ ?_
  · rw [List.length_map, List.length_range]; exact szl _ (by show m.shots.length ≤ _; omega)
  · intro r2 hr2 ds; trivial
  · intro r2 hr2 i x ds P N hx hP hN
    obtain ⟨hi, rfl⟩ := rng_is (n := m.shots.length) hx
    have nr2 : r ≠ r2 := ne_fresh hr2 (f := .mI) (by rw [hS]; simp [encM, encV])
    have hX : (S.setR r2 (tmpR (.lst ds))) r = encM C r m := by rw [setR_ne nr2, hS]
    have hs : m.shots[i]? = some (m.shots.getD i (newSh 0)) := getD_at hi _
    have hsh : shOf m (i : Int) = some (m.shots.getD i (newSh 0)) := by unfold shOf; rw [if_pos (by omega)]; simpa using hs
    refine ⟨_, rfl, r, .mI, _, rfl, by rw [hX]; rfl, rfl, _, rfl, r, m, i, rfl, hX, (fun e => by rw [hsh] at e; cases e), fun s e => ?_⟩
    rw [hsh] at e; cases e
    refine ⟨_, rfl, ?_⟩
    cases hd : doneS (m.shots.getD i (newSh 0)) with
    | true => exact iteT ⟨_, rfl, hP _ _ (by simp only [Int.toNat_natCast, hd, if_true]) .refl⟩
    | false => exact iteF (hN (by simp only [Int.toNat_natCast, hd, Bool.false_eq_true, if_false]))
  · intro r2 hr2
    have e : ((List.range m.shots.length).map fun i : Nat => D.int (i : Int)).filterMap (fun d => match d with | .int k => if doneS (m.shots.getD k.toNat (newSh 0)) = true then some (D.int k) else none | _ => none) = (doneL m).map fun k : Nat => .int k := by
      unfold doneL
      generalize List.range m.shots.length = l
      induction l with
      | nil => rfl
      | cons k l ih =>
        rw [List.map_cons, List.filterMap_cons, ih]
        by_cases hd : doneS (m.shots.getD k (newSh 0)) = true
        · rw [List.filter_cons_of_pos (by exact hd), List.map_cons]
          simp only [Int.toNat_natCast, hd, if_true]
        · rw [List.filter_cons_of_neg (by exact hd)]
          simp only [Int.toNat_natCast, hd, Bool.false_eq_true, if_false]
    have := q r2 hr2
    rw [← e] at this
    exact .here this
end SS
namespace SS
open PySem L2
def sp_law_fits (C : Cl) : LSp := fun ds S Q _ => ∃ (rm : Nat) (m : Mkt) (coins : List Int) (k : Nat) (s : Sh), ds = [.loc rm .mI, .tup (coins.map D.int), .int k] ∧ S rm = encM C rm m ∧ AllI coins 61 m ∧ m.shots[k]? = some s ∧ doneS s = true ∧ Q (.bl true) S
def sp_law10 (C : Cl) : LSp := fun ds S Q _ => ∃ ns : List Int, ds = [.rol ns] ∧ ns.length ≤ 63 ∧ Q (.bl true) S
/-- _law_fits: slots 0 market 1 coins 2 k 3 many 4 cut 5 one 6 ahead 7 behind 8 shown 9 roads 10 lying 11 other 12 amounts -/
def r_law_fits (K : PySem.W.Frag) (C : Cl) : LTS :=
  (rSeq (rSet 3 (rCall dLen (rCons (rVar 1) rNil))) (rSeq (rSet 4 (rMeth C.m "cut_of" (sp_Market_cut_of C) (rVar 0) (rCons (rVar 2) rNil))) (rSeq (rIf (rOr (rNot (rTest (rCall (dIsi K (.ty "tuple") (.type "tuple")) (rCons (rVar 4) (rCons (rC (.raw (.ty "tuple"))) rNil))))) (rOr (rTest (rOp oNe (rCall dLen (rCons (rVar 4) rNil)) (rVar 3))) (rNot (rTest (rCall dAll (rCons (rLc (newF .tmp) (iTp (rVar 4)) (.nm 5) rYes (rDef (sp_law_whole C) (rCons (rVar 5) rNil))) rNil)))))) (rRet (rC (.bl false))) rNext) (rSeq (rUnp (.tp [6, 7]) (rDef (sp_law_cut_log C) (rCons (rMeth0 C.m "log" (sp_Market_log C) (rVar 0)) (rCons (rVar 4) rNil)))) (rSeq (rUnp (.tp [8, 9]) (rMeth C.m "picture" (sp_Market_picture C) (rVar 0) (rCons (rVar 2) rNil))) (rSeq (rSet 10 (rDct (newF (.x0 0)) (.dT []))) (rSeq (rFor (iTp (rVar 9)) (.tp [5, 11, 12]) (rSub (rVar 10) (rTup (rCons (rVar 5) (rCons (rVar 11) rNil))) (rCall (dList (newA)) (rCons (rVar 12) rNil)))) (rSeq (rIf (rTest (rOp oNePD (rDef (sp_law_again C) (rCons (rVar 1) (rCons (rDef (sp_law_empty C) (rCons (rVar 3) rNil)) (rCons (rVar 6) rNil)))) (rTup (rCons (rVar 8) (rCons (rVar 10) rNil))))) (rRet (rC (.bl false))) rNext) (rRet (rOp oEqPD (rDef (sp_law_again C) (rCons (rVar 8) (rCons (rVar 10) (rCons (rVar 7) rNil)))) (rTup (rCons (rMeth0 C.m "coins" (sp_Market_coins C) (rVar 0)) (rCons (rDef (sp_law_lying C) (rCons (rVar 0) (rCons (rVar 3) rNil))) rNil)))))))))))))
/-- law: slots 0 script 1 coins 2 market 3 begun 4 act 5 k -/
def r_law10 (K : PySem.W.Frag) (C : Cl) : LTS :=
  (rSeq (rSet 1 (rDef (sp_law_coins C) (rCons (rVar 0) rNil))) (rSeq (rSet 2 (rMake (newF .mI) C.m (sp_Market_init C) (rCons (rVar 1) rNil))) (rSeq (rSet 3 (rC (.int 0))) (rSeq (rFor (iLst (rDef (sp_law_acts C) (rCons (rVar 0) (rCons (rC (.bl true)) rNil)))) (.nm 4) (rSeq (rDrop (rDef (sp_law_do C) (rCons (rVar 2) (rCons (rVar 4) rNil)))) (rSet 3 (rOp oAdd (rVar 3) (rCall dInt (rCons (rOp oEq (rOp ixD (rVar 4) (rC (.int 0))) (rC (.str "begin"))) rNil)))))) (rSeq (rFor (iLst (rDef (sp_law_done C) (rCons (rVar 2) (rCons (rVar 3) rNil)))) (.nm 5) (rIf (rNot (rTest (rDef (sp_law_fits C) (rCons (rVar 2) (rCons (rVar 1) (rCons (rVar 5) rNil)))))) (rRet (rC (.bl false))) rNext)) (rRet (rC (.bl true))))))))
end SS
namespace SS
open PySem L2
theorem amt_par : ∀ l : List Par, l.filterMap amt = (parOn l).map (·.1)
  | [] => rfl
  | .coins x n :: l => by rw [parOn_coins, List.map_cons, ← amt_par l]; rfl
  | .mark k :: l => by rw [parOn_mark, ← amt_par l]; rfl
theorem ly_eq {c0 : List Int} {r0 : Nat → Nat → List Int} {m : Mkt} (h : RInv c0 r0 m) {a b : Nat} (hab : a < m.n ∧ b < m.n ∧ a ≠ b) : lyOf m a b = finR r0 m.told a b := by
  unfold lyOf finR
  rw [amt_par, h.ro a b hab, List.map_drop, parc_fst]
theorem purses_eq {c0 : List Int} {r0 : Nat → Nat → List Int} {m : Mkt} (hw : WF m) (h : RInv c0 r0 m) : finC m.n c0 m.told = m.purses := by
  refine List.ext_getElem? fun i => ?_
  by_cases hi : i < m.n
  · rw [finC_at c0 _ hi, h.pu i hi]
  · rw [List.getElem?_eq_none (by rw [finC_len]; omega), List.getElem?_eq_none (by rw [hw.pl]; omega)]
theorem cut_tup {c0 : List Int} {r0 : Nat → Nat → List Int} {m : Mkt} {s : Sh} (h : DoneF c0 r0 m s) (hl : s.cut.length = m.n) : cutD' s = .tup ((List.range m.n).map fun i => .int (cutN s i : Int)) := by
  unfold cutD'
  congr 1
  refine List.ext_getElem? fun i => ?_
  rw [List.getElem?_map, List.getElem?_map]
  by_cases hi : i < m.n
  · rw [h.cu i hi, List.getElem?_range hi]; rfl
  · rw [List.getElem?_eq_none (by omega), List.getElem?_eq_none (by simp; omega)]; rfl
theorem split_len (cut : Nat → Nat) (M : List Ev) : (aheadL cut M).length + (behindL cut M).length = M.length := by
  refine snocInd (P := fun M => (aheadL cut M).length + (behindL cut M).length = M.length) rfl (fun M f ih => ?_) M
  rw [(split_snoc cut M f).1, (split_snoc cut M f).2]
  split <;> simp <;> omega
theorem fin_behind {c0 : List Int} {r0 : Nat → Nat → List Int} {m : Mkt} {s : Sh} (hw : WF m) (hr : RInv c0 r0 m) : finC m.n (shownL m c0 s) (behindL (cutN s) m.told) = m.purses := by
  rw [← purses_eq hw hr]
  refine List.ext_getElem? fun i => ?_
  by_cases hi : i < m.n
  · rw [finC_at _ _ hi, finC_at _ _ hi, behind_bal (r0 := r0) hi]
  · rw [List.getElem?_eq_none (by rw [finC_len]; omega), List.getElem?_eq_none (by rw [finC_len]; omega)]
theorem setR_fresh {S : Store} {r q : Nat} {g : Reg} (h : ∀ f, S.setR r g q f = none) (hne : q ≠ r) : ∀ f, S q f = none := fun f => by have := h f; rwa [setR_ne hne] at this
theorem read_law_fits {K : PySem.W.Frag} {C : Cl} (hk : PySem.W.kitOne K (.type "tuple") (.type "tuple") = some true) (ds : List D) (S : Store) (Q : QD) (Ex : Value → Store → Prop) (h : sp_law_fits C ds S Q Ex) : r_law_fits K C (ends0 Q) (start ["market", "coins", "k", "many", "cut", "one", "ahead", "behind", "shown", "roads", "lying", "other", "amounts"] ds) S := by
  obtain ⟨rm, m, coins, k, s, rfl, hS, ai, hs, hdn, q⟩ := h
  have hwf := ai.iv.wf
  have n5 := hwf.n5
  have hmn : m.n = coins.length := ai.iv.en
  have hsh : shOf m (k : Int) = some s := by unfold shOf; rw [if_pos (by omega)]; simpa using hs
  have dF := done_facts ai.iv.si ai.ri ai.sl hs hdn
  have hwl := ai.iv.si.wl k s hs
  have hcl := ai.iv.si.cl k s hs
  have hpic := picD_at dF hwl
  have hcut := cut_tup dF hcl
  have hI : S rm .mI = some (.ins C.m (mFs rm m.n)) := by rw [hS]; rfl
  have hln : (coins.map D.int).length = coins.length := List.length_map ..
  have ok : Ok m := gok (ai.iv.ok (by omega))
  have htl : m.told.length ≤ 61 := ai.iv.told
  have hsp := split_len (cutN s) m.told
  refine ⟨_, rfl, _, _, rfl, rfl, .here ?_⟩
  rw [hln, ← hmn]
  refine ⟨_, rfl, rm, .mI, _, rfl, hI, rfl, _, rfl, rm, m, k, rfl, hS, (fun e => by rw [hsh] at e; cases e), (fun s' e hf => by rw [hsh] at e; cases e; rw [hdn] at hf; cases hf), fun s' e _ => ?_⟩
  rw [hsh] at e; cases e
  rw [hcut]
  refine .here ?_
  refine ⟨_, rfl, _, _, _, rfl, rfl, fun C h => (nomatch h), hk, _, rfl, iteF ?_⟩
  refine ⟨_, rfl, _, _, rfl, rfl, _, rfl, ne_int (by rw [List.length_map, List.length_range]) ⟨_, rfl, iteF ?_⟩⟩
  refine ⟨_, rfl, _, rfl, ?_⟩
  refine lcb_map (fun _ => .bl true) ?_ ?_ ?_ ?_
  · rw [List.length_map, List.length_range]; exact szl _ (by omega)
  · intro r2 hr2 ds; trivial
  · intro r2 hr2 i x ds P hx hP
    rw [List.getElem?_map] at hx
    cases e : (List.range m.n)[i]? with
    | none => rw [e] at hx; cases hx
    | some y => rw [e] at hx; cases hx; exact ⟨_, rfl, _, rfl, hP _ .refl⟩
  intro r2 hr2
  refine ⟨_, (List.range m.n).map (fun _ => true), rfl, by show _ = _; rw [tmp_at, List.map_map, List.map_map]; rfl, ?_⟩
  have ea : ((List.range m.n).map fun _ => true).all id = true := by simp
  rw [ea]
  refine ⟨_, rfl, iteF ⟨S, sub_drop hr2, ?_⟩⟩
  -- the log cut
  refine ⟨_, rfl, rm, .mI, _, rfl, hI, rfl, rm, m, rfl, hS, _, rfl, m.n, m.told, cutN s, rfl, n5, ai.ri.ev, by omega, fun ra rb hra hrb nab => ⟨_, rfl, rfl, .here ?_⟩⟩
  have nma : rm ≠ ra := ne_fresh hra (f := .mI) (by rw [hI]; simp)
  have nmb : rm ≠ rb := ne_fresh hrb (f := .mI) (by rw [hI]; simp)
  generalize hX : (S.setR ra (tmpR (.lst ((aheadL (cutN s) m.told).map encEv)))).setR rb (tmpR (.lst ((behindL (cutN s) m.told).map encEv))) = X
  have Xm : X rm = encM C rm m := by rw [← hX, setR_ne nmb, setR_ne nma, hS]
  have Xa : X ra .tmp = some (.lst ((aheadL (cutN s) m.told).map encEv)) := by rw [← hX, setR_ne nab, tmp_at]
  have Xb : X rb .tmp = some (.lst ((behindL (cutN s) m.told).map encEv)) := by rw [← hX, tmp_at]
  have subX : Sub S X := by rw [← hX]; exact (sub_drop hra).trans (sub_drop fun f => by rw [setR_ne (Ne.symm nab)]; exact hrb f)
  have XI : X rm .mI = some (.ins C.m (mFs rm m.n)) := by rw [Xm]; rfl
  refine ⟨_, rfl, rm, .mI, _, rfl, XI, rfl, _, rfl, rm, m, k, rfl, Xm, n5, (fun e => by rw [hsh] at e; cases e), (fun s' e hf => by rw [hsh] at e; cases e; rw [hdn] at hf; cases hf), fun s' e _ => ?_⟩
  rw [hsh] at e; cases e
  rw [hpic]
  refine ⟨_, rfl, rfl, .here ?_⟩
  -- what lay on roads
  intro rl hrl
  show Wk _ (X.set rl (.x0 0) (.dT []))
  rw [dl_nil _ rl s.lying hrl]
  refine .here ?_
  have nml : rm ≠ rl := ne_fresh hrl (f := .mI) (by rw [XI]; simp)
  have nal : ra ≠ rl := ne_fresh hrl (f := .tmp) (by rw [Xa]; simp)
  have nbl : rb ≠ rl := ne_fresh hrl (f := .tmp) (by rw [Xb]; simp)
  refine ⟨_, rfl, _, rfl, ?_⟩
  refine ⟨fun i env S' => ∃ v5 v11 v12, env = [some (.loc rm .mI), some (.tup (coins.map D.int)), some (.int k), some (.int m.n), some (.tup ((List.range m.n).map fun i => .int (cutN s i : Int))), v5, some (.loc ra .tmp), some (.loc rb .tmp), some (.tup ((shownL m coins s).map D.int)), some (.tup (picRoads m.n s)), some (.loc rl (.x0 0)), v11, v12] ∧ S' = X.setR rl (dlB rl ((pairs m.n).take i) s.lying), .here ⟨none, none, none, rfl, rfl⟩, ?_, ?_⟩
  · rintro i d env S' hd ⟨v5, v11, v12, rfl, rfl⟩
    obtain ⟨a, b, hab, hp, rfl⟩ := road_item hd
    refine ⟨trivial, ⟨_, rfl, rfl, ?_⟩⟩
    have hno := take_nd (nd_pairs m.n) hp
    refine ⟨_, rfl, _, (s.lying a b).map D.int, rfl, rfl, rl, .x2 0 a b, by rw [setR_same]; simp only [dlB]; rw [if_neg hno], ⟨.x0 0, by rw [setR_same]; simp [dlB]⟩, _, rfl, _, rfl, _, rfl, t2, _, .t (ks := pk (a, b)) (kvs := ((pairs m.n).take i).map fun p => (pk p, .loc rl (.x2 0 p.1 p.2))) (by rw [set_nf (by simp), setR_same]; rfl) ?_, .here ⟨_, _, _, rfl, ?_⟩⟩
    · rw [List.length_map]; have := pairs_len m.n n5; simp; exact szl _ (by omega)
    · rw [setR_set, setR_set]
      have := dl_put (r := rl) (g := s.lying) hno
      rw [← take_one hp] at this
      exact congrArg (fun g => X.setR rl g) this
  rintro env S' ⟨v5, v11, v12, rfl, rfl⟩
  refine ⟨trivial, .here ?_⟩
  rw [picRoads_len, List.take_of_length_le (Nat.le_refl _)]
  generalize hY : X.setR rl (dlB rl (pairs m.n) s.lying) = Y
  have Yl : Y rl = dlR rl m.n s.lying := by rw [← hY, setR_same]; rfl
  have Ym : Y rm = encM C rm m := by rw [← hY, setR_ne nml, Xm]
  have Ya : Y ra .tmp = some (.lst ((aheadL (cutN s) m.told).map encEv)) := by rw [← hY, setR_ne nal, Xa]
  have Yb : Y rb .tmp = some (.lst ((behindL (cutN s) m.told).map encEv)) := by rw [← hY, setR_ne nbl, Xb]
  have YI : Y rm .mI = some (.ins C.m (mFs rm m.n)) := by rw [Ym]; rfl
  have subY : Sub S Y := subX.trans (by rw [← hY]; exact sub_drop hrl)
  have lyl : ∀ a b, (s.lying a b).length ≤ 61 := fun a b => ai.iv.lie k s a b hs
  -- what members had behind them leads to the picture
  refine ⟨_, rfl, _, rfl, m.n, rfl, n5, fun re hre => ⟨_, rfl, m.n, coins, r00, aheadL (cutN s) m.told, re, ra, rfl, ⟨hmn.symm, n5, fun e he => ai.ri.ev e ((ahead_mem e).1 he), runs_ahead ai.ri.run dF.ok, by omega, fun a b => Nat.zero_le _⟩, ?_, ?_, fun r3 hr3 => ?_⟩⟩
  · rw [setR_same]
  · have nae : ra ≠ re := ne_fresh hre (f := .tmp) (by rw [Ya]; simp)
    rw [setR_ne nae]; exact Ya
  have nle : rl ≠ re := ne_fresh hre (f := .x0 0) (dl_live Yl)
  have n3e : r3 ≠ re := fun z => by have := hr3 (.x0 0); rw [z, setR_same] at this; simp [dlR, dlB] at this
  have hr3' := setR_fresh hr3 n3e
  have nl3 : rl ≠ r3 := ne_fresh hr3' (f := .x0 0) (dl_live Yl)
  refine ⟨_, rfl, _, rfl, t2, ⟨finC m.n coins (aheadL (cutN s) m.told), _, _, rfl, rfl, dl_same (n := m.n) (g := finR r00 (aheadL (cutN s) m.told)) (g' := s.lying) (by rw [setR_same]) (by rw [setR_ne nl3, setR_ne nle, Yl]) fun a b hab => (dF.ly a b hab).symm⟩, ⟨_, rfl, iteF ⟨Y, (sub_drop hre).trans (sub_drop hr3), ?_⟩⟩⟩
  -- the others lead to what is now
  refine ⟨_, rfl, _, rfl, _, rfl, m.n, shownL m coins s, s.lying, behindL (cutN s) m.told, rl, rb, rfl, ⟨shown_len m coins s, n5, fun e he => ai.ri.ev e ((ahead_mem e).2 he), behind_runs ai.ri dF, by omega, fun a b => by have := lyl a b; omega⟩, Yl, Yb, fun r4 hr4 => ?_⟩
  have n4m : rm ≠ r4 := ne_fresh hr4 (f := .mI) (by rw [YI]; simp)
  have Zm : (Y.setR r4 (dlR r4 m.n (finR s.lying (behindL (cutN s) m.told)))) rm = encM C rm m := by rw [setR_ne n4m, Ym]
  refine ⟨_, rfl, rm, .mI, _, rfl, by rw [Zm]; rfl, rfl, rm, m, rfl, Zm, _, rfl, _, rfl, rm, m, rfl, Zm, ok, fun r5 hr5 => ?_⟩
  have n54 : r4 ≠ r5 := ne_fresh hr5 (f := .x0 0) (by rw [setR_same]; simp [dlR, dlB])
  rw [fin_behind hwf ai.ri]
  refine ⟨t2, ⟨m.purses, _, _, rfl, rfl, dl_same (n := m.n) (g := finR s.lying (behindL (cutN s) m.told)) (g' := lyOf m) (by rw [setR_ne n54, setR_same]) (by rw [setR_same]) fun a b hab => ?_⟩, ⟨S, (subY.trans (sub_drop hr4)).trans (sub_drop hr5), q⟩⟩
  rw [ly_eq ai.ri hab]
  exact behind_road dF hab
theorem done_mem {m : Mkt} {i : Nat} {d : D} (h : ((doneL m).map fun k : Nat => D.int k)[i]? = some d) : ∃ (k : Nat) (s : Sh), d = .int k ∧ m.shots[k]? = some s ∧ doneS s = true := by
  rw [List.getElem?_map] at h
  cases e : (doneL m)[i]? with
  | none => rw [e] at h; cases h
  | some k =>
    rw [e] at h; cases h
    have hm := List.mem_of_getElem? e
    unfold doneL at hm
    obtain ⟨h1, h2⟩ := List.mem_filter.mp hm
    have hlt := List.mem_range.mp h1
    exact ⟨k, _, rfl, getD_at hlt _, h2⟩
theorem read_law10 {K : PySem.W.Frag} {C : Cl} (ds : List D) (S : Store) (Q : QD) (Ex : Value → Store → Prop) (h : sp_law10 C ds S Q Ex) : r_law10 K C (ends0 Q) (start ["script", "coins", "market", "begun", "act", "k"] ds) S := by
  obtain ⟨ns, rfl, hl, q⟩ := h
  refine law_pre (tl := [none]) hl fun rm coins m v hcs c2 c5 hnn hrm ai => ?_
  generalize hX : S.setR rm (encM C rm m) = X
  have Xm : X rm = encM C rm m := by rw [← hX, setR_same]
  refine ⟨_, rfl, _, rfl, rm, m, rfl, Xm, by have := ai.iv.shots; omega, fun rd hrd => ?_⟩
  have nmd : rm ≠ rd := ne_fresh hrd (f := .mI) (by rw [Xm]; exact encM_live)
  refine ⟨_, by show _ = _; rw [tmp_at], ?_⟩
  refine ⟨fun i env S' => ∃ v5, env = [some (.rol ns), some (.tup (coins.map D.int)), some (.loc rm .mI), some (.int m.shots.length), v, v5] ∧ X.setR rd (tmpR (.lst ((doneL m).map fun k : Nat => .int k))) = S', .here ⟨none, rfl, rfl⟩, ?_, ?_⟩
  · rintro i d env S' hd ⟨v5, rfl, rfl⟩
    obtain ⟨k, s, rfl, hs, hdn⟩ := done_mem hd
    refine ⟨by show _ = _; rw [tmp_at], ?_⟩
    exact ⟨_, rfl, _, rfl, _, rfl, rm, m, coins, k, s, rfl, by rw [setR_ne nmd, Xm], ai, hs, hdn, _, rfl, iteF (.here ⟨_, rfl, rfl⟩)⟩
  · rintro env S' ⟨v5, rfl, rfl⟩
    refine ⟨by show _ = _; rw [tmp_at], .here ⟨S, ?_, q⟩⟩
    rw [← hX]
    exact (sub_drop hrm).trans (sub_drop (by rw [hX]; exact hrd))
end SS
namespace SS
open PySem L2
def EIn (m : Mkt) (k : Int) : Prop := 0 ≤ k ∧ k < m.told.length
def aheadB (m : Mkt) (j k w : Nat) : Bool := decide (j ≠ k) && decide ((m.stamps.getD j []).getD w 0 ≤ (m.stamps.getD k []).getD w 0)
def sp_Events_member_of (C : Cl) : LSp := fun ds S Q _ => ∃ (r : Nat) (m : Mkt) (v j : Nat) (f : Ev), ds = [.loc r .eI, .int j] ∧ S r = encV C r m v ∧ m.told[j]? = some f ∧ Q (.int (who f)) S
def sp_Events_ahead (C : Cl) : LSp := fun ds S Q _ => ∃ (r : Nat) (m : Mkt) (v j k : Nat) (f : Ev), ds = [.loc r .eI, .int j, .int k] ∧ S r = encV C r m v ∧ WF m ∧ m.told[j]? = some f ∧ k < m.told.length ∧ who f < m.n ∧ Q (.bl (aheadB m j k (who f))) S
def sp_Market_must_be (C : Cl) : LSp := fun ds S Q Ex => ∃ (r : Nat) (m : Mkt) (k : Int), ds = [.loc r .mI, .int k] ∧ S r = encM C r m ∧ (¬ EIn m k → Ex (.ref C.noEvent) S) ∧ (EIn m k → Q .non S)
def sp_Market_stamp_of (C : Cl) : LSp := fun ds S Q Ex => ∃ (r : Nat) (m : Mkt) (k : Int), ds = [.loc r .mI, .int k] ∧ S r = encM C r m ∧ WF m ∧ (¬ EIn m k → Ex (.ref C.noEvent) S) ∧ (EIn m k → Q (.tup ((m.stamps.getD k.toNat []).map D.int)) S)
def sp_Market_time_of (C : Cl) : LSp := fun ds S Q Ex => ∃ (r : Nat) (m : Mkt) (k : Int), ds = [.loc r .mI, .int k] ∧ S r = encM C r m ∧ WF m ∧ (¬ EIn m k → Ex (.ref C.noEvent) S) ∧ (EIn m k → Q (.int (m.times.getD k.toNat 0)) S)
def sp_Market_ahead (C : Cl) : LSp := fun ds S Q Ex => ∃ (r : Nat) (m : Mkt) (j k : Int), ds = [.loc r .mI, .int j, .int k] ∧ S r = encM C r m ∧ WF m ∧ (∀ e ∈ m.told, EvIn m.n e) ∧ (¬ EIn m j ∨ ¬ EIn m k → Ex (.ref C.noEvent) S) ∧ (∀ f, EIn m j → EIn m k → m.told[j.toNat]? = some f → Q (.bl (aheadB m j.toNat k.toNat (who f))) S)
end SS
namespace SS
open PySem L2
/-- Events.member_of: slots 0 self 1 n -/
def r_Events_member_of (K : PySem.W.Frag) (C : Cl) : LTS :=
  (rSeq (rIf (rTest (rOp oEq (rOp ixD (rOp ixD (rAttr C.e (rVar 0) "told") (rVar 1)) (rC (.int 0))) (rC (.str "give")))) (rRet (rOp ixD (rOp ixD (rAttr C.e (rVar 0) "told") (rVar 1)) (rC (.int 1)))) rNext) (rRet (rOp ixD (rOp ixD (rAttr C.e (rVar 0) "told") (rVar 1)) (rC (.int 2)))))
/-- Events.ahead: slots 0 self 1 n 2 m 3 member -/
def r_Events_ahead (K : PySem.W.Frag) (C : Cl) : LTS :=
  (rSeq (rSet 3 (rMeth C.e "member_of" (sp_Events_member_of C) (rVar 0) (rCons (rVar 1) rNil))) (rRet (rAndV (rOp oNe (rVar 1) (rVar 2)) (rOp oLe (rOp ixD (rOp ixD (rAttr C.e (rVar 0) "stamps") (rVar 1)) (rVar 3)) (rOp ixD (rOp ixD (rAttr C.e (rVar 0) "stamps") (rVar 2)) (rVar 3))))))
/-- Market.must_be: slots 0 self 1 n -/
def r_Market_must_be (K : PySem.W.Frag) (C : Cl) : LTS :=
  (rIf (rNot (rTest (rChain oLe oLt (rC (.int 0)) (rVar 1) (rCall dLen (rCons (rAttr C.e (rAttr C.m (rVar 0) "events") "told") rNil))))) (rRaise C.noEvent) rNext)
/-- Market.stamp_of: slots 0 self 1 n -/
def r_Market_stamp_of (K : PySem.W.Frag) (C : Cl) : LTS :=
  (rSeq (rDrop (rMethX C.m "must_be" (sp_Market_must_be C) (rVar 0) (rCons (rVar 1) rNil))) (rRet (rOp ixD (rAttr C.e (rAttr C.m (rVar 0) "events") "stamps") (rVar 1))))
/-- Market.ahead: slots 0 self 1 n 2 m -/
def r_Market_ahead (K : PySem.W.Frag) (C : Cl) : LTS :=
  (rSeq (rDrop (rMethX C.m "must_be" (sp_Market_must_be C) (rVar 0) (rCons (rVar 1) rNil))) (rSeq (rDrop (rMethX C.m "must_be" (sp_Market_must_be C) (rVar 0) (rCons (rVar 2) rNil))) (rRet (rMeth C.e "ahead" (sp_Events_ahead C) (rAttr C.m (rVar 0) "events") (rCons (rVar 1) (rCons (rVar 2) rNil))))))
/-- Market.time_of: slots 0 self 1 n -/
def r_Market_time_of (K : PySem.W.Frag) (C : Cl) : LTS :=
  (rSeq (rDrop (rMethX C.m "must_be" (sp_Market_must_be C) (rVar 0) (rCons (rVar 1) rNil))) (rRet (rOp ixD (rAttr C.e (rAttr C.m (rVar 0) "events") "times") (rVar 1))))
end SS
namespace SS
open PySem L2
theorem told_seq {C : Cl} {r : Nat} {m : Mkt} {v : Nat} {S : Store} (hS : S r = encV C r m v) : SeqD S (.loc r .eTold) (m.told.map encEv) := by show _ = _; rw [hS]; rfl
theorem told_at {m : Mkt} {j : Nat} {f : Ev} (h : m.told[j]? = some f) : atI (m.told.map encEv) (j : Int) = some (encEv f) := atI_nat (by rw [List.getElem?_map, h]; rfl)
theorem who_ev {n : Nat} {f : Ev} (h : EvIn n f) : who f < n := by
  unfold who; split
  · exact h.1
  · exact h.2.1
theorem read_Events_member_of {K : PySem.W.Frag} {C : Cl} (ds : List D) (S : Store) (Q : QD) (Ex : Value → Store → Prop) (h : sp_Events_member_of C ds S Q Ex) : r_Events_member_of K C (ends0 Q) (start ["self", "n"] ds) S := by
  obtain ⟨r, m, v, j, f, rfl, hS, hf, q⟩ := h
  have hI : S r .eI = some (.ins C.e (eFs r m.n)) := by rw [hS]; rfl
  have at1 := told_at hf
  refine ⟨_, rfl, r, .eI, _, _, rfl, hI, rfl, _, rfl, .inl ⟨_, _, _, told_seq hS, rfl, at1, .inl ⟨_, _, _, rfl, rfl, rfl, ?_⟩⟩⟩
  cases hg : f.give with
  | true =>
    have hw : who f = f.one := by unfold who; rw [hg]; rfl
    rw [hw] at q
    exact ⟨_, rfl, _, rfl, iteT ⟨_, rfl, r, .eI, _, _, rfl, hI, rfl, _, rfl, .inl ⟨_, _, _, told_seq hS, rfl, at1, .inl ⟨_, _, _, rfl, rfl, rfl, .here q⟩⟩⟩⟩
  | false =>
    have hw : who f = f.other := by unfold who; rw [hg]; rfl
    rw [hw] at q
    exact ⟨_, rfl, _, rfl, iteF (.here ⟨_, rfl, r, .eI, _, _, rfl, hI, rfl, _, rfl, .inl ⟨_, _, _, told_seq hS, rfl, at1, .inl ⟨_, _, _, rfl, rfl, rfl, .here q⟩⟩⟩)⟩
theorem stamp_seq {C : Cl} {r : Nat} {m : Mkt} {v : Nat} {S : Store} (hS : S r = encV C r m v) : SeqD S (.loc r .eSt) (m.stamps.map fun s => .tup (s.map D.int)) := by show _ = _; rw [hS]; rfl
theorem stamp_at {m : Mkt} {j : Nat} (h : j < m.stamps.length) : atI (m.stamps.map fun s => D.tup (s.map D.int)) (j : Int) = some (.tup ((m.stamps.getD j []).map D.int)) := atI_nat (by rw [List.getElem?_map, getD_at h []]; rfl)
theorem stamp_ix {m : Mkt} (hw : WF m) {j w : Nat} (h : j < m.told.length) (hwn : w < m.n) : atI ((m.stamps.getD j []).map D.int) (w : Int) = some (.int ((m.stamps.getD j []).getD w 0)) := by
  have hl : (m.stamps.getD j []).length = m.n := hw.se j _ (getD_at (by rw [hw.sl]; exact h) [])
  exact atI_nat (by rw [List.getElem?_map, getD_at (by rw [hl]; exact hwn) 0]; rfl)
theorem read_Events_ahead {K : PySem.W.Frag} {C : Cl} (ds : List D) (S : Store) (Q : QD) (Ex : Value → Store → Prop) (h : sp_Events_ahead C ds S Q Ex) : r_Events_ahead K C (ends0 Q) (start ["self", "n", "m", "member"] ds) S := by
  obtain ⟨r, m, v, j, k, f, rfl, hS, hw, hf, hk, hwn, q⟩ := h
  have hI : S r .eI = some (.ins C.e (eFs r m.n)) := by rw [hS]; rfl
  have hj := (List.getElem?_eq_some_iff.mp hf).1
  refine ⟨_, rfl, r, .eI, _, rfl, hI, rfl, _, rfl, r, m, v, j, f, rfl, hS, hf, .here ?_⟩
  refine ⟨_, rfl, _, rfl, _, rfl, _, rfl, ?_⟩
  unfold aheadB at q
  by_cases hjk : j = k
  · subst hjk
    have : (!decide (V.int (j : Int) = V.int (j : Int))) = false := by simp
    rw [this]
    simp only [ne_eq, not_true_eq_false, decide_false, Bool.false_and] at q
    exact iteF (.here q)
  · have : (!decide (V.int (j : Int) = V.int (k : Int))) = true := vne.mpr hjk
    rw [this]
    simp only [ne_eq, hjk, not_false_eq_true, decide_true, Bool.true_and] at q
    exact iteT ⟨_, rfl, r, .eI, _, _, rfl, hI, rfl, _, rfl, .inl ⟨_, _, _, stamp_seq hS, rfl, stamp_at (by rw [hw.sl]; exact hj), _, rfl, .inl ⟨_, _, _, rfl, rfl, stamp_ix hw hj hwn, _, rfl, r, .eI, _, _, rfl, hI, rfl, _, rfl, .inl ⟨_, _, _, stamp_seq hS, rfl, stamp_at (by rw [hw.sl]; exact hk), _, rfl, .inl ⟨_, _, _, rfl, rfl, stamp_ix hw hk hwn, _, _, rfl, rfl, .here q⟩⟩⟩⟩⟩
theorem read_Market_must_be {K : PySem.W.Frag} {C : Cl} (ds : List D) (S : Store) (Q : QD) (Ex : Value → Store → Prop) (h : sp_Market_must_be C ds S Q Ex) : r_Market_must_be K C (endsX Q Ex) (start ["self", "n"] ds) S := by
  obtain ⟨r, m, k, rfl, hS, hx, q⟩ := h
  have hI : S r .mI = some (.ins C.m (mFs r m.n)) := by rw [hS]; rfl
  have hE : S r .eI = some (.ins C.e (eFs r m.n)) := by rw [hS]; rfl
  refine ⟨_, rfl, _, _, rfl, rfl, _, rfl, ifD (fun h0 => ?_) fun h0 => ?_⟩
  · refine ⟨_, rfl, r, .mI, _, _, rfl, hI, rfl, r, .eI, _, _, rfl, hE, rfl, _, _, rfl, told_seq hS, _, _, rfl, rfl, _, rfl, ?_⟩
    rw [List.length_map]
    dsimp only
    by_cases hlt : k < (m.told.length : Int)
    · rw [decide_eq_true hlt]; exact iteF (.here (q ⟨h0, hlt⟩))
    · rw [decide_eq_false hlt]; exact iteT (.here (hx fun z => hlt z.2))
  · exact ⟨_, rfl, iteT (.here (hx fun z => h0 z.1))⟩
theorem ein_nat {m : Mkt} {k : Int} (h : EIn m k) : k = (k.toNat : Int) ∧ k.toNat < m.told.length := ⟨by have := h.1; omega, by have := h.1; have := h.2; omega⟩
theorem read_Market_stamp_of {K : PySem.W.Frag} {C : Cl} (ds : List D) (S : Store) (Q : QD) (Ex : Value → Store → Prop) (h : sp_Market_stamp_of C ds S Q Ex) : r_Market_stamp_of K C (endsX Q Ex) (start ["self", "n"] ds) S := by
  obtain ⟨r, m, k, rfl, hS, hw, hx, q⟩ := h
  have hI : S r .mI = some (.ins C.m (mFs r m.n)) := by rw [hS]; rfl
  have hE : S r .eI = some (.ins C.e (eFs r m.n)) := by rw [hS]; rfl
  refine ⟨_, rfl, r, .mI, _, rfl, hI, rfl, _, rfl, r, m, k, rfl, hS, fun z => .here (hx z), fun z => .here ?_⟩
  obtain ⟨ek, hk⟩ := ein_nat z
  refine ⟨_, rfl, r, .mI, _, _, rfl, hI, rfl, r, .eI, _, _, rfl, hE, rfl, _, rfl, .inl ⟨_, _, _, stamp_seq hS, rfl, ?_, .here (q z)⟩⟩
  exact (congrArg (atI _) ek).trans (stamp_at (by rw [hw.sl]; exact hk))
theorem read_Market_time_of {K : PySem.W.Frag} {C : Cl} (ds : List D) (S : Store) (Q : QD) (Ex : Value → Store → Prop) (h : sp_Market_time_of C ds S Q Ex) : r_Market_time_of K C (endsX Q Ex) (start ["self", "n"] ds) S := by
  obtain ⟨r, m, k, rfl, hS, hw, hx, q⟩ := h
  have hI : S r .mI = some (.ins C.m (mFs r m.n)) := by rw [hS]; rfl
  have hE : S r .eI = some (.ins C.e (eFs r m.n)) := by rw [hS]; rfl
  refine ⟨_, rfl, r, .mI, _, rfl, hI, rfl, _, rfl, r, m, k, rfl, hS, fun z => .here (hx z), fun z => .here ?_⟩
  obtain ⟨ek, hk⟩ := ein_nat z
  refine ⟨_, rfl, r, .mI, _, _, rfl, hI, rfl, r, .eI, _, _, rfl, hE, rfl, _, rfl, .inl ⟨m.times.map D.int, _, _, by show _ = _; rw [hS]; rfl, rfl, ?_, .here (q z)⟩⟩
  exact (congrArg (atI _) ek).trans (atI_nat (by rw [List.getElem?_map, getD_at (by rw [hw.tl]; exact hk) 0]; rfl))
theorem read_Market_ahead {K : PySem.W.Frag} {C : Cl} (ds : List D) (S : Store) (Q : QD) (Ex : Value → Store → Prop) (h : sp_Market_ahead C ds S Q Ex) : r_Market_ahead K C (endsX Q Ex) (start ["self", "n", "m"] ds) S := by
  obtain ⟨r, m, j, k, rfl, hS, hw, hev, hx, q⟩ := h
  have hI : S r .mI = some (.ins C.m (mFs r m.n)) := by rw [hS]; rfl
  have hE : S r .eI = some (.ins C.e (eFs r m.n)) := by rw [hS]; rfl
  refine ⟨_, rfl, r, .mI, _, rfl, hI, rfl, _, rfl, r, m, j, rfl, hS, fun z => .here (hx (.inl z)), fun zj => .here ?_⟩
  refine ⟨_, rfl, r, .mI, _, rfl, hI, rfl, _, rfl, r, m, k, rfl, hS, fun z => .here (hx (.inr z)), fun zk => .here ?_⟩
  obtain ⟨ej, hj⟩ := ein_nat zj
  obtain ⟨ek, hk⟩ := ein_nat zk
  have hf : m.told[j.toNat]? = some m.told[j.toNat] := List.getElem?_eq_getElem hj
  have q' := q _ zj zk hf
  refine ⟨_, rfl, r, .mI, _, _, rfl, hI, rfl, r, .eI, _, rfl, hE, rfl, _, rfl, _, rfl, r, m, m.shots.length, j.toNat, k.toNat, m.told[j.toNat], ?_, hS, hw, hf, hk, who_ev (hev _ (List.getElem_mem hj)), .here q'⟩
  rw [← ej, ← ek]
end SS
namespace SS
open PySem L2
/-! ### ahead tells what moved -/
theorem ahead_mv {r0 : Nat → Nat → List Int} {m : Mkt} (hw : WF m) (hev : ∀ e ∈ m.told, EvIn m.n e) (h : CInv r0 m) {j k : Nat} {f : Ev} (hj : m.told[j]? = some f) (hk : k < m.told.length) : aheadB m j k (who f) = true ↔ Mv r0 m.told j k := by
  have he : m.told[k]? = some m.told[k] := List.getElem?_eq_getElem hk
  have ck := clock hw hev h k _ he
  have cj := clock hw hev h j _ hj
  have := ck.mv j f hj
  unfold aheadB
  rw [Bool.and_eq_true, decide_eq_true_eq, decide_eq_true_eq, cj.own, ← this]
  constructor
  · rintro ⟨h1, h2 | h2⟩
    · exact absurd h2 h1
    · exact h2
  · intro h
    exact ⟨by have := h.lt; omega, .inr h⟩
/-! ### what members had behind them -/
def inCut (cut : Nat → Nat) (L : List Ev) (k : Nat) : Prop := ∃ e, L[k]? = some e ∧ (ofM (who e) (L.take k)).length < cut (who e)
theorem gNum_ix {a b : Nat} {x : Int} {g t : Nat} (L : List Ev) : (gNum a b L)[t]? = some (x, some g) → (gAm a b (L.take g)).length = t := by
  refine snocInd (P := fun L => (gNum a b L)[t]? = some (x, some g) → (gAm a b (L.take g)).length = t) (fun h => by simp [gNum] at h) ?_ L
  intro L e ih h
  rw [gNum_app1] at h
  have hl : (gNum a b L).length = (gAm a b L).length := by rw [← gNum_fst]; simp
  by_cases ht : t < (gNum a b L).length
  · rw [List.getElem?_append_left ht] at h
    have hg := (gNum_lt a b L _ (List.mem_of_getElem? h) g rfl).1
    rw [List.take_append_of_le_length (by omega)]
    exact ih h
  · rw [List.getElem?_append_right (by omega)] at h
    split at h
    · have : t - (gNum a b L).length = 0 := by
        have := (List.getElem?_eq_some_iff.mp h).1
        simp at this; omega
      rw [this] at h
      simp at h
      obtain ⟨_, rfl⟩ := h
      rw [List.take_append_of_le_length (Nat.le_refl _), List.take_of_length_le (Nat.le_refl _)]
      omega
    · simp at h
theorem cut_cause {c0 : List Int} {cut : Nat → Nat} {L : List Ev} (hr : Runs c0 r00 L) (hc : CutOk r00 cut L) {c k : Nat} (h : some c ∈ causeL r00 L k) (hk : inCut cut L k) : inCut cut L c := by
  obtain ⟨e, he, hlt⟩ := hk
  have hkl := (List.getElem?_eq_some_iff.mp he).1
  have hck := (cause_lt h).1
  rw [causeL_at he] at h
  simp at h
  rcases h with h | h
  · obtain ⟨h1, ⟨f, h2, h3⟩, h4⟩ := lastOf_some _ h.symm
    rw [List.getElem?_take, if_pos hck] at h2
    refine ⟨f, h2, ?_⟩
    rw [h3]
    have e1 : L.take k = L.take c ++ (L.drop c).take (k - c) := by rw [← List.take_add]; congr 1; omega
    rw [e1, ofM_app, List.length_append] at hlt
    omega
  · -- the give of what is taken
    have hg : e.give = false := by
      unfold giveOf at h
      cases hz : e.give with
      | true => rw [hz] at h; simp at h
      | false => rfl
    obtain ⟨_, f, hf, hG⟩ := giveOf_lt h.symm
    rw [List.getElem?_take, if_pos hck] at hf
    obtain ⟨hwf, _, _, _⟩ := gG_who hG
    refine ⟨f, hf, ?_⟩
    rw [hwf]
    have hwho : who e = e.other := by unfold who; rw [hg]; rfl
    rw [hwho] at hlt
    unfold giveOf at h
    rw [hg] at h
    simp only [Bool.false_eq_true, if_false] at h
    have hp : parc e.one e.other (r00 e.one e.other) (L.take k) = gNum e.one e.other (L.take k) := by unfold parc; rfl
    rw [hp] at h
    cases hq : (gNum e.one e.other (L.take k))[tN e.one e.other (L.take k)]? with
    | none => rw [hq] at h; cases h
    | some p =>
      rw [hq] at h
      have hp2 : p.2 = some c := h.symm
      have hix := gNum_ix (x := p.1) (g := c) (L.take k) (by rw [hq, ← hp2])
      rw [List.take_take, Nat.min_eq_left (by omega)] at hix
      refine Classical.byContradiction fun hge => ?_
      have hco := hc e.one e.other
      -- the takes within the cut
      have h1 : tN e.one e.other (L.take k) + 1 ≤ tN e.one e.other ((ofM e.other L).take (cut e.other)) := by
        have e2 : L = L.take (k + 1) ++ L.drop (k + 1) := (List.take_append_drop _ _).symm
        have h2 : (ofM e.other L).take (cut e.other) = (ofM e.other (L.take (k + 1))) ++ (ofM e.other (L.drop (k + 1))).take (cut e.other - (ofM e.other (L.take (k + 1))).length) := by
          conv => lhs; rw [e2]
          rw [take_mono, List.take_of_length_le (by rw [take_one he, ofM_app, ofM_one, if_pos hwho]; simp; omega)]
        rw [h2, tN_app, tN_ofM, take_one he, tN_app]
        have : tN e.one e.other [e] = 1 := by simp [tN, isT, hg]
        omega
      -- the gives within it
      have h3 : (gAm e.one e.other ((ofM e.one L).take (cut e.one))).length ≤ (gAm e.one e.other (L.take c)).length := by
        have e2 : L = L.take c ++ L.drop c := (List.take_append_drop _ _).symm
        have h4 : (ofM e.one L).take (cut e.one) = (ofM e.one (L.take c)).take (cut e.one) := by
          conv => lhs; rw [e2]
          rw [take_mono, Nat.sub_eq_zero_of_le (by omega), List.take_zero, List.append_nil]
        rw [h4]
        have h5 := gAm_app e.one e.other ((ofM e.one (L.take c)).take (cut e.one)) ((ofM e.one (L.take c)).drop (cut e.one))
        rw [List.take_append_drop, gAm_ofM] at h5
        rw [h5, List.length_append]; omega
      simp [r00] at hco
      omega
theorem cut_mv {c0 : List Int} {cut : Nat → Nat} {L : List Ev} (hr : Runs c0 r00 L) (hc : CutOk r00 cut L) {j k : Nat} (h : Mv r00 L j k) (hk : inCut cut L k) : inCut cut L j := by
  induction h with
  | dir h => exact cut_cause hr hc h hk
  | far h _ ih => exact ih (cut_cause hr hc h hk)
/-! ### pictures begun behind others -/
/-- how a picture goes on -/
structure Goes1 (n : Nat) (L : List Ev) (s s' : Sh) : Prop where
  keep : doneS s = true → s' = s
  cut : ∀ i, i < n → wrote s' i → (wrote s i ∧ cutN s' i = cutN s i) ∨ cutN s' i = (ofM i L).length
theorem goes1_refl (n : Nat) (L : List Ev) (s : Sh) : Goes1 n L s s := ⟨fun _ => rfl, fun _ _ h => .inl ⟨h, rfl⟩⟩
theorem done_watch {s : Sh} (h : doneS s = true) : s.watched = [] := by
  unfold doneS at h; rw [Bool.and_eq_true] at h; simpa using h.2
theorem goes_take {m : Mkt} (si : SInv m) {a b : Nat} (ha : a < m.n ∧ b < m.n ∧ a ≠ b) {q : Nat} {s : Sh} (hq : m.shots[q]? = some s) : ∃ s', (takeM m a b).shots[q]? = some s' ∧ Goes1 m.n m.told s s' := by
  unfold takeM
  cases e : m.roads a b with
  | nil => exact ⟨s, hq, goes1_refl _ _ _⟩
  | cons p rest =>
    cases p with
    | coins x num =>
      refine ⟨shotParcel a b x s, by show (m.shots.map _)[q]? = _; rw [List.getElem?_map, hq]; rfl, fun hd => ?_, fun i _ hw => .inl ⟨?_, ?_⟩⟩
      · unfold shotParcel; rw [done_watch hd, if_neg (by simp)]
      · unfold wrote at *; unfold shotParcel at hw; split at hw <;> exact hw
      · unfold cutN shotParcel; split <;> rfl
    | mark k =>
      show ∃ s', (markM { m with roads := up2 m.roads a b rest } k a b).shots[q]? = some s' ∧ _
      have hkl := si.fr a b k (by rw [e]; exact List.mem_cons_self)
      obtain ⟨sk, hk⟩ : ∃ s, m.shots[k]? = some s := ⟨m.shots[k], by simp [hkl]⟩
      unfold markM
      dsimp only
      rw [hk]
      dsimp only
      have nd : q = k → ¬ doneS s = true := fun z hd => by
        subst z
        rw [hk] at hq; cases hq
        have := si.mks q s a b hk ha.1 ha.2.1 ha.2.2
        rw [e, marks_mark, if_pos rfl] at this
        obtain ⟨hall, hwa⟩ := done_all hd (si.wl q s hk)
        have hb := hall b ha.2.1
        rw [if_neg] at this
        · omega
        · rintro ⟨_, z | z⟩
          · unfold wrote at hb; rw [hb] at z; cases z
          · rw [hwa] at z; cases z
      split
      · by_cases z : q = k
        · subst z
          rw [hk] at hq; cases hq
          refine ⟨shLeave s a b, by show (m.shots.set q _)[q]? = _; rw [setAt hkl, if_pos rfl], fun hd => absurd hd (nd rfl), fun i _ hw => .inl ⟨hw, rfl⟩⟩
        · exact ⟨s, by show (m.shots.set k _)[q]? = _; rw [setAt hkl, if_neg z]; exact hq, goes1_refl _ _ _⟩
      · next hwb =>
        unfold writeM
        dsimp only
        rw [hk]
        dsimp only
        by_cases z : q = k
        · subst z
          rw [hk] at hq; cases hq
          refine ⟨_, by show (m.shots.set q _)[q]? = _; rw [setAt hkl, if_pos rfl], fun hd => absurd hd (nd rfl), fun i hi hw => ?_⟩
          have hcl := si.cl q s hk
          have hwl := si.wl q s hk
          by_cases zi : i = b
          · right
            unfold cutN
            show (((s.cut.set b (some (cnt m.told b))).getD i none).getD 0).toNat = _
            rw [zi, getD_set _ _ _ _ _ (by omega), if_pos rfl, ← ofM_len]; simp
          · left
            constructor
            · unfold wrote at *
              have hw' : ((s.written.set b (some (m.purses.getD b 0))).getD i none).isSome = true := hw
              rw [getD_set _ _ _ _ _ (by omega), if_neg zi] at hw'; exact hw'
            · unfold cutN
              show (((s.cut.set b (some (cnt m.told b))).getD i none).getD 0).toNat = _
              rw [getD_set _ _ _ _ _ (by omega), if_neg zi]
        · exact ⟨s, by show (m.shots.set k _)[q]? = _; rw [setAt hkl, if_neg z]; exact hq, goes1_refl _ _ _⟩
theorem goes_step {m : Mkt} (si : SInv m) {act : Act} (ha : ActOk m.n act) {q : Nat} {s : Sh} (hq : m.shots[q]? = some s) : ∃ s', (stepM m act).2.shots[q]? = some s' ∧ Goes1 m.n m.told s s' := by
  cases act with
  | take a b => exact goes_take si ha hq
  | give a b x =>
    show ∃ s', (if x > m.purses.getD a 0 then (D.str "no coins", m) else (D.non, giveM m a b x)).2.shots[q]? = some s' ∧ _
    split
    · exact ⟨s, hq, goes1_refl _ _ _⟩
    · exact ⟨s, hq, goes1_refl _ _ _⟩
  | begin a =>
    have hl := (List.getElem?_eq_some_iff.mp hq).1
    refine ⟨s, ?_, goes1_refl _ _ _⟩
    show (beginM m a).shots[q]? = some s
    unfold beginM writeM
    dsimp only
    rw [app_at, if_pos rfl]
    dsimp only
    rw [setAt (by simp), if_neg (by omega), List.getElem?_append_left hl]; exact hq
/-- whose beginning lies behind whose end -/
def SinI (ss : List (List Nat)) (m : Mkt) : Prop := ss.length = m.shots.length ∧ ∀ (k e : Nat) (l : List Nat), ss[k]? = some l → e ∈ l → ∃ s s', m.shots[e]? = some s ∧ m.shots[k]? = some s' ∧ doneS s = true ∧ ∀ i, i < m.n → wrote s' i → cutN s i ≤ cutN s' i
theorem n_step (m : Mkt) (act : Act) : (stepM m act).2.n = m.n := by
  cases act with
  | take a b =>
    show (takeM m a b).n = m.n
    unfold takeM; split
    · rfl
    · rfl
    · exact (markM_same _ _ a b).2.2.2.1
  | give a b x =>
    show (if x > m.purses.getD a 0 then (D.str "no coins", m) else (D.non, giveM m a b x)).2.n = _
    split <;> rfl
  | begin a => exact (writeM_same _ _ a none).2.2.2.1
theorem sin_old {coins : List Int} {i : Nat} {ss : List (List Nat)} {m : Mkt} (ai : AllI coins i m) (h : SinI ss m) {act : Act} (ha : ActOk m.n act) {k e : Nat} {l : List Nat} (hk : ss[k]? = some l) (he : e ∈ l) : ∃ s s', (stepM m act).2.shots[e]? = some s ∧ (stepM m act).2.shots[k]? = some s' ∧ doneS s = true ∧ ∀ i, i < (stepM m act).2.n → wrote s' i → cutN s i ≤ cutN s' i := by
  obtain ⟨s, s', h1, h2, h3, h4⟩ := h.2 k e l hk he
  obtain ⟨t, g1, gg⟩ := goes_step ai.iv.si ha h1
  obtain ⟨t', g2, gg'⟩ := goes_step ai.iv.si ha h2
  have et := gg.keep h3
  subst et
  refine ⟨t, t', g1, g2, h3, fun j hj hw => ?_⟩
  rw [n_step] at hj
  rcases gg'.cut j hj hw with ⟨w1, w2⟩ | w
  · rw [w2]; exact h4 j hj w1
  · rw [w]
    have hall := (done_all h3 (ai.iv.si.wl e t h1)).1 j hj
    exact ((ai.sl e t h1).wc j hj hall).2.1
theorem sin_step {coins : List Int} {i : Nat} {ss : List (List Nat)} {m : Mkt} (ai : AllI coins i m) (h : SinI ss m) {act : Act} (ha : ActOk m.n act) (hb : isBegin act = false) : SinI ss (stepM m act).2 := by
  refine ⟨?_, fun k e l hk he => sin_old ai h ha hk he⟩
  have := shots_step m act
  rw [hb] at this
  simp at this
  rw [h.1]; omega
theorem sin_begin {coins : List Int} {i : Nat} {ss : List (List Nat)} {m : Mkt} (ai : AllI coins i m) (h : SinI ss m) {a : Nat} (ha : a < m.n) : SinI (ss ++ [doneL m]) (stepM m (.begin a)).2 := by
  have hs := shots_step m (.begin a)
  simp [isBegin] at hs
  refine ⟨by rw [List.length_append, h.1]; simp; omega, fun k e l hk he => ?_⟩
  by_cases hlt : k < ss.length
  · rw [List.getElem?_append_left hlt] at hk
    exact sin_old ai h (act := .begin a) ha hk he
  · have hk2 := (List.getElem?_eq_some_iff.mp hk).1
    simp at hk2
    have ek : k = ss.length := by omega
    subst ek
    simp at hk
    subst hk
    unfold doneL at he
    obtain ⟨he1, he2⟩ := List.mem_filter.mp he
    have hel := List.mem_range.mp he1
    have hse : m.shots[e]? = some (m.shots.getD e (newSh 0)) := getD_at hel _
    obtain ⟨t, g1, gg⟩ := goes_step ai.iv.si (act := .begin a) ha hse
    have et := gg.keep he2
    subst et
    have hnew : (stepM m (.begin a)).2.shots[ss.length]? = some (shWrite m.n (newSh m.n) a (m.purses.getD a 0) (cnt m.told a) none) := by
      show (beginM m a).shots[ss.length]? = _
      unfold beginM writeM
      dsimp only
      rw [app_at, if_pos rfl]
      dsimp only
      rw [h.1, setAt (by simp), if_pos rfl]
    refine ⟨_, _, g1, hnew, he2, fun j hj hw => ?_⟩
    have hj' : j < m.n := by rw [n_step] at hj; exact hj
    have zj : j = a := by
      refine Classical.byContradiction fun z => ?_
      have hw' : (((newSh m.n).written.set a (some (m.purses.getD a 0))).getD j none).isSome = true := hw
      rw [getD_set _ _ _ _ _ (by simp [newSh]; exact ha), if_neg z] at hw'
      simp [newSh, List.getElem?_replicate, hj'] at hw'
    have hcut : cutN (shWrite m.n (newSh m.n) a (m.purses.getD a 0) (cnt m.told a) none) j = (ofM j m.told).length := by
      unfold cutN
      show ((((newSh m.n).cut.set a (some (cnt m.told a))).getD j none).getD 0).toNat = _
      rw [getD_set _ _ _ _ _ (by simp [newSh]; exact ha), if_pos zj, zj, ← ofM_len]; simp
    rw [hcut]
    have hall := (done_all he2 (ai.iv.si.wl e _ hse)).1 j hj'
    exact ((ai.sl e _ hse).wc j hj' hall).2.1
end SS
namespace SS
open PySem L2 PyProof.Rows
/-! ### a hook with one more fact -/
def obsX (n : Nat) (fa : List He.Fa) (fn : List He.DefD) (xf : PySem.W.Frag → Bool) (g : Addr → Option Obj) : He.AlD × Bool := (He.obsDG n fa fn g, xf (He.frG g (He.asD g n)))
def hookX (n : Nat) (fa : List He.Fa) (fn : List He.DefD) (xf : PySem.W.Frag → Bool) : PySem.W.Hook where
  α := He.AlD × Bool
  obs := fun s => obsX n fa fn xf s.heap.get?
  val := fun _ => (He.valD fn, true)
  says := fun _ h => ∃ K : PySem.W.Frag, K.In h ∧ He.SaysD fa fn K ∧ xf K = true
  of := fun _ s e => ⟨He.frG s.heap.get? (He.asD s.heap.get? n), He.frG_in, congrArg Prod.fst e, congrArg Prod.snd e⟩
  keeps := fun _ _ _ ⟨K, hK, c⟩ k => ⟨K, PySem.W.Frag.In.keeps hK k, c⟩
theorem obsX_eq {n : Nat} {fa : List He.Fa} {fn : List He.DefD} {xf : PySem.W.Frag → Bool} {g : Addr → Option Obj} {s : Shared} (h : ∀ a, g a = s.heap.get? a) : obsX n fa fn xf g = (hookX n fa fn xf).obs s := by
  have e : g = s.heap.get? := funext h
  rw [e] <;> rfl
/-- what isinstance asks of an own class -/
def clsX (K : PySem.W.Frag) (C : Addr) : Bool := He.eqO (PySem.W.findIn K (.ref C) "__class__") (some (some (.builtin "object.__class__"))) && (He.eqO (PySem.W.specialIn K (.builtin "object.__class__") "__get__") (some (some (.builtin "getset_descriptor.__get__"))) && (decide (PySem.W.takesIn K (.builtin "object.__class__") = some true) && (decide (PySem.W.mroIn K C (.type "object") = some true) && decide (PySem.W.kitOne K (.ref C) (.ref C) = some true))))
theorem clsX_ok {K : PySem.W.Frag} {C : Addr} (cl : Cls K C) (h : clsX K C = true) : ClsTy K C ∧ PySem.W.kitOne K (.ref C) (.ref C) = some true := by
  obtain ⟨h1, h⟩ := He.ba h
  obtain ⟨h2, h⟩ := He.ba h
  obtain ⟨h3, h⟩ := He.ba h
  obtain ⟨h4, h5⟩ := He.ba h
  exact ⟨⟨cl, He.eqO_ok h1, He.eqO_ok h2, of_decide_eq_true h3, of_decide_eq_true h4⟩, of_decide_eq_true h5⟩
end SS
namespace SS
open PySem L2 PyProof.Rows
/-! ### enumerate of a list or a tuple -/
theorem enumNew1 {v : Value} {o : Obj} {G : Heap → Prop} (B : Begins v o G) : Meets (Builtin.«enumerate.__new__» ⟨[.type "enumerate", v], []⟩) (fun _ R s => G s.heap ∧ R (.ok (.ret (.ref (s.heap.push o).objs.size))) { s with heap := (s.heap.push o).push { cls := .type "enumerate", data := .fields #[.none, .bool false, .ref s.heap.objs.size, rawInt 0, .none, .none] } }) :=
  .of_wp fun prog w A R s h => by
    obtain ⟨hp, g, d, tk, os⟩ := s; obtain ⟨g1, r⟩ := h; have sb := sub_enumerate
    have go : ∀ {A' : Around} {E : Value → Shared → Prop} {Q : Value → Shared → Prop}, Q (.ref hp.objs.size) ⟨hp.push o, g, d, tk, os⟩ → wpAny (model prog w) A' (pyIter v) Q E ⟨hp, g, d, tk, os⟩ := fun q => B.iter prog w _ _ ⟨hp, g, d, tk, os⟩ _ g1 q
    wp_walk using go; refine wpAny_stack_any fun st => wpAny_pure ?_
    split
    · rename_i c _ _ _ _ _; cases (c == Value.type "enumerate") <;> (wp_walk using go; exact ⟨_, rfl, r⟩)
    · wp_walk using go; exact ⟨_, rfl, r⟩
section
variable {prog : Program} {w : World} {A : Around} {E : Value → Shared → Prop} {s : Shared}
theorem enum1 {v : Value} {o : Obj} {G : Heap → Prop} {Q : Value → Shared → Prop} (B : Begins v o G) (g1 : G s.heap)
    (h : ∀ h', IsEnum h' (s.heap.objs.size + 1) s.heap.objs.size 0 .none → h'.get? s.heap.objs.size = some o → h'.objs.size = s.heap.objs.size + 2 → (∀ b o, s.heap.get? b = some o → h'.get? b = some o) → Q (.ref (s.heap.objs.size + 1)) { s with heap := h' }) :
    wpAny (model prog w) A (call (.type "enumerate") [v]) Q E s := by
  refine callType_new F.called_enumerate (by decide) (F.typeCall_enumerate_1 _) (F.newCall_enumerate_1 _) (fun obj => F.args_object_init_2 obj _) F.entry_enumerate_new (enumNew1 B) ⟨g1, ?_⟩
  have hz : (s.heap.push o).objs.size = s.heap.objs.size + 1 := Heap.size_push ..
  have he : IsEnum ((s.heap.push o).push { cls := .type "enumerate", data := .fields #[.none, .bool false, .ref s.heap.objs.size, rawInt 0, .none, .none] }) (s.heap.objs.size + 1) s.heap.objs.size 0 .none := by rw [← hz]; exact Heap.get?_push_size (s.heap.push o) rfl
  show _ ∧ _
  rw [hz]; exact ⟨⟨_, he, rfl⟩, h _ he (Heap.get?_push_of_some _ (Heap.get?_push_size _ B.free)) (by rw [Heap.size_push, hz]) fun b o x => Heap.get?_push_of_some _ (Heap.get?_push_of_some _ x)⟩
end
/-- the items of a, each with its number in a new tuple -/
def ItN (K : PySem.W.Frag) (k : Bool) (a : Addr) : It :=
  ⟨fun i H => ∃ xs : List V, SqS K k H a xs ∧ i < xs.length, fun i H v H' => ∃ T x, v = .ref T ∧ H T = none ∧ H' = L2.upd H T (.tup [.int (i : Nat), x]) ∧ ∀ xs, SqS K k H a xs → xs[i]? = some x, fun i H => ∃ xs : List V, SqS K k H a xs ∧ i = xs.length⟩
theorem turn_N {P : Program} {w : World} {K : PySem.W.Frag} {elts : List Expr} {kk : Nat} {tpos : Pos} {k : Bool} {a e it : Addr} (nei : e ≠ it) (nea : e ≠ a) (nia : a ≠ it) :
    Turn P w K (.Tuple elts kk tpos) (ItN K k a) [e, it] e (fun i h => (∃ old, IsEnum h e it (0 + (i : Int)) old) ∧ itS k h it a i) where
  mem := by simp
  obj := fun i h st c hc => by
    obtain ⟨⟨old, he⟩, h1⟩ := st
    simp only [List.mem_cons, List.not_mem_nil, or_false] at hc
    rcases hc with rfl | rfl
    · exact ⟨_, he, fun v q => nomatch q⟩
    · exact itS_obj h1
  keep := fun i h h' st k' => by
    obtain ⟨⟨old, he⟩, h1⟩ := st
    exact ⟨⟨old, k' e (by simp) _ he⟩, itS_at h1 fun o q => k' it (by simp) o q⟩
  item := by
    intro X hP hw hK hc i pins s σ H E I hf st hg
    subst hP hw hK
    obtain ⟨xs, hx, hi⟩ := hg
    obtain ⟨its, rx, sx, _, _⟩ := seqS I hx
    have W := GoesN.enumFrom (prog := X.prog) (w := X.w) (A := X.A) (elts := elts) (x1 := kk) (pos := tpos) 0 (drawsS (show X.A.in1.handled = none from I.ok.hd hc) k it a nia its.toArray) e nei (by simp; exact ⟨nei, nea⟩) (by simp)
    have l1 := rx.length
    obtain ⟨he, h1⟩ := st
    refine W.goes i s _ E (by simp only [List.size_toArray]; omega) ⟨he, h1, sx⟩ fun v h' tk hY st' hk htk => ?_
    obtain ⟨T, t, u, rfl, hT, e1, tup⟩ := hY
    obtain ⟨x, hx1, rx1⟩ : ∃ x, xs[i]? = some x ∧ RelV x u := by
      obtain ⟨u2, e3, r3⟩ := rx.get (show xs[i]? = some xs[i] by simp [hi])
      rw [List.getElem?_toArray, e3] at e1; cases e1
      exact ⟨_, by simp [hi], r3⟩
    have hT0 : H T = none := I.hok.fresh hT
    have new : ObjOk X.prog X.w (L2.upd H T (.tup [.int (i : Nat), x])) h' T (.tup [.int (i : Nat), x]) := ⟨by show 2 ≤ sizeLine; decide, [.int (0 + (i : Int)) t, u], .cons ⟨t, by rw [Int.zero_add]⟩ (.cons rx1 .nil), tup⟩
    have I1 : Inv X pins σ (L2.upd H T (.tup [.int (i : Nat), x])) { s with heap := h', toks := tk } := I.turnedNew (ch := [e, it]) (fun c o hb q => hk c o (fun m => hb (by simpa using m)) q) hf hT new
    refine ⟨.ref T, _, I1, rfl, ⟨T, x, rfl, hT0, rfl, fun l hl => by rw [seqS_inj I hl hx]; exact hx1⟩, ⟨st'.1, st'.2.1⟩, fun c hcm => ?_⟩
    have hcn := hf c hcm
    by_cases ec : c = T
    · subst ec
      exfalso
      obtain ⟨o, ho⟩ : ∃ o, s.heap.get? c = some o := by
        simp only [List.mem_cons, List.not_mem_nil, or_false] at hcm
        rcases hcm with rfl | rfl
        · obtain ⟨_, q⟩ := he; exact ⟨_, q⟩
        · obtain ⟨o, q, _⟩ := itS_obj h1; exact ⟨o, q⟩
      exact absurd (Nat.lt_of_lt_of_le (Heap.lt_size ho) hT) (Nat.lt_irrefl _)
    · rw [upd_ne ec]; exact hcn.1
  done := by
    intro X hP hw hK hc i pins s σ H E I hf st hg
    subst hP hw hK
    obtain ⟨xs, hx, hi⟩ := hg
    obtain ⟨its, rx, sx, _, _⟩ := seqS I hx
    have W := GoesN.enumFrom (prog := X.prog) (w := X.w) (A := X.A) (elts := elts) (x1 := kk) (pos := tpos) 0 (drawsS (show X.A.in1.handled = none from I.ok.hd hc) k it a nia its.toArray) e nei (by simp; exact ⟨nei, nea⟩) (by simp)
    have l1 := rx.length
    have hn : its.toArray.size = i := by simp only [List.size_toArray]; omega
    rw [hn] at W
    obtain ⟨he, h1⟩ := st
    exact W.stops s _ E ⟨he, h1, sx⟩ fun h' tk hk htk => I.turnedL (ch := [e, it]) (fun c o hb q => hk c o (fun m => hb (by simpa using m)) q) hf
  self := fun A i s Q E st h => by obtain ⟨⟨_, he⟩, _⟩ := st; exact wpAny_pyIter_enum he h
def iEnS (K : PySem.W.Frag) (ta : TA) : TI := fun σ H R => ta σ H fun vs H1 => ∃ k a xs, vs = [.ref a] ∧ SqS K k H1 a xs ∧ R (ItN K k a) H1
theorem pi_enS {X : Cx} {e : Expr} {ta : TA} {p pos tpos : Pos} {elts : List Expr} {kk : Nat} (hg : Gl X "enumerate") (hm : X.mg "enumerate" = none) (ha : PA X [e] ta) (hs : starEach [e] X.env = [(false, eval e X.env)] := by rfl) :
    PI X (.Tuple elts kk tpos) (.Call (.Name "enumerate" p) [e] [] pos) (iEnS X.K ta) := by
  refine ⟨fun pins s σ H R I h => ?_⟩
  refine Call_ (ld_blt I hg hm boot_enumerate (PyProof.Rows.callWith_type1 (thn (ha.run pos pins s σ H _ I h) fun us s1 ⟨vs, H1, I1, r1, k, a, xs, ex, hx, q⟩ => ?_) hs rfl))
  subst ex
  rw [Vals.ref1 r1]
  obtain ⟨its, rx, sx, _, la⟩ := seqS I1 hx
  refine enum1 (beginsS k a its.toArray) sx fun h' he h1 hsz hk => wpAny_pyIter_enum he ?_
  have I2 : Inv X pins σ H1 { s1 with heap := h' } := I1.kept (t' := s1.toks) hk
  refine ⟨s1.heap.objs.size + 1, [s1.heap.objs.size + 1, s1.heap.objs.size], _, _, H1, rfl, I2, turn_N (Nat.succ_ne_self _) (Nat.ne_of_gt (Nat.lt_succ_of_lt la)) (Nat.ne_of_lt la), ⟨⟨.none, he⟩, itS_new h1⟩, fun c hcm => ?_, q⟩
  have hle : s1.heap.objs.size ≤ c := by
    simp only [List.mem_cons, List.not_mem_nil, or_false] at hcm
    rcases hcm with rfl | rfl
    · exact Nat.le_add_right _ _
    · exact Nat.le_refl _
  exact I1.fpOk hle (I1.hok.fresh hle)
def numD (ds : List D) : List D := ds.zipIdx.map fun p => .tup [.int (p.2 : Int), p.1]
def iEn (r : LTA) : LTI := fun env S Q Ex => r env S (fun as S1 => ∃ d ds, as = [d] ∧ SeqD S1 d ds ∧ Q (numD ds) (fun S' => SeqD S' d ds) S1) Ex
theorem num_at {ds : List D} {i : Nat} {d : D} (h : ds[i]? = some d) : (numD ds)[i]? = some (.tup [.int (i : Int), d]) := by
  unfold numD; rw [List.getElem?_map, List.getElem?_zipIdx, h]; simp
theorem li_enum {X : Cx} {W : WX} {e : Expr} {rL : LTA} {p pos tpos : Pos} {elts : List Expr} {kk : Nat} (hg : Gl X "enumerate") (hm : X.mg "enumerate" = none) (ha : LA X W [e] rL) (hs : starEach [e] X.env = [(false, eval e X.env)] := by rfl) : LI X W (.Tuple elts kk tpos) (.Call (.Name "enumerate" p) [e] [] pos) (iEn rL) :=
  piI (pi_enS hg hm ha hs) fun σ H R ⟨ρ, env, S, Q', Ex, s, er, q, po, xp⟩ =>
    ⟨ρ, env, S, _, Ex, s, er, q, fun ρ1 vs ds H1 S1 e1 s1 r1 ⟨d, ds', hd, h1, q1⟩ => by
      subst hd
      obtain ⟨v, rfl, ra⟩ := r1.one
      obtain ⟨k1, a, ws, rfl, g1, rw1, i1⟩ := h1.sqS s1 ra
      have again : ∀ {ρ2 : Rho} {H2 : Hp} {S2 : Store}, Ext ρ1 H1 ρ2 H2 → Sim X.K ρ2 H2 S2 → SeqD S2 d ds' → ∃ vs, SqS X.K k1 H2 a vs ∧ VRs X.K ρ2 H2 vs ds' := by
        intro ρ2 H2 S2 e2 s2 hS
        obtain ⟨k', a', vs, e, g, rv, i'⟩ := hS.sqS s2 (ra.mono e2)
        cases e
        have : k1 = k' := by
          have h1 := i1; have h2 := i'
          cases k1 <;> cases k' <;> simp_all
        subst this
        exact ⟨vs, g, rv⟩
      have hlen : (numD ds').length = ds'.length := by simp [numD]
      refine ⟨k1, a, ws, rfl, g1, po ρ1 H1 S1 _ _ _ e1 s1 ⟨fun ρ2 H2 S2 i e2 s2 g hi => ?_, fun ρ2 H2 S2 i x H3 e2 s2 g hi y => ?_, fun ρ2 H2 S2 e2 s2 g => ?_⟩ q1⟩
      · obtain ⟨v1, a1, r1⟩ := again e2 s2 g
        exact ⟨v1, a1, by rw [r1.length, ← hlen]; exact hi⟩
      · obtain ⟨v1, a1, r1⟩ := again e2 s2 g
        obtain ⟨T, x1, rfl, nT, rfl, hx⟩ := y
        obtain ⟨d1, e3, q3⟩ := r1.get' (hx v1 a1)
        obtain ⟨s3, e5⟩ := s2.laidT (xs := [.int (i : Nat), x1]) nT
        exact ⟨e5, s3, .tup [.int (i : Int), d1], num_at e3, .tup upd_same (.cons (.int _) (.cons (q3.mono e5) .nil))⟩
      · obtain ⟨v1, a1, r1⟩ := again e2 s2 g
        exact ⟨v1, a1, by rw [r1.length, hlen]⟩, xp⟩
end SS
namespace SS
open PySem L2
def inCutB (cut : Nat → Nat) (L : List Ev) (k : Nat) : Bool := match L[k]? with
  | some e => decide ((ofM (who e) (L.take k)).length < cut (who e))
  | none => false
theorem inCutB_iff {cut : Nat → Nat} {L : List Ev} {k : Nat} : inCutB cut L k = true ↔ inCut cut L k := by
  unfold inCutB inCut
  cases L[k]? with
  | none => simp
  | some e => simp
def withinL (cut : Nat → Nat) (L : List Ev) : List Nat := (List.range L.length).filter (inCutB cut L)
/-- lists of numbers in a list -/
def sinR (r : Nat) (ss : List (List Nat)) : Reg
  | .x0 0 => some (.lst ((List.range ss.length).map fun j => .loc r (.x0 (j + 1))))
  | .x0 (j + 1) => (ss[j]?).map fun l => .lst (l.map fun k : Nat => .int k)
  | _ => none
theorem sin_put (r : Nat) (ss : List (List Nat)) (l : List Nat) : fset (fset (sinR r ss) (.x0 (ss.length + 1)) (.lst (l.map fun k : Nat => .int k))) (.x0 0) (.lst ((List.range ss.length).map (fun j => D.loc r (.x0 (j + 1))) ++ [.loc r (.x0 (ss.length + 1))])) = sinR r (ss ++ [l]) := by
  funext f
  cases f with
  | x0 n =>
    cases n with
    | zero => rw [fset_same]; show _ = some (LO.lst _); rw [List.length_append, List.length_singleton, List.range_succ, List.map_append]; rfl
    | succ j =>
      rw [fset_ne (by simp)]
      by_cases e : j = ss.length
      · subst e; rw [fset_same]; simp [sinR]
      · rw [fset_ne (by simp; exact e)]
        show (ss[j]?).map _ = ((ss ++ [l])[j]?).map _
        by_cases hlt : j < ss.length
        · rw [List.getElem?_append_left hlt]
        · rw [List.getElem?_eq_none (by omega), List.getElem?_eq_none (by simp; omega)]
  | _ => simp [fset, sinR]
def sp_law_member (C : Cl) : LSp := fun ds S Q _ => ∃ e : Ev, ds = [encEv e] ∧ Q (.int (who e)) S
def sp_law_within (C : Cl) : LSp := fun ds S Q _ => ∃ (n : Nat) (L : List Ev) (cut : Nat → Nat), ds = [.tup (L.map encEv), .tup ((List.range n).map fun i => .int (cut i : Int))] ∧ n ≤ 5 ∧ (∀ e ∈ L, EvIn n e) ∧ L.length ≤ 100000 ∧ newTmp ((withinL cut L).map fun k : Nat => .int k) S Q
def sp_law11 (C : Cl) : LSp := fun ds S Q _ => ∃ ns : List Int, ds = [.rol ns] ∧ ns.length ≤ 63 ∧ Q (.bl true) S
end SS
namespace SS
open PySem L2
/-- _law_member: slots 0 event -/
def r_law_member (K : PySem.W.Frag) (C : Cl) : LTS :=
  (rSeq (rIf (rTest (rOp oEq (rOp ixD (rVar 0) (rC (.int 0))) (rC (.str "give")))) (rRet (rOp ixD (rVar 0) (rC (.int 1)))) rNext) (rRet (rOp ixD (rVar 0) (rC (.int 2)))))
/-- _law_within: slots 0 log 1 cut 2 k 3 counts 4 found 5 n 6 event 7 member -/
def r_law_within (K : PySem.W.Frag) (C : Cl) : LTS :=
  (rSeq (rSet 3 (rLc (newF .tmp) (iTp (rVar 1)) (.nm 2) rYes (rC (.int 0)))) (rSeq (rSet 4 (rLst (newF .tmp) rNil)) (rSeq (rFor (iEn (rCons (rVar 0) rNil)) (.tp [5, 6]) (rSeq (rSet 7 (rDef (sp_law_member C) (rCons (rVar 6) rNil))) (rSeq (rSub (rVar 3) (rVar 7) (rOp oAdd (rOp ixD (rVar 3) (rVar 7)) (rC (.int 1)))) (rIf (rTest (rOp oLe (rOp ixD (rVar 3) (rVar 7)) (rOp ixD (rVar 1) (rVar 7)))) (rDrop (rBM isL mAppend (rVar 4) (rCons (rVar 5) rNil))) rNext)))) (rRet (rVar 4)))))
/-- law: slots 0 script 1 coins 2 market 3 done 4 since 5 act 6 k 7 log 8 some 9 n 10 m 11 early 12 one 13 other -/
def r_law11 (K : PySem.W.Frag) (C : Cl) : LTS :=
  (rSeq (rSet 1 (rDef (sp_law_coins C) (rCons (rVar 0) rNil))) (rSeq (rSet 2 (rMake (newF .mI) C.m (sp_Market_init C) (rCons (rVar 1) rNil))) (rSeq (rSet 3 (rLst (newF .tmp) rNil)) (rSeq (rSet 4 (rLst (newF (.x0 0)) rNil)) (rSeq (rFor (iLst (rDef (sp_law_acts C) (rCons (rVar 0) (rCons (rC (.bl true)) rNil)))) (.nm 5) (rSeq (rIf (rTest (rOp oEq (rOp ixD (rVar 5) (rC (.int 0))) (rC (.str "begin")))) (rDrop (rBM isL mAppend (rVar 4) (rCons (rCall (dList (newA)) (rCons (rVar 3) rNil)) rNil))) rNext) (rSeq (rDrop (rDef (sp_law_do C) (rCons (rVar 2) (rCons (rVar 5) rNil)))) (rSet 3 (rLc (newF .tmp) (iRng (rCons (rCall dLen (rCons (rVar 4) rNil)) rNil)) (.nm 6) (rTest (rMeth C.m "is_done" (sp_Market_is_done C) (rVar 2) (rCons (rVar 6) rNil))) (rVar 6)))))) (rSeq (rSet 7 (rMeth0 C.m "log" (sp_Market_log C) (rVar 2))) (rSeq (rFor (iLst (rVar 3)) (.nm 6) (rSeq (rSet 8 (rDef (sp_law_within C) (rCons (rVar 7) (rCons (rMeth C.m "cut_of" (sp_Market_cut_of C) (rVar 2) (rCons (rVar 6) rNil)) rNil)))) (rSeq (rFor (iLst (rVar 8)) (.nm 9) (rIf (rNot (rTest (rCall dAll (rCons (rLc (newF .tmp) (iRng (rCons (rCall dLen (rCons (rVar 7) rNil)) rNil)) (.nm 10) (rTest (rMeth C.m "ahead" (sp_Market_ahead C) (rVar 2) (rCons (rVar 10) (rCons (rVar 9) rNil)))) (rOp oInD (rVar 10) (rVar 8))) rNil)))) (rRet (rC (.bl false))) rNext)) (rFor (iLst (rOp ixD (rVar 4) (rVar 6))) (.nm 11) (rIf (rNot (rTest (rCall dAll (rCons (rLc (newF .tmp) (iZp (rCons (rMeth C.m "cut_of" (sp_Market_cut_of C) (rVar 2) (rCons (rVar 11) rNil)) (rCons (rMeth C.m "cut_of" (sp_Market_cut_of C) (rVar 2) (rCons (rVar 6) rNil)) rNil))) (.tp [12, 13]) rYes (rOp oLe (rVar 12) (rVar 13))) rNil)))) (rRet (rC (.bl false))) rNext))))) (rRet (rC (.bl true))))))))))
end SS
namespace SS
open PySem L2
theorem read_law_member {K : PySem.W.Frag} {C : Cl} (ds : List D) (S : Store) (Q : QD) (Ex : Value → Store → Prop) (h : sp_law_member C ds S Q Ex) : r_law_member K C (ends0 Q) (start ["event"] ds) S := by
  obtain ⟨f, rfl, q⟩ := h
  cases hg : f.give with
  | true =>
    have hw : who f = f.one := by unfold who; rw [hg]; rfl
    rw [hw] at q
    unfold encEv
    rw [hg]
    exact ⟨_, rfl, .inl ⟨_, _, _, rfl, rfl, rfl, _, rfl, _, rfl, iteT ⟨_, rfl, .inl ⟨_, _, _, rfl, rfl, rfl, .here q⟩⟩⟩⟩
  | false =>
    have hw : who f = f.other := by unfold who; rw [hg]; rfl
    rw [hw] at q
    unfold encEv
    rw [hg]
    exact ⟨_, rfl, .inl ⟨_, _, _, rfl, rfl, rfl, _, rfl, _, rfl, iteF (.here ⟨_, rfl, .inl ⟨_, _, _, rfl, rfl, rfl, .here q⟩⟩)⟩⟩
theorem num_evs {L : List Ev} {i : Nat} {d : D} (h : (numD (L.map encEv))[i]? = some d) : ∃ e, L[i]? = some e ∧ d = .tup [.int (i : Int), encEv e] := by
  unfold numD at h
  rw [List.getElem?_map, List.getElem?_zipIdx, List.getElem?_map] at h
  cases he : L[i]? with
  | none => rw [he] at h; cases h
  | some e => rw [he] at h; simp at h; exact ⟨e, rfl, h.symm⟩
theorem num_len (ds : List D) : (numD ds).length = ds.length := by simp [numD]
theorem tmpR_fset (o o' : LO) : fset (tmpR o) .tmp o' = tmpR o' := by
  funext f
  by_cases ef : f = .tmp
  · subst ef; rw [fset_same, tmpR_tmp]
  · rw [fset_ne ef]; unfold tmpR; rw [if_neg ef, if_neg ef]
theorem read_law_within {K : PySem.W.Frag} {C : Cl} (ds : List D) (S : Store) (Q : QD) (Ex : Value → Store → Prop) (h : sp_law_within C ds S Q Ex) : r_law_within K C (ends0 Q) (start ["log", "cut", "k", "counts", "found", "n", "event", "member"] ds) S := by
  obtain ⟨n, L, cut, rfl, h5, hev, hLl, q⟩ := h
  refine ⟨_, rfl, _, rfl, ?_⟩
  refine lcb_map (fun _ => .int 0) ?_ ?_ ?_ ?_
  · rw [List.length_map, List.length_range]; exact szl _ (by omega)
  · intro r2 hr2 ds; trivial
  · intro r2 hr2 i x ds P hx hP; exact hP _ .refl
  intro rc hrc
  have e0 : (((List.range n).map fun i => D.int (cut i : Int)).map fun _ => D.int 0) = (cnts n []).map D.int := by
    unfold cnts; rw [List.map_map, List.map_map]; rfl
  rw [e0]
  refine .here ⟨t0, fun ra hra => ?_⟩
  dsimp only
  rw [set_tmp hra]
  obtain ⟨nac, hra'⟩ := fresh2 hra
  refine .here ?_
  refine ⟨_, rfl, _, _, rfl, rfl, ?_⟩
  refine ⟨fun i env S' => ∃ v5 v6 v7, env = [some (.tup (L.map encEv)), some (.tup ((List.range n).map fun i => .int (cut i : Int))), none, some (.loc rc .tmp), some (.loc ra .tmp), v5, v6, v7] ∧ S' = X2 S rc ra (tmpR (.lst ((cnts n (L.take i)).map D.int))) (tmpR (.lst (((List.range i).filter (inCutB cut L)).map fun k : Nat => .int k))), .here ⟨none, none, none, rfl, rfl⟩, ?_, ?_⟩
  · rintro i d env S' hd ⟨v5, v6, v7, rfl, rfl⟩
    obtain ⟨e, he, rfl⟩ := num_evs hd
    have hil := (List.getElem?_eq_some_iff.mp he).1
    have hwn := who_ev (hev e (List.mem_of_getElem? he))
    refine ⟨rfl, ⟨_, rfl, rfl, ?_⟩⟩
    refine ⟨_, rfl, e, rfl, .here ?_⟩
    have nca : rc ≠ ra := Ne.symm nac
    have sc : SeqD (X2 S rc ra (tmpR (.lst ((cnts n (L.take i)).map D.int))) (tmpR (.lst (((List.range i).filter (inCutB cut L)).map fun k : Nat => .int k)))) (.loc rc .tmp) ((cnts n (L.take i)).map D.int) := by show _ = _; rw [x2_a nca, tmpR_tmp]
    have a1 : atI ((cnts n (L.take i)).map D.int) (who e : Int) = some (.int (cnt (L.take i) (who e))) := atI_nat (by rw [List.getElem?_map, cnts_at _ hwn]; rfl)
    refine ⟨_, rfl, _, rfl, .inl ⟨_, _, _, sc, rfl, a1, _, _, rfl, rfl, _, rfl, _, rfl, _, .l (j := who e) (by rw [x2_a nca, tmpR_tmp]) (by rw [List.length_map, cnts_len]; exact ixN_nat hwn), .here ?_⟩⟩
    have e1 : ((cnts n (L.take i)).map D.int).set (who e) (.int (cnt (L.take i) (who e) + 1)) = (cnts n (L.take (i + 1))).map D.int := by
      have := cnts_step n (L.take i) e hwn
      rw [getD_of (cnts_at _ hwn)] at this
      rw [take_one he, ← this, List.map_set]
    rw [e1, x2_set nca, tmpR_fset]
    have a2 : atI ((cnts n (L.take (i + 1))).map D.int) (who e : Int) = some (.int (cnt (L.take (i + 1)) (who e))) := atI_nat (by rw [List.getElem?_map, cnts_at _ hwn]; rfl)
    have a3 : atI ((List.range n).map fun i => D.int (cut i : Int)) (who e : Int) = some (.int (cut (who e) : Int)) := atI_nat (by rw [List.getElem?_map, List.getElem?_range hwn]; rfl)
    refine ⟨_, rfl, _, rfl, .inl ⟨_, _, _, by show _ = _; rw [x2_a nca, tmpR_tmp], rfl, a2, _, rfl, _, rfl, .inl ⟨_, _, _, rfl, rfl, a3, _, _, rfl, rfl, _, rfl, ?_⟩⟩⟩
    have hcount : cnt (L.take (i + 1)) (who e) = ((ofM (who e) (L.take i)).length : Int) + 1 := by
      rw [take_one he, cnt_app, if_pos rfl, ofM_len]
    have hb : inCutB cut L i = decide ((ofM (who e) (L.take i)).length < cut (who e)) := by unfold inCutB; rw [he]
    by_cases hlt : (ofM (who e) (L.take i)).length < cut (who e)
    · rw [decide_eq_true (by omega)]
      refine iteT ⟨_, rfl, ⟨_, by show _ = _; rw [x2_b, tmpR_tmp]⟩, _, rfl, ra, .tmp, _, _, rfl, rfl, by rw [x2_b, tmpR_tmp], ?_, .here ⟨_, _, _, rfl, ?_⟩⟩
      · rw [List.length_map]
        have := List.length_filter_le (inCutB cut L) (List.range i)
        rw [List.length_range] at this
        exact szl _ (by omega)
      · rw [set_R, x2_b, x2_pb, tmpR_fset, List.range_succ, List.filter_append, List.map_append]
        have : [i].filter (inCutB cut L) = [i] := by simp [hb, hlt]
        rw [this]; rfl
    · rw [decide_eq_false (by omega)]
      refine iteF (.here ⟨_, _, _, rfl, ?_⟩)
      rw [List.range_succ, List.filter_append]
      have : [i].filter (inCutB cut L) = [] := by simp [hb, hlt]
      rw [this, List.append_nil]
  · rintro env S' ⟨v5, v6, v7, rfl, rfl⟩
    refine ⟨rfl, .here ⟨_, rfl, ?_⟩⟩
    rw [num_len, List.length_map]
    exact ⟨_, sub_set (sub_drop hrc), q ra hra'⟩
theorem ints_any {l : List Nat} {j : Nat} (h : j ∈ l) : ((l.map fun k : Nat => PyData.int k).any fun z => PyData.eqv z (.int (j : Int))) = true := by
  rw [List.any_eq_true]
  exact ⟨.int j, List.mem_map.mpr ⟨j, h, rfl⟩, SeqAt.eqv_refl _ rfl⟩
theorem dat_nats {S : Store} : ∀ l : List Nat, DatDs S (l.map fun k : Nat => D.int k) (l.map fun k : Nat => PyData.int k)
  | [] => .nil
  | k :: l => .cons (.int _) (dat_nats l)
theorem nats_shape (l : List Nat) : SeqAt.shaped (.list (l.map fun k : Nat => PyData.int k)) = true := by
  have h1 : PyData.canLayAll0 (l.map fun k : Nat => PyData.int k) = true := by
    induction l with
    | nil => rfl
    | cons k l ih => simp [PyData.canLayAll0, PyData.canLay0, ih]
  have h2 : PyData.depthAll (l.map fun k : Nat => PyData.int k) ≤ 1 := by
    induction l with
    | nil => exact Nat.zero_le _
    | cons k l ih => rw [List.map_cons, PyData.depthAll, PyData.depth]; have := ih (by simp [PyData.canLayAll0] at h1; exact h1.2); omega
  exact shaped_of (k := 2) h1 (by rw [PyData.depth]; omega) (by decide)
theorem in_nats {S : Store} {r : Nat} {l : List Nat} {j : Nat} {P : QD} (h : S r .tmp = some (.lst (l.map fun k : Nat => .int k))) (hj : j ∈ l) (q : P (.bl true) S) : oInD (.int j) (.loc r .tmp) S P := by
  refine ⟨.int j, l.map fun k : Nat => PyData.int k, .int _, .lst h (dat_nats l), rfl, nats_shape l, ?_⟩
  rw [ints_any hj]; exact q
theorem read_law11 {K : PySem.W.Frag} {C : Cl} (ds : List D) (S : Store) (Q : QD) (Ex : Value → Store → Prop) (h : sp_law11 C ds S Q Ex) : r_law11 K C (ends0 Q) (start ["script", "coins", "market", "done", "since", "act", "k", "log", "some", "n", "m", "early", "one", "other"] ds) S := by
  obtain ⟨ns, rfl, hl, q⟩ := h
  obtain ⟨m2, m5, em⟩ := many_ge ns
  have hcl : (coinsOf ns).length = manyOf ns := by simp [coinsOf]
  refine ⟨_, rfl, ns, rfl, hl, .here ?_⟩
  generalize hcs : coinsOf ns = coins at *
  have c2 : 2 ≤ coins.length := by omega
  have c5 : coins.length ≤ 5 := by omega
  refine ⟨_, rfl, fun rm hrm => mk_market c2 c5 hrm ⟨rfl, .here ?_⟩⟩
  refine ⟨t0, fun rd0 hrd0 => .here ?_⟩
  rw [set_tmp hrd0]
  have nmd0 : rm ≠ rd0 := ne_fresh hrd0 (f := .mI) (by rw [setR_same]; exact encM_live)
  refine ⟨t0, fun rs hrs => ?_⟩
  dsimp only
  obtain ⟨nsd0, hrs'⟩ := fresh2 hrs
  have nms : rm ≠ rs := ne_fresh hrs' (f := .mI) (by rw [setR_same]; exact encM_live)
  have es0 : ∀ X : Store, (∀ f, X rs f = none) → X.set rs (.x0 0) (.lst []) = X.setR rs (sinR rs []) := fun X hX => by
    rw [set_R]; congr 1; funext f
    cases f with
    | x0 n => cases n <;> simp [fset, sinR, hX]
    | _ => simp [fset, sinR, hX]
  rw [es0 _ hrs]
  refine .here ?_
  refine ⟨_, rfl, ns, true, rfl, hl, fun ra hra => ?_⟩
  have nma : rm ≠ ra := ne_fresh hra (f := .mI) (by rw [setR_ne nms, setR_ne nmd0, setR_same]; exact encM_live)
  have nsa : rs ≠ ra := ne_fresh hra (f := .x0 0) (by rw [setR_same]; simp [sinR])
  have nd0a : rd0 ≠ ra := ne_fresh hra (f := .tmp) (by rw [setR_ne (Ne.symm nsd0), tmp_at]; simp)
  have ha0 := act_ok ns true
  have hp0 := acts_pos ns true
  have hl0 := acts_len ns true hl
  generalize hac : actsOf ns true = acts at ha0 hp0 hl0 ⊢
  rw [← hcl] at ha0
  have Sd0 : ∀ f, S rd0 f = none := fun f => by have := hrd0 f; rwa [setR_ne (Ne.symm nmd0)] at this
  have Ss : ∀ f, S rs f = none := fun f => by have := hrs' f; rwa [setR_ne (Ne.symm nms)] at this
  have Sa : ∀ f, S ra f = none := fun f => by have := hra f; rwa [setR_ne (Ne.symm nsa), setR_ne (Ne.symm nd0a), setR_ne (Ne.symm nma)] at this
  refine ⟨acts.map encAct, by show _ = _; rw [tmp_at], ?_⟩
  let Wm : Mkt → List (List Nat) → Nat → List Nat → Store := fun m ss rd dl => (X3 S rm rs ra (encM C rm m) (sinR rs ss) (tmpR (.lst (acts.map encAct)))).setR rd (tmpR (.lst (dl.map fun k : Nat => .int k)))
  have w_m : ∀ m ss rd dl, rm ≠ rd → Wm m ss rd dl rm = encM C rm m := fun m ss rd dl h => by show Store.setR _ _ _ rm = _; rw [setR_ne h, x3_a nms nma]
  have w_s : ∀ m ss rd dl, rs ≠ rd → Wm m ss rd dl rs = sinR rs ss := fun m ss rd dl h => by show Store.setR _ _ _ rs = _; rw [setR_ne h, x3_b nsa]
  have w_a : ∀ m ss rd dl, ra ≠ rd → Wm m ss rd dl ra = tmpR (.lst (acts.map encAct)) := fun m ss rd dl h => by show Store.setR _ _ _ ra = _; rw [setR_ne h, x3_c]
  have w_d : ∀ m ss rd dl, Wm m ss rd dl rd .tmp = some (.lst (dl.map fun k : Nat => .int k)) := fun m ss rd dl => by show Store.setR _ _ _ rd .tmp = _; rw [tmp_at]
  refine ⟨fun i env S' => ∃ v5 rd m ss, env = [some (.rol ns), some (.tup (coins.map D.int)), some (.loc rm .mI), some (.loc rd .tmp), some (.loc rs (.x0 0)), v5, none, none, none, none, none, none, none, none] ∧ AllI coins i m ∧ SinI ss m ∧ (rm ≠ rd ∧ rs ≠ rd ∧ ra ≠ rd ∧ ∀ f, S rd f = none) ∧ S' = Wm m ss rd (doneL m), .here ⟨none, rd0, newM coins, [], rfl, allI_new c2 c5, ⟨rfl, fun k e l hk => by simp at hk⟩, ⟨nmd0, nsd0, Ne.symm nd0a, Sd0⟩, ?_⟩, ?_, ?_⟩
  · show (((S.setR rm _).setR rd0 _).setR rs _).setR ra _ = (((S.setR rm _).setR rs _).setR ra _).setR rd0 _
    rw [setR_comm (Ne.symm nsd0), setR_comm nd0a]; rfl
  · rintro i d env S' hd ⟨v5, rd, m, ss, rfl, ai, si, ⟨nmd, nsd, nad, Sd⟩, rfl⟩
    rw [List.getElem?_map] at hd
    cases ea : acts[i]? with
    | none => rw [ea] at hd; cases hd
    | some act =>
    rw [ea] at hd; cases hd
    have hmem := List.mem_of_getElem? ea
    have hi : i < acts.length := (List.getElem?_eq_some_iff.mp ea).1
    have hA : ActOk m.n act := by rw [ai.iv.en]; exact ha0 _ hmem
    refine ⟨by show _ = _; rw [w_a _ _ _ _ nad, tmpR_tmp], ?_⟩
    have ai' := allI_step ai (ha0 _ hmem) (hp0 _ hmem)
    -- the act, and which are done then
    have rest : ∀ ss', SinI ss' (stepM m act).2 → rSeq (rDrop (rDef (sp_law_do C) (rCons (rVar 2) (rCons (rVar 5) rNil)))) (rSet 3 (rLc (newF .tmp) (iRng (rCons (rCall dLen (rCons (rVar 4) rNil)) rNil)) (.nm 6) (rTest (rMeth C.m "is_done" (sp_Market_is_done C) (rVar 2) (rCons (rVar 6) rNil))) (rVar 6)))
        { ends0 Q with nx := fun e s => Wk ((fun i env S' => ∃ v5 rd m ss, env = [some (.rol ns), some (.tup (coins.map D.int)), some (.loc rm .mI), some (.loc rd .tmp), some (.loc rs (.x0 0)), v5, none, none, none, none, none, none, none, none] ∧ AllI coins i m ∧ SinI ss m ∧ (rm ≠ rd ∧ rs ≠ rd ∧ ra ≠ rd ∧ ∀ f, S rd f = none) ∧ S' = Wm m ss rd (doneL m)) (i + 1) e) s, ct := fun e s => Wk ((fun i env S' => ∃ v5 rd m ss, env = [some (.rol ns), some (.tup (coins.map D.int)), some (.loc rm .mI), some (.loc rd .tmp), some (.loc rs (.x0 0)), v5, none, none, none, none, none, none, none, none] ∧ AllI coins i m ∧ SinI ss m ∧ (rm ≠ rd ∧ rs ≠ rd ∧ ra ≠ rd ∧ ∀ f, S rd f = none) ∧ S' = Wm m ss rd (doneL m)) (i + 1) e) s, bk := fun e s => Wk (rSeq (rSet 7 (rMeth0 C.m "log" (sp_Market_log C) (rVar 2))) (rSeq (rFor (iLst (rVar 3)) (.nm 6) (rSeq (rSet 8 (rDef (sp_law_within C) (rCons (rVar 7) (rCons (rMeth C.m "cut_of" (sp_Market_cut_of C) (rVar 2) (rCons (rVar 6) rNil)) rNil)))) (rSeq (rFor (iLst (rVar 8)) (.nm 9) (rIf (rNot (rTest (rCall dAll (rCons (rLc (newF .tmp) (iRng (rCons (rCall dLen (rCons (rVar 7) rNil)) rNil)) (.nm 10) (rTest (rMeth C.m "ahead" (sp_Market_ahead C) (rVar 2) (rCons (rVar 10) (rCons (rVar 9) rNil)))) (rOp oInD (rVar 10) (rVar 8))) rNil)))) (rRet (rC (.bl false))) rNext)) (rFor (iLst (rOp ixD (rVar 4) (rVar 6))) (.nm 11) (rIf (rNot (rTest (rCall dAll (rCons (rLc (newF .tmp) (iZp (rCons (rMeth C.m "cut_of" (sp_Market_cut_of C) (rVar 2) (rCons (rVar 11) rNil)) (rCons (rMeth C.m "cut_of" (sp_Market_cut_of C) (rVar 2) (rCons (rVar 6) rNil)) rNil))) (.tp [12, 13]) rYes (rOp oLe (rVar 12) (rVar 13))) rNil)))) (rRet (rC (.bl false))) rNext))))) (rRet (rC (.bl true)))) (ends0 Q) e) s }
        [some (.rol ns), some (.tup (coins.map D.int)), some (.loc rm .mI), some (.loc rd .tmp), some (.loc rs (.x0 0)), some (encAct act), none, none, none, none, none, none, none, none] (Wm m ss' rd (doneL m)) := by
      intro ss' si'
      refine ⟨_, rfl, _, rfl, rm, m, act, rfl, w_m _ _ _ _ nmd, ai.iv.ok (by omega), hA, .here ?_⟩
      generalize hm' : (stepM m act).2 = m' at ai' si' ⊢
      have eW : (Wm m ss' rd (doneL m)).setR rm (encM C rm m') = Wm m' ss' rd (doneL m) := by
        show Store.setR (Store.setR _ _ _) _ _ = Store.setR _ _ _
        rw [setR_comm (Ne.symm nmd), x3_pa nms nma]
      rw [eW]
      have hsl := ai'.iv.shots
      refine ⟨_, rfl, _, (List.range ss'.length).map (fun j => .loc rs (.x0 (j + 1))), rfl, by show _ = _; rw [w_s _ _ _ _ nsd]; rfl, _, rfl, ?_⟩
      rw [List.length_map, List.length_range, si'.1]
      refine ⟨by omega, by omega, ?_⟩
      have hfin := read_law_done (K := K) (C := C) [.loc rm .mI, .int m'.shots.length] (Wm m' ss' rd (doneL m)) (fun d S1 => ∃ r2, d = .loc r2 .tmp ∧ (∀ f, Wm m' ss' rd (doneL m) r2 f = none) ∧ S1 = (Wm m' ss' rd (doneL m)).setR r2 (tmpR (.lst ((doneL m').map fun k : Nat => .int k)))) (fun _ _ => True) ⟨rm, m', rfl, w_m _ _ _ _ nmd, by omega, fun r2 hr2 => ⟨r2, rfl, hr2, rfl⟩⟩
      refine lcb_tmp (fun d => match d with | .int k => if doneS (m'.shots.getD k.toNat (newSh 0)) = true then some (.int k) else none | _ => none) ?_ ?_ ?_ ?_
      · rw [List.length_map, List.length_range]; exact szl _ (by show m'.shots.length ≤ _; omega)
      · intro r2 hr2 ds; trivial
      · intro r2 hr2 j x ds P N hx hP hN
        obtain ⟨hj, rfl⟩ := rng_is (n := m'.shots.length) hx
        have nr2 : rm ≠ r2 := ne_fresh hr2 (f := .mI) (by rw [w_m _ _ _ _ nmd]; exact encM_live)
        have hX : ((Wm m' ss' rd (doneL m)).setR r2 (tmpR (.lst ds))) rm = encM C rm m' := by rw [setR_ne nr2]; exact w_m _ _ _ _ nmd
        have hs : m'.shots[j]? = some (m'.shots.getD j (newSh 0)) := getD_at hj _
        have hsh : shOf m' (j : Int) = some (m'.shots.getD j (newSh 0)) := by unfold shOf; rw [if_pos (by omega)]; simpa using hs
        refine ⟨_, rfl, rm, .mI, _, rfl, by rw [hX]; rfl, rfl, _, rfl, rm, m', j, rfl, hX, (fun e => by rw [hsh] at e; cases e), fun s e => ?_⟩
        rw [hsh] at e; cases e
        refine ⟨_, rfl, ?_⟩
        cases hd : doneS (m'.shots.getD j (newSh 0)) with
        | true => exact iteT ⟨_, rfl, hP _ _ (by simp only [Int.toNat_natCast, hd, if_true]) .refl⟩
        | false => exact iteF (hN (by simp only [Int.toNat_natCast, hd, Bool.false_eq_true, if_false]))
      · intro r2 hr2
        have e : ((List.range m'.shots.length).map fun i : Nat => D.int (i : Int)).filterMap (fun d => match d with | .int k => if doneS (m'.shots.getD k.toNat (newSh 0)) = true then some (D.int k) else none | _ => none) = (doneL m').map fun k : Nat => .int k := by
          unfold doneL
          generalize List.range m'.shots.length = l
          induction l with
          | nil => rfl
          | cons k l ih =>
            rw [List.map_cons, List.filterMap_cons, ih]
            by_cases hd : doneS (m'.shots.getD k (newSh 0)) = true
            · rw [List.filter_cons_of_pos (by exact hd), List.map_cons]
              simp only [Int.toNat_natCast, hd, if_true]
            · rw [List.filter_cons_of_neg (by exact hd)]
              simp only [Int.toNat_natCast, hd, Bool.false_eq_true, if_false]
        have e' : ((List.range ((m'.shots.length : Int)).toNat).map fun i : Nat => D.int (i : Int)).filterMap (fun d => match d with | .int k => if doneS (m'.shots.getD k.toNat (newSh 0)) = true then some (D.int k) else none | _ => none) = (doneL m').map fun k : Nat => .int k := e
        rw [e']
        have n2m : rm ≠ r2 := ne_fresh hr2 (f := .mI) (by rw [w_m _ _ _ _ nmd]; exact encM_live)
        have n2s : rs ≠ r2 := ne_fresh hr2 (f := .x0 0) (by rw [w_s _ _ _ _ nsd]; simp [sinR])
        have n2a : ra ≠ r2 := ne_fresh hr2 (f := .tmp) (by rw [w_a _ _ _ _ nad]; simp [tmpR])
        have n2d : r2 ≠ rd := fun z => by have := hr2 .tmp; rw [z, w_d] at this; cases this
        have S2 : ∀ f, S r2 f = none := fun f => by
          have := hr2 f
          have h' : ((X3 S rm rs ra (encM C rm m') (sinR rs ss') (tmpR (.lst (acts.map encAct)))).setR rd (tmpR (.lst ((doneL m).map fun k : Nat => .int k)))) r2 f = none := this
          unfold X3 at h'
          rwa [setR_ne n2d, setR_ne (Ne.symm n2a), setR_ne (Ne.symm n2s), setR_ne (Ne.symm n2m)] at h'
        refine ⟨Wm m' ss' r2 (doneL m'), ?_, _, r2, m', ss', rfl, ai', si', ⟨n2m, n2s, n2a, S2⟩, rfl⟩
        show Sub (Store.setR _ r2 _) (Store.setR (Store.setR _ rd _) r2 _)
        refine sub_set (sub_drop fun f => ?_)
        unfold X3
        rw [setR_ne (Ne.symm nad), setR_ne (Ne.symm nsd), setR_ne (Ne.symm nmd)]; exact Sd f
    cases act with
    | begin a =>
      refine ⟨_, rfl, .inl ⟨_, _, _, rfl, rfl, rfl, _, rfl, _, rfl, iteT ?_⟩⟩
      have hS : Wm m ss rd (doneL m) rs = sinR rs ss := w_s _ _ _ _ nsd
      have hln : ss.length ≤ 61 := by rw [si.1]; have := ai.iv.shots; omega
      refine ⟨_, rfl, ⟨_, by show _ = _; rw [hS]; rfl⟩, _, rfl, _, (doneL m).map (fun k : Nat => .int k), rfl, w_d _ _ _ _, rs, .x0 (ss.length + 1), by rw [hS]; show (ss[ss.length]?).map _ = none; rw [List.getElem?_eq_none (Nat.le_refl _)]; rfl, ⟨.x0 0, by rw [hS]; simp [sinR]⟩, rs, .x0 0, (List.range ss.length).map (fun j => .loc rs (.x0 (j + 1))), _, rfl, rfl, by rw [set_nf (by simp), hS]; rfl, ?_, .here ?_⟩
      · rw [List.length_map, List.length_range]; exact szl _ (by omega)
      · have eW : ((Wm m ss rd (doneL m)).set rs (.x0 (ss.length + 1)) (.lst ((doneL m).map fun k : Nat => .int k))).set rs (.x0 0) (.lst ((List.range ss.length).map (fun j => D.loc rs (.x0 (j + 1))) ++ [.loc rs (.x0 (ss.length + 1))])) = Wm m (ss ++ [doneL m]) rd (doneL m) := by
          rw [set_R (f := .x0 (ss.length + 1)), hS]
          have e1 : ∀ g, (Wm m ss rd (doneL m)).setR rs g = (X3 S rm rs ra (encM C rm m) g (tmpR (.lst (acts.map encAct)))).setR rd (tmpR (.lst ((doneL m).map fun k : Nat => .int k))) := fun g => by
            show Store.setR (Store.setR _ _ _) _ _ = _
            rw [setR_comm (Ne.symm nsd), x3_pb nsa]
          rw [set_R, setR_same, setR_setR, e1, sin_put]
        rw [eW]
        exact rest _ (sin_begin ai si hA)
    | take a b =>
      exact ⟨_, rfl, .inl ⟨_, _, _, rfl, rfl, rfl, _, rfl, _, rfl, iteF (.here (rest ss (sin_step ai si hA rfl)))⟩⟩
    | give a b x =>
      exact ⟨_, rfl, .inl ⟨_, _, _, rfl, rfl, rfl, _, rfl, _, rfl, iteF (.here (rest ss (sin_step ai si hA rfl)))⟩⟩
  rintro env S' ⟨v5, rd, m, ss, rfl, ai0, si, ⟨nmd, nsd, nad, Sd⟩, rfl⟩
  rw [List.length_map] at ai0
  have ai := ai0.more hl0
  refine ⟨by show _ = _; rw [w_a _ _ _ _ nad, tmpR_tmp], .here ?_⟩
  have hfinS : Sub S (Wm m ss rd (doneL m)) := by
    refine Sub.trans ?_ (sub_drop fun f => ?_)
    · refine ((sub_drop (g := encM C rm m) hrm).trans ?_).trans (sub_drop fun f => ?_)
      · exact sub_drop fun f => by rw [setR_ne (Ne.symm nms)]; exact Ss f
      · rw [setR_ne (Ne.symm nsa), setR_ne (Ne.symm nma)]; exact Sa f
    · unfold X3
      rw [setR_ne (Ne.symm nad), setR_ne (Ne.symm nsd), setR_ne (Ne.symm nmd)]; exact Sd f
  generalize hX : Wm m ss rd (doneL m) = X at hfinS
  have Xm : X rm = encM C rm m := by rw [← hX]; exact w_m _ _ _ _ nmd
  have Xs : X rs = sinR rs ss := by rw [← hX]; exact w_s _ _ _ _ nsd
  have Xd : X rd .tmp = some (.lst ((doneL m).map fun k : Nat => .int k)) := by rw [← hX]; exact w_d _ _ _ _
  have XI : X rm .mI = some (.ins C.m (mFs rm m.n)) := by rw [Xm]; rfl
  have n5 := ai.iv.wf.n5
  have htl := ai.iv.told
  refine ⟨_, rfl, rm, .mI, _, rfl, XI, rfl, rm, m, rfl, Xm, .here ?_⟩
  -- a picture's cut is asked for
  have cutA : ∀ {k : Nat} {s : Sh}, m.shots[k]? = some s → doneS s = true → ∀ (Y : Store) (env : LEnv) (j : Nat) (P : QD) (Ex : XD), Y rm = encM C rm m → env[2]? = some (some (.loc rm .mI)) → env[j]? = some (some (.int k)) → P (.tup ((List.range m.n).map fun i => .int (cutN s i : Int))) Y → rMeth C.m "cut_of" (sp_Market_cut_of C) (rVar 2) (rCons (rVar j) rNil) env Y P Ex := by
    intro k s hs hdn Y env j P Ex hY h2 hj hP
    have hsh : shOf m (k : Int) = some s := by unfold shOf; rw [if_pos (by omega)]; simpa using hs
    have dF := done_facts ai.iv.si ai.ri ai.sl hs hdn
    refine ⟨_, h2, rm, .mI, _, rfl, by rw [hY]; rfl, rfl, _, hj, rm, m, k, rfl, hY, (fun e => by rw [hsh] at e; cases e), (fun s' e hf => by rw [hsh] at e; cases e; rw [hdn] at hf; cases hf), fun s' e _ => ?_⟩
    rw [hsh] at e; cases e
    rw [cut_tup dF (ai.iv.si.cl k s hs)]; exact hP
  refine ⟨_, rfl, _, Xd, ?_⟩
  refine ⟨fun i env S' => ∃ v6 v8 v9 v11, env = [some (.rol ns), some (.tup (coins.map D.int)), some (.loc rm .mI), some (.loc rd .tmp), some (.loc rs (.x0 0)), v5, v6, some (.tup (m.told.map encEv)), v8, v9, none, v11, none, none] ∧ X = S', .here ⟨none, none, none, none, rfl, rfl⟩, ?_, ?_⟩
  · rintro i d env S' hd ⟨v6, v8, v9, v11, rfl, rfl⟩
    obtain ⟨k, s, rfl, hs, hdn⟩ := done_mem hd
    refine ⟨Xd, ?_⟩
    have dF := done_facts ai.iv.si ai.ri ai.sl hs hdn
    refine ⟨_, rfl, cutA hs hdn X _ 6 _ _ Xm rfl rfl ⟨m.n, m.told, cutN s, rfl, n5, ai.ri.ev, by omega, fun rw hrw => .here ?_⟩⟩
    have nmw : rm ≠ rw := ne_fresh hrw (f := .mI) (by rw [XI]; simp)
    have nsw : rs ≠ rw := ne_fresh hrw (f := .x0 0) (by rw [Xs]; simp [sinR])
    generalize hY : X.setR rw (tmpR (.lst ((withinL (cutN s) m.told).map fun k : Nat => .int k))) = Y
    have Ym : Y rm = encM C rm m := by rw [← hY, setR_ne nmw]; exact Xm
    have Ys : Y rs = sinR rs ss := by rw [← hY, setR_ne nsw]; exact Xs
    have Yw : Y rw .tmp = some (.lst ((withinL (cutN s) m.told).map fun k : Nat => .int k)) := by rw [← hY, tmp_at]
    refine ⟨_, rfl, _, Yw, ?_⟩
    refine ⟨fun j env S' => ∃ v9, env = [some (.rol ns), some (.tup (coins.map D.int)), some (.loc rm .mI), some (.loc rd .tmp), some (.loc rs (.x0 0)), v5, some (.int k), some (.tup (m.told.map encEv)), some (.loc rw .tmp), v9, none, v11, none, none] ∧ Y = S', .here ⟨v9, rfl, rfl⟩, ?_, ?_⟩
    · rintro j d env S' hd' ⟨w9, rfl, rfl⟩
      refine ⟨Yw, ?_⟩
      rw [List.getElem?_map] at hd'
      cases ew : (withinL (cutN s) m.told)[j]? with
      | none => rw [ew] at hd'; cases hd'
      | some p =>
      rw [ew] at hd'; cases hd'
      have hpm := List.mem_of_getElem? ew
      unfold withinL at hpm
      obtain ⟨hp1, hp2⟩ := List.mem_filter.mp hpm
      have hpl := List.mem_range.mp hp1
      have hpc := inCutB_iff.mp hp2
      refine ⟨_, rfl, _, _, rfl, rfl, _, rfl, ?_⟩
      rw [List.length_map]
      refine ⟨by omega, by omega, ?_⟩
      refine lcb_tmp (fun d => match d with | .int q => (if aheadB m q.toNat p (who (m.told.getD q.toNat ⟨true, 0, 0, 0⟩)) = true then some (.bl true) else none) | _ => none) ?_ ?_ ?_ ?_
      · rw [List.length_map, List.length_range]; exact szl _ (by show m.told.length ≤ _; omega)
      · intro r2 hr2 ds; trivial
      · intro r2 hr2 q x ds P N hx hP hN
        obtain ⟨hq, rfl⟩ := rng_is (n := m.told.length) hx
        have nr2 : rm ≠ r2 := ne_fresh hr2 (f := .mI) (by rw [Ym]; exact encM_live)
        have nw2 : rw ≠ r2 := ne_fresh hr2 (f := .tmp) (by rw [Yw]; simp)
        have hZ : (Y.setR r2 (tmpR (.lst ds))) rm = encM C rm m := by rw [setR_ne nr2]; exact Ym
        have hf : m.told[q]? = some (m.told.getD q ⟨true, 0, 0, 0⟩) := getD_at hq _
        have eq1 : EIn m (q : Int) := ⟨by omega, by omega⟩
        have ep1 : EIn m (p : Int) := ⟨by omega, by omega⟩
        refine ⟨_, rfl, rm, .mI, _, rfl, by rw [hZ]; rfl, rfl, _, rfl, _, rfl, rm, m, q, p, rfl, hZ, ai.iv.wf, ai.ri.ev, (fun z => by rcases z with z | z; exact absurd eq1 z; exact absurd ep1 z), fun f _ _ hf' => ?_⟩
        have hf2 : m.told[q]? = some f := by simpa using hf'
        rw [hf] at hf2; cases hf2
        refine ⟨_, rfl, ?_⟩
        simp only [Int.toNat_natCast]
        cases ha : aheadB m q p (who (m.told.getD q ⟨true, 0, 0, 0⟩)) with
        | true =>
          have hmv := (ahead_mv ai.iv.wf ai.ri.ev ai.ci hf hpl).mp ha
          have hin := cut_mv ai.ri.run dF.ok hmv hpc
          have hmem : q ∈ withinL (cutN s) m.told := List.mem_filter.mpr ⟨List.mem_range.mpr hq, inCutB_iff.mpr hin⟩
          exact iteT ⟨_, rfl, _, rfl, in_nats (l := withinL (cutN s) m.told) (by rw [setR_ne nw2]; exact Yw) hmem (hP _ _ (by simp only [Int.toNat_natCast, ha, if_true]) .refl)⟩
        | false => exact iteF (hN (by simp only [Int.toNat_natCast, ha, Bool.false_eq_true, if_false]))
      · intro r2 hr2
        have hbs : ∃ bs : List Bool, (((List.range (m.told.length : Int).toNat).map fun i : Nat => D.int (i : Int)).filterMap (fun d => match d with | .int q => (if aheadB m q.toNat p (who (m.told.getD q.toNat ⟨true, 0, 0, 0⟩)) = true then some (D.bl true) else none) | _ => none)) = bs.map D.bl ∧ bs.all id = true := by
          generalize List.range (m.told.length : Int).toNat = l
          induction l with
          | nil => exact ⟨[], rfl, rfl⟩
          | cons q l ih =>
            obtain ⟨bs, h1, h2⟩ := ih
            rw [List.map_cons, List.filterMap_cons]
            by_cases hb : aheadB m q p (who (m.told.getD q ⟨true, 0, 0, 0⟩)) = true
            · simp only [Int.toNat_natCast, hb, if_true]
              exact ⟨true :: bs, by rw [h1]; rfl, by rw [List.all_cons, h2]; rfl⟩
            · simp only [Int.toNat_natCast, hb, if_false]
              exact ⟨bs, h1, h2⟩
        obtain ⟨bs, hb1, hb2⟩ := hbs
        rw [hb1]
        refine ⟨_, bs, rfl, by show _ = _; rw [tmp_at], ?_⟩
        rw [hb2]
        exact ⟨_, rfl, iteF ⟨Y, sub_drop hr2, _, rfl, rfl⟩⟩
    rintro env S' ⟨w9, rfl, rfl⟩
    refine ⟨Yw, .here ?_⟩
    -- those that were done as it was begun
    have hks : k < ss.length := by rw [si.1]; exact (List.getElem?_eq_some_iff.mp hs).1
    have hlk : ss[k]? = some ss[k] := List.getElem?_eq_getElem hks
    have Yk : Y rs (.x0 (k + 1)) = some (.lst ((ss[k]).map fun k : Nat => .int k)) := by rw [Ys]; show (ss[k]?).map _ = _; rw [hlk]; rfl
    refine ⟨_, rfl, _, rfl, .inl ⟨(List.range ss.length).map (fun j => .loc rs (.x0 (j + 1))), _, .loc rs (.x0 (k + 1)), by show _ = _; rw [Ys]; rfl, rfl, atI_nat (by rw [List.getElem?_map, List.getElem?_range hks]; rfl), _, Yk, ?_⟩⟩
    refine ⟨fun j env S' => ∃ v11, env = [some (.rol ns), some (.tup (coins.map D.int)), some (.loc rm .mI), some (.loc rd .tmp), some (.loc rs (.x0 0)), v5, some (.int k), some (.tup (m.told.map encEv)), some (.loc rw .tmp), w9, none, v11, none, none] ∧ Y = S', .here ⟨v11, rfl, rfl⟩, ?_, ?_⟩
    · rintro j d env S' hd' ⟨w11, rfl, rfl⟩
      refine ⟨Yk, ?_⟩
      rw [List.getElem?_map] at hd'
      cases ew : (ss[k])[j]? with
      | none => rw [ew] at hd'; cases hd'
      | some p =>
      rw [ew] at hd'; cases hd'
      obtain ⟨sp, sk, g1, g2, g3, g4⟩ := si.2 k p _ hlk (List.mem_of_getElem? ew)
      rw [hs] at g2; cases g2
      have hall := (done_all hdn (ai.iv.si.wl k s hs)).1
      refine cutA g1 g3 Y _ 11 _ _ Ym rfl rfl (cutA hs hdn Y _ 6 _ _ Ym rfl rfl ⟨_, _, _, _, rfl, rfl, rfl, ?_⟩)
      have ep : pairD ((List.range m.n).map fun i => D.int (cutN sp i : Int)) ((List.range m.n).map fun i => D.int (cutN s i : Int)) = (List.range m.n).map fun i => D.tup [.int (cutN sp i : Int), .int (cutN s i : Int)] := by
        unfold pairD
        rw [List.zip_map', List.map_map]; rfl
      rw [ep]
      refine lcb_map (fun _ => .bl true) ?_ ?_ ?_ ?_
      · rw [List.length_map, List.length_range]; exact szl _ (by omega)
      · intro r2 hr2 ds; exact ⟨rfl, rfl⟩
      · intro r2 hr2 q x ds P hx hP
        rw [List.getElem?_map] at hx
        cases er : (List.range m.n)[q]? with
        | none => rw [er] at hx; cases hx
        | some y =>
          rw [er] at hx; cases hx
          have hy : y < m.n := List.mem_range.mp (List.mem_of_getElem? er)
          have hle := g4 y hy (hall y hy)
          refine ⟨_, rfl, rfl, _, rfl, _, rfl, _, _, rfl, rfl, ?_⟩
          show P (.bl (decide ((cutN sp y : Int) ≤ (cutN s y : Int)))) _
          rw [decide_eq_true (by omega)]
          exact hP _ .refl
      · intro r2 hr2
        refine ⟨_, (List.range m.n).map (fun _ => true), rfl, by show _ = _; rw [tmp_at, List.map_map, List.map_map]; rfl, ?_⟩
        have ea : ((List.range m.n).map fun _ => true).all id = true := by simp
        rw [ea]
        exact ⟨_, rfl, iteF ⟨Y, sub_drop hr2, _, rfl, rfl⟩⟩
    · rintro env S' ⟨w11, rfl, rfl⟩
      refine ⟨Yk, ⟨X, ?_, _, _, _, _, rfl, rfl⟩⟩
      rw [← hY]; exact sub_drop hrw
  · rintro env S' ⟨v6, v8, v9, v11, rfl, rfl⟩
    exact ⟨Xd, .here ⟨S, hfinS, q⟩⟩
end SS
namespace SSK11
open PySem L2 SS PyProof.Rows
def top (i : Nat) : Stmt := PySem.Challenge.pw_stillshot_k11_whole_cuts_hold_causes.main.body.getD i (.Pass ⟨0, 0, 0, 0⟩)
abbrev s_law_cell : Stmt := top 14
abbrev s_law_mix : Stmt := top 15
abbrev s_law_coins : Stmt := top 16
abbrev s_law_act : Stmt := top 17
abbrev s_law_acts : Stmt := top 18
abbrev s_law_pairs : Stmt := top 20
abbrev s_Events_init : Stmt := clsSt (top 10) 0
abbrev s_Events_add : Stmt := clsSt (top 10) 1
abbrev s_Events_count : Stmt := clsSt (top 10) 2
abbrev s_Events_member_of : Stmt := clsSt (top 10) 3
abbrev s_Events_ahead : Stmt := clsSt (top 10) 4
abbrev s_Shot_init : Stmt := clsSt (top 8) 0
abbrev s_Shot_has_written : Stmt := clsSt (top 8) 1
abbrev s_Shot_write : Stmt := clsSt (top 8) 2
abbrev s_Shot_parcel : Stmt := clsSt (top 8) 3
abbrev s_Shot_leave : Stmt := clsSt (top 8) 4
abbrev s_Shot_is_done : Stmt := clsSt (top 8) 5
abbrev s_Market_init : Stmt := clsSt (top 12) 0
abbrev s_Market_give : Stmt := clsSt (top 12) 1
abbrev s_Market_parcel : Stmt := clsSt (top 12) 3
abbrev s_Market_write : Stmt := clsSt (top 12) 5
abbrev s_Market_mark : Stmt := clsSt (top 12) 4
abbrev s_Market_take : Stmt := clsSt (top 12) 2
abbrev s_Market_begin : Stmt := clsSt (top 12) 15
abbrev s_Market_log : Stmt := clsSt (top 12) 9
abbrev s_Market_must_be : Stmt := clsSt (top 12) 10
abbrev s_Market_ahead : Stmt := clsSt (top 12) 12
abbrev s_Market_shot_of : Stmt := clsSt (top 12) 16
abbrev s_Market_is_done : Stmt := clsSt (top 12) 17
abbrev s_Market_cut_of : Stmt := clsSt (top 12) 19
abbrev s_law_do : Stmt := top 19
abbrev s_law_member : Stmt := top 21
abbrev s_law_within : Stmt := top 24
abbrev s_law : Stmt := top 25
structure Txt (K : PySem.W.Frag) (mg : Str → Option Value) (C : Cl) : Prop where
  fr_len : mg "len" = none
  fr_tuple : mg "tuple" = none
  fr_range : mg "range" = none
  cl_e : Cls K C.e
  na_e_many : NoAttr K C.e "many"
  na_e_told : NoAttr K C.e "told"
  na_e_stamps : NoAttr K C.e "stamps"
  na_e_times : NoAttr K C.e "times"
  na_e_last : NoAttr K C.e "last"
  fr_zip : mg "zip" = none
  fr_max : mg "max" = none
  cl_s : Cls K C.s
  na_s_many : NoAttr K C.s "many"
  na_s_written : NoAttr K C.s "written"
  na_s_cut : NoAttr K C.s "cut"
  na_s_watched : NoAttr K C.s "watched"
  na_s_lying : NoAttr K C.s "lying"
  cl_m : Cls K C.m
  na_m_many : NoAttr K C.m "many"
  na_m_purses : NoAttr K C.m "purses"
  fr_list : mg "list" = none
  na_m_roads : NoAttr K C.m "roads"
  na_m_events : NoAttr K C.m "events"
  mg_Events : mg "Events" = some (.ref C.e)
  na_m_shots : NoAttr K C.m "shots"
  ex_NoCoins : PySem.W.excIn K C.noCoins HandSPX.veTail "ValueError.__new__" = true
  mg_NoCoins : mg "NoCoins" = some (.ref C.noCoins)
  kx_NoCoins : PySem.W.keepIn K (.ref C.noCoins) = true
  bx_NoCoins : PySem.W.subIn K (.ref C.noCoins) (.type "BaseException") = some true
  tx_NoCoins : PySem.W.typeIn K (.ref C.noCoins) = some (.type "type")
  mg_Shot : mg "Shot" = some (.ref C.s)
  ex_NoEvent : PySem.W.excIn K C.noEvent HandSPX.veTail "ValueError.__new__" = true
  mg_NoEvent : mg "NoEvent" = some (.ref C.noEvent)
  kx_NoEvent : PySem.W.keepIn K (.ref C.noEvent) = true
  bx_NoEvent : PySem.W.subIn K (.ref C.noEvent) (.type "BaseException") = some true
  tx_NoEvent : PySem.W.typeIn K (.ref C.noEvent) = some (.type "type")
  ex_NoPicture : PySem.W.excIn K C.noPicture HandSPX.veTail "ValueError.__new__" = true
  mg_NoPicture : mg "NoPicture" = some (.ref C.noPicture)
  kx_NoPicture : PySem.W.keepIn K (.ref C.noPicture) = true
  bx_NoPicture : PySem.W.subIn K (.ref C.noPicture) (.type "BaseException") = some true
  tx_NoPicture : PySem.W.typeIn K (.ref C.noPicture) = some (.type "type")
  ex_NotDone : PySem.W.excIn K C.notDone HandSPX.veTail "ValueError.__new__" = true
  mg_NotDone : mg "NotDone" = some (.ref C.notDone)
  kx_NotDone : PySem.W.keepIn K (.ref C.notDone) = true
  bx_NotDone : PySem.W.subIn K (.ref C.notDone) (.type "BaseException") = some true
  tx_NotDone : PySem.W.typeIn K (.ref C.notDone) = some (.type "type")
  fr_enumerate : mg "enumerate" = none
  mg_Market : mg "Market" = some (.ref C.m)
  fr_all : mg "all" = none
  xm_NoCoins : PySem.W.exmOne K (.ref C.noCoins) (.ref C.noCoins) = some true
  d_law_cell : ∃ f fd, mg "_law_cell" = some (.ref f) ∧ FnD K "_law_cell" "_law_cell" (defArgs s_law_cell) (defBody s_law_cell) (defScope s_law_cell) f fd
  d_law_mix : ∃ f fd, mg "_law_mix" = some (.ref f) ∧ FnD K "_law_mix" "_law_mix" (defArgs s_law_mix) (defBody s_law_mix) (defScope s_law_mix) f fd
  d_law_coins : ∃ f fd, mg "_law_coins" = some (.ref f) ∧ FnD K "_law_coins" "_law_coins" (defArgs s_law_coins) (defBody s_law_coins) (defScope s_law_coins) f fd
  d_law_act : ∃ f fd, mg "_law_act" = some (.ref f) ∧ FnD K "_law_act" "_law_act" (defArgs s_law_act) (defBody s_law_act) (defScope s_law_act) f fd
  d_law_acts : ∃ f fd, mg "_law_acts" = some (.ref f) ∧ FnD K "_law_acts" "_law_acts" (defArgs s_law_acts) (defBody s_law_acts) (defScope s_law_acts) f fd
  d_law_pairs : ∃ f fd, mg "_law_pairs" = some (.ref f) ∧ FnD K "_law_pairs" "_law_pairs" (defArgs s_law_pairs) (defBody s_law_pairs) (defScope s_law_pairs) f fd
  d_Events_init : ∃ f fd, Mk K C.e f ∧ FnD K "__init__" "Events.__init__" (defArgs s_Events_init) (defBody s_Events_init) (defScope s_Events_init) f fd
  d_Events_add : ∃ f fd, Meth K C.e "add" f ∧ FnD K "add" "Events.add" (defArgs s_Events_add) (defBody s_Events_add) (defScope s_Events_add) f fd
  d_Events_count : ∃ f fd, Meth K C.e "count" f ∧ FnD K "count" "Events.count" (defArgs s_Events_count) (defBody s_Events_count) (defScope s_Events_count) f fd
  d_Events_member_of : ∃ f fd, Meth K C.e "member_of" f ∧ FnD K "member_of" "Events.member_of" (defArgs s_Events_member_of) (defBody s_Events_member_of) (defScope s_Events_member_of) f fd
  d_Events_ahead : ∃ f fd, Meth K C.e "ahead" f ∧ FnD K "ahead" "Events.ahead" (defArgs s_Events_ahead) (defBody s_Events_ahead) (defScope s_Events_ahead) f fd
  d_Shot_init : ∃ f fd, Mk K C.s f ∧ FnD K "__init__" "Shot.__init__" (defArgs s_Shot_init) (defBody s_Shot_init) (defScope s_Shot_init) f fd
  d_Shot_has_written : ∃ f fd, Meth K C.s "has_written" f ∧ FnD K "has_written" "Shot.has_written" (defArgs s_Shot_has_written) (defBody s_Shot_has_written) (defScope s_Shot_has_written) f fd
  d_Shot_write : ∃ f fd, Meth K C.s "write" f ∧ FnD K "write" "Shot.write" (defArgs s_Shot_write) (defBody s_Shot_write) (defScope s_Shot_write) f fd
  d_Shot_parcel : ∃ f fd, Meth K C.s "parcel" f ∧ FnD K "parcel" "Shot.parcel" (defArgs s_Shot_parcel) (defBody s_Shot_parcel) (defScope s_Shot_parcel) f fd
  d_Shot_leave : ∃ f fd, Meth K C.s "leave" f ∧ FnD K "leave" "Shot.leave" (defArgs s_Shot_leave) (defBody s_Shot_leave) (defScope s_Shot_leave) f fd
  d_Shot_is_done : ∃ f fd, Meth K C.s "is_done" f ∧ FnD K "is_done" "Shot.is_done" (defArgs s_Shot_is_done) (defBody s_Shot_is_done) (defScope s_Shot_is_done) f fd
  d_Market_init : ∃ f fd, Mk K C.m f ∧ FnD K "__init__" "Market.__init__" (defArgs s_Market_init) (defBody s_Market_init) (defScope s_Market_init) f fd
  d_Market_give : ∃ f fd, Meth K C.m "give" f ∧ FnD K "give" "Market.give" (defArgs s_Market_give) (defBody s_Market_give) (defScope s_Market_give) f fd
  d_Market_parcel : ∃ f fd, Meth K C.m "parcel" f ∧ FnD K "parcel" "Market.parcel" (defArgs s_Market_parcel) (defBody s_Market_parcel) (defScope s_Market_parcel) f fd
  d_Market_write : ∃ f fd, Meth K C.m "write" f ∧ FnD K "write" "Market.write" (defArgs s_Market_write) (defBody s_Market_write) (defScope s_Market_write) f fd
  d_Market_mark : ∃ f fd, Meth K C.m "mark" f ∧ FnD K "mark" "Market.mark" (defArgs s_Market_mark) (defBody s_Market_mark) (defScope s_Market_mark) f fd
  d_Market_take : ∃ f fd, Meth K C.m "take" f ∧ FnD K "take" "Market.take" (defArgs s_Market_take) (defBody s_Market_take) (defScope s_Market_take) f fd
  d_Market_begin : ∃ f fd, Meth K C.m "begin" f ∧ FnD K "begin" "Market.begin" (defArgs s_Market_begin) (defBody s_Market_begin) (defScope s_Market_begin) f fd
  d_Market_log : ∃ f fd, Meth K C.m "log" f ∧ FnD K "log" "Market.log" (defArgs s_Market_log) (defBody s_Market_log) (defScope s_Market_log) f fd
  d_Market_must_be : ∃ f fd, Meth K C.m "must_be" f ∧ FnD K "must_be" "Market.must_be" (defArgs s_Market_must_be) (defBody s_Market_must_be) (defScope s_Market_must_be) f fd
  d_Market_ahead : ∃ f fd, Meth K C.m "ahead" f ∧ FnD K "ahead" "Market.ahead" (defArgs s_Market_ahead) (defBody s_Market_ahead) (defScope s_Market_ahead) f fd
  d_Market_shot_of : ∃ f fd, Meth K C.m "shot_of" f ∧ FnD K "shot_of" "Market.shot_of" (defArgs s_Market_shot_of) (defBody s_Market_shot_of) (defScope s_Market_shot_of) f fd
  d_Market_is_done : ∃ f fd, Meth K C.m "is_done" f ∧ FnD K "is_done" "Market.is_done" (defArgs s_Market_is_done) (defBody s_Market_is_done) (defScope s_Market_is_done) f fd
  d_Market_cut_of : ∃ f fd, Meth K C.m "cut_of" f ∧ FnD K "cut_of" "Market.cut_of" (defArgs s_Market_cut_of) (defBody s_Market_cut_of) (defScope s_Market_cut_of) f fd
  d_law_do : ∃ f fd, mg "_law_do" = some (.ref f) ∧ FnD K "_law_do" "_law_do" (defArgs s_law_do) (defBody s_law_do) (defScope s_law_do) f fd
  d_law_member : ∃ f fd, mg "_law_member" = some (.ref f) ∧ FnD K "_law_member" "_law_member" (defArgs s_law_member) (defBody s_law_member) (defScope s_law_member) f fd
  d_law_within : ∃ f fd, mg "_law_within" = some (.ref f) ∧ FnD K "_law_within" "_law_within" (defArgs s_law_within) (defBody s_law_within) (defScope s_law_within) f fd
  d_law : ∃ f fd, mg "law" = some (.ref f) ∧ FnD K "law" "law" (defArgs s_law) (defBody s_law) (defScope s_law) f fd
section
variable {P : Program} {w : World} {K : PySem.W.Frag} {mg : Str → Option Value} {base : Heap} {C : Cl}
theorem sc_law_cell : FnScope ["script", "k"] ["script", "k"] (defScope s_law_cell) := ⟨rfl, rfl, rfl, by decide +kernel, rfl, by decide +kernel, by decide +kernel⟩
theorem g_law_cell (T : Txt K mg C) : GFn P w K mg base CX0 1 "_law_cell" ["script", "k"] (sp_law_cell C) := by
  obtain ⟨f, fd, hm, F⟩ := T.d_law_cell
  have b : Binds K fd ["script", "k"] [] := F.bindsN fun _ _ _ _ _ _ us hl => match us, hl with | [_, _], _ => rfl
  have nd := sc_law_cell.nd
  refine ⟨f, fd, hm, F.kp, b, lfn (N := ["script", "k"]) (r := r_law_cell K C) (k := 0) F sc_law_cell (fun ds S Q Ex h => by repeat (first | exact (congrArg List.length h.1).trans rfl | obtain ⟨_, h⟩ := h)) (fun cdv A outer s H E hr => ?_) (read_law_cell)⟩
  · have tk := @takes0 (cxOf CX0 P w K mg base ["script", "k"] "_law_cell" (defScope s_law_cell) f cdv A outer s H E).nox
    have PO : PassesOwn (model P w) (cxOf CX0 P w K mg base ["script", "k"] "_law_cell" (defScope s_law_cell) f cdv A outer s H E).nox.A (cxOf CX0 P w K mg base ["script", "k"] "_law_cell" (defScope s_law_cell) f cdv A outer s H E).nox.env (cxOf CX0 P w K mg base ["script", "k"] "_law_cell" (defScope s_law_cell) f cdv A outer s H E).nox.xe := PassesOwn.never
    have hu : (A.deeper (envOfC "_law_cell" (defScope s_law_cell) s.heap.objs.size f cdv)).units + 1 < cLine := Nat.lt_of_le_of_lt (Nat.add_le_add_left (by decide) _) hr.units
    exact (lss_cons (ls_if (lt_lt (le_var 1) (le_callB call_len_seq dLen_l (by rfl) T.fr_len (by decide +kernel) (la_cons (le_var 0) la_nil))) (lss_one (ls_ret (le_ix hu (le_var 0) (le_var 1)))) lss_nil) (lss_one (ls_ret le_int)))
theorem sc_law_mix : FnScope ["cell", "prime", "many"] ["cell", "prime", "many"] (defScope s_law_mix) := ⟨rfl, rfl, rfl, by decide +kernel, rfl, by decide +kernel, by decide +kernel⟩
theorem g_law_mix (T : Txt K mg C) : GFn P w K mg base CX0 1 "_law_mix" ["cell", "prime", "many"] (sp_law_mix C) := by
  obtain ⟨f, fd, hm, F⟩ := T.d_law_mix
  have b : Binds K fd ["cell", "prime", "many"] [] := F.bindsN fun _ _ _ _ _ _ us hl => match us, hl with | [_, _, _], _ => rfl
  have nd := sc_law_mix.nd
  refine ⟨f, fd, hm, F.kp, b, lfn (N := ["cell", "prime", "many"]) (r := r_law_mix K C) (k := 0) F sc_law_mix (fun ds S Q Ex h => by repeat (first | exact (congrArg List.length h.1).trans rfl | obtain ⟨_, h⟩ := h)) (fun cdv A outer s H E hr => ?_) (read_law_mix)⟩
  · have tk := @takes0 (cxOf CX0 P w K mg base ["cell", "prime", "many"] "_law_mix" (defScope s_law_mix) f cdv A outer s H E).nox
    have PO : PassesOwn (model P w) (cxOf CX0 P w K mg base ["cell", "prime", "many"] "_law_mix" (defScope s_law_mix) f cdv A outer s H E).nox.A (cxOf CX0 P w K mg base ["cell", "prime", "many"] "_law_mix" (defScope s_law_mix) f cdv A outer s H E).nox.env (cxOf CX0 P w K mg base ["cell", "prime", "many"] "_law_mix" (defScope s_law_mix) f cdv A outer s H E).nox.xe := PassesOwn.never
    have hu : (A.deeper (envOfC "_law_mix" (defScope s_law_mix) s.heap.objs.size f cdv)).units + 1 < cLine := Nat.lt_of_le_of_lt (Nat.add_le_add_left (by decide) _) hr.units
    exact (lss_one (ls_ret (le_mod (le_mod (le_mul (le_var 0) le_int) (le_var 1)) (le_var 2))))
theorem sc_law_coins : FnScope ["script", "many", "k"] ["script"] (defScope s_law_coins) := ⟨rfl, rfl, rfl, by decide +kernel, rfl, by decide +kernel, by decide +kernel⟩
theorem g_law_coins (T : Txt K mg C) : GFn P w K mg base CX0 2 "_law_coins" ["script"] (sp_law_coins C) := by
  obtain ⟨f, fd, hm, F⟩ := T.d_law_coins
  have G_law_cell := g_law_cell (P := P) (w := w) (base := base) T
  have G_law_mix := g_law_mix (P := P) (w := w) (base := base) T
  have b : Binds K fd ["script"] [] := F.bindsN fun _ _ _ _ _ _ us hl => match us, hl with | [_], _ => rfl
  have nd := sc_law_coins.nd
  refine ⟨f, fd, hm, F.kp, b, lfn (N := ["script", "many", "k"]) (r := r_law_coins K C) (k := 1) F sc_law_coins (fun ds S Q Ex h => by repeat (first | exact (congrArg List.length h.1).trans rfl | obtain ⟨_, h⟩ := h)) (fun cdv A outer s H E hr => ?_) (read_law_coins)⟩
  · have tk := @takes0 (cxOf CX0 P w K mg base ["script", "many", "k"] "_law_coins" (defScope s_law_coins) f cdv A outer s H E).nox
    have PO : PassesOwn (model P w) (cxOf CX0 P w K mg base ["script", "many", "k"] "_law_coins" (defScope s_law_coins) f cdv A outer s H E).nox.A (cxOf CX0 P w K mg base ["script", "many", "k"] "_law_coins" (defScope s_law_coins) f cdv A outer s H E).nox.env (cxOf CX0 P w K mg base ["script", "many", "k"] "_law_coins" (defScope s_law_coins) f cdv A outer s H E).nox.xe := PassesOwn.never
    have hu : (A.deeper (envOfC "_law_coins" (defScope s_law_coins) s.heap.objs.size f cdv)).units + 1 < cLine := Nat.lt_of_le_of_lt (Nat.add_le_add_left (by decide) _) hr.units
    exact (lss_cons (ls_set 1 nd (le_add le_int (le_gdef G_law_mix (hr.mono (by decide)) pass0 (la_cons (le_gdef G_law_cell (hr.mono (by decide)) pass0 (la_cons (le_var 0) (la_cons le_int la_nil))) (la_cons le_int (la_cons le_int la_nil)))))) (lss_one (ls_ret (le_callTy call_tuple_of dTuple_l (by rfl) T.fr_tuple (by decide +kernel) (la_cons (le_lc (nF .tmp) rfl nd (li_range (by rfl) T.fr_range (la_cons (le_var 1) la_nil)) (blkOk_by (own := [("k", 2)]) (by kernel_rfl)) rfl (fun _ _ _ _ _ => (pg_name (i := 2) nd rfl (by first | exact .inl rfl | exact .inr rfl))) (fun _ _ _ _ _ => lts_nil) (fun _ _ _ _ _ => (le_gdef G_law_mix (hr.mono (by decide)) pass0 (la_cons (le_add (le_gdef G_law_cell (hr.mono (by decide)) pass0 (la_cons (le_var 0) (la_cons le_int la_nil))) (le_mul le_int (le_var 2))) (la_cons le_int (la_cons le_int la_nil)))))) la_nil)))))
theorem sc_law_act : FnScope ["cell", "many", "begins", "one", "other", "turn"] ["cell", "many", "begins"] (defScope s_law_act) := ⟨rfl, rfl, rfl, by decide +kernel, rfl, by decide +kernel, by decide +kernel⟩
theorem g_law_act (T : Txt K mg C) : GFn P w K mg base CX0 2 "_law_act" ["cell", "many", "begins"] (sp_law_act C) := by
  obtain ⟨f, fd, hm, F⟩ := T.d_law_act
  have G_law_mix := g_law_mix (P := P) (w := w) (base := base) T
  have b : Binds K fd ["cell", "many", "begins"] [] := F.bindsN fun _ _ _ _ _ _ us hl => match us, hl with | [_, _, _], _ => rfl
  have nd := sc_law_act.nd
  refine ⟨f, fd, hm, F.kp, b, lfn (N := ["cell", "many", "begins", "one", "other", "turn"]) (r := r_law_act K C) (k := 1) F sc_law_act (fun ds S Q Ex h => by repeat (first | exact (congrArg List.length h.1).trans rfl | obtain ⟨_, h⟩ := h)) (fun cdv A outer s H E hr => ?_) (read_law_act)⟩
  · have tk := @takes0 (cxOf CX0 P w K mg base ["cell", "many", "begins", "one", "other", "turn"] "_law_act" (defScope s_law_act) f cdv A outer s H E).nox
    have PO : PassesOwn (model P w) (cxOf CX0 P w K mg base ["cell", "many", "begins", "one", "other", "turn"] "_law_act" (defScope s_law_act) f cdv A outer s H E).nox.A (cxOf CX0 P w K mg base ["cell", "many", "begins", "one", "other", "turn"] "_law_act" (defScope s_law_act) f cdv A outer s H E).nox.env (cxOf CX0 P w K mg base ["cell", "many", "begins", "one", "other", "turn"] "_law_act" (defScope s_law_act) f cdv A outer s H E).nox.xe := PassesOwn.never
    have hu : (A.deeper (envOfC "_law_act" (defScope s_law_act) s.heap.objs.size f cdv)).units + 1 < cLine := Nat.lt_of_le_of_lt (Nat.add_le_add_left (by decide) _) hr.units
    exact (lss_cons (ls_set 3 nd (le_gdef G_law_mix (hr.mono (by decide)) pass0 (la_cons (le_var 0) (la_cons le_int (la_cons (le_var 1) la_nil))))) (lss_cons (ls_set 4 nd (le_mod (le_add (le_add (le_var 3) le_int) (le_gdef G_law_mix (hr.mono (by decide)) pass0 (la_cons (le_var 0) (la_cons le_int (la_cons (le_sub (le_var 1) le_int) la_nil))))) (le_var 1))) (lss_cons (ls_set 5 nd (le_gdef G_law_mix (hr.mono (by decide)) pass0 (la_cons (le_var 0) (la_cons le_int (la_cons le_int la_nil))))) (lss_cons (ls_if (lt_lt (le_var 5) le_int) (lss_one (ls_ret (le_tup (la_cons le_str (la_cons (le_var 3) (la_cons (le_var 4) (la_cons (le_add le_int (le_gdef G_law_mix (hr.mono (by decide)) pass0 (la_cons (le_var 0) (la_cons le_int (la_cons le_int la_nil))))) la_nil))))))) lss_nil) (lss_cons (ls_if (LW.pt (lw_or (lt_lt (le_var 5) le_int) (lw_or1 (lt_not (lt_val (le_var 2)))))) (lss_one (ls_ret (le_tup (la_cons le_str (la_cons (le_var 3) (la_cons (le_var 4) la_nil)))))) lss_nil) (lss_one (ls_ret (le_tup (la_cons le_str (la_cons (le_var 3) la_nil))))))))))
theorem sc_law_acts : FnScope ["script", "begins", "many", "found", "cell"] ["script", "begins"] (defScope s_law_acts) := ⟨rfl, rfl, rfl, by decide +kernel, rfl, by decide +kernel, by decide +kernel⟩
theorem g_law_acts (T : Txt K mg C) : GFn P w K mg base CX0 3 "_law_acts" ["script", "begins"] (sp_law_acts C) := by
  obtain ⟨f, fd, hm, F⟩ := T.d_law_acts
  have G_law_coins := g_law_coins (P := P) (w := w) (base := base) T
  have G_law_cell := g_law_cell (P := P) (w := w) (base := base) T
  have G_law_mix := g_law_mix (P := P) (w := w) (base := base) T
  have G_law_act := g_law_act (P := P) (w := w) (base := base) T
  have b : Binds K fd ["script", "begins"] [] := F.bindsN fun _ _ _ _ _ _ us hl => match us, hl with | [_, _], _ => rfl
  have nd := sc_law_acts.nd
  refine ⟨f, fd, hm, F.kp, b, lfn (N := ["script", "begins", "many", "found", "cell"]) (r := r_law_acts K C) (k := 2) F sc_law_acts (fun ds S Q Ex h => by repeat (first | exact (congrArg List.length h.1).trans rfl | obtain ⟨_, h⟩ := h)) (fun cdv A outer s H E hr => ?_) (read_law_acts)⟩
  · have tk := @takes0 (cxOf CX0 P w K mg base ["script", "begins", "many", "found", "cell"] "_law_acts" (defScope s_law_acts) f cdv A outer s H E).nox
    have PO : PassesOwn (model P w) (cxOf CX0 P w K mg base ["script", "begins", "many", "found", "cell"] "_law_acts" (defScope s_law_acts) f cdv A outer s H E).nox.A (cxOf CX0 P w K mg base ["script", "begins", "many", "found", "cell"] "_law_acts" (defScope s_law_acts) f cdv A outer s H E).nox.env (cxOf CX0 P w K mg base ["script", "begins", "many", "found", "cell"] "_law_acts" (defScope s_law_acts) f cdv A outer s H E).nox.xe := PassesOwn.never
    have hu : (A.deeper (envOfC "_law_acts" (defScope s_law_acts) s.heap.objs.size f cdv)).units + 1 < cLine := Nat.lt_of_le_of_lt (Nat.add_le_add_left (by decide) _) hr.units
    exact (lss_cons (ls_set 2 nd (le_callB call_len_seq dLen_l (by rfl) T.fr_len (by decide +kernel) (la_cons (le_gdef G_law_coins (hr.mono (by decide)) pass0 (la_cons (le_var 0) la_nil)) la_nil))) (lss_cons (ls_set 3 nd (le_lst (nF .tmp) (la_cons (le_tup (la_cons le_str (la_cons le_int (la_cons le_int (la_cons (le_add le_int (le_gdef G_law_mix (hr.mono (by decide)) pass0 (la_cons (le_gdef G_law_cell (hr.mono (by decide)) pass0 (la_cons (le_var 0) (la_cons le_int la_nil))) (la_cons le_int (la_cons le_int la_nil))))) la_nil))))) la_nil))) (lss_cons (ls_for PO rfl (li_list (le_sliceL (nF .tmp) (le_var 0) (lp_some le_int) (lp_some le_int))) (pg_name (i := 4) nd rfl (by first | exact .inl rfl | exact .inr rfl)) (lss_one (ls_expr (le_append (le_var 3) (le_gdef G_law_act (hr.mono (by decide)) pass0 (la_cons (le_var 4) (la_cons (le_var 2) (la_cons (le_var 1) la_nil)))))))) (lss_one (ls_ret (le_var 3))))))
theorem sc_law_pairs : FnScope ["many", "found", "one", "other"] ["many"] (defScope s_law_pairs) := ⟨rfl, rfl, rfl, by decide +kernel, rfl, by decide +kernel, by decide +kernel⟩
theorem g_law_pairs (T : Txt K mg C) : GFn P w K mg base CX0 1 "_law_pairs" ["many"] (sp_law_pairs C) := by
  obtain ⟨f, fd, hm, F⟩ := T.d_law_pairs
  have b : Binds K fd ["many"] [] := F.bindsN fun _ _ _ _ _ _ us hl => match us, hl with | [_], _ => rfl
  have nd := sc_law_pairs.nd
  refine ⟨f, fd, hm, F.kp, b, lfn (N := ["many", "found", "one", "other"]) (r := r_law_pairs K C) (k := 0) F sc_law_pairs (fun ds S Q Ex h => by repeat (first | exact (congrArg List.length h.1).trans rfl | obtain ⟨_, h⟩ := h)) (fun cdv A outer s H E hr => ?_) (read_law_pairs)⟩
  · have tk := @takes0 (cxOf CX0 P w K mg base ["many", "found", "one", "other"] "_law_pairs" (defScope s_law_pairs) f cdv A outer s H E).nox
    have PO : PassesOwn (model P w) (cxOf CX0 P w K mg base ["many", "found", "one", "other"] "_law_pairs" (defScope s_law_pairs) f cdv A outer s H E).nox.A (cxOf CX0 P w K mg base ["many", "found", "one", "other"] "_law_pairs" (defScope s_law_pairs) f cdv A outer s H E).nox.env (cxOf CX0 P w K mg base ["many", "found", "one", "other"] "_law_pairs" (defScope s_law_pairs) f cdv A outer s H E).nox.xe := PassesOwn.never
    have hu : (A.deeper (envOfC "_law_pairs" (defScope s_law_pairs) s.heap.objs.size f cdv)).units + 1 < cLine := Nat.lt_of_le_of_lt (Nat.add_le_add_left (by decide) _) hr.units
    exact (lss_cons (ls_set 1 nd (le_lst (nF .tmp) la_nil)) (lss_cons (ls_for PO rfl (li_range (by rfl) T.fr_range (la_cons (le_var 0) la_nil)) (pg_name (i := 2) nd rfl (by first | exact .inl rfl | exact .inr rfl)) (lss_one (ls_set 1 nd (le_cat (nF .tmp) (le_var 1) (le_lc (nF .tmp) rfl nd (li_range (by rfl) T.fr_range (la_cons (le_var 0) la_nil)) (blkOk_by (own := [("other", 3)]) (by kernel_rfl)) rfl (fun _ _ _ _ _ => (pg_name (i := 3) nd rfl (by first | exact .inl rfl | exact .inr rfl))) (fun _ _ _ _ _ => (lts_one (lt_ne (le_var 3) (le_var 2)))) (fun _ _ _ _ _ => (le_tup (la_cons (le_var 2) (la_cons (le_var 3) la_nil))))))))) (lss_one (ls_ret (le_var 1)))))
theorem sc_Events_init : FnScope ["self", "many", "k"] ["self", "many"] (defScope s_Events_init) := ⟨rfl, rfl, rfl, by decide +kernel, rfl, by decide +kernel, by decide +kernel⟩
theorem g_Events_init (T : Txt K mg C) : IFn P w K mg base CX0 1 C.e ["self", "many"] (sp_Events_init C) := by
  obtain ⟨f, fd, hm, F⟩ := T.d_Events_init
  have b : Binds K fd ["self", "many"] [] := F.bindsN fun _ _ _ _ _ _ us hl => match us, hl with | [_, _], _ => rfl
  have nd := sc_Events_init.nd
  refine ⟨f, fd, hm, b, lfn (N := ["self", "many", "k"]) (r := r_Events_init K C) (k := 0) F sc_Events_init (fun ds S Q Ex h => by repeat (first | exact (congrArg List.length h.1).trans rfl | obtain ⟨_, h⟩ := h)) (fun cdv A outer s H E hr => ?_) (read_Events_init)⟩
  · have tk := @takes0 (cxOf CX0 P w K mg base ["self", "many", "k"] "Events.__init__" (defScope s_Events_init) f cdv A outer s H E).nox
    have PO : PassesOwn (model P w) (cxOf CX0 P w K mg base ["self", "many", "k"] "Events.__init__" (defScope s_Events_init) f cdv A outer s H E).nox.A (cxOf CX0 P w K mg base ["self", "many", "k"] "Events.__init__" (defScope s_Events_init) f cdv A outer s H E).nox.env (cxOf CX0 P w K mg base ["self", "many", "k"] "Events.__init__" (defScope s_Events_init) f cdv A outer s H E).nox.xe := PassesOwn.never
    have hu : (A.deeper (envOfC "Events.__init__" (defScope s_Events_init) s.heap.objs.size f cdv)).units + 1 < cLine := Nat.lt_of_le_of_lt (Nat.add_le_add_left (by decide) _) hr.units
    exact (lss_cons (ls_fld T.cl_e T.na_e_many (le_var 0) (le_var 1)) (lss_cons (ls_fld T.cl_e T.na_e_told (le_var 0) (le_lst nA la_nil)) (lss_cons (ls_fld T.cl_e T.na_e_stamps (le_var 0) (le_lst nA la_nil)) (lss_cons (ls_fld T.cl_e T.na_e_times (le_var 0) (le_lst nA la_nil)) (lss_one (ls_fld T.cl_e T.na_e_last (le_var 0) (le_lc nA rfl nd (li_range (by rfl) T.fr_range (la_cons (le_var 1) la_nil)) (blkOk_by (own := [("k", 2)]) (by kernel_rfl)) rfl (fun _ _ _ _ _ => (pg_name (i := 2) nd rfl (by first | exact .inl rfl | exact .inr rfl))) (fun _ _ _ _ _ => lts_nil) (fun _ _ _ _ _ => le_non))))))))
theorem sc_Events_add : FnScope ["self", "event", "member", "causes", "k", "stamp", "time", "cause", "one", "other"] ["self", "event", "member", "causes"] (defScope s_Events_add) := ⟨rfl, rfl, rfl, by decide +kernel, rfl, by decide +kernel, by decide +kernel⟩
theorem g_Events_add (T : Txt K mg C) : MFn P w K mg base CX0 1 C.e "add" ["self", "event", "member", "causes"] (sp_Events_add C) := by
  obtain ⟨f, fd, hm, F⟩ := T.d_Events_add
  have b : Binds K fd ["self", "event", "member", "causes"] [] := F.bindsN fun _ _ _ _ _ _ us hl => match us, hl with | [_, _, _, _], _ => rfl
  have nd := sc_Events_add.nd
  refine ⟨f, fd, hm, b, lfn (N := ["self", "event", "member", "causes", "k", "stamp", "time", "cause", "one", "other"]) (r := r_Events_add K C) (k := 0) F sc_Events_add (fun ds S Q Ex h => by repeat (first | exact (congrArg List.length h.1).trans rfl | obtain ⟨_, h⟩ := h)) (fun cdv A outer s H E hr => ?_) (read_Events_add)⟩
  · have tk := @takes0 (cxOf CX0 P w K mg base ["self", "event", "member", "causes", "k", "stamp", "time", "cause", "one", "other"] "Events.add" (defScope s_Events_add) f cdv A outer s H E).nox
    have PO : PassesOwn (model P w) (cxOf CX0 P w K mg base ["self", "event", "member", "causes", "k", "stamp", "time", "cause", "one", "other"] "Events.add" (defScope s_Events_add) f cdv A outer s H E).nox.A (cxOf CX0 P w K mg base ["self", "event", "member", "causes", "k", "stamp", "time", "cause", "one", "other"] "Events.add" (defScope s_Events_add) f cdv A outer s H E).nox.env (cxOf CX0 P w K mg base ["self", "event", "member", "causes", "k", "stamp", "time", "cause", "one", "other"] "Events.add" (defScope s_Events_add) f cdv A outer s H E).nox.xe := PassesOwn.never
    have hu : (A.deeper (envOfC "Events.add" (defScope s_Events_add) s.heap.objs.size f cdv)).units + 1 < cLine := Nat.lt_of_le_of_lt (Nat.add_le_add_left (by decide) _) hr.units
    exact (lss_cons (ls_setLc (nF .tmp) 5 rfl nd rfl rfl (sw_true rfl rfl rfl (by kernel_rfl)) (li_range (by rfl) T.fr_range (la_cons (le_attr T.cl_e T.na_e_many (le_var 0)) la_nil)) (blkOk_by (own := [("k", 4)]) (by kernel_rfl)) rfl (fun _ _ _ _ _ => (pg_name (i := 4) nd rfl (by first | exact .inl rfl | exact .inr rfl))) (fun _ _ _ _ _ => lts_nil) (fun _ _ _ _ _ => le_int)) (lss_cons (ls_set 6 nd le_int) (lss_cons (ls_for PO rfl (li_list (le_cat (nF .tmp) (le_lst (nF .tmp) (la_cons (le_ix hu (le_attr T.cl_e T.na_e_last (le_var 0)) (le_var 2)) la_nil)) (le_var 3))) (pg_name (i := 7) nd rfl (by first | exact .inl rfl | exact .inr rfl)) (lss_one (ls_if (lt_notN (le_var 7) le_non) (lss_cons (ls_setLc (nF .tmp) 5 rfl nd rfl rfl (sw_true rfl rfl rfl (by kernel_rfl)) (li_zip (by rfl) T.fr_zip (la_cons (le_var 5) (la_cons (le_ix hu (le_attr T.cl_e T.na_e_stamps (le_var 0)) (le_var 7)) la_nil))) (blkOk_by (own := [("one", 8), ("other", 9)]) (by kernel_rfl)) rfl (fun _ _ _ _ _ => (pg_tup rfl (pgs_cons (pg_name (i := 8) nd rfl (by first | exact .inl rfl | exact .inr rfl)) (pgs_cons (pg_name (i := 9) nd rfl (by first | exact .inl rfl | exact .inr rfl)) pgs_nil)))) (fun _ _ _ _ _ => lts_nil) (fun _ _ _ _ _ => (le_callB (call_max2 rfl) dMax2_l (by rfl) T.fr_max (by decide +kernel) (la_cons (le_var 8) (la_cons (le_var 9) la_nil))))) (lss_one (ls_set 6 nd (le_callB (call_max2 rfl) dMax2_l (by rfl) T.fr_max (by decide +kernel) (la_cons (le_var 6) (la_cons (le_add (le_ix hu (le_attr T.cl_e T.na_e_times (le_var 0)) (le_var 7)) le_int) la_nil)))))) lss_nil))) (lss_cons (ls_sub hu (le_var 5) (le_var 2) (le_add (le_ix hu (le_var 5) (le_var 2)) le_int)) (lss_cons (ls_expr (le_append (le_attr T.cl_e T.na_e_told (le_var 0)) (le_var 1))) (lss_cons (ls_expr (le_append (le_attr T.cl_e T.na_e_stamps (le_var 0)) (le_callTy call_tuple_of dTuple_l (by rfl) T.fr_tuple (by decide +kernel) (la_cons (le_var 5) la_nil)))) (lss_cons (ls_expr (le_append (le_attr T.cl_e T.na_e_times (le_var 0)) (le_var 6))) (lss_cons (ls_sub hu (le_attr T.cl_e T.na_e_last (le_var 0)) (le_var 2) (le_sub (le_callB call_len_seq dLen_l (by rfl) T.fr_len (by decide +kernel) (la_cons (le_attr T.cl_e T.na_e_told (le_var 0)) la_nil)) le_int)) (lss_one (ls_ret (le_sub (le_callB call_len_seq dLen_l (by rfl) T.fr_len (by decide +kernel) (la_cons (le_attr T.cl_e T.na_e_told (le_var 0)) la_nil)) le_int)))))))))))
theorem sc_Events_count : FnScope ["self", "member"] ["self", "member"] (defScope s_Events_count) := ⟨rfl, rfl, rfl, by decide +kernel, rfl, by decide +kernel, by decide +kernel⟩
theorem g_Events_count (T : Txt K mg C) : MFn P w K mg base CX0 1 C.e "count" ["self", "member"] (sp_Events_count C) := by
  obtain ⟨f, fd, hm, F⟩ := T.d_Events_count
  have b : Binds K fd ["self", "member"] [] := F.bindsN fun _ _ _ _ _ _ us hl => match us, hl with | [_, _], _ => rfl
  have nd := sc_Events_count.nd
  refine ⟨f, fd, hm, b, lfn (N := ["self", "member"]) (r := r_Events_count K C) (k := 0) F sc_Events_count (fun ds S Q Ex h => by repeat (first | exact (congrArg List.length h.1).trans rfl | obtain ⟨_, h⟩ := h)) (fun cdv A outer s H E hr => ?_) (read_Events_count)⟩
  · have tk := @takes0 (cxOf CX0 P w K mg base ["self", "member"] "Events.count" (defScope s_Events_count) f cdv A outer s H E).nox
    have PO : PassesOwn (model P w) (cxOf CX0 P w K mg base ["self", "member"] "Events.count" (defScope s_Events_count) f cdv A outer s H E).nox.A (cxOf CX0 P w K mg base ["self", "member"] "Events.count" (defScope s_Events_count) f cdv A outer s H E).nox.env (cxOf CX0 P w K mg base ["self", "member"] "Events.count" (defScope s_Events_count) f cdv A outer s H E).nox.xe := PassesOwn.never
    have hu : (A.deeper (envOfC "Events.count" (defScope s_Events_count) s.heap.objs.size f cdv)).units + 1 < cLine := Nat.lt_of_le_of_lt (Nat.add_le_add_left (by decide) _) hr.units
    exact (lss_cons (ls_if (lt_isN (le_ix hu (le_attr T.cl_e T.na_e_last (le_var 0)) (le_var 1)) le_non) (lss_one (ls_ret le_int)) lss_nil) (lss_one (ls_ret (le_ix hu (le_ix hu (le_attr T.cl_e T.na_e_stamps (le_var 0)) (le_ix hu (le_attr T.cl_e T.na_e_last (le_var 0)) (le_var 1))) (le_var 1)))))
theorem sc_Events_member_of : FnScope ["self", "n"] ["self", "n"] (defScope s_Events_member_of) := ⟨rfl, rfl, rfl, by decide +kernel, rfl, by decide +kernel, by decide +kernel⟩
theorem g_Events_member_of (T : Txt K mg C) : MFn P w K mg base CX0 1 C.e "member_of" ["self", "n"] (sp_Events_member_of C) := by
  obtain ⟨f, fd, hm, F⟩ := T.d_Events_member_of
  have b : Binds K fd ["self", "n"] [] := F.bindsN fun _ _ _ _ _ _ us hl => match us, hl with | [_, _], _ => rfl
  have nd := sc_Events_member_of.nd
  refine ⟨f, fd, hm, b, lfn (N := ["self", "n"]) (r := r_Events_member_of K C) (k := 0) F sc_Events_member_of (fun ds S Q Ex h => by repeat (first | exact (congrArg List.length h.1).trans rfl | obtain ⟨_, h⟩ := h)) (fun cdv A outer s H E hr => ?_) (read_Events_member_of)⟩
  · have tk := @takes0 (cxOf CX0 P w K mg base ["self", "n"] "Events.member_of" (defScope s_Events_member_of) f cdv A outer s H E).nox
    have PO : PassesOwn (model P w) (cxOf CX0 P w K mg base ["self", "n"] "Events.member_of" (defScope s_Events_member_of) f cdv A outer s H E).nox.A (cxOf CX0 P w K mg base ["self", "n"] "Events.member_of" (defScope s_Events_member_of) f cdv A outer s H E).nox.env (cxOf CX0 P w K mg base ["self", "n"] "Events.member_of" (defScope s_Events_member_of) f cdv A outer s H E).nox.xe := PassesOwn.never
    have hu : (A.deeper (envOfC "Events.member_of" (defScope s_Events_member_of) s.heap.objs.size f cdv)).units + 1 < cLine := Nat.lt_of_le_of_lt (Nat.add_le_add_left (by decide) _) hr.units
    exact (lss_cons (ls_if (lt_eq (le_ix hu (le_ix hu (le_attr T.cl_e T.na_e_told (le_var 0)) (le_var 1)) le_int) le_str) (lss_one (ls_ret (le_ix hu (le_ix hu (le_attr T.cl_e T.na_e_told (le_var 0)) (le_var 1)) le_int))) lss_nil) (lss_one (ls_ret (le_ix hu (le_ix hu (le_attr T.cl_e T.na_e_told (le_var 0)) (le_var 1)) le_int))))
theorem sc_Events_ahead : FnScope ["self", "n", "m", "member"] ["self", "n", "m"] (defScope s_Events_ahead) := ⟨rfl, rfl, rfl, by decide +kernel, rfl, by decide +kernel, by decide +kernel⟩
theorem g_Events_ahead (T : Txt K mg C) : MFn P w K mg base CX0 2 C.e "ahead" ["self", "n", "m"] (sp_Events_ahead C) := by
  obtain ⟨f, fd, hm, F⟩ := T.d_Events_ahead
  have G_Events_member_of := g_Events_member_of (P := P) (w := w) (base := base) T
  have b : Binds K fd ["self", "n", "m"] [] := F.bindsN fun _ _ _ _ _ _ us hl => match us, hl with | [_, _, _], _ => rfl
  have nd := sc_Events_ahead.nd
  refine ⟨f, fd, hm, b, lfn (N := ["self", "n", "m", "member"]) (r := r_Events_ahead K C) (k := 1) F sc_Events_ahead (fun ds S Q Ex h => by repeat (first | exact (congrArg List.length h.1).trans rfl | obtain ⟨_, h⟩ := h)) (fun cdv A outer s H E hr => ?_) (read_Events_ahead)⟩
  · have tk := @takes0 (cxOf CX0 P w K mg base ["self", "n", "m", "member"] "Events.ahead" (defScope s_Events_ahead) f cdv A outer s H E).nox
    have PO : PassesOwn (model P w) (cxOf CX0 P w K mg base ["self", "n", "m", "member"] "Events.ahead" (defScope s_Events_ahead) f cdv A outer s H E).nox.A (cxOf CX0 P w K mg base ["self", "n", "m", "member"] "Events.ahead" (defScope s_Events_ahead) f cdv A outer s H E).nox.env (cxOf CX0 P w K mg base ["self", "n", "m", "member"] "Events.ahead" (defScope s_Events_ahead) f cdv A outer s H E).nox.xe := PassesOwn.never
    have hu : (A.deeper (envOfC "Events.ahead" (defScope s_Events_ahead) s.heap.objs.size f cdv)).units + 1 < cLine := Nat.lt_of_le_of_lt (Nat.add_le_add_left (by decide) _) hr.units
    exact (lss_cons (ls_set 3 nd (le_gmeth G_Events_member_of T.cl_e (hr.mono (by decide)) pass0 (le_var 0) (la_cons (le_var 1) la_nil))) (lss_one (ls_ret (le_and (le_ne (le_var 1) (le_var 2)) (le_one (le_le (le_ix hu (le_ix hu (le_attr T.cl_e T.na_e_stamps (le_var 0)) (le_var 1)) (le_var 3)) (le_ix hu (le_ix hu (le_attr T.cl_e T.na_e_stamps (le_var 0)) (le_var 2)) (le_var 3))))))))
theorem sc_Shot_init : FnScope ["self", "many", "k", "one", "other"] ["self", "many"] (defScope s_Shot_init) := ⟨rfl, rfl, rfl, by decide +kernel, rfl, by decide +kernel, by decide +kernel⟩
theorem g_Shot_init (T : Txt K mg C) : IFn P w K mg base CX0 1 C.s ["self", "many"] (sp_Shot_init C) := by
  obtain ⟨f, fd, hm, F⟩ := T.d_Shot_init
  have b : Binds K fd ["self", "many"] [] := F.bindsN fun _ _ _ _ _ _ us hl => match us, hl with | [_, _], _ => rfl
  have nd := sc_Shot_init.nd
  refine ⟨f, fd, hm, b, lfn (N := ["self", "many", "k", "one", "other"]) (r := r_Shot_init K C) (k := 0) F sc_Shot_init (fun ds S Q Ex h => by repeat (first | exact (congrArg List.length h.1).trans rfl | obtain ⟨_, h⟩ := h)) (fun cdv A outer s H E hr => ?_) (read_Shot_init)⟩
  · have tk := @takes0 (cxOf CX0 P w K mg base ["self", "many", "k", "one", "other"] "Shot.__init__" (defScope s_Shot_init) f cdv A outer s H E).nox
    have PO : PassesOwn (model P w) (cxOf CX0 P w K mg base ["self", "many", "k", "one", "other"] "Shot.__init__" (defScope s_Shot_init) f cdv A outer s H E).nox.A (cxOf CX0 P w K mg base ["self", "many", "k", "one", "other"] "Shot.__init__" (defScope s_Shot_init) f cdv A outer s H E).nox.env (cxOf CX0 P w K mg base ["self", "many", "k", "one", "other"] "Shot.__init__" (defScope s_Shot_init) f cdv A outer s H E).nox.xe := PassesOwn.never
    have hu : (A.deeper (envOfC "Shot.__init__" (defScope s_Shot_init) s.heap.objs.size f cdv)).units + 1 < cLine := Nat.lt_of_le_of_lt (Nat.add_le_add_left (by decide) _) hr.units
    exact (lss_cons (ls_fld T.cl_s T.na_s_many (le_var 0) (le_var 1)) (lss_cons (ls_fld T.cl_s T.na_s_written (le_var 0) (le_lc nA rfl nd (li_range (by rfl) T.fr_range (la_cons (le_var 1) la_nil)) (blkOk_by (own := [("k", 2)]) (by kernel_rfl)) rfl (fun _ _ _ _ _ => (pg_name (i := 2) nd rfl (by first | exact .inl rfl | exact .inr rfl))) (fun _ _ _ _ _ => lts_nil) (fun _ _ _ _ _ => le_non))) (lss_cons (ls_fld T.cl_s T.na_s_cut (le_var 0) (le_lc nA rfl nd (li_range (by rfl) T.fr_range (la_cons (le_var 1) la_nil)) (blkOk_by (own := [("k", 2)]) (by kernel_rfl)) rfl (fun _ _ _ _ _ => (pg_name (i := 2) nd rfl (by first | exact .inl rfl | exact .inr rfl))) (fun _ _ _ _ _ => lts_nil) (fun _ _ _ _ _ => le_non))) (lss_cons (ls_fld T.cl_s T.na_s_watched (le_var 0) (le_dnewT nA)) (lss_cons (ls_fld T.cl_s T.na_s_lying (le_var 0) (le_dnewT nA)) (lss_one (ls_for PO rfl (li_range (by rfl) T.fr_range (la_cons (le_var 1) la_nil)) (pg_name (i := 3) nd rfl (by first | exact .inl rfl | exact .inr rfl)) (lss_one (ls_for PO rfl (li_range (by rfl) T.fr_range (la_cons (le_var 1) la_nil)) (pg_name (i := 4) nd rfl (by first | exact .inl rfl | exact .inr rfl)) (lss_one (ls_if (lt_ne (le_var 3) (le_var 4)) (lss_one (ls_sub hu (le_attr T.cl_s T.na_s_lying (le_var 0)) (le_tup (la_cons (le_var 3) (la_cons (le_var 4) la_nil))) (le_lst nA la_nil))) lss_nil)))))))))))
theorem sc_Shot_has_written : FnScope ["self", "member"] ["self", "member"] (defScope s_Shot_has_written) := ⟨rfl, rfl, rfl, by decide +kernel, rfl, by decide +kernel, by decide +kernel⟩
theorem g_Shot_has_written (T : Txt K mg C) : MFn P w K mg base CX0 1 C.s "has_written" ["self", "member"] (sp_Shot_has_written C) := by
  obtain ⟨f, fd, hm, F⟩ := T.d_Shot_has_written
  have b : Binds K fd ["self", "member"] [] := F.bindsN fun _ _ _ _ _ _ us hl => match us, hl with | [_, _], _ => rfl
  have nd := sc_Shot_has_written.nd
  refine ⟨f, fd, hm, b, lfn (N := ["self", "member"]) (r := r_Shot_has_written K C) (k := 0) F sc_Shot_has_written (fun ds S Q Ex h => by repeat (first | exact (congrArg List.length h.1).trans rfl | obtain ⟨_, h⟩ := h)) (fun cdv A outer s H E hr => ?_) (read_Shot_has_written)⟩
  · have tk := @takes0 (cxOf CX0 P w K mg base ["self", "member"] "Shot.has_written" (defScope s_Shot_has_written) f cdv A outer s H E).nox
    have PO : PassesOwn (model P w) (cxOf CX0 P w K mg base ["self", "member"] "Shot.has_written" (defScope s_Shot_has_written) f cdv A outer s H E).nox.A (cxOf CX0 P w K mg base ["self", "member"] "Shot.has_written" (defScope s_Shot_has_written) f cdv A outer s H E).nox.env (cxOf CX0 P w K mg base ["self", "member"] "Shot.has_written" (defScope s_Shot_has_written) f cdv A outer s H E).nox.xe := PassesOwn.never
    have hu : (A.deeper (envOfC "Shot.has_written" (defScope s_Shot_has_written) s.heap.objs.size f cdv)).units + 1 < cLine := Nat.lt_of_le_of_lt (Nat.add_le_add_left (by decide) _) hr.units
    exact (lss_one (ls_ret (le_notN (le_ix hu (le_attr T.cl_s T.na_s_written (le_var 0)) (le_var 1)) le_non)))
theorem sc_Shot_write : FnScope ["self", "member", "coins", "events", "but", "one"] ["self", "member", "coins", "events", "but"] (defScope s_Shot_write) := ⟨rfl, rfl, rfl, by decide +kernel, rfl, by decide +kernel, by decide +kernel⟩
theorem g_Shot_write (T : Txt K mg C) : MFn P w K mg base CX0 1 C.s "write" ["self", "member", "coins", "events", "but"] (sp_Shot_write C) := by
  obtain ⟨f, fd, hm, F⟩ := T.d_Shot_write
  have b : Binds K fd ["self", "member", "coins", "events", "but"] [] := F.bindsN fun _ _ _ _ _ _ us hl => match us, hl with | [_, _, _, _, _], _ => rfl
  have nd := sc_Shot_write.nd
  refine ⟨f, fd, hm, b, lfn (N := ["self", "member", "coins", "events", "but", "one"]) (r := r_Shot_write K C) (k := 0) F sc_Shot_write (fun ds S Q Ex h => by repeat (first | exact (congrArg List.length h.1).trans rfl | obtain ⟨_, h⟩ := h)) (fun cdv A outer s H E hr => ?_) (read_Shot_write)⟩
  · have tk := @takes0 (cxOf CX0 P w K mg base ["self", "member", "coins", "events", "but", "one"] "Shot.write" (defScope s_Shot_write) f cdv A outer s H E).nox
    have PO : PassesOwn (model P w) (cxOf CX0 P w K mg base ["self", "member", "coins", "events", "but", "one"] "Shot.write" (defScope s_Shot_write) f cdv A outer s H E).nox.A (cxOf CX0 P w K mg base ["self", "member", "coins", "events", "but", "one"] "Shot.write" (defScope s_Shot_write) f cdv A outer s H E).nox.env (cxOf CX0 P w K mg base ["self", "member", "coins", "events", "but", "one"] "Shot.write" (defScope s_Shot_write) f cdv A outer s H E).nox.xe := PassesOwn.never
    have hu : (A.deeper (envOfC "Shot.write" (defScope s_Shot_write) s.heap.objs.size f cdv)).units + 1 < cLine := Nat.lt_of_le_of_lt (Nat.add_le_add_left (by decide) _) hr.units
    exact (lss_cons (ls_sub hu (le_attr T.cl_s T.na_s_written (le_var 0)) (le_var 1) (le_var 2)) (lss_cons (ls_sub hu (le_attr T.cl_s T.na_s_cut (le_var 0)) (le_var 1) (le_var 3)) (lss_one (ls_for PO rfl (li_range (by rfl) T.fr_range (la_cons (le_attr T.cl_s T.na_s_many (le_var 0)) la_nil)) (pg_name (i := 5) nd rfl (by first | exact .inl rfl | exact .inr rfl)) (lss_one (ls_if (LW.pt (lw_and (lt_ne (le_var 5) (le_var 1)) (lw_and1 (lt_ne (le_var 5) (le_var 4))))) (lss_one (ls_sub hu (le_attr T.cl_s T.na_s_watched (le_var 0)) (le_tup (la_cons (le_var 5) (la_cons (le_var 1) la_nil))) le_bl)) lss_nil))))))
theorem sc_Shot_parcel : FnScope ["self", "one", "other", "amount"] ["self", "one", "other", "amount"] (defScope s_Shot_parcel) := ⟨rfl, rfl, rfl, by decide +kernel, rfl, by decide +kernel, by decide +kernel⟩
theorem g_Shot_parcel (T : Txt K mg C) : MFn P w K mg base CX0 1 C.s "parcel" ["self", "one", "other", "amount"] (sp_Shot_parcel C) := by
  obtain ⟨f, fd, hm, F⟩ := T.d_Shot_parcel
  have b : Binds K fd ["self", "one", "other", "amount"] [] := F.bindsN fun _ _ _ _ _ _ us hl => match us, hl with | [_, _, _, _], _ => rfl
  have nd := sc_Shot_parcel.nd
  refine ⟨f, fd, hm, b, lfn (N := ["self", "one", "other", "amount"]) (r := r_Shot_parcel K C) (k := 0) F sc_Shot_parcel (fun ds S Q Ex h => by repeat (first | exact (congrArg List.length h.1).trans rfl | obtain ⟨_, h⟩ := h)) (fun cdv A outer s H E hr => ?_) (read_Shot_parcel)⟩
  · have tk := @takes0 (cxOf CX0 P w K mg base ["self", "one", "other", "amount"] "Shot.parcel" (defScope s_Shot_parcel) f cdv A outer s H E).nox
    have PO : PassesOwn (model P w) (cxOf CX0 P w K mg base ["self", "one", "other", "amount"] "Shot.parcel" (defScope s_Shot_parcel) f cdv A outer s H E).nox.A (cxOf CX0 P w K mg base ["self", "one", "other", "amount"] "Shot.parcel" (defScope s_Shot_parcel) f cdv A outer s H E).nox.env (cxOf CX0 P w K mg base ["self", "one", "other", "amount"] "Shot.parcel" (defScope s_Shot_parcel) f cdv A outer s H E).nox.xe := PassesOwn.never
    have hu : (A.deeper (envOfC "Shot.parcel" (defScope s_Shot_parcel) s.heap.objs.size f cdv)).units + 1 < cLine := Nat.lt_of_le_of_lt (Nat.add_le_add_left (by decide) _) hr.units
    exact (lss_one (ls_if (lt_din hu (le_tup (la_cons (le_var 1) (la_cons (le_var 2) la_nil))) (le_attr T.cl_s T.na_s_watched (le_var 0))) (lss_one (ls_expr (le_append (le_ix hu (le_attr T.cl_s T.na_s_lying (le_var 0)) (le_tup (la_cons (le_var 1) (la_cons (le_var 2) la_nil)))) (le_var 3)))) lss_nil))
theorem sc_Shot_leave : FnScope ["self", "one", "other"] ["self", "one", "other"] (defScope s_Shot_leave) := ⟨rfl, rfl, rfl, by decide +kernel, rfl, by decide +kernel, by decide +kernel⟩
theorem g_Shot_leave (T : Txt K mg C) : MFn P w K mg base CX0 1 C.s "leave" ["self", "one", "other"] (sp_Shot_leave C) := by
  obtain ⟨f, fd, hm, F⟩ := T.d_Shot_leave
  have b : Binds K fd ["self", "one", "other"] [] := F.bindsN fun _ _ _ _ _ _ us hl => match us, hl with | [_, _, _], _ => rfl
  have nd := sc_Shot_leave.nd
  refine ⟨f, fd, hm, b, lfn (N := ["self", "one", "other"]) (r := r_Shot_leave K C) (k := 0) F sc_Shot_leave (fun ds S Q Ex h => by repeat (first | exact (congrArg List.length h.1).trans rfl | obtain ⟨_, h⟩ := h)) (fun cdv A outer s H E hr => ?_) (read_Shot_leave)⟩
  · have tk := @takes0 (cxOf CX0 P w K mg base ["self", "one", "other"] "Shot.leave" (defScope s_Shot_leave) f cdv A outer s H E).nox
    have PO : PassesOwn (model P w) (cxOf CX0 P w K mg base ["self", "one", "other"] "Shot.leave" (defScope s_Shot_leave) f cdv A outer s H E).nox.A (cxOf CX0 P w K mg base ["self", "one", "other"] "Shot.leave" (defScope s_Shot_leave) f cdv A outer s H E).nox.env (cxOf CX0 P w K mg base ["self", "one", "other"] "Shot.leave" (defScope s_Shot_leave) f cdv A outer s H E).nox.xe := PassesOwn.never
    have hu : (A.deeper (envOfC "Shot.leave" (defScope s_Shot_leave) s.heap.objs.size f cdv)).units + 1 < cLine := Nat.lt_of_le_of_lt (Nat.add_le_add_left (by decide) _) hr.units
    exact (lss_one (ls_expr (le_popT hu (le_attr T.cl_s T.na_s_watched (le_var 0)) (le_tup (la_cons (le_var 1) (la_cons (le_var 2) la_nil))))))
theorem sc_Shot_is_done : FnScope ["self"] ["self"] (defScope s_Shot_is_done) := ⟨rfl, rfl, rfl, by decide +kernel, rfl, by decide +kernel, by decide +kernel⟩
theorem g_Shot_is_done (T : Txt K mg C) : MFn P w K mg base CX0 1 C.s "is_done" ["self"] (sp_Shot_is_done C) := by
  obtain ⟨f, fd, hm, F⟩ := T.d_Shot_is_done
  have b : Binds K fd ["self"] [] := F.bindsN fun _ _ _ _ _ _ us hl => match us, hl with | [_], _ => rfl
  have nd := sc_Shot_is_done.nd
  refine ⟨f, fd, hm, b, lfn (N := ["self"]) (r := r_Shot_is_done K C) (k := 0) F sc_Shot_is_done (fun ds S Q Ex h => by repeat (first | exact (congrArg List.length h.1).trans rfl | obtain ⟨_, h⟩ := h)) (fun cdv A outer s H E hr => ?_) (read_Shot_is_done)⟩
  · have tk := @takes0 (cxOf CX0 P w K mg base ["self"] "Shot.is_done" (defScope s_Shot_is_done) f cdv A outer s H E).nox
    have PO : PassesOwn (model P w) (cxOf CX0 P w K mg base ["self"] "Shot.is_done" (defScope s_Shot_is_done) f cdv A outer s H E).nox.A (cxOf CX0 P w K mg base ["self"] "Shot.is_done" (defScope s_Shot_is_done) f cdv A outer s H E).nox.env (cxOf CX0 P w K mg base ["self"] "Shot.is_done" (defScope s_Shot_is_done) f cdv A outer s H E).nox.xe := PassesOwn.never
    have hu : (A.deeper (envOfC "Shot.is_done" (defScope s_Shot_is_done) s.heap.objs.size f cdv)).units + 1 < cLine := Nat.lt_of_le_of_lt (Nat.add_le_add_left (by decide) _) hr.units
    exact (lss_one (ls_ret (le_and (le_notInD (r65 hr) le_non (le_attr T.cl_s T.na_s_written (le_var 0))) (le_one (le_notT (le_attr T.cl_s T.na_s_watched (le_var 0)))))))
theorem sc_Market_init : FnScope ["self", "coins", "one", "other"] ["self", "coins"] (defScope s_Market_init) := ⟨rfl, rfl, rfl, by decide +kernel, rfl, by decide +kernel, by decide +kernel⟩
theorem g_Market_init (T : Txt K mg C) : IFn P w K mg base CX0 3 C.m ["self", "coins"] (sp_Market_init C) := by
  obtain ⟨f, fd, hm, F⟩ := T.d_Market_init
  have G_Events_init := g_Events_init (P := P) (w := w) (base := base) T
  have b : Binds K fd ["self", "coins"] [] := F.bindsN fun _ _ _ _ _ _ us hl => match us, hl with | [_, _], _ => rfl
  have nd := sc_Market_init.nd
  refine ⟨f, fd, hm, b, lfn (N := ["self", "coins", "one", "other"]) (r := r_Market_init K C) (k := 2) F sc_Market_init (fun ds S Q Ex h => by repeat (first | exact (congrArg List.length h.1).trans rfl | obtain ⟨_, h⟩ := h)) (fun cdv A outer s H E hr => ?_) (read_Market_init)⟩
  · have tk := @takes0 (cxOf CX0 P w K mg base ["self", "coins", "one", "other"] "Market.__init__" (defScope s_Market_init) f cdv A outer s H E).nox
    have PO : PassesOwn (model P w) (cxOf CX0 P w K mg base ["self", "coins", "one", "other"] "Market.__init__" (defScope s_Market_init) f cdv A outer s H E).nox.A (cxOf CX0 P w K mg base ["self", "coins", "one", "other"] "Market.__init__" (defScope s_Market_init) f cdv A outer s H E).nox.env (cxOf CX0 P w K mg base ["self", "coins", "one", "other"] "Market.__init__" (defScope s_Market_init) f cdv A outer s H E).nox.xe := PassesOwn.never
    have hu : (A.deeper (envOfC "Market.__init__" (defScope s_Market_init) s.heap.objs.size f cdv)).units + 1 < cLine := Nat.lt_of_le_of_lt (Nat.add_le_add_left (by decide) _) hr.units
    exact (lss_cons (ls_fld T.cl_m T.na_m_many (le_var 0) (le_callB call_len_seq dLen_l (by rfl) T.fr_len (by decide +kernel) (la_cons (le_var 1) la_nil))) (lss_cons (ls_fld T.cl_m T.na_m_purses (le_var 0) (le_callTy call_list_of (dList_l nA) (by rfl) T.fr_list (by decide +kernel) (la_cons (le_var 1) la_nil))) (lss_cons (ls_fld T.cl_m T.na_m_roads (le_var 0) (le_dnewT nA)) (lss_cons (ls_fld T.cl_m T.na_m_events (le_var 0) (le_gmake nA G_Events_init T.mg_Events (hr.mono (by decide)) pass0 (la_cons (le_attr T.cl_m T.na_m_many (le_var 0)) la_nil))) (lss_cons (ls_fld T.cl_m T.na_m_shots (le_var 0) (le_lst nA la_nil)) (lss_one (ls_for PO rfl (li_range (by rfl) T.fr_range (la_cons (le_attr T.cl_m T.na_m_many (le_var 0)) la_nil)) (pg_name (i := 2) nd rfl (by first | exact .inl rfl | exact .inr rfl)) (lss_one (ls_for PO rfl (li_range (by rfl) T.fr_range (la_cons (le_attr T.cl_m T.na_m_many (le_var 0)) la_nil)) (pg_name (i := 3) nd rfl (by first | exact .inl rfl | exact .inr rfl)) (lss_one (ls_if (lt_ne (le_var 2) (le_var 3)) (lss_one (ls_sub hu (le_attr T.cl_m T.na_m_roads (le_var 0)) (le_tup (la_cons (le_var 2) (la_cons (le_var 3) la_nil))) (le_lst nA la_nil))) lss_nil)))))))))))
theorem sc_Market_give : FnScope ["self", "one", "other", "amount", "number"] ["self", "one", "other", "amount"] (defScope s_Market_give) := ⟨rfl, rfl, rfl, by decide +kernel, rfl, by decide +kernel, by decide +kernel⟩
theorem g_Market_give (T : Txt K mg C) : MFn P w K mg base (L2.CX P w) 2 C.m "give" ["self", "one", "other", "amount"] (sp_Market_give C) := by
  obtain ⟨f, fd, hm, F⟩ := T.d_Market_give
  have G_Events_add := g_Events_add (P := P) (w := w) (base := base) T
  have b : Binds K fd ["self", "one", "other", "amount"] [] := F.bindsN fun _ _ _ _ _ _ us hl => match us, hl with | [_, _, _, _], _ => rfl
  have nd := sc_Market_give.nd
  refine ⟨f, fd, hm, b, lfnX (N := ["self", "one", "other", "amount", "number"]) (r := r_Market_give K C) (k := 1) F sc_Market_give (fun ds S Q Ex h => by repeat (first | exact (congrArg List.length h.1).trans rfl | obtain ⟨_, h⟩ := h)) (fun cdv A outer s H E hr => ?_) (read_Market_give)⟩
  · have tk : Takes (cxOf (L2.CX P w) P w K mg base ["self", "one", "other", "amount", "number"] "Market.give" (defScope s_Market_give) f cdv A outer s H E) (fun cls d _ H => E cls d H) := takes_of rfl rfl rfl rfl
    have PO : PassesOwn (model P w) (cxOf (L2.CX P w) P w K mg base ["self", "one", "other", "amount", "number"] "Market.give" (defScope s_Market_give) f cdv A outer s H E).A (cxOf (L2.CX P w) P w K mg base ["self", "one", "other", "amount", "number"] "Market.give" (defScope s_Market_give) f cdv A outer s H E).env (cxOf (L2.CX P w) P w K mg base ["self", "one", "other", "amount", "number"] "Market.give" (defScope s_Market_give) f cdv A outer s H E).xe := passes_of rfl
    have hu : (A.deeper (envOfC "Market.give" (defScope s_Market_give) s.heap.objs.size f cdv)).units + 1 < cLine := Nat.lt_of_le_of_lt (Nat.add_le_add_left (by decide) _) hr.units
    exact (lss_cons (ls_if (lt_gt (le_var 3) (le_ix hu (le_attr T.cl_m T.na_m_purses (le_var 0)) (le_var 1))) (lss_one (ls_raise rfl tk T.ex_NoCoins T.mg_NoCoins T.kx_NoCoins T.bx_NoCoins T.tx_NoCoins (by rfl))) lss_nil) (lss_cons (ls_sub hu (le_attr T.cl_m T.na_m_purses (le_var 0)) (le_var 1) (le_sub (le_ix hu (le_attr T.cl_m T.na_m_purses (le_var 0)) (le_var 1)) (le_var 3))) (lss_cons (ls_set 4 nd (le_gmeth G_Events_add T.cl_e (hr.mono (by decide)) pass0 (le_attr T.cl_m T.na_m_events (le_var 0)) (la_cons (le_tup (la_cons le_str (la_cons (le_var 1) (la_cons (le_var 2) (la_cons (le_var 3) la_nil))))) (la_cons (le_var 1) (la_cons (le_lst (nF .tmp) la_nil) la_nil))))) (lss_one (ls_expr (le_append (le_ix hu (le_attr T.cl_m T.na_m_roads (le_var 0)) (le_tup (la_cons (le_var 1) (la_cons (le_var 2) la_nil)))) (le_tup (la_cons le_str (la_cons (le_var 3) (la_cons (le_var 4) la_nil))))))))))
theorem sc_Market_parcel : FnScope ["self", "one", "other", "amount", "number", "shot", "causes"] ["self", "one", "other", "amount", "number"] (defScope s_Market_parcel) := ⟨rfl, rfl, rfl, by decide +kernel, rfl, by decide +kernel, by decide +kernel⟩
theorem g_Market_parcel (T : Txt K mg C) : MFn P w K mg base CX0 2 C.m "parcel" ["self", "one", "other", "amount", "number"] (sp_Market_parcel C) := by
  obtain ⟨f, fd, hm, F⟩ := T.d_Market_parcel
  have G_Shot_parcel := g_Shot_parcel (P := P) (w := w) (base := base) T
  have G_Events_add := g_Events_add (P := P) (w := w) (base := base) T
  have b : Binds K fd ["self", "one", "other", "amount", "number"] [] := F.bindsN fun _ _ _ _ _ _ us hl => match us, hl with | [_, _, _, _, _], _ => rfl
  have nd := sc_Market_parcel.nd
  refine ⟨f, fd, hm, b, lfn (N := ["self", "one", "other", "amount", "number", "shot", "causes"]) (r := r_Market_parcel K C) (k := 1) F sc_Market_parcel (fun ds S Q Ex h => by repeat (first | exact (congrArg List.length h.1).trans rfl | obtain ⟨_, h⟩ := h)) (fun cdv A outer s H E hr => ?_) (read_Market_parcel)⟩
  · have tk := @takes0 (cxOf CX0 P w K mg base ["self", "one", "other", "amount", "number", "shot", "causes"] "Market.parcel" (defScope s_Market_parcel) f cdv A outer s H E).nox
    have PO : PassesOwn (model P w) (cxOf CX0 P w K mg base ["self", "one", "other", "amount", "number", "shot", "causes"] "Market.parcel" (defScope s_Market_parcel) f cdv A outer s H E).nox.A (cxOf CX0 P w K mg base ["self", "one", "other", "amount", "number", "shot", "causes"] "Market.parcel" (defScope s_Market_parcel) f cdv A outer s H E).nox.env (cxOf CX0 P w K mg base ["self", "one", "other", "amount", "number", "shot", "causes"] "Market.parcel" (defScope s_Market_parcel) f cdv A outer s H E).nox.xe := PassesOwn.never
    have hu : (A.deeper (envOfC "Market.parcel" (defScope s_Market_parcel) s.heap.objs.size f cdv)).units + 1 < cLine := Nat.lt_of_le_of_lt (Nat.add_le_add_left (by decide) _) hr.units
    exact (lss_cons (ls_for PO rfl (li_list (le_attr T.cl_m T.na_m_shots (le_var 0))) (pg_name (i := 5) nd rfl (by first | exact .inl rfl | exact .inr rfl)) (lss_one (ls_expr (le_gmeth G_Shot_parcel T.cl_s (hr.mono (by decide)) pass0 (le_var 5) (la_cons (le_var 1) (la_cons (le_var 2) (la_cons (le_var 3) la_nil))))))) (lss_cons (ls_sub hu (le_attr T.cl_m T.na_m_purses (le_var 0)) (le_var 2) (le_add (le_ix hu (le_attr T.cl_m T.na_m_purses (le_var 0)) (le_var 2)) (le_var 3))) (lss_cons (ls_set 6 nd (le_lst (nF .tmp) (la_cons (le_var 4) la_nil))) (lss_cons (ls_if (lt_isN (le_var 4) le_non) (lss_one (ls_set 6 nd (le_lst (nF .tmp) la_nil))) lss_nil) (lss_one (ls_expr (le_gmeth G_Events_add T.cl_e (hr.mono (by decide)) pass0 (le_attr T.cl_m T.na_m_events (le_var 0)) (la_cons (le_tup (la_cons le_str (la_cons (le_var 1) (la_cons (le_var 2) (la_cons (le_var 3) la_nil))))) (la_cons (le_var 2) (la_cons (le_var 6) la_nil))))))))))
theorem sc_Market_write : FnScope ["self", "k", "member", "but", "other"] ["self", "k", "member", "but"] (defScope s_Market_write) := ⟨rfl, rfl, rfl, by decide +kernel, rfl, by decide +kernel, by decide +kernel⟩
theorem g_Market_write (T : Txt K mg C) : MFn P w K mg base CX0 2 C.m "write" ["self", "k", "member", "but"] (sp_Market_write C) := by
  obtain ⟨f, fd, hm, F⟩ := T.d_Market_write
  have G_Shot_write := g_Shot_write (P := P) (w := w) (base := base) T
  have G_Events_count := g_Events_count (P := P) (w := w) (base := base) T
  have b : Binds K fd ["self", "k", "member", "but"] [] := F.bindsN fun _ _ _ _ _ _ us hl => match us, hl with | [_, _, _, _], _ => rfl
  have nd := sc_Market_write.nd
  refine ⟨f, fd, hm, b, lfn (N := ["self", "k", "member", "but", "other"]) (r := r_Market_write K C) (k := 1) F sc_Market_write (fun ds S Q Ex h => by repeat (first | exact (congrArg List.length h.1).trans rfl | obtain ⟨_, h⟩ := h)) (fun cdv A outer s H E hr => ?_) (read_Market_write)⟩
  · have tk := @takes0 (cxOf CX0 P w K mg base ["self", "k", "member", "but", "other"] "Market.write" (defScope s_Market_write) f cdv A outer s H E).nox
    have PO : PassesOwn (model P w) (cxOf CX0 P w K mg base ["self", "k", "member", "but", "other"] "Market.write" (defScope s_Market_write) f cdv A outer s H E).nox.A (cxOf CX0 P w K mg base ["self", "k", "member", "but", "other"] "Market.write" (defScope s_Market_write) f cdv A outer s H E).nox.env (cxOf CX0 P w K mg base ["self", "k", "member", "but", "other"] "Market.write" (defScope s_Market_write) f cdv A outer s H E).nox.xe := PassesOwn.never
    have hu : (A.deeper (envOfC "Market.write" (defScope s_Market_write) s.heap.objs.size f cdv)).units + 1 < cLine := Nat.lt_of_le_of_lt (Nat.add_le_add_left (by decide) _) hr.units
    exact (lss_cons (ls_expr (le_gmeth G_Shot_write T.cl_s (hr.mono (by decide)) pass0 (le_ix hu (le_attr T.cl_m T.na_m_shots (le_var 0)) (le_var 1)) (la_cons (le_var 2) (la_cons (le_ix hu (le_attr T.cl_m T.na_m_purses (le_var 0)) (le_var 2)) (la_cons (le_gmeth G_Events_count T.cl_e (hr.mono (by decide)) pass0 (le_attr T.cl_m T.na_m_events (le_var 0)) (la_cons (le_var 2) la_nil)) (la_cons (le_var 3) la_nil)))))) (lss_one (ls_for PO rfl (li_range (by rfl) T.fr_range (la_cons (le_attr T.cl_m T.na_m_many (le_var 0)) la_nil)) (pg_name (i := 4) nd rfl (by first | exact .inl rfl | exact .inr rfl)) (lss_one (ls_if (lt_ne (le_var 4) (le_var 2)) (lss_one (ls_expr (le_append (le_ix hu (le_attr T.cl_m T.na_m_roads (le_var 0)) (le_tup (la_cons (le_var 2) (la_cons (le_var 4) la_nil)))) (le_tup (la_cons le_str (la_cons (le_var 1) (la_cons le_non la_nil))))))) lss_nil)))))
theorem sc_Market_mark : FnScope ["self", "k", "one", "other"] ["self", "k", "one", "other"] (defScope s_Market_mark) := ⟨rfl, rfl, rfl, by decide +kernel, rfl, by decide +kernel, by decide +kernel⟩
theorem g_Market_mark (T : Txt K mg C) : MFn P w K mg base CX0 3 C.m "mark" ["self", "k", "one", "other"] (sp_Market_mark C) := by
  obtain ⟨f, fd, hm, F⟩ := T.d_Market_mark
  have G_Shot_has_written := g_Shot_has_written (P := P) (w := w) (base := base) T
  have G_Shot_leave := g_Shot_leave (P := P) (w := w) (base := base) T
  have G_Market_write := g_Market_write (P := P) (w := w) (base := base) T
  have b : Binds K fd ["self", "k", "one", "other"] [] := F.bindsN fun _ _ _ _ _ _ us hl => match us, hl with | [_, _, _, _], _ => rfl
  have nd := sc_Market_mark.nd
  refine ⟨f, fd, hm, b, lfn (N := ["self", "k", "one", "other"]) (r := r_Market_mark K C) (k := 2) F sc_Market_mark (fun ds S Q Ex h => by repeat (first | exact (congrArg List.length h.1).trans rfl | obtain ⟨_, h⟩ := h)) (fun cdv A outer s H E hr => ?_) (read_Market_mark)⟩
  · have tk := @takes0 (cxOf CX0 P w K mg base ["self", "k", "one", "other"] "Market.mark" (defScope s_Market_mark) f cdv A outer s H E).nox
    have PO : PassesOwn (model P w) (cxOf CX0 P w K mg base ["self", "k", "one", "other"] "Market.mark" (defScope s_Market_mark) f cdv A outer s H E).nox.A (cxOf CX0 P w K mg base ["self", "k", "one", "other"] "Market.mark" (defScope s_Market_mark) f cdv A outer s H E).nox.env (cxOf CX0 P w K mg base ["self", "k", "one", "other"] "Market.mark" (defScope s_Market_mark) f cdv A outer s H E).nox.xe := PassesOwn.never
    have hu : (A.deeper (envOfC "Market.mark" (defScope s_Market_mark) s.heap.objs.size f cdv)).units + 1 < cLine := Nat.lt_of_le_of_lt (Nat.add_le_add_left (by decide) _) hr.units
    exact (lss_one (ls_if (lt_val (le_gmeth G_Shot_has_written T.cl_s (hr.mono (by decide)) pass0 (le_ix hu (le_attr T.cl_m T.na_m_shots (le_var 0)) (le_var 1)) (la_cons (le_var 3) la_nil))) (lss_one (ls_expr (le_gmeth G_Shot_leave T.cl_s (hr.mono (by decide)) pass0 (le_ix hu (le_attr T.cl_m T.na_m_shots (le_var 0)) (le_var 1)) (la_cons (le_var 2) (la_cons (le_var 3) la_nil))))) (lss_one (ls_expr (le_gmeth G_Market_write T.cl_m (hr.mono (by decide)) pass0 (le_var 0) (la_cons (le_var 1) (la_cons (le_var 3) (la_cons (le_var 2) la_nil))))))))
theorem sc_Market_take : FnScope ["self", "one", "other", "first"] ["self", "one", "other"] (defScope s_Market_take) := ⟨rfl, rfl, rfl, by decide +kernel, rfl, by decide +kernel, by decide +kernel⟩
theorem g_Market_take (T : Txt K mg C) : MFn P w K mg base CX0 4 C.m "take" ["self", "one", "other"] (sp_Market_take C) := by
  obtain ⟨f, fd, hm, F⟩ := T.d_Market_take
  have G_Market_mark := g_Market_mark (P := P) (w := w) (base := base) T
  have G_Market_parcel := g_Market_parcel (P := P) (w := w) (base := base) T
  have b : Binds K fd ["self", "one", "other"] [] := F.bindsN fun _ _ _ _ _ _ us hl => match us, hl with | [_, _, _], _ => rfl
  have nd := sc_Market_take.nd
  refine ⟨f, fd, hm, b, lfn (N := ["self", "one", "other", "first"]) (r := r_Market_take K C) (k := 3) F sc_Market_take (fun ds S Q Ex h => by repeat (first | exact (congrArg List.length h.1).trans rfl | obtain ⟨_, h⟩ := h)) (fun cdv A outer s H E hr => ?_) (read_Market_take)⟩
  · have tk := @takes0 (cxOf CX0 P w K mg base ["self", "one", "other", "first"] "Market.take" (defScope s_Market_take) f cdv A outer s H E).nox
    have PO : PassesOwn (model P w) (cxOf CX0 P w K mg base ["self", "one", "other", "first"] "Market.take" (defScope s_Market_take) f cdv A outer s H E).nox.A (cxOf CX0 P w K mg base ["self", "one", "other", "first"] "Market.take" (defScope s_Market_take) f cdv A outer s H E).nox.env (cxOf CX0 P w K mg base ["self", "one", "other", "first"] "Market.take" (defScope s_Market_take) f cdv A outer s H E).nox.xe := PassesOwn.never
    have hu : (A.deeper (envOfC "Market.take" (defScope s_Market_take) s.heap.objs.size f cdv)).units + 1 < cLine := Nat.lt_of_le_of_lt (Nat.add_le_add_left (by decide) _) hr.units
    exact (lss_one (ls_if (lt_tru (le_ix hu (le_attr T.cl_m T.na_m_roads (le_var 0)) (le_tup (la_cons (le_var 1) (la_cons (le_var 2) la_nil))))) (lss_cons (ls_set 3 nd (le_pop0 (le_ix hu (le_attr T.cl_m T.na_m_roads (le_var 0)) (le_tup (la_cons (le_var 1) (la_cons (le_var 2) la_nil)))) le_int)) (lss_one (ls_if (lt_eq (le_ix hu (le_var 3) le_int) le_str) (lss_one (ls_expr (le_gmeth G_Market_mark T.cl_m (hr.mono (by decide)) pass0 (le_var 0) (la_cons (le_ix hu (le_var 3) le_int) (la_cons (le_var 1) (la_cons (le_var 2) la_nil)))))) (lss_one (ls_expr (le_gmeth G_Market_parcel T.cl_m (hr.mono (by decide)) pass0 (le_var 0) (la_cons (le_var 1) (la_cons (le_var 2) (la_cons (le_ix hu (le_var 3) le_int) (la_cons (le_ix hu (le_var 3) le_int) la_nil)))))))))) lss_nil))
theorem sc_Market_begin : FnScope ["self", "one"] ["self", "one"] (defScope s_Market_begin) := ⟨rfl, rfl, rfl, by decide +kernel, rfl, by decide +kernel, by decide +kernel⟩
theorem g_Market_begin (T : Txt K mg C) : MFn P w K mg base CX0 3 C.m "begin" ["self", "one"] (sp_Market_begin C) := by
  obtain ⟨f, fd, hm, F⟩ := T.d_Market_begin
  have G_Shot_init := g_Shot_init (P := P) (w := w) (base := base) T
  have G_Market_write := g_Market_write (P := P) (w := w) (base := base) T
  have b : Binds K fd ["self", "one"] [] := F.bindsN fun _ _ _ _ _ _ us hl => match us, hl with | [_, _], _ => rfl
  have nd := sc_Market_begin.nd
  refine ⟨f, fd, hm, b, lfn (N := ["self", "one"]) (r := r_Market_begin K C) (k := 2) F sc_Market_begin (fun ds S Q Ex h => by repeat (first | exact (congrArg List.length h.1).trans rfl | obtain ⟨_, h⟩ := h)) (fun cdv A outer s H E hr => ?_) (read_Market_begin)⟩
  · have tk := @takes0 (cxOf CX0 P w K mg base ["self", "one"] "Market.begin" (defScope s_Market_begin) f cdv A outer s H E).nox
    have PO : PassesOwn (model P w) (cxOf CX0 P w K mg base ["self", "one"] "Market.begin" (defScope s_Market_begin) f cdv A outer s H E).nox.A (cxOf CX0 P w K mg base ["self", "one"] "Market.begin" (defScope s_Market_begin) f cdv A outer s H E).nox.env (cxOf CX0 P w K mg base ["self", "one"] "Market.begin" (defScope s_Market_begin) f cdv A outer s H E).nox.xe := PassesOwn.never
    have hu : (A.deeper (envOfC "Market.begin" (defScope s_Market_begin) s.heap.objs.size f cdv)).units + 1 < cLine := Nat.lt_of_le_of_lt (Nat.add_le_add_left (by decide) _) hr.units
    exact (lss_cons (ls_expr (le_append (le_attr T.cl_m T.na_m_shots (le_var 0)) (le_gmake nA G_Shot_init T.mg_Shot (hr.mono (by decide)) pass0 (la_cons (le_attr T.cl_m T.na_m_many (le_var 0)) la_nil)))) (lss_cons (ls_expr (le_gmeth G_Market_write T.cl_m (hr.mono (by decide)) pass0 (le_var 0) (la_cons (le_sub (le_callB call_len_seq dLen_l (by rfl) T.fr_len (by decide +kernel) (la_cons (le_attr T.cl_m T.na_m_shots (le_var 0)) la_nil)) le_int) (la_cons (le_var 1) (la_cons le_non la_nil))))) (lss_one (ls_ret (le_sub (le_callB call_len_seq dLen_l (by rfl) T.fr_len (by decide +kernel) (la_cons (le_attr T.cl_m T.na_m_shots (le_var 0)) la_nil)) le_int)))))
theorem sc_Market_log : FnScope ["self"] ["self"] (defScope s_Market_log) := ⟨rfl, rfl, rfl, by decide +kernel, rfl, by decide +kernel, by decide +kernel⟩
theorem g_Market_log (T : Txt K mg C) : MFn P w K mg base CX0 1 C.m "log" ["self"] (sp_Market_log C) := by
  obtain ⟨f, fd, hm, F⟩ := T.d_Market_log
  have b : Binds K fd ["self"] [] := F.bindsN fun _ _ _ _ _ _ us hl => match us, hl with | [_], _ => rfl
  have nd := sc_Market_log.nd
  refine ⟨f, fd, hm, b, lfn (N := ["self"]) (r := r_Market_log K C) (k := 0) F sc_Market_log (fun ds S Q Ex h => by repeat (first | exact (congrArg List.length h.1).trans rfl | obtain ⟨_, h⟩ := h)) (fun cdv A outer s H E hr => ?_) (read_Market_log)⟩
  · have tk := @takes0 (cxOf CX0 P w K mg base ["self"] "Market.log" (defScope s_Market_log) f cdv A outer s H E).nox
    have PO : PassesOwn (model P w) (cxOf CX0 P w K mg base ["self"] "Market.log" (defScope s_Market_log) f cdv A outer s H E).nox.A (cxOf CX0 P w K mg base ["self"] "Market.log" (defScope s_Market_log) f cdv A outer s H E).nox.env (cxOf CX0 P w K mg base ["self"] "Market.log" (defScope s_Market_log) f cdv A outer s H E).nox.xe := PassesOwn.never
    have hu : (A.deeper (envOfC "Market.log" (defScope s_Market_log) s.heap.objs.size f cdv)).units + 1 < cLine := Nat.lt_of_le_of_lt (Nat.add_le_add_left (by decide) _) hr.units
    exact (lss_one (ls_ret (le_callTy call_tuple_of dTuple_l (by rfl) T.fr_tuple (by decide +kernel) (la_cons (le_attr T.cl_e T.na_e_told (le_attr T.cl_m T.na_m_events (le_var 0))) la_nil))))
theorem sc_Market_must_be : FnScope ["self", "n"] ["self", "n"] (defScope s_Market_must_be) := ⟨rfl, rfl, rfl, by decide +kernel, rfl, by decide +kernel, by decide +kernel⟩
theorem g_Market_must_be (T : Txt K mg C) : MFn P w K mg base (L2.CX P w) 1 C.m "must_be" ["self", "n"] (sp_Market_must_be C) := by
  obtain ⟨f, fd, hm, F⟩ := T.d_Market_must_be
  have b : Binds K fd ["self", "n"] [] := F.bindsN fun _ _ _ _ _ _ us hl => match us, hl with | [_, _], _ => rfl
  have nd := sc_Market_must_be.nd
  refine ⟨f, fd, hm, b, lfnX (N := ["self", "n"]) (r := r_Market_must_be K C) (k := 0) F sc_Market_must_be (fun ds S Q Ex h => by repeat (first | exact (congrArg List.length h.1).trans rfl | obtain ⟨_, h⟩ := h)) (fun cdv A outer s H E hr => ?_) (read_Market_must_be)⟩
  · have tk : Takes (cxOf (L2.CX P w) P w K mg base ["self", "n"] "Market.must_be" (defScope s_Market_must_be) f cdv A outer s H E) (fun cls d _ H => E cls d H) := takes_of rfl rfl rfl rfl
    have PO : PassesOwn (model P w) (cxOf (L2.CX P w) P w K mg base ["self", "n"] "Market.must_be" (defScope s_Market_must_be) f cdv A outer s H E).A (cxOf (L2.CX P w) P w K mg base ["self", "n"] "Market.must_be" (defScope s_Market_must_be) f cdv A outer s H E).env (cxOf (L2.CX P w) P w K mg base ["self", "n"] "Market.must_be" (defScope s_Market_must_be) f cdv A outer s H E).xe := passes_of rfl
    have hu : (A.deeper (envOfC "Market.must_be" (defScope s_Market_must_be) s.heap.objs.size f cdv)).units + 1 < cLine := Nat.lt_of_le_of_lt (Nat.add_le_add_left (by decide) _) hr.units
    exact (lss_one (ls_if (lt_not (lt_chain op_le op_lt oI_bl oI_bl le_int (le_var 1) (le_callB call_len_seq dLen_l (by rfl) T.fr_len (by decide +kernel) (la_cons (le_attr T.cl_e T.na_e_told (le_attr T.cl_m T.na_m_events (le_var 0))) la_nil)))) (lss_one (ls_raise rfl tk T.ex_NoEvent T.mg_NoEvent T.kx_NoEvent T.bx_NoEvent T.tx_NoEvent (by rfl))) lss_nil))
theorem sc_Market_ahead : FnScope ["self", "n", "m"] ["self", "n", "m"] (defScope s_Market_ahead) := ⟨rfl, rfl, rfl, by decide +kernel, rfl, by decide +kernel, by decide +kernel⟩
theorem g_Market_ahead (T : Txt K mg C) : MFn P w K mg base (L2.CX P w) 3 C.m "ahead" ["self", "n", "m"] (sp_Market_ahead C) := by
  obtain ⟨f, fd, hm, F⟩ := T.d_Market_ahead
  have G_Market_must_be := g_Market_must_be (P := P) (w := w) (base := base) T
  have G_Events_ahead := g_Events_ahead (P := P) (w := w) (base := base) T
  have b : Binds K fd ["self", "n", "m"] [] := F.bindsN fun _ _ _ _ _ _ us hl => match us, hl with | [_, _, _], _ => rfl
  have nd := sc_Market_ahead.nd
  refine ⟨f, fd, hm, b, lfnX (N := ["self", "n", "m"]) (r := r_Market_ahead K C) (k := 2) F sc_Market_ahead (fun ds S Q Ex h => by repeat (first | exact (congrArg List.length h.1).trans rfl | obtain ⟨_, h⟩ := h)) (fun cdv A outer s H E hr => ?_) (read_Market_ahead)⟩
  · have tk : Takes (cxOf (L2.CX P w) P w K mg base ["self", "n", "m"] "Market.ahead" (defScope s_Market_ahead) f cdv A outer s H E) (fun cls d _ H => E cls d H) := takes_of rfl rfl rfl rfl
    have PO : PassesOwn (model P w) (cxOf (L2.CX P w) P w K mg base ["self", "n", "m"] "Market.ahead" (defScope s_Market_ahead) f cdv A outer s H E).A (cxOf (L2.CX P w) P w K mg base ["self", "n", "m"] "Market.ahead" (defScope s_Market_ahead) f cdv A outer s H E).env (cxOf (L2.CX P w) P w K mg base ["self", "n", "m"] "Market.ahead" (defScope s_Market_ahead) f cdv A outer s H E).xe := passes_of rfl
    have hu : (A.deeper (envOfC "Market.ahead" (defScope s_Market_ahead) s.heap.objs.size f cdv)).units + 1 < cLine := Nat.lt_of_le_of_lt (Nat.add_le_add_left (by decide) _) hr.units
    exact (lss_cons (ls_expr (le_gmethX G_Market_must_be T.cl_m (hr.mono (by decide)) tk (le_var 0) (la_cons (le_var 1) la_nil))) (lss_cons (ls_expr (le_gmethX G_Market_must_be T.cl_m (hr.mono (by decide)) tk (le_var 0) (la_cons (le_var 2) la_nil))) (lss_one (ls_ret (le_gmeth G_Events_ahead T.cl_e (hr.mono (by decide)) pass0 (le_attr T.cl_m T.na_m_events (le_var 0)) (la_cons (le_var 1) (la_cons (le_var 2) la_nil)))))))
theorem sc_Market_shot_of : FnScope ["self", "k"] ["self", "k"] (defScope s_Market_shot_of) := ⟨rfl, rfl, rfl, by decide +kernel, rfl, by decide +kernel, by decide +kernel⟩
theorem g_Market_shot_of (T : Txt K mg C) : MFn P w K mg base (L2.CX P w) 1 C.m "shot_of" ["self", "k"] (sp_Market_shot_of C) := by
  obtain ⟨f, fd, hm, F⟩ := T.d_Market_shot_of
  have b : Binds K fd ["self", "k"] [] := F.bindsN fun _ _ _ _ _ _ us hl => match us, hl with | [_, _], _ => rfl
  have nd := sc_Market_shot_of.nd
  refine ⟨f, fd, hm, b, lfnX (N := ["self", "k"]) (r := r_Market_shot_of K C) (k := 0) F sc_Market_shot_of (fun ds S Q Ex h => by repeat (first | exact (congrArg List.length h.1).trans rfl | obtain ⟨_, h⟩ := h)) (fun cdv A outer s H E hr => ?_) (read_Market_shot_of)⟩
  · have tk : Takes (cxOf (L2.CX P w) P w K mg base ["self", "k"] "Market.shot_of" (defScope s_Market_shot_of) f cdv A outer s H E) (fun cls d _ H => E cls d H) := takes_of rfl rfl rfl rfl
    have PO : PassesOwn (model P w) (cxOf (L2.CX P w) P w K mg base ["self", "k"] "Market.shot_of" (defScope s_Market_shot_of) f cdv A outer s H E).A (cxOf (L2.CX P w) P w K mg base ["self", "k"] "Market.shot_of" (defScope s_Market_shot_of) f cdv A outer s H E).env (cxOf (L2.CX P w) P w K mg base ["self", "k"] "Market.shot_of" (defScope s_Market_shot_of) f cdv A outer s H E).xe := passes_of rfl
    have hu : (A.deeper (envOfC "Market.shot_of" (defScope s_Market_shot_of) s.heap.objs.size f cdv)).units + 1 < cLine := Nat.lt_of_le_of_lt (Nat.add_le_add_left (by decide) _) hr.units
    exact (lss_cons (ls_if (lt_not (lt_chain op_le op_lt oI_bl oI_bl le_int (le_var 1) (le_callB call_len_seq dLen_l (by rfl) T.fr_len (by decide +kernel) (la_cons (le_attr T.cl_m T.na_m_shots (le_var 0)) la_nil)))) (lss_one (ls_raise rfl tk T.ex_NoPicture T.mg_NoPicture T.kx_NoPicture T.bx_NoPicture T.tx_NoPicture (by rfl))) lss_nil) (lss_one (ls_ret (le_ix hu (le_attr T.cl_m T.na_m_shots (le_var 0)) (le_var 1)))))
theorem sc_Market_is_done : FnScope ["self", "k"] ["self", "k"] (defScope s_Market_is_done) := ⟨rfl, rfl, rfl, by decide +kernel, rfl, by decide +kernel, by decide +kernel⟩
theorem g_Market_is_done (T : Txt K mg C) : MFn P w K mg base (L2.CX P w) 2 C.m "is_done" ["self", "k"] (sp_Market_is_done C) := by
  obtain ⟨f, fd, hm, F⟩ := T.d_Market_is_done
  have G_Shot_is_done := g_Shot_is_done (P := P) (w := w) (base := base) T
  have G_Market_shot_of := g_Market_shot_of (P := P) (w := w) (base := base) T
  have b : Binds K fd ["self", "k"] [] := F.bindsN fun _ _ _ _ _ _ us hl => match us, hl with | [_, _], _ => rfl
  have nd := sc_Market_is_done.nd
  refine ⟨f, fd, hm, b, lfnX (N := ["self", "k"]) (r := r_Market_is_done K C) (k := 1) F sc_Market_is_done (fun ds S Q Ex h => by repeat (first | exact (congrArg List.length h.1).trans rfl | obtain ⟨_, h⟩ := h)) (fun cdv A outer s H E hr => ?_) (read_Market_is_done)⟩
  · have tk : Takes (cxOf (L2.CX P w) P w K mg base ["self", "k"] "Market.is_done" (defScope s_Market_is_done) f cdv A outer s H E) (fun cls d _ H => E cls d H) := takes_of rfl rfl rfl rfl
    have PO : PassesOwn (model P w) (cxOf (L2.CX P w) P w K mg base ["self", "k"] "Market.is_done" (defScope s_Market_is_done) f cdv A outer s H E).A (cxOf (L2.CX P w) P w K mg base ["self", "k"] "Market.is_done" (defScope s_Market_is_done) f cdv A outer s H E).env (cxOf (L2.CX P w) P w K mg base ["self", "k"] "Market.is_done" (defScope s_Market_is_done) f cdv A outer s H E).xe := passes_of rfl
    have hu : (A.deeper (envOfC "Market.is_done" (defScope s_Market_is_done) s.heap.objs.size f cdv)).units + 1 < cLine := Nat.lt_of_le_of_lt (Nat.add_le_add_left (by decide) _) hr.units
    exact (lss_one (ls_ret (le_gmeth0 G_Shot_is_done T.cl_s (hr.mono (by decide)) pass0 (le_gmethX G_Market_shot_of T.cl_m (hr.mono (by decide)) tk (le_var 0) (la_cons (le_var 1) la_nil)))))
theorem sc_Market_cut_of : FnScope ["self", "k"] ["self", "k"] (defScope s_Market_cut_of) := ⟨rfl, rfl, rfl, by decide +kernel, rfl, by decide +kernel, by decide +kernel⟩
theorem g_Market_cut_of (T : Txt K mg C) : MFn P w K mg base (L2.CX P w) 3 C.m "cut_of" ["self", "k"] (sp_Market_cut_of C) := by
  obtain ⟨f, fd, hm, F⟩ := T.d_Market_cut_of
  have G_Market_is_done := g_Market_is_done (P := P) (w := w) (base := base) T
  have b : Binds K fd ["self", "k"] [] := F.bindsN fun _ _ _ _ _ _ us hl => match us, hl with | [_, _], _ => rfl
  have nd := sc_Market_cut_of.nd
  refine ⟨f, fd, hm, b, lfnX (N := ["self", "k"]) (r := r_Market_cut_of K C) (k := 2) F sc_Market_cut_of (fun ds S Q Ex h => by repeat (first | exact (congrArg List.length h.1).trans rfl | obtain ⟨_, h⟩ := h)) (fun cdv A outer s H E hr => ?_) (read_Market_cut_of)⟩
  · have tk : Takes (cxOf (L2.CX P w) P w K mg base ["self", "k"] "Market.cut_of" (defScope s_Market_cut_of) f cdv A outer s H E) (fun cls d _ H => E cls d H) := takes_of rfl rfl rfl rfl
    have PO : PassesOwn (model P w) (cxOf (L2.CX P w) P w K mg base ["self", "k"] "Market.cut_of" (defScope s_Market_cut_of) f cdv A outer s H E).A (cxOf (L2.CX P w) P w K mg base ["self", "k"] "Market.cut_of" (defScope s_Market_cut_of) f cdv A outer s H E).env (cxOf (L2.CX P w) P w K mg base ["self", "k"] "Market.cut_of" (defScope s_Market_cut_of) f cdv A outer s H E).xe := passes_of rfl
    have hu : (A.deeper (envOfC "Market.cut_of" (defScope s_Market_cut_of) s.heap.objs.size f cdv)).units + 1 < cLine := Nat.lt_of_le_of_lt (Nat.add_le_add_left (by decide) _) hr.units
    exact (lss_cons (ls_if (lt_not (lt_val (le_gmethX G_Market_is_done T.cl_m (hr.mono (by decide)) tk (le_var 0) (la_cons (le_var 1) la_nil)))) (lss_one (ls_raise rfl tk T.ex_NotDone T.mg_NotDone T.kx_NotDone T.bx_NotDone T.tx_NotDone (by rfl))) lss_nil) (lss_one (ls_ret (le_callTy call_tuple_of dTuple_l (by rfl) T.fr_tuple (by decide +kernel) (la_cons (le_attr T.cl_s T.na_s_cut (le_ix hu (le_attr T.cl_m T.na_m_shots (le_var 0)) (le_var 1))) la_nil)))))
theorem sc_law_do : FnScope ["market", "act", "told"] ["market", "act"] (defScope s_law_do) := ⟨rfl, rfl, rfl, by decide +kernel, rfl, by decide +kernel, by decide +kernel⟩
theorem g_law_do (T : Txt K mg C) : GFn P w K mg base CX0 5 "_law_do" ["market", "act"] (sp_law_do C) := by
  obtain ⟨f, fd, hm, F⟩ := T.d_law_do
  have G_Market_give := g_Market_give (P := P) (w := w) (base := base) T
  have G_Market_take := g_Market_take (P := P) (w := w) (base := base) T
  have G_Market_begin := g_Market_begin (P := P) (w := w) (base := base) T
  have b : Binds K fd ["market", "act"] [] := F.bindsN fun _ _ _ _ _ _ us hl => match us, hl with | [_, _], _ => rfl
  have nd := sc_law_do.nd
  refine ⟨f, fd, hm, F.kp, b, lfn (N := ["market", "act", "told"]) (r := r_law_do K C) (k := 4) F sc_law_do (fun ds S Q Ex h => by repeat (first | exact (congrArg List.length h.1).trans rfl | obtain ⟨_, h⟩ := h)) (fun cdv A outer s H E hr => ?_) (read_law_do T.xm_NoCoins)⟩
  · have tk := @takes0 (cxOf CX0 P w K mg base ["market", "act", "told"] "_law_do" (defScope s_law_do) f cdv A outer s H E).nox
    have PO : PassesOwn (model P w) (cxOf CX0 P w K mg base ["market", "act", "told"] "_law_do" (defScope s_law_do) f cdv A outer s H E).nox.A (cxOf CX0 P w K mg base ["market", "act", "told"] "_law_do" (defScope s_law_do) f cdv A outer s H E).nox.env (cxOf CX0 P w K mg base ["market", "act", "told"] "_law_do" (defScope s_law_do) f cdv A outer s H E).nox.xe := PassesOwn.never
    have hu : (A.deeper (envOfC "_law_do" (defScope s_law_do) s.heap.objs.size f cdv)).units + 1 < cLine := Nat.lt_of_le_of_lt (Nat.add_le_add_left (by decide) _) hr.units
    exact (lss_cons (ls_set 2 nd le_non) (lss_cons (ls_try rfl rfl ⟨rfl, by decide, .inl T.mg_NoCoins⟩ tk (fun W' pn xe tk PO => (lss_one (ls_if (lt_eq (le_ix hu (le_var 1) le_int) le_str) (lss_one (ls_set 2 nd (le_gmethX G_Market_give T.cl_m (hr.mono (by decide)) tk (le_var 0) (la_cons (le_ix hu (le_var 1) le_int) (la_cons (le_ix hu (le_var 1) le_int) (la_cons (le_ix hu (le_var 1) le_int) la_nil)))))) (lss_one (ls_if (lt_eq (le_ix hu (le_var 1) le_int) le_str) (lss_one (ls_set 2 nd (le_gmeth G_Market_take T.cl_m (hr.mono (by decide)) pass0 (le_var 0) (la_cons (le_ix hu (le_var 1) le_int) (la_cons (le_ix hu (le_var 1) le_int) la_nil))))) (lss_one (ls_set 2 nd (le_gmeth G_Market_begin T.cl_m (hr.mono (by decide)) pass0 (le_var 0) (la_cons (le_ix hu (le_var 1) le_int) la_nil))))))))) (fun a oe pn hf => (lss_one (ls_set 2 nd le_str)))) (lss_one (ls_ret (le_var 2)))))
theorem sc_law_member : FnScope ["event"] ["event"] (defScope s_law_member) := ⟨rfl, rfl, rfl, by decide +kernel, rfl, by decide +kernel, by decide +kernel⟩
theorem g_law_member (T : Txt K mg C) : GFn P w K mg base CX0 1 "_law_member" ["event"] (sp_law_member C) := by
  obtain ⟨f, fd, hm, F⟩ := T.d_law_member
  have b : Binds K fd ["event"] [] := F.bindsN fun _ _ _ _ _ _ us hl => match us, hl with | [_], _ => rfl
  have nd := sc_law_member.nd
  refine ⟨f, fd, hm, F.kp, b, lfn (N := ["event"]) (r := r_law_member K C) (k := 0) F sc_law_member (fun ds S Q Ex h => by repeat (first | exact (congrArg List.length h.1).trans rfl | obtain ⟨_, h⟩ := h)) (fun cdv A outer s H E hr => ?_) (read_law_member)⟩
  · have tk := @takes0 (cxOf CX0 P w K mg base ["event"] "_law_member" (defScope s_law_member) f cdv A outer s H E).nox
    have PO : PassesOwn (model P w) (cxOf CX0 P w K mg base ["event"] "_law_member" (defScope s_law_member) f cdv A outer s H E).nox.A (cxOf CX0 P w K mg base ["event"] "_law_member" (defScope s_law_member) f cdv A outer s H E).nox.env (cxOf CX0 P w K mg base ["event"] "_law_member" (defScope s_law_member) f cdv A outer s H E).nox.xe := PassesOwn.never
    have hu : (A.deeper (envOfC "_law_member" (defScope s_law_member) s.heap.objs.size f cdv)).units + 1 < cLine := Nat.lt_of_le_of_lt (Nat.add_le_add_left (by decide) _) hr.units
    exact (lss_cons (ls_if (lt_eq (le_ix hu (le_var 0) le_int) le_str) (lss_one (ls_ret (le_ix hu (le_var 0) le_int))) lss_nil) (lss_one (ls_ret (le_ix hu (le_var 0) le_int))))
theorem sc_law_within : FnScope ["log", "cut", "k", "counts", "found", "n", "event", "member"] ["log", "cut"] (defScope s_law_within) := ⟨rfl, rfl, rfl, by decide +kernel, rfl, by decide +kernel, by decide +kernel⟩
theorem g_law_within (T : Txt K mg C) : GFn P w K mg base CX0 2 "_law_within" ["log", "cut"] (sp_law_within C) := by
  obtain ⟨f, fd, hm, F⟩ := T.d_law_within
  have G_law_member := g_law_member (P := P) (w := w) (base := base) T
  have b : Binds K fd ["log", "cut"] [] := F.bindsN fun _ _ _ _ _ _ us hl => match us, hl with | [_, _], _ => rfl
  have nd := sc_law_within.nd
  refine ⟨f, fd, hm, F.kp, b, lfn (N := ["log", "cut", "k", "counts", "found", "n", "event", "member"]) (r := r_law_within K C) (k := 1) F sc_law_within (fun ds S Q Ex h => by repeat (first | exact (congrArg List.length h.1).trans rfl | obtain ⟨_, h⟩ := h)) (fun cdv A outer s H E hr => ?_) (read_law_within)⟩
  · have tk := @takes0 (cxOf CX0 P w K mg base ["log", "cut", "k", "counts", "found", "n", "event", "member"] "_law_within" (defScope s_law_within) f cdv A outer s H E).nox
    have PO : PassesOwn (model P w) (cxOf CX0 P w K mg base ["log", "cut", "k", "counts", "found", "n", "event", "member"] "_law_within" (defScope s_law_within) f cdv A outer s H E).nox.A (cxOf CX0 P w K mg base ["log", "cut", "k", "counts", "found", "n", "event", "member"] "_law_within" (defScope s_law_within) f cdv A outer s H E).nox.env (cxOf CX0 P w K mg base ["log", "cut", "k", "counts", "found", "n", "event", "member"] "_law_within" (defScope s_law_within) f cdv A outer s H E).nox.xe := PassesOwn.never
    have hu : (A.deeper (envOfC "_law_within" (defScope s_law_within) s.heap.objs.size f cdv)).units + 1 < cLine := Nat.lt_of_le_of_lt (Nat.add_le_add_left (by decide) _) hr.units
    exact (lss_cons (ls_setLc (nF .tmp) 3 rfl nd rfl rfl (sw_true rfl rfl rfl (by kernel_rfl)) (li_tup (le_var 1)) (blkOk_by (own := [("k", 2)]) (by kernel_rfl)) rfl (fun _ _ _ _ _ => (pg_name (i := 2) nd rfl (by first | exact .inl rfl | exact .inr rfl))) (fun _ _ _ _ _ => lts_nil) (fun _ _ _ _ _ => le_int)) (lss_cons (ls_set 4 nd (le_lst (nF .tmp) la_nil)) (lss_cons (ls_for PO rfl (li_enum (by rfl) T.fr_enumerate (la_cons (le_var 0) la_nil)) (pg_tup rfl (pgs_cons (pg_name (i := 5) nd rfl (by first | exact .inl rfl | exact .inr rfl)) (pgs_cons (pg_name (i := 6) nd rfl (by first | exact .inl rfl | exact .inr rfl)) pgs_nil))) (lss_cons (ls_set 7 nd (le_gdef G_law_member (hr.mono (by decide)) pass0 (la_cons (le_var 6) la_nil))) (lss_cons (ls_sub hu (le_var 3) (le_var 7) (le_add (le_ix hu (le_var 3) (le_var 7)) le_int)) (lss_one (ls_if (lt_le (le_ix hu (le_var 3) (le_var 7)) (le_ix hu (le_var 1) (le_var 7))) (lss_one (ls_expr (le_append (le_var 4) (le_var 5)))) lss_nil))))) (lss_one (ls_ret (le_var 4))))))
theorem sc_law : FnScope ["script", "coins", "market", "done", "since", "act", "k", "log", "some", "n", "m", "early", "one", "other"] ["script"] (defScope s_law) := ⟨rfl, rfl, rfl, by decide +kernel, rfl, by decide +kernel, by decide +kernel⟩
theorem ok_law (T : Txt K mg C) {f : Addr} {fd : FuncData} (F : FnD K "law" "law" (defArgs s_law) (defBody s_law) (defScope s_law) f fd) : FnOk P w K mg base CX0 6 f fd ["script"] (liftSp K (sp_law11 C)) := by
  have G_law_coins := g_law_coins (P := P) (w := w) (base := base) T
  have G_Market_init := g_Market_init (P := P) (w := w) (base := base) T
  have G_law_acts := g_law_acts (P := P) (w := w) (base := base) T
  have G_law_do := g_law_do (P := P) (w := w) (base := base) T
  have G_Market_is_done := g_Market_is_done (P := P) (w := w) (base := base) T
  have G_Market_log := g_Market_log (P := P) (w := w) (base := base) T
  have G_Market_cut_of := g_Market_cut_of (P := P) (w := w) (base := base) T
  have G_law_within := g_law_within (P := P) (w := w) (base := base) T
  have G_Market_ahead := g_Market_ahead (P := P) (w := w) (base := base) T
  have nd := sc_law.nd
  refine lfn (N := ["script", "coins", "market", "done", "since", "act", "k", "log", "some", "n", "m", "early", "one", "other"]) (r := r_law11 K C) (k := 5) F sc_law (fun ds S Q Ex h => by repeat (first | exact (congrArg List.length h.1).trans rfl | obtain ⟨_, h⟩ := h)) (fun cdv A outer s H E hr => ?_) (read_law11)
  · have tk := @takes0 (cxOf CX0 P w K mg base ["script", "coins", "market", "done", "since", "act", "k", "log", "some", "n", "m", "early", "one", "other"] "law" (defScope s_law) f cdv A outer s H E).nox
    have PO : PassesOwn (model P w) (cxOf CX0 P w K mg base ["script", "coins", "market", "done", "since", "act", "k", "log", "some", "n", "m", "early", "one", "other"] "law" (defScope s_law) f cdv A outer s H E).nox.A (cxOf CX0 P w K mg base ["script", "coins", "market", "done", "since", "act", "k", "log", "some", "n", "m", "early", "one", "other"] "law" (defScope s_law) f cdv A outer s H E).nox.env (cxOf CX0 P w K mg base ["script", "coins", "market", "done", "since", "act", "k", "log", "some", "n", "m", "early", "one", "other"] "law" (defScope s_law) f cdv A outer s H E).nox.xe := PassesOwn.never
    have hu : (A.deeper (envOfC "law" (defScope s_law) s.heap.objs.size f cdv)).units + 1 < cLine := Nat.lt_of_le_of_lt (Nat.add_le_add_left (by decide) _) hr.units
    exact (lss_cons (ls_set 1 nd (le_gdef G_law_coins (hr.mono (by decide)) pass0 (la_cons (le_var 0) la_nil))) (lss_cons (ls_set 2 nd (le_gmake (nF (.mI)) G_Market_init T.mg_Market (hr.mono (by decide)) pass0 (la_cons (le_var 1) la_nil))) (lss_cons (ls_set 3 nd (le_lst (nF .tmp) la_nil)) (lss_cons (ls_set 4 nd (le_lst (nF (.x0 0)) la_nil)) (lss_cons (ls_for PO rfl (li_list (le_gdef G_law_acts (hr.mono (by decide)) pass0 (la_cons (le_var 0) (la_cons le_bl la_nil)))) (pg_name (i := 5) nd rfl (by first | exact .inl rfl | exact .inr rfl)) (lss_cons (ls_if (lt_eq (le_ix hu (le_var 5) le_int) le_str) (lss_one (ls_expr (le_append (le_var 4) (le_callTy call_list_of (dList_l nA) (by rfl) T.fr_list (by decide +kernel) (la_cons (le_var 3) la_nil))))) lss_nil) (lss_cons (ls_expr (le_gdef G_law_do (hr.mono (by decide)) pass0 (la_cons (le_var 2) (la_cons (le_var 5) la_nil)))) (lss_one (ls_setLc (nF .tmp) 3 rfl nd rfl rfl (sw_true rfl rfl rfl (by kernel_rfl)) (li_range (by rfl) T.fr_range (la_cons (le_callB call_len_seq dLen_l (by rfl) T.fr_len (by decide +kernel) (la_cons (le_var 4) la_nil)) la_nil)) (blkOk_by (own := [("k", 6)]) (by kernel_rfl)) rfl (fun _ _ _ _ _ => (pg_name (i := 6) nd rfl (by first | exact .inl rfl | exact .inr rfl))) (fun _ _ _ _ _ => (lts_one (lt_val (le_gmeth G_Market_is_done T.cl_m (hr.mono (by decide)) passL (le_var 2) (la_cons (le_var 6) la_nil))))) (fun _ _ _ _ _ => (le_var 6))))))) (lss_cons (ls_set 7 nd (le_gmeth0 G_Market_log T.cl_m (hr.mono (by decide)) pass0 (le_var 2))) (lss_cons (ls_for PO rfl (li_list (le_var 3)) (pg_name (i := 6) nd rfl (by first | exact .inl rfl | exact .inr rfl)) (lss_cons (ls_set 8 nd (le_gdef G_law_within (hr.mono (by decide)) pass0 (la_cons (le_var 7) (la_cons (le_gmeth G_Market_cut_of T.cl_m (hr.mono (by decide)) passL (le_var 2) (la_cons (le_var 6) la_nil)) la_nil)))) (lss_cons (ls_for PO rfl (li_list (le_var 8)) (pg_name (i := 9) nd rfl (by first | exact .inl rfl | exact .inr rfl)) (lss_one (ls_if (lt_not (lt_val (le_callB (cr_all rfl) dAll_l (by rfl) T.fr_all (by decide +kernel) (la_cons (le_lc (nF .tmp) rfl nd (li_range (by rfl) T.fr_range (la_cons (le_callB call_len_seq dLen_l (by rfl) T.fr_len (by decide +kernel) (la_cons (le_var 7) la_nil)) la_nil)) (blkOk_by (own := [("m", 10)]) (by kernel_rfl)) rfl (fun _ _ _ _ _ => (pg_name (i := 10) nd rfl (by first | exact .inl rfl | exact .inr rfl))) (fun _ _ _ _ _ => (lts_one (lt_val (le_gmeth G_Market_ahead T.cl_m (hr.mono (by decide)) passL (le_var 2) (la_cons (le_var 10) (la_cons (le_var 9) la_nil)))))) (fun _ _ _ _ _ => (le_inD (r65 hr) (le_var 10) (le_var 8)))) la_nil)))) (lss_one (ls_ret le_bl)) lss_nil))) (lss_one (ls_for PO rfl (li_list (le_ix hu (le_var 4) (le_var 6))) (pg_name (i := 11) nd rfl (by first | exact .inl rfl | exact .inr rfl)) (lss_one (ls_if (lt_not (lt_val (le_callB (cr_all rfl) dAll_l (by rfl) T.fr_all (by decide +kernel) (la_cons (le_lc (nF .tmp) rfl nd (li_zip (by rfl) T.fr_zip (la_cons (le_gmeth G_Market_cut_of T.cl_m (hr.mono (by decide)) passL (le_var 2) (la_cons (le_var 11) la_nil)) (la_cons (le_gmeth G_Market_cut_of T.cl_m (hr.mono (by decide)) passL (le_var 2) (la_cons (le_var 6) la_nil)) la_nil))) (blkOk_by (own := [("one", 12), ("other", 13)]) (by kernel_rfl)) rfl (fun _ _ _ _ _ => (pg_tup rfl (pgs_cons (pg_name (i := 12) nd rfl (by first | exact .inl rfl | exact .inr rfl)) (pgs_cons (pg_name (i := 13) nd rfl (by first | exact .inl rfl | exact .inr rfl)) pgs_nil)))) (fun _ _ _ _ _ => lts_nil) (fun _ _ _ _ _ => (le_le (le_var 12) (le_var 13)))) la_nil)))) (lss_one (ls_ret le_bl)) lss_nil))))))) (lss_one (ls_ret le_bl)))))))))
end
def D_law_cell : He.DefD := ⟨("_law_cell", none), "_law_cell", "_law_cell", defArgs s_law_cell, defBody s_law_cell, defScope s_law_cell, [], []⟩
def D_law_mix : He.DefD := ⟨("_law_mix", none), "_law_mix", "_law_mix", defArgs s_law_mix, defBody s_law_mix, defScope s_law_mix, [], []⟩
def D_law_coins : He.DefD := ⟨("_law_coins", none), "_law_coins", "_law_coins", defArgs s_law_coins, defBody s_law_coins, defScope s_law_coins, [], []⟩
def D_law_act : He.DefD := ⟨("_law_act", none), "_law_act", "_law_act", defArgs s_law_act, defBody s_law_act, defScope s_law_act, [], []⟩
def D_law_acts : He.DefD := ⟨("_law_acts", none), "_law_acts", "_law_acts", defArgs s_law_acts, defBody s_law_acts, defScope s_law_acts, [], []⟩
def D_law_pairs : He.DefD := ⟨("_law_pairs", none), "_law_pairs", "_law_pairs", defArgs s_law_pairs, defBody s_law_pairs, defScope s_law_pairs, [], []⟩
def D_Events_init : He.DefD := ⟨("Events", some "__init__"), "__init__", "Events.__init__", defArgs s_Events_init, defBody s_Events_init, defScope s_Events_init, [], []⟩
def D_Events_add : He.DefD := ⟨("Events", some "add"), "add", "Events.add", defArgs s_Events_add, defBody s_Events_add, defScope s_Events_add, [], []⟩
def D_Events_count : He.DefD := ⟨("Events", some "count"), "count", "Events.count", defArgs s_Events_count, defBody s_Events_count, defScope s_Events_count, [], []⟩
def D_Events_member_of : He.DefD := ⟨("Events", some "member_of"), "member_of", "Events.member_of", defArgs s_Events_member_of, defBody s_Events_member_of, defScope s_Events_member_of, [], []⟩
def D_Events_ahead : He.DefD := ⟨("Events", some "ahead"), "ahead", "Events.ahead", defArgs s_Events_ahead, defBody s_Events_ahead, defScope s_Events_ahead, [], []⟩
def D_Shot_init : He.DefD := ⟨("Shot", some "__init__"), "__init__", "Shot.__init__", defArgs s_Shot_init, defBody s_Shot_init, defScope s_Shot_init, [], []⟩
def D_Shot_has_written : He.DefD := ⟨("Shot", some "has_written"), "has_written", "Shot.has_written", defArgs s_Shot_has_written, defBody s_Shot_has_written, defScope s_Shot_has_written, [], []⟩
def D_Shot_write : He.DefD := ⟨("Shot", some "write"), "write", "Shot.write", defArgs s_Shot_write, defBody s_Shot_write, defScope s_Shot_write, [], []⟩
def D_Shot_parcel : He.DefD := ⟨("Shot", some "parcel"), "parcel", "Shot.parcel", defArgs s_Shot_parcel, defBody s_Shot_parcel, defScope s_Shot_parcel, [], []⟩
def D_Shot_leave : He.DefD := ⟨("Shot", some "leave"), "leave", "Shot.leave", defArgs s_Shot_leave, defBody s_Shot_leave, defScope s_Shot_leave, [], []⟩
def D_Shot_is_done : He.DefD := ⟨("Shot", some "is_done"), "is_done", "Shot.is_done", defArgs s_Shot_is_done, defBody s_Shot_is_done, defScope s_Shot_is_done, [], []⟩
def D_Market_init : He.DefD := ⟨("Market", some "__init__"), "__init__", "Market.__init__", defArgs s_Market_init, defBody s_Market_init, defScope s_Market_init, [], []⟩
def D_Market_give : He.DefD := ⟨("Market", some "give"), "give", "Market.give", defArgs s_Market_give, defBody s_Market_give, defScope s_Market_give, [], []⟩
def D_Market_parcel : He.DefD := ⟨("Market", some "parcel"), "parcel", "Market.parcel", defArgs s_Market_parcel, defBody s_Market_parcel, defScope s_Market_parcel, [], []⟩
def D_Market_write : He.DefD := ⟨("Market", some "write"), "write", "Market.write", defArgs s_Market_write, defBody s_Market_write, defScope s_Market_write, [], []⟩
def D_Market_mark : He.DefD := ⟨("Market", some "mark"), "mark", "Market.mark", defArgs s_Market_mark, defBody s_Market_mark, defScope s_Market_mark, [], []⟩
def D_Market_take : He.DefD := ⟨("Market", some "take"), "take", "Market.take", defArgs s_Market_take, defBody s_Market_take, defScope s_Market_take, [], []⟩
def D_Market_begin : He.DefD := ⟨("Market", some "begin"), "begin", "Market.begin", defArgs s_Market_begin, defBody s_Market_begin, defScope s_Market_begin, [], []⟩
def D_Market_log : He.DefD := ⟨("Market", some "log"), "log", "Market.log", defArgs s_Market_log, defBody s_Market_log, defScope s_Market_log, [], []⟩
def D_Market_must_be : He.DefD := ⟨("Market", some "must_be"), "must_be", "Market.must_be", defArgs s_Market_must_be, defBody s_Market_must_be, defScope s_Market_must_be, [], []⟩
def D_Market_ahead : He.DefD := ⟨("Market", some "ahead"), "ahead", "Market.ahead", defArgs s_Market_ahead, defBody s_Market_ahead, defScope s_Market_ahead, [], []⟩
def D_Market_shot_of : He.DefD := ⟨("Market", some "shot_of"), "shot_of", "Market.shot_of", defArgs s_Market_shot_of, defBody s_Market_shot_of, defScope s_Market_shot_of, [], []⟩
def D_Market_is_done : He.DefD := ⟨("Market", some "is_done"), "is_done", "Market.is_done", defArgs s_Market_is_done, defBody s_Market_is_done, defScope s_Market_is_done, [], []⟩
def D_Market_cut_of : He.DefD := ⟨("Market", some "cut_of"), "cut_of", "Market.cut_of", defArgs s_Market_cut_of, defBody s_Market_cut_of, defScope s_Market_cut_of, [], []⟩
def D_law_do : He.DefD := ⟨("_law_do", none), "_law_do", "_law_do", defArgs s_law_do, defBody s_law_do, defScope s_law_do, [], []⟩
def D_law_member : He.DefD := ⟨("_law_member", none), "_law_member", "_law_member", defArgs s_law_member, defBody s_law_member, defScope s_law_member, [], []⟩
def D_law_within : He.DefD := ⟨("_law_within", none), "_law_within", "_law_within", defArgs s_law_within, defBody s_law_within, defScope s_law_within, [], []⟩
def D_law : He.DefD := ⟨("law", none), "law", "law", defArgs s_law, defBody s_law, defScope s_law, [], []⟩
def fn : List He.DefD := [D_law_cell, D_law_mix, D_law_coins, D_law_act, D_law_acts, D_law_pairs, D_Events_init, D_Events_add, D_Events_count, D_Events_member_of, D_Events_ahead, D_Shot_init, D_Shot_has_written, D_Shot_write, D_Shot_parcel, D_Shot_leave, D_Shot_is_done, D_Market_init, D_Market_give, D_Market_parcel, D_Market_write, D_Market_mark, D_Market_take, D_Market_begin, D_Market_log, D_Market_must_be, D_Market_ahead, D_Market_shot_of, D_Market_is_done, D_Market_cut_of, D_law_do, D_law_member, D_law_within, D_law]
def fa : List He.Fa := [.free "len", .free "tuple", .free "range", .cls "Events", .noat "Events" "many", .noat "Events" "told", .noat "Events" "stamps", .noat "Events" "times", .noat "Events" "last", .free "zip", .free "max", .cls "Shot", .noat "Shot" "many", .noat "Shot" "written", .noat "Shot" "cut", .noat "Shot" "watched", .noat "Shot" "lying", .cls "Market", .noat "Market" "many", .noat "Market" "purses", .free "list", .noat "Market" "roads", .noat "Market" "events", .glo "Events", .noat "Market" "shots", .exc "NoCoins", .glo "NoCoins", .glo "Shot", .exc "NoEvent", .glo "NoEvent", .exc "NoPicture", .glo "NoPicture", .exc "NotDone", .glo "NotDone", .free "enumerate", .glo "Market", .free "all", .exm "NoCoins" "NoCoins" true, .glo "_law_cell", .glo "_law_mix", .glo "_law_coins", .glo "_law_act", .glo "_law_acts", .glo "_law_pairs", .mkr "Events", .meth "Events" "add", .meth "Events" "count", .meth "Events" "member_of", .meth "Events" "ahead", .mkr "Shot", .meth "Shot" "has_written", .meth "Shot" "write", .meth "Shot" "parcel", .meth "Shot" "leave", .meth "Shot" "is_done", .mkr "Market", .meth "Market" "give", .meth "Market" "parcel", .meth "Market" "write", .meth "Market" "mark", .meth "Market" "take", .meth "Market" "begin", .meth "Market" "log", .meth "Market" "must_be", .meth "Market" "ahead", .meth "Market" "shot_of", .meth "Market" "is_done", .meth "Market" "cut_of", .glo "_law_do", .glo "_law_member", .glo "_law_within", .glo "law"]
def clOf (K : PySem.W.Frag) : Cl := ⟨He.ga K "Market", He.ga K "Shot", He.ga K "Events", He.ga K "NoCoins", He.ga K "NoEvent", He.ga K "NoPicture", He.ga K "NotDone", He.ga K "ShotError"⟩
theorem txt {K : PySem.W.Frag} {h : Heap} {mg : Str → Option Value} (X : K.In h) (G : h.Ns mainGlobals mg) (c : He.SaysD fa fn K) : Txt K mg (clOf K) where
  fr_len := He.free_ok X G (c.fact 0 rfl)
  fr_tuple := He.free_ok X G (c.fact 1 rfl)
  fr_range := He.free_ok X G (c.fact 2 rfl)
  cl_e := He.cls_ok (x := "Events") (c.fact 3 rfl)
  na_e_many := He.noat_ok (x := "Events") (c.fact 4 rfl)
  na_e_told := He.noat_ok (x := "Events") (c.fact 5 rfl)
  na_e_stamps := He.noat_ok (x := "Events") (c.fact 6 rfl)
  na_e_times := He.noat_ok (x := "Events") (c.fact 7 rfl)
  na_e_last := He.noat_ok (x := "Events") (c.fact 8 rfl)
  fr_zip := He.free_ok X G (c.fact 9 rfl)
  fr_max := He.free_ok X G (c.fact 10 rfl)
  cl_s := He.cls_ok (x := "Shot") (c.fact 11 rfl)
  na_s_many := He.noat_ok (x := "Shot") (c.fact 12 rfl)
  na_s_written := He.noat_ok (x := "Shot") (c.fact 13 rfl)
  na_s_cut := He.noat_ok (x := "Shot") (c.fact 14 rfl)
  na_s_watched := He.noat_ok (x := "Shot") (c.fact 15 rfl)
  na_s_lying := He.noat_ok (x := "Shot") (c.fact 16 rfl)
  cl_m := He.cls_ok (x := "Market") (c.fact 17 rfl)
  na_m_many := He.noat_ok (x := "Market") (c.fact 18 rfl)
  na_m_purses := He.noat_ok (x := "Market") (c.fact 19 rfl)
  fr_list := He.free_ok X G (c.fact 20 rfl)
  na_m_roads := He.noat_ok (x := "Market") (c.fact 21 rfl)
  na_m_events := He.noat_ok (x := "Market") (c.fact 22 rfl)
  mg_Events := He.glo_ok X G (c.fact 23 rfl)
  na_m_shots := He.noat_ok (x := "Market") (c.fact 24 rfl)
  ex_NoCoins := (He.exc_ok (x := "NoCoins") (c.fact 25 rfl)).1
  mg_NoCoins := He.glo_ok X G (c.fact 26 rfl)
  kx_NoCoins := (He.exc_ok (x := "NoCoins") (c.fact 25 rfl)).2.1
  bx_NoCoins := (He.exc_ok (x := "NoCoins") (c.fact 25 rfl)).2.2.1
  tx_NoCoins := (He.exc_ok (x := "NoCoins") (c.fact 25 rfl)).2.2.2
  mg_Shot := He.glo_ok X G (c.fact 27 rfl)
  ex_NoEvent := (He.exc_ok (x := "NoEvent") (c.fact 28 rfl)).1
  mg_NoEvent := He.glo_ok X G (c.fact 29 rfl)
  kx_NoEvent := (He.exc_ok (x := "NoEvent") (c.fact 28 rfl)).2.1
  bx_NoEvent := (He.exc_ok (x := "NoEvent") (c.fact 28 rfl)).2.2.1
  tx_NoEvent := (He.exc_ok (x := "NoEvent") (c.fact 28 rfl)).2.2.2
  ex_NoPicture := (He.exc_ok (x := "NoPicture") (c.fact 30 rfl)).1
  mg_NoPicture := He.glo_ok X G (c.fact 31 rfl)
  kx_NoPicture := (He.exc_ok (x := "NoPicture") (c.fact 30 rfl)).2.1
  bx_NoPicture := (He.exc_ok (x := "NoPicture") (c.fact 30 rfl)).2.2.1
  tx_NoPicture := (He.exc_ok (x := "NoPicture") (c.fact 30 rfl)).2.2.2
  ex_NotDone := (He.exc_ok (x := "NotDone") (c.fact 32 rfl)).1
  mg_NotDone := He.glo_ok X G (c.fact 33 rfl)
  kx_NotDone := (He.exc_ok (x := "NotDone") (c.fact 32 rfl)).2.1
  bx_NotDone := (He.exc_ok (x := "NotDone") (c.fact 32 rfl)).2.2.1
  tx_NotDone := (He.exc_ok (x := "NotDone") (c.fact 32 rfl)).2.2.2
  fr_enumerate := He.free_ok X G (c.fact 34 rfl)
  mg_Market := He.glo_ok X G (c.fact 35 rfl)
  fr_all := He.free_ok X G (c.fact 36 rfl)
  xm_NoCoins := He.exm_ok (x := "NoCoins") (y := "NoCoins") (c.fact 37 rfl)
  d_law_cell := let ⟨fd, F⟩ := c.def_ 0 (d := D_law_cell) rfl; ⟨_, fd, He.glo_ok X G (c.fact 38 rfl), F⟩
  d_law_mix := let ⟨fd, F⟩ := c.def_ 1 (d := D_law_mix) rfl; ⟨_, fd, He.glo_ok X G (c.fact 39 rfl), F⟩
  d_law_coins := let ⟨fd, F⟩ := c.def_ 2 (d := D_law_coins) rfl; ⟨_, fd, He.glo_ok X G (c.fact 40 rfl), F⟩
  d_law_act := let ⟨fd, F⟩ := c.def_ 3 (d := D_law_act) rfl; ⟨_, fd, He.glo_ok X G (c.fact 41 rfl), F⟩
  d_law_acts := let ⟨fd, F⟩ := c.def_ 4 (d := D_law_acts) rfl; ⟨_, fd, He.glo_ok X G (c.fact 42 rfl), F⟩
  d_law_pairs := let ⟨fd, F⟩ := c.def_ 5 (d := D_law_pairs) rfl; ⟨_, fd, He.glo_ok X G (c.fact 43 rfl), F⟩
  d_Events_init := let ⟨fd, F⟩ := c.def_ 6 (d := D_Events_init) rfl; ⟨_, fd, He.mkr_ok (x := "Events") (c.fact 44 rfl), F⟩
  d_Events_add := let ⟨fd, F⟩ := c.def_ 7 (d := D_Events_add) rfl; ⟨_, fd, He.meth_ok (x := "Events") (c.fact 45 rfl), F⟩
  d_Events_count := let ⟨fd, F⟩ := c.def_ 8 (d := D_Events_count) rfl; ⟨_, fd, He.meth_ok (x := "Events") (c.fact 46 rfl), F⟩
  d_Events_member_of := let ⟨fd, F⟩ := c.def_ 9 (d := D_Events_member_of) rfl; ⟨_, fd, He.meth_ok (x := "Events") (c.fact 47 rfl), F⟩
  d_Events_ahead := let ⟨fd, F⟩ := c.def_ 10 (d := D_Events_ahead) rfl; ⟨_, fd, He.meth_ok (x := "Events") (c.fact 48 rfl), F⟩
  d_Shot_init := let ⟨fd, F⟩ := c.def_ 11 (d := D_Shot_init) rfl; ⟨_, fd, He.mkr_ok (x := "Shot") (c.fact 49 rfl), F⟩
  d_Shot_has_written := let ⟨fd, F⟩ := c.def_ 12 (d := D_Shot_has_written) rfl; ⟨_, fd, He.meth_ok (x := "Shot") (c.fact 50 rfl), F⟩
  d_Shot_write := let ⟨fd, F⟩ := c.def_ 13 (d := D_Shot_write) rfl; ⟨_, fd, He.meth_ok (x := "Shot") (c.fact 51 rfl), F⟩
  d_Shot_parcel := let ⟨fd, F⟩ := c.def_ 14 (d := D_Shot_parcel) rfl; ⟨_, fd, He.meth_ok (x := "Shot") (c.fact 52 rfl), F⟩
  d_Shot_leave := let ⟨fd, F⟩ := c.def_ 15 (d := D_Shot_leave) rfl; ⟨_, fd, He.meth_ok (x := "Shot") (c.fact 53 rfl), F⟩
  d_Shot_is_done := let ⟨fd, F⟩ := c.def_ 16 (d := D_Shot_is_done) rfl; ⟨_, fd, He.meth_ok (x := "Shot") (c.fact 54 rfl), F⟩
  d_Market_init := let ⟨fd, F⟩ := c.def_ 17 (d := D_Market_init) rfl; ⟨_, fd, He.mkr_ok (x := "Market") (c.fact 55 rfl), F⟩
  d_Market_give := let ⟨fd, F⟩ := c.def_ 18 (d := D_Market_give) rfl; ⟨_, fd, He.meth_ok (x := "Market") (c.fact 56 rfl), F⟩
  d_Market_parcel := let ⟨fd, F⟩ := c.def_ 19 (d := D_Market_parcel) rfl; ⟨_, fd, He.meth_ok (x := "Market") (c.fact 57 rfl), F⟩
  d_Market_write := let ⟨fd, F⟩ := c.def_ 20 (d := D_Market_write) rfl; ⟨_, fd, He.meth_ok (x := "Market") (c.fact 58 rfl), F⟩
  d_Market_mark := let ⟨fd, F⟩ := c.def_ 21 (d := D_Market_mark) rfl; ⟨_, fd, He.meth_ok (x := "Market") (c.fact 59 rfl), F⟩
  d_Market_take := let ⟨fd, F⟩ := c.def_ 22 (d := D_Market_take) rfl; ⟨_, fd, He.meth_ok (x := "Market") (c.fact 60 rfl), F⟩
  d_Market_begin := let ⟨fd, F⟩ := c.def_ 23 (d := D_Market_begin) rfl; ⟨_, fd, He.meth_ok (x := "Market") (c.fact 61 rfl), F⟩
  d_Market_log := let ⟨fd, F⟩ := c.def_ 24 (d := D_Market_log) rfl; ⟨_, fd, He.meth_ok (x := "Market") (c.fact 62 rfl), F⟩
  d_Market_must_be := let ⟨fd, F⟩ := c.def_ 25 (d := D_Market_must_be) rfl; ⟨_, fd, He.meth_ok (x := "Market") (c.fact 63 rfl), F⟩
  d_Market_ahead := let ⟨fd, F⟩ := c.def_ 26 (d := D_Market_ahead) rfl; ⟨_, fd, He.meth_ok (x := "Market") (c.fact 64 rfl), F⟩
  d_Market_shot_of := let ⟨fd, F⟩ := c.def_ 27 (d := D_Market_shot_of) rfl; ⟨_, fd, He.meth_ok (x := "Market") (c.fact 65 rfl), F⟩
  d_Market_is_done := let ⟨fd, F⟩ := c.def_ 28 (d := D_Market_is_done) rfl; ⟨_, fd, He.meth_ok (x := "Market") (c.fact 66 rfl), F⟩
  d_Market_cut_of := let ⟨fd, F⟩ := c.def_ 29 (d := D_Market_cut_of) rfl; ⟨_, fd, He.meth_ok (x := "Market") (c.fact 67 rfl), F⟩
  d_law_do := let ⟨fd, F⟩ := c.def_ 30 (d := D_law_do) rfl; ⟨_, fd, He.glo_ok X G (c.fact 68 rfl), F⟩
  d_law_member := let ⟨fd, F⟩ := c.def_ 31 (d := D_law_member) rfl; ⟨_, fd, He.glo_ok X G (c.fact 69 rfl), F⟩
  d_law_within := let ⟨fd, F⟩ := c.def_ 32 (d := D_law_within) rfl; ⟨_, fd, He.glo_ok X G (c.fact 70 rfl), F⟩
  d_law := let ⟨fd, F⟩ := c.def_ 33 (d := D_law) rfl; ⟨_, fd, He.glo_ok X G (c.fact 71 rfl), F⟩
abbrev Rw : PySem.W.OpenRow := PySem.W.OpenLaw.row PySem.Challenge.rw_stillshot_k11_whole_cuts_hold_causes
abbrev hk : PySem.W.Hook := He.hookD 5 fa fn
def ob (s : PySem.W.SharedT) : He.AlD := He.obsDG 5 fa fn (HandSHeadRun.getT s)
theorem ob_eq (s : PySem.W.SharedT) : ob s = hk.obs s.abs := He.obsDG_eq (HandSHeadRun.getT_eq s)
def loose : List Str := ["_wall", "__name__", "ShotError", "NoCoins", "NoEvent", "NoPicture", "NotDone", "Shot", "Events", "Market", "_law_cell", "_law_mix", "_law_coins", "_law_act", "_law_acts", "_law_do", "_law_pairs", "_law_member", "_law_causes", "_law_moved_by", "_law_within"]
theorem run (w : World) : HandSHeadRun.RunEq Rw (PySem.W.view Rw.prog [25]) hk ob 6000 loose w := by
  intro os
  kernel_rfl
theorem facts {P : Program} {w : World} {K : PySem.W.Frag} {h : Heap} {mg : Str → Option Value} {f : Addr} (X : K.In h) (G : h.Ns mainGlobals mg) (hfa : mg ("law" : Str) = some (.ref f)) (c : He.SaysD fa fn K) :
    ∃ fd : FuncData, (∀ (s : Shared) (v : Value), BindsTo s fd ⟨[v], []⟩ [("script", v)]) ∧ ∀ base : Heap, K.In base → base.Ns mainGlobals mg → FnOk P w K mg base CX0 6 f fd ["script"] (liftSp K (sp_law11 (clOf K))) := by
  have T := txt X G c
  obtain ⟨f', fd, hm, F⟩ := T.d_law
  have e := hfa.symm.trans hm
  cases e
  have b := FunD.bindsA (ps := ["script"]) F fun _ _ _ _ _ _ us hl => match us, hl with | [_], _ => rfl
  refine ⟨fd, fun s v => b s [v] rfl, fun base _ _ => ?_⟩
  exact ok_law T F
end SSK11
open PySem PySem.W PySem.Calls PyProof.Rows
theorem PySem.Challenge.cw_stillshot_k11_whole_cuts_hold_causes_holds : PySem.Challenge.rw_stillshot_k11_whole_cuts_hold_causes.Holds := by
  w_on; o_law
  refine HandSHeadRun.head_any (r := OpenLaw.row PySem.Challenge.rw_stillshot_k11_whole_cuts_hold_causes) (q := view (OpenLaw.row PySem.Challenge.rw_stillshot_k11_whole_cuts_hold_causes).prog [25]) (H := SSK11.hk) (ob := SSK11.ob) (M := 6000) (loose := SSK11.loose) (d := HandSHeadRun.topDef (OpenLaw.row PySem.Challenge.rw_stillshot_k11_whole_cuts_hold_causes).prog 25) (kwd := []) SSK11.ob_eq
    (by kernel_rfl) (fun s => by kernel_rfl) SSK11.run (by kernel_rfl) (by kernel_rfl) (by kernel_rfl) (by rfl) (by first | assumption | decide +kernel) (by decide +kernel) ⟨rfl, rfl, rfl, rfl, rfl, by decide +kernel⟩ ?hw ?hc
  case hw => w_witness2
  case hc =>
    refine L2.walk_ofE (l := PySem.Challenge.rw_stillshot_k11_whole_cuts_hold_causes) (n := 63) (k := 6) (x := "script") (CX := L2.CX0) rfl (by decide) (by kernel_rfl) ⟨rfl, by decide, by decide⟩ ?F (fun _ _ _ _ z => z)
    intro w mg fa h Y G hmg0
    obtain ⟨K, KX, c⟩ := Y
    have hmg : mg ("law" : PySem.Str) = some (.ref fa) := by
      have e : (HandSHeadRun.topDef (OpenLaw.row PySem.Challenge.rw_stillshot_k11_whole_cuts_hold_causes).prog 25).name = ("law" : PySem.Str) := by kernel_rfl
      rw [← e]
      exact hmg0
    obtain ⟨fd, hb, hF⟩ := SSK11.facts (P := (PySem.Challenge.rw_stillshot_k11_whole_cuts_hold_causes).prog) (w := w) KX G hmg c
    exact ⟨K, fd, SS.liftSp K (SS.sp_law11 (SSK11.clOf K)), KX, hb, fun H a ns hl hO hS => SS.law_start hO hS ⟨ns, rfl, hl, rfl⟩, hF⟩
